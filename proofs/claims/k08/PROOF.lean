import PyProof.Rows.All
import Wide.All
import OpenK.AllK
import Wide.FinOn
import HandS.ForMost
import HandS.Exc
import HandS.Wide
import HandS.WordsExc
import HandS.Defaults
import HandS.CallSlots
import HandS.Walk
import HandS.Comp
import HandS.RevRange
import HandS.Deep
import HandS.Text
import HandS.Flow
import HandS.HeadWalk
import HandS.IsInst
import HandS.ExcInit
import KE.KExcInit
import HandS.ExcField
import HandS.WordsDict
import HandS.TupLen
import KE.DataCmp
import HandS.Zip
import HandS.Head0
import HandS.Head1
import HandS.Head2
import HandS.HeadEnd
import HandS.HeadHook1
import HandS.HeadHook2
import HandS.EndBits
import PySem.Challenge.RW_pairorder_k08_orders_made
set_option Elab.async false
set_option linter.all false
set_option maxRecDepth 100000
set_option maxHeartbeats 1000000
/-! PyA: data, tags, what a data tree is in a heap. -/
namespace Py
open PySem L2

inductive D where
  | non | bl (b : Bool) | int (i : Int) | str (s : Str)
  | lst (xs : List D) | tup (xs : List D) | dic (t : Bool) (kvs : List (D × D)) | obj (c : Nat) (fs : List D)

/-- how far data are own: not at all; a list or dict whose items are so; an instance whose fields are so, one by one -/
inductive Sh where
  | f | l (s : Sh) | n (r : Sh) | c (s r : Sh)
  deriving DecidableEq
/-- at most one own level -/
def Sh.flat : Sh → Bool
  | .f | .l .f => true
  | _ => false
/-- of the items -/
def Sh.sub : Sh → Sh
  | .l s => s
  | _ => .f
/-- three lists, item by item -/
inductive Tri {α β γ : Type} (R : α → β → γ → Prop) : List α → List β → List γ → Prop
  | nil : Tri R [] [] []
  | cons {a b c as bs cs} : R a b c → Tri R as bs cs → Tri R (a :: as) (b :: bs) (c :: cs)

def Le (F H : Hp) : Prop := ∀ a o, F a = some o → H a = some o
theorem Le.refl (H : Hp) : Le H H := fun _ _ h => h
theorem Le.trans {A B C : Hp} (h : Le A B) (k : Le B C) : Le A C := fun a o e => k a o (h a o e)

/-- the classes (address, fields in order); the constant tuples of the text -/
structure Cts where
  ct : Nat → Option (Addr × List Str)
  kt : List D → Bool
  ktI : ∀ i r, kt (.int i :: r) = false
/-- what the text tells: the written part, the classes (address, fields in order) -/
structure Kx where
  K : PySem.W.Frag
  CT : Cts

/-- a key: an int, a text, or a tuple of such -/
def key1 : D → Option Key
  | .int i => some (.inl i)
  | .str s => some (.inr s)
  | _ => none
def keyT : List D → Option (List Key)
  | [] => some []
  | d :: r => match key1 d, keyT r with
    | some k, some ks => some (k :: ks)
    | _, _ => none

def isAtom : D → Bool
  | .non | .bl _ | .int _ | .str _ => true
  | _ => false
def atomV : D → V
  | .bl b => .bl b
  | .int i => .int i
  | .str s => .str s
  | _ => .non

section
variable (κ : Kx)
/-- fields of an instance -/
def Flds (C dx : Addr) (names : List Str) (vs : List V) : HO := .ins C dx (names.zip vs)

/-- frozen data of depth at most n in the heap F -/
def Fz (F : Hp) : Nat → D → V → Prop
  | _, .non, v => v = .non
  | _, .bl b, v => v = .bl b
  | _, .int i, v => v = .int i
  | _, .str s, v => v = .str s
  | n + 1, .lst ds, v => ∃ a vs, v = .ref a ∧ SqL κ.K F a vs ∧ Paired (Fz F n) ds vs
  | n + 1, .tup ds, v => ∃ a vs, v = .ref a ∧ (F a = some (.tup vs) ∨ (κ.CT.kt ds = true ∧ SqT κ.K F a vs)) ∧ Paired (Fz F n) ds vs
  | n + 1, .dic t kvs, v => ∃ a, v = .ref a ∧
      ((t = true ∧ ∃ es : List (List Key × V), F a = some (.dT es) ∧ Paired (fun (p : D × D) (q : List Key × V) => (∃ ks, p.1 = .tup ks ∧ keyT ks = some q.1) ∧ Fz F n p.2 q.2) kvs es) ∨
       (t = false ∧ ∃ es : List (Key × V), F a = some (.dK es) ∧ Paired (fun (p : D × D) (q : Key × V) => key1 p.1 = some q.1 ∧ Fz F n p.2 q.2) kvs es))
  | n + 1, .obj c ds, v => ∃ a C dx names vs, v = .ref a ∧ κ.CT.ct c = some (C, names) ∧ F a = some (Flds C dx (names.take ds.length) vs) ∧ ds.length ≤ names.length ∧ Paired (Fz F n) ds vs
  | 0, _, _ => False

def Rep (F : Hp) (d : D) (v : V) : Prop := ∃ n, Fz κ F n d v

/-- own (or lent) data: the nodes that the shape tells stand in X, at the addresses fp; below all is frozen in F -/
def isSol : D → Bool
  | .lst _ | .dic _ _ | .obj _ _ => false
  | _ => true
mutual
def Lay (F X : Hp) : Sh → D → V → List Addr → Prop
  | .f, d, v, fp => Rep κ F d v ∧ fp = []
  | .l s, .lst ds, v, fp => ∃ a vs fps, v = .ref a ∧ X a = some (.lst vs) ∧ Tri (Lay F X s) ds vs fps ∧ fp = a :: fps.flatten
  | .l s, .dic t kvs, v, fp => ∃ a fps, v = .ref a ∧ fp = a :: fps.flatten ∧
      ((t = true ∧ ∃ es : List (List Key × V), X a = some (.dT es) ∧ Tri (fun (p : D × D) (q : List Key × V) f => (∃ ks, p.1 = .tup ks ∧ keyT ks = some q.1) ∧ Lay F X s p.2 q.2 f) kvs es fps) ∨
       (t = false ∧ ∃ es : List (Key × V), X a = some (.dK es) ∧ Tri (fun (p : D × D) (q : Key × V) f => key1 p.1 = some q.1 ∧ Lay F X s p.2 q.2 f) kvs es fps))
  | .n r, .obj c ds, v, fp => ∃ a C dx names vs fps, v = .ref a ∧ κ.CT.ct c = some (C, names) ∧ X a = some (Flds C dx (names.take ds.length) vs) ∧ ds.length ≤ names.length ∧
      LayFs F X r ds vs fps ∧ fp = a :: fps.flatten
  | _, d, v, fp => isSol d = true ∧ Rep κ F d v ∧ fp = []
def LayFs (F X : Hp) : Sh → List D → List V → List (List Addr) → Prop
  | .c s r, d :: ds, v :: vs, fp :: fps => Lay F X s d v fp ∧ LayFs F X r ds vs fps
  | _, [], [], [] => True
  | _, _, _, _ => False
end
end

section
variable {α β γ α' : Type} {R S : α → β → γ → Prop} {as : List α} {bs : List β} {cs : List γ}
theorem Tri.imp (h : ∀ a b c, c ∈ cs → R a b c → S a b c) (t : Tri R as bs cs) : Tri S as bs cs := by
  induction t with
  | nil => exact .nil
  | cons r t ih => exact .cons (h _ _ _ List.mem_cons_self r) (ih fun a b c hc => h a b c (List.mem_cons_of_mem _ hc))
theorem Tri.len1 (t : Tri R as bs cs) : as.length = bs.length := by
  induction t with
  | nil => rfl
  | cons r t ih => simp [ih]
theorem Tri.len2 (t : Tri R as bs cs) : cs.length = bs.length := by
  induction t with
  | nil => rfl
  | cons r t ih => simp [ih]
theorem Tri.app {as' : List α} {bs' : List β} {cs' : List γ} (t : Tri R as bs cs) (u : Tri R as' bs' cs') : Tri R (as ++ as') (bs ++ bs') (cs ++ cs') := by
  induction t with
  | nil => exact u
  | cons r t ih => exact .cons r ih
theorem Tri.get (t : Tri R as bs cs) : ∀ {i : Nat} {a : α}, as[i]? = some a → ∃ b c, bs[i]? = some b ∧ cs[i]? = some c ∧ R a b c := by
  induction t with
  | nil => intro i a h; simp at h
  | cons r t ih =>
    intro i a h
    cases i with
    | zero => simp at h; subst h; exact ⟨_, _, rfl, rfl, r⟩
    | succ i => simp at h; simpa using ih h
theorem Tri.pairB {Q : Nat → α → β → Prop} (hm : ∀ n m a b, n ≤ m → Q n a b → Q m a b) (h : ∀ a b c, c ∈ cs → R a b c → ∃ n, Q n a b) (t : Tri R as bs cs) : ∃ n, Paired (Q n) as bs := by
  induction t with
  | nil => exact ⟨0, .nil⟩
  | cons r t ih =>
    obtain ⟨n, hn⟩ := h _ _ _ List.mem_cons_self r
    obtain ⟨m, hp⟩ := ih fun a b c hc => h a b c (List.mem_cons_of_mem _ hc)
    exact ⟨max n m, .cons (hm _ _ _ _ (Nat.le_max_left ..) hn) (L2.Paired.mapP hp fun a b q => hm _ _ _ _ (Nat.le_max_right ..) q)⟩
end

section
variable {κ : Kx} {F F' X X' H : Hp}
theorem sqL_le {K : PySem.W.Frag} {a : Addr} {xs : List V} (h : Le F F') (s : SqL K F a xs) : SqL K F' a xs := by
  rcases s with (e | ⟨o, e⟩) | e
  · exact .inl (.inl (h _ _ e))
  · exact .inl (.inr ⟨o, h _ _ e⟩)
  · exact .inr e
theorem sqT_le {K : PySem.W.Frag} {a : Addr} {xs : List V} (h : Le F F') (s : SqT K F a xs) : SqT K F' a xs := by
  rcases s with (e | ⟨o, e⟩) | e
  · exact .inl (.inl (h _ _ e))
  · exact .inl (.inr ⟨o, h _ _ e⟩)
  · exact .inr e
theorem Fz.mono (h : Le F F') : ∀ (n m : Nat) (d : D) (v : V), n ≤ m → Fz κ F n d v → Fz κ F' m d v := by
  intro n
  induction n with
  | zero =>
    intro m d v _ e
    cases d <;> first | exact e.elim | (cases m <;> exact e)
  | succ n ih =>
    intro m d v hm e
    obtain ⟨m, rfl⟩ : ∃ k, m = k + 1 := ⟨m - 1, by omega⟩
    have hm' : n ≤ m := by omega
    cases d with
    | non => exact e
    | bl b => exact e
    | int i => exact e
    | str s => exact e
    | lst ds =>
      obtain ⟨a, vs, e1, e2, e3⟩ := e
      exact ⟨a, vs, e1, sqL_le h e2, L2.Paired.mapP e3 fun d v q => ih m d v hm' q⟩
    | tup ds =>
      obtain ⟨a, vs, e1, e2, e3⟩ := e
      exact ⟨a, vs, e1, e2.imp (h _ _) fun z => ⟨z.1, sqT_le h z.2⟩, L2.Paired.mapP e3 fun d v q => ih m d v hm' q⟩
    | dic t kvs =>
      obtain ⟨a, e1, e2⟩ := e
      refine ⟨a, e1, ?_⟩
      rcases e2 with ⟨ht, es, e2, e3⟩ | ⟨ht, es, e2, e3⟩
      · exact .inl ⟨ht, es, h _ _ e2, L2.Paired.mapP e3 fun d v q => ⟨q.1, ih m _ _ hm' q.2⟩⟩
      · exact .inr ⟨ht, es, h _ _ e2, L2.Paired.mapP e3 fun d v q => ⟨q.1, ih m _ _ hm' q.2⟩⟩
    | obj c ds =>
      obtain ⟨a, C, dx, names, vs, e1, e2, e3, e4, e5⟩ := e
      exact ⟨a, C, dx, names, vs, e1, e2, h _ _ e3, e4, L2.Paired.mapP e5 fun d v q => ih m d v hm' q⟩
theorem Rep.mono (h : Le F F') {d : D} {v : V} (e : Rep κ F d v) : Rep κ F' d v := e.elim fun n e => ⟨n, Fz.mono h n n d v (Nat.le_refl _) e⟩
theorem mem_flat {a : Addr} {f : List Addr} {fps : List (List Addr)} (h : f ∈ fps) (e : a ∈ f) : a ∈ fps.flatten := List.mem_flatten.mpr ⟨f, h, e⟩
theorem lay_sol {d : D} {v : V} {fp : List Addr} (k : Sh) (h : isSol d = true) : Lay κ F X k d v fp ↔ Rep κ F d v ∧ fp = [] := by
  cases d <;> first | (cases h; done) | (cases k <;> simp [Lay, isSol])
theorem layF {d : D} {v : V} {fp : List Addr} : Lay κ F X .f d v fp ↔ Rep κ F d v ∧ fp = [] := by simp only [Lay]
theorem layL {ds : List D} {v : V} {fp : List Addr} {s : Sh} : Lay κ F X (.l s) (.lst ds) v fp ↔ ∃ a vs fps, v = .ref a ∧ X a = some (.lst vs) ∧ Tri (Lay κ F X s) ds vs fps ∧ fp = a :: fps.flatten := by rw [Lay]
theorem layN {c : Nat} {ds : List D} {v : V} {fp : List Addr} {r : Sh} : Lay κ F X (.n r) (.obj c ds) v fp ↔ ∃ a C dx names vs fps, v = .ref a ∧ κ.CT.ct c = some (C, names) ∧ X a = some (Flds C dx (names.take ds.length) vs) ∧ ds.length ≤ names.length ∧
    LayFs κ F X r ds vs fps ∧ fp = a :: fps.flatten := by rw [Lay]
theorem layFsC {d : D} {ds : List D} {v : V} {vs : List V} {fp : List Addr} {fps : List (List Addr)} {s r : Sh} : LayFs κ F X (.c s r) (d :: ds) (v :: vs) (fp :: fps) ↔ Lay κ F X s d v fp ∧ LayFs κ F X r ds vs fps := by rw [LayFs]
theorem Lay.mono2 (h : Le F F') : ∀ k : Sh, (∀ (d : D) (v : V) (fp : List Addr), (∀ a ∈ fp, ∀ o, X a = some o → X' a = some o) → Lay κ F X k d v fp → Lay κ F' X' k d v fp) ∧
    ∀ (ds : List D) (vs : List V) (fps : List (List Addr)), (∀ a ∈ fps.flatten, ∀ o, X a = some o → X' a = some o) → LayFs κ F X k ds vs fps → LayFs κ F' X' k ds vs fps := by
  have sol : ∀ (k : Sh) (d : D) (v : V) (fp : List Addr), isSol d = true → Lay κ F X k d v fp → Lay κ F' X' k d v fp := fun k d v fp hs e => by
    rw [lay_sol k hs] at e ⊢
    exact ⟨e.1.mono h, e.2⟩
  have nofs : ∀ (k : Sh) (ds : List D) (vs : List V) (fps : List (List Addr)), (∀ s r, k ≠ .c s r) → LayFs κ F X k ds vs fps → LayFs κ F' X' k ds vs fps := fun k ds vs fps hk e => by
    cases ds <;> cases vs <;> cases fps <;> first | (cases k <;> first | exact e | (simp only [LayFs] at e; done) | exact absurd rfl (hk _ _))
  intro k
  induction k with
  | f => exact ⟨fun d v fp _ e => by rw [layF] at e ⊢; exact ⟨e.1.mono h, e.2⟩, fun ds vs fps _ => nofs .f ds vs fps (by intro s r z; cases z)⟩
  | l s ih =>
    refine ⟨fun d v fp hx e => ?_, fun ds vs fps _ => nofs _ ds vs fps (by intro s r z; cases z)⟩
    cases d with
    | lst ds =>
      simp only [Lay] at e ⊢
      obtain ⟨a, vs, fps, e1, e2, e3, rfl⟩ := e
      exact ⟨a, vs, fps, e1, hx a List.mem_cons_self _ e2, e3.imp fun d v f hf q => ih.1 d v f (fun b hb => hx b (List.mem_cons_of_mem _ (mem_flat hf hb))) q, rfl⟩
    | dic t kvs =>
      simp only [Lay] at e ⊢
      obtain ⟨a, fps, e1, rfl, e2⟩ := e
      refine ⟨a, fps, e1, rfl, ?_⟩
      rcases e2 with ⟨ht, es, e2, e3⟩ | ⟨ht, es, e2, e3⟩
      · exact .inl ⟨ht, es, hx a List.mem_cons_self _ e2, e3.imp fun p q f hf z => ⟨z.1, ih.1 _ _ f (fun b hb => hx b (List.mem_cons_of_mem _ (mem_flat hf hb))) z.2⟩⟩
      · exact .inr ⟨ht, es, hx a List.mem_cons_self _ e2, e3.imp fun p q f hf z => ⟨z.1, ih.1 _ _ f (fun b hb => hx b (List.mem_cons_of_mem _ (mem_flat hf hb))) z.2⟩⟩
    | obj c ds => simp [Lay, isSol] at e
    | _ => exact sol _ _ v fp rfl e
  | n r ih =>
    refine ⟨fun d v fp hx e => ?_, fun ds vs fps _ => nofs _ ds vs fps (by intro s r z; cases z)⟩
    cases d with
    | obj c ds =>
      simp only [Lay] at e ⊢
      obtain ⟨a, C, dx, names, vs, fps, e1, e2, e3, e4, e5, rfl⟩ := e
      exact ⟨a, C, dx, names, vs, fps, e1, e2, hx a List.mem_cons_self _ e3, e4, ih.2 ds vs fps (fun b hb => hx b (List.mem_cons_of_mem _ hb)) e5, rfl⟩
    | lst ds => simp [Lay, isSol] at e
    | dic t ds => simp [Lay, isSol] at e
    | _ => exact sol _ _ v fp rfl e
  | c s r ih1 ih2 =>
    refine ⟨fun d v fp hx e => ?_, fun ds => ?_⟩
    · cases d with
      | obj c ds => simp [Lay, isSol] at e
      | lst ds => simp [Lay, isSol] at e
      | dic t ds => simp [Lay, isSol] at e
      | _ => exact sol _ _ v fp rfl e
    · intro vs fps hx e
      cases ds with
      | nil => cases vs <;> cases fps <;> simp only [LayFs] at e ⊢
      | cons d ds => cases vs with
        | nil => simp only [LayFs] at e
        | cons v vs => cases fps with
          | nil => simp only [LayFs] at e
          | cons fp fps =>
            simp only [LayFs] at e ⊢
            exact ⟨ih1.1 d v fp (fun b hb => hx b (by simp [hb])) e.1, ih2.2 ds vs fps (fun b hb => hx b (by rw [List.flatten_cons]; exact List.mem_append_right _ hb)) e.2⟩
theorem Lay.mono (h : Le F F') (k : Sh) (d : D) (v : V) (fp : List Addr) (hx : ∀ a ∈ fp, ∀ o, X a = some o → X' a = some o) (e : Lay κ F X k d v fp) : Lay κ F' X' k d v fp := (Lay.mono2 h k).1 d v fp hx e
theorem LayFs.mono (h : Le F F') (k : Sh) (ds : List D) (vs : List V) (fps : List (List Addr)) (hx : ∀ a ∈ fps.flatten, ∀ o, X a = some o → X' a = some o) (e : LayFs κ F X k ds vs fps) : LayFs κ F' X' k ds vs fps := (Lay.mono2 h k).2 ds vs fps hx e
theorem layFs_tri : ∀ {k : Sh} {ds : List D} {vs : List V} {fps : List (List Addr)}, LayFs κ F X k ds vs fps → Tri (fun d v f => ∃ s, Lay κ F X s d v f) ds vs fps
  | k, [], [], [], _ => .nil
  | .c s r, d :: ds, v :: vs, f :: fps, e => by
    simp only [LayFs] at e
    exact .cons ⟨s, e.1⟩ (layFs_tri e.2)
  | k, [], _ :: _, _, e => by cases k <;> simp only [LayFs] at e
  | k, [], [], _ :: _, e => by cases k <;> simp only [LayFs] at e
  | k, _ :: _, [], _, e => by cases k <;> simp only [LayFs] at e
  | k, _ :: _, _ :: _, [], e => by cases k <;> simp only [LayFs] at e
  | .f, _ :: _, _ :: _, _ :: _, e => by simp only [LayFs] at e
  | .l _, _ :: _, _ :: _, _ :: _, e => by simp only [LayFs] at e
  | .n _, _ :: _, _ :: _, _ :: _, e => by simp only [LayFs] at e
/-- own data is data of any heap that has both parts -/
theorem Lay.rep2 (hF : Le F H) : ∀ k : Sh, (∀ (d : D) (v : V) (fp : List Addr), (∀ a ∈ fp, ∀ o, X a = some o → H a = some o) → Lay κ F X k d v fp → Rep κ H d v) ∧
    ∀ (ds : List D) (vs : List V) (fps : List (List Addr)), (∀ a ∈ fps.flatten, ∀ o, X a = some o → H a = some o) → LayFs κ F X k ds vs fps → Tri (fun d v _ => Rep κ H d v) ds vs fps := by
  have fm : ∀ (n m : Nat) (d : D) (v : V), n ≤ m → Fz κ H n d v → Fz κ H m d v := fun n m d v => Fz.mono (Le.refl H) n m d v
  have sol : ∀ (k : Sh) (d : D) (v : V) (fp : List Addr), isSol d = true → Lay κ F X k d v fp → Rep κ H d v := fun k d v fp hs e => by
    rw [lay_sol k hs] at e
    exact e.1.mono hF
  have nofs : ∀ (k : Sh) (ds : List D) (vs : List V) (fps : List (List Addr)), (∀ s r, k ≠ .c s r) → LayFs κ F X k ds vs fps → Tri (fun d v _ => Rep κ H d v) ds vs fps := fun k ds vs fps hk e => by
    cases ds <;> cases vs <;> cases fps <;> first | exact .nil | (cases k <;> first | (simp only [LayFs] at e; done) | exact absurd rfl (hk _ _))
  intro k
  induction k with
  | f => exact ⟨fun d v fp _ e => by rw [layF] at e; exact e.1.mono hF, fun ds vs fps _ => nofs .f ds vs fps (by intro s r z; cases z)⟩
  | l s ih =>
    refine ⟨fun d v fp hx e => ?_, fun ds vs fps _ => nofs _ ds vs fps (by intro s r z; cases z)⟩
    cases d with
    | lst ds =>
      simp only [Lay] at e
      obtain ⟨a, vs, fps, e1, e2, e3, rfl⟩ := e
      obtain ⟨n, hn⟩ := e3.pairB (Q := Fz κ H) fm fun d v f hf q => ih.1 d v f (fun b hb => hx b (List.mem_cons_of_mem _ (mem_flat hf hb))) q
      exact ⟨n + 1, a, vs, e1, SqL.of (hx a List.mem_cons_self _ e2), hn⟩
    | dic t kvs =>
      simp only [Lay] at e
      obtain ⟨a, fps, e1, rfl, e2⟩ := e
      rcases e2 with ⟨ht, es, e2, e3⟩ | ⟨ht, es, e2, e3⟩
      · obtain ⟨n, hn⟩ := e3.pairB (Q := fun n (p : D × D) (q : List Key × V) => (∃ ks, p.1 = .tup ks ∧ keyT ks = some q.1) ∧ Fz κ H n p.2 q.2) (fun n m p q h z => ⟨z.1, fm _ _ _ _ h z.2⟩)
          fun p q f hf z => (ih.1 p.2 q.2 f (fun b hb => hx b (List.mem_cons_of_mem _ (mem_flat hf hb))) z.2).elim fun n y => ⟨n, z.1, y⟩
        exact ⟨n + 1, a, e1, .inl ⟨ht, es, hx a List.mem_cons_self _ e2, hn⟩⟩
      · obtain ⟨n, hn⟩ := e3.pairB (Q := fun n (p : D × D) (q : Key × V) => key1 p.1 = some q.1 ∧ Fz κ H n p.2 q.2) (fun n m p q h z => ⟨z.1, fm _ _ _ _ h z.2⟩)
          fun p q f hf z => (ih.1 p.2 q.2 f (fun b hb => hx b (List.mem_cons_of_mem _ (mem_flat hf hb))) z.2).elim fun n y => ⟨n, z.1, y⟩
        exact ⟨n + 1, a, e1, .inr ⟨ht, es, hx a List.mem_cons_self _ e2, hn⟩⟩
    | obj c ds => simp [Lay, isSol] at e
    | _ => exact sol _ _ v fp rfl e
  | n r ih =>
    refine ⟨fun d v fp hx e => ?_, fun ds vs fps _ => nofs _ ds vs fps (by intro s r z; cases z)⟩
    cases d with
    | obj c ds =>
      simp only [Lay] at e
      obtain ⟨a, C, dx, names, vs, fps, e1, e2, e3, e4, e5, rfl⟩ := e
      obtain ⟨n, hn⟩ := (ih.2 ds vs fps (fun b hb => hx b (List.mem_cons_of_mem _ hb)) e5).pairB (Q := Fz κ H) fm fun d v f hf q => q
      exact ⟨n + 1, a, C, dx, names, vs, e1, e2, hx a List.mem_cons_self _ e3, e4, hn⟩
    | lst ds => simp [Lay, isSol] at e
    | dic t ds => simp [Lay, isSol] at e
    | _ => exact sol _ _ v fp rfl e
  | c s r ih1 ih2 =>
    refine ⟨fun d v fp hx e => ?_, fun ds => ?_⟩
    · cases d with
      | obj c ds => simp [Lay, isSol] at e
      | lst ds => simp [Lay, isSol] at e
      | dic t ds => simp [Lay, isSol] at e
      | _ => exact sol _ _ v fp rfl e
    · intro vs fps hx e
      cases ds with
      | nil => cases vs <;> cases fps <;> first | exact .nil | (simp only [LayFs] at e; done)
      | cons d ds => cases vs with
        | nil => simp only [LayFs] at e
        | cons v vs => cases fps with
          | nil => simp only [LayFs] at e
          | cons fp fps =>
            simp only [LayFs] at e
            exact .cons (ih1.1 d v fp (fun b hb => hx b (by simp [hb])) e.1) (ih2.2 ds vs fps (fun b hb => hx b (by rw [List.flatten_cons]; exact List.mem_append_right _ hb)) e.2)
theorem Lay.rep (hF : Le F H) (k : Sh) (d : D) (v : V) (fp : List Addr) (hx : ∀ a ∈ fp, ∀ o, X a = some o → H a = some o) (e : Lay κ F X k d v fp) : Rep κ H d v := (Lay.rep2 hF k).1 d v fp hx e
/-- F with the objects of H at fp -/
def frz (F H : Hp) (fp : List Addr) : Hp := fun a => if a ∈ fp then H a else F a
theorem frz_in {fp : List Addr} {a : Addr} (h : a ∈ fp) : frz F H fp a = H a := if_pos h
theorem frz_out {fp : List Addr} {a : Addr} (h : a ∉ fp) : frz F H fp a = F a := if_neg h
theorem frz_le {fp : List Addr} (h : Le F H) : Le (frz F H fp) H := fun a o e => by
  by_cases q : a ∈ fp
  · rw [frz_in q] at e; exact e
  · rw [frz_out q] at e; exact h a o e
theorem le_frz {fp : List Addr} (h : ∀ a ∈ fp, F a = none) : Le F (frz F H fp) := fun a o e => by
  by_cases q : a ∈ fp
  · rw [h a q] at e; cases e
  · rw [frz_out q]; exact e
theorem Lay.freeze {k : Sh} {d : D} {v : V} {fp : List Addr} (h : ∀ a ∈ fp, F a = none) (e : Lay κ F H k d v fp) : Rep κ (frz F H fp) d v :=
  Lay.rep (le_frz h) k d v fp (fun a ha o q => by rw [frz_in ha]; exact q) e
theorem rep_atom {d : D} {v : V} (h : isAtom d = true) : Rep κ F d v ↔ v = atomV d := by
  cases d <;> first | cases h | skip
  all_goals exact ⟨fun ⟨n, e⟩ => by cases n <;> exact e, fun e => ⟨0, e⟩⟩
end
end Py

set_option Elab.async false
set_option linter.all false
set_option maxRecDepth 100000
set_option maxHeartbeats 1000000
/-! PyB: tags, slots, the ghost state, what a piece of code hands on. -/
namespace Py
open PySem L2

inductive T where | f | g (k : Sh) | b (k : Sh) | o (k : Sh) | s (i : Nat) (k : Sh)
  deriving DecidableEq
structure Val where
  t : T
  d : D
inductive Slot where
  | un | fz (d : D) | bo (k : Sh) (d : D) | ow (k : Sh) (d : D) | mu (k : Sh) (d : D) | lk (k : Sh) (d : D) | lm (k : Sh) (d : D) | xn (c : Nat) (fs : List D)
abbrev Env := List Slot
inductive R (α : Type) where
  | ok (a : α) (env : Env) | ex (c : Nat) (fs : List D) (env : Env) | no
abbrev ME := Env → R Val
abbrev MA := Env → R (List Val)
def R.map {α β : Type} (f : α → β) : R α → R β
  | .ok a e => .ok (f a) e
  | .ex c fs e => .ex c fs e
  | .no => .no
def R.bind {α β : Type} (r : R α) (f : α → Env → R β) : R β := match r with
  | .ok a e => f a e
  | .ex c fs e => .ex c fs e
  | .no => .no

/-- the own (or locked) data of a slot -/
def Slot.own : Slot → Option (Sh × D)
  | .ow k d | .mu k d | .lk k d | .lm k d => some (k, d)
  | _ => none

/-- the slot is lent to be changed -/
def Mu (env : Env) (i : Nat) : Prop := ∃ k d, env[i]? = some (.mu k d) ∨ env[i]? = some (.lm k d)
/-- the slot's list is being walked -/
def Slot.isLk : Slot → Bool
  | .lk _ _ | .lm _ _ => true
  | _ => false
def Lk (env : Env) (i : Nat) : Prop := ∃ s, env[i]? = some s ∧ s.isLk = true
structure Gst where
  F : Hp
  G : Hp
  env : Env
  fps : List (List Addr)
def Gst.P (γ : Gst) : List Addr := γ.fps.flatten

section
variable (κ : Kx)
def SlotRep (F G H : Hp) : Slot → Option V → List Addr → Prop
  | .un, _, fp => fp = []
  | .fz d, v, fp => (∃ x, v = some x ∧ Rep κ F d x) ∧ fp = []
  | .bo k d, v, fp => (∃ x q, v = some x ∧ Lay κ F G k d x q) ∧ fp = []
  | .ow k d, v, fp => ∃ x, v = some x ∧ Lay κ F H k d x fp
  | .mu k d, v, fp => ∃ x, v = some x ∧ Lay κ F H k d x fp
  | .lk k d, v, fp => ∃ x, v = some x ∧ Lay κ F H k d x fp
  | .lm k d, v, fp => ∃ x, v = some x ∧ Lay κ F H k d x fp
  | .xn _ _, _, fp => fp = []
structure Fits (γ : Gst) (σ : St) (H : Hp) : Prop where
  lf : Le γ.F H
  lg : Le γ.G H
  nd : γ.P.Nodup
  fr : ∀ a ∈ γ.P, γ.F a = none ∧ γ.G a = none ∧ H a ≠ none
  sl : Tri (SlotRep κ γ.F γ.G H) γ.env σ γ.fps
def VRep (γ : Gst) (σ : St) (H : Hp) (v : Val) (x : V) (fp : List Addr) : Prop := match v.t with
  | .f => Rep κ γ.F v.d x ∧ fp = []
  | .g k => (∃ q, Lay κ γ.F γ.G k v.d x q) ∧ fp = []
  | .b k => (∃ q, Lay κ γ.F H k v.d x q ∧ ∀ a ∈ q, a ∈ γ.P ∨ γ.F a ≠ none) ∧ fp = []
  | .o k => Lay κ γ.F H k v.d x fp
  | .s i k => (∃ sl, γ.env[i]? = some sl ∧ sl.own = some (k, v.d) ∧ σ[i]? = some (some x)) ∧ fp = []
structure Held (γ : Gst) (σ : St) (H : Hp) (vs : List Val) (xs : List V) (fps : List (List Addr)) : Prop where
  tri : Tri (VRep κ γ σ H) vs xs fps
  nd : (γ.P ++ fps.flatten).Nodup
  fr : ∀ a ∈ fps.flatten, γ.F a = none ∧ γ.G a = none ∧ H a ≠ none
structure Reach (p : Bool) (A : List Addr) (γ : Gst) (H : Hp) (γ' : Gst) (H' : Hp) : Prop where
  g : γ'.G = γ.G
  f : Le γ.F γ'.F
  keep : ∀ a o, H a = some o → a ∉ A → H' a = some o
  mono : ∀ a, H' a = none → H a = none
  newF : ∀ a, γ'.F a ≠ none → γ.F a ≠ none ∨ a ∈ A ∨ H a = none
  newP : ∀ a ∈ γ'.P, a ∈ A ∨ H a = none
  mus : ∀ i, Mu γ.env i → Mu γ'.env i
  lks : ∀ (i : Nat) (s : Slot), γ.env[i]? = some s → s.isLk = true → γ'.env[i]? = some s
  pure : p = true → (∀ a o, H a = some o → (a ∈ γ.P ∨ a ∉ A) → H' a = some o) ∧ ∀ a ∈ γ.P, a ∈ γ'.P ∨ γ'.F a ≠ none
/-- things that came into being, or were own (none of the slots' where nothing is changed) -/
def New (p : Bool) (A : List Addr) (γ : Gst) (H : Hp) (l : List Addr) : Prop := (∀ a ∈ l, a ∈ A ∨ H a = none) ∧ (p = true → ∀ a ∈ l, a ∉ γ.P)
/-- an exception: its class and its own dict (none: of a built-in class, no fields) -/
structure XRep (F H : Hp) (XT : Nat → Option (Value × List Str)) (c : Nat) (fs : List D) (cls : Value) (d : Option Addr) : Prop where
  is : ∃ names vs, XT c = some (cls, names) ∧ names.length = fs.length ∧ Paired (Rep κ F) fs vs ∧
    (fs = [] ∨ ∃ dx es, d = some dx ∧ H dx = some (.xd es) ∧ ∀ (i : Nat) n v, names[i]? = some n → vs[i]? = some v → es.lookup n = some v)
variable (XT : Nat → Option (Value × List Str))
def Cont (W : WX) (p : Bool) (A : List Addr) (γ : Gst) (σ : St) (H : Hp) (r : R (List Val)) (Q : List V → Hp → Prop) : Prop :=
  match r with
  | .ok vs env' => ∀ γ' H' xs fps, γ'.env = env' → Fits κ γ' σ H' → Reach p A γ H γ' H' → Held κ γ' σ H' vs xs fps → New p A γ H fps.flatten → Q xs H'
  | .ex c fs env' => ∀ γ' H' cls d, γ'.env = env' → Fits κ γ' σ H' → Reach false A γ H γ' H' → XRep κ γ'.F H' XT c fs cls d → W cls d σ H'
  | .no => False
def tA (W : WX) (p : Bool) (m : MA) : TA := fun σ H Q => ∃ γ, Fits κ γ σ H ∧ Cont κ XT W p γ.P γ σ H (m γ.env) Q
def tM (W : WX) (p : Bool) (m : ME) : TE := fun σ H Q => ∃ γ, Fits κ γ σ H ∧ Cont κ XT W p γ.P γ σ H ((m γ.env).map fun v => [v]) (fun xs H' => ∀ x, xs = [x] → Q x H')
end

section
variable {κ : Kx} {XT : Nat → Option (Value × List Str)} {p q : Bool} {A B : List Addr} {γ γ1 γ2 : Gst} {σ : St} {H H1 H2 : Hp} {W : WX}
theorem Reach.refl (hA : ∀ a ∈ γ.P, a ∈ A) : Reach p A γ H γ H :=
  ⟨rfl, Le.refl _, fun _ _ h _ => h, fun _ h => h, fun _ h => .inl h, fun a h => .inl (hA a h), fun _ h => h, fun _ _ h _ => h, fun _ => ⟨fun _ _ h _ => h, fun _ h => .inl h⟩⟩
theorem Reach.trans (r : Reach p A γ H γ1 H1) (s : Reach q B γ1 H1 γ2 H2) (hB : ∀ a ∈ B, a ∈ A ∨ H a = none) (hT : p = true → ∀ a ∈ B, a ∈ γ1.P ∨ a ∉ γ.P) : Reach (p && q) A γ H γ2 H2 where
  g := s.g.trans r.g
  f := r.f.trans s.f
  keep := fun a o e h => s.keep a o (r.keep a o e h) fun z => (hB a z).elim h fun y => by rw [e] at y; cases y
  mono := fun a h => r.mono a (s.mono a h)
  newF := fun a h => (s.newF a h).elim (fun z => r.newF a z) fun z => z.elim (fun y => .inr (hB a y)) fun y => .inr (.inr (r.mono a y))
  newP := fun a h => (s.newP a h).elim (fun z => hB a z) fun z => .inr (r.mono a z)
  mus := fun i h => s.mus i (r.mus i h)
  lks := fun i u e h => s.lks i u (r.lks i u e h) h
  pure := fun h => by
    obtain ⟨h1, h2⟩ := Bool.and_eq_true_iff.mp h
    obtain ⟨r1, r2⟩ := r.pure h1
    obtain ⟨s1, s2⟩ := s.pure h2
    refine ⟨fun a o e n => s1 a o (r1 a o e n) ?_, fun a ha => (r2 a ha).elim (s2 a) fun z => .inr ?_⟩
    · by_cases z : a ∈ B
      · refine (hT h1 a z).imp id fun y => ?_
        exact absurd ((hB a z).elim (fun w => n.elim y fun v => absurd w v) fun w => by rw [e] at w; cases w) (fun w : False => w)
      · exact .inr z
    · cases e : γ1.F a with
      | none => exact absurd e z
      | some o => rw [s.f a o e]; intro y; cases y
theorem Reach.weak (r : Reach p A γ H γ1 H1) (h : q = true → p = true) : Reach q A γ H γ1 H1 := { r with pure := fun z => r.pure (h z) }
/-- a further step that leaves all that stands -/
theorem Reach.more (r : Reach p A γ H γ1 H1) (s : Reach q A γ1 H1 γ2 H2) (le : Le H1 H2) : Reach (p && q) A γ H γ2 H2 where
  g := s.g.trans r.g
  f := r.f.trans s.f
  keep := fun a o e h => le a o (r.keep a o e h)
  mono := fun a h => r.mono a (s.mono a h)
  newF := fun a h => (s.newF a h).elim (fun z => r.newF a z) fun z => z.elim (fun y => .inr (.inl y)) fun y => .inr (.inr (r.mono a y))
  newP := fun a h => (s.newP a h).elim .inl fun z => .inr (r.mono a z)
  mus := fun i h => s.mus i (r.mus i h)
  lks := fun i u e h => s.lks i u (r.lks i u e h) h
  pure := fun h => by
    obtain ⟨h1, h2⟩ := Bool.and_eq_true_iff.mp h
    obtain ⟨r1, r2⟩ := r.pure h1
    obtain ⟨s1, s2⟩ := s.pure h2
    refine ⟨fun a o e n => le a o (r1 a o e n), fun a ha => (r2 a ha).elim (s2 a) fun z => .inr ?_⟩
    cases e : γ1.F a with
    | none => exact absurd e z
    | some o => rw [s.f a o e]; intro y; cases y
/-- where nothing of another's is changed -/
theorem Reach.le (r : Reach p γ.P γ H γ1 H1) (h : p = true) : Le H H1 := fun a o e => (r.pure h).1 a o e (by
  by_cases z : a ∈ γ.P
  · exact .inl z
  · exact .inr z)
end
end Py

set_option Elab.async false
set_option linter.all false
set_option maxRecDepth 100000
set_option maxHeartbeats 1000000
/-! PyC: values from the left to the right, an operation upon them. -/
namespace Py
open PySem L2

def T.isB : T → Bool
  | .b _ => true
  | _ => false
def refix (env : Env) (v : Val) : Option Val := match v.t with
  | .s i _ => (match env[i]? with
    | some (.fz d) => some ⟨.f, d⟩
    | some (.ow k d) | some (.mu k d) | some (.lk k d) | some (.lm k d) => some ⟨.s i k, d⟩
    | _ => none)
  | _ => some v
def evNil : MA := fun env => .ok [] env
def evCons (q : Bool) (m : ME) (ms : MA) : MA := fun env => match m env with
  | .ok v e1 => if (!q && v.t.isB) = true then .no else (match ms e1 with
    | .ok vs e2 => (match refix e2 v with
      | some v' => .ok (v' :: vs) e2
      | none => .no)
    | .ex c fs e => .ex c fs e
    | .no => .no)
  | .ex c fs e => .ex c fs e
  | .no => .no

section
variable {κ : Kx} {XT : Nat → Option (Value × List Str)} {p q : Bool} {A B : List Addr} {γ γ1 γ2 : Gst} {σ : St} {H H1 H2 : Hp} {W : WX} {v v' : Val} {x : V} {fp : List Addr} {m : ME} {ms : MA}
theorem Fits.slot (h : Fits κ γ σ H) {i : Nat} {sl : Slot} (e : γ.env[i]? = some sl) : ∃ b f, σ[i]? = some b ∧ γ.fps[i]? = some f ∧ SlotRep κ γ.F γ.G H sl b f := h.sl.get e
theorem fps_mem {i : Nat} {f : List Addr} (e : γ.fps[i]? = some f) {a : Addr} (h : a ∈ f) : a ∈ γ.P := mem_flat (List.mem_of_getElem? e) h
theorem VRep.move (h : VRep κ γ1 σ H1 v x fp) (r : Reach q γ1.P γ1 H1 γ2 H2) (ft : Fits κ γ2 σ H2) (hb : v.t.isB = true → q = true) (hd : ∀ a ∈ fp, a ∉ γ1.P) (e : refix γ2.env v = some v') : VRep κ γ2 σ H2 v' x fp := by
  obtain ⟨t, d⟩ := v
  cases t with
  | f => cases e; exact ⟨h.1.mono r.f, h.2⟩
  | g k =>
    cases e
    obtain ⟨⟨s, hs⟩, h2⟩ := h
    refine ⟨⟨s, ?_⟩, h2⟩
    rw [r.g]
    exact Lay.mono r.f k d x s (fun _ _ _ q => q) hs
  | b k =>
    cases e
    obtain ⟨⟨s, hs, hp⟩, h2⟩ := h
    have le := r.le (hb rfl)
    have pf := (r.pure (hb rfl)).2
    refine ⟨⟨s, Lay.mono r.f k d x s (fun a _ o q => le a o q) hs, fun a ha => (hp a ha).elim (pf a) fun z => .inr ?_⟩, h2⟩
    cases e : γ1.F a with
    | none => exact absurd e z
    | some o => rw [r.f a o e]; intro y; cases y
  | o k =>
    cases e
    exact Lay.mono r.f k d x fp (fun a ha o q => r.keep a o q (hd a ha)) h
  | s i k =>
    obtain ⟨⟨sl, e1, e2, e3⟩, h2⟩ := h
    cases es : γ2.env[i]? with
    | none => simp only [refix, es] at e; cases e
    | some s2 =>
      obtain ⟨b, f, e4, e5, e6⟩ := ft.slot es
      rw [e3] at e4
      cases e4
      cases s2 <;> simp only [refix, es] at e <;> cases e
      · obtain ⟨⟨x', e7, e8⟩, _⟩ := e6
        cases e7
        exact ⟨e8, h2⟩
      all_goals exact ⟨⟨_, es, rfl, e3⟩, h2⟩
theorem nodup_app {l1 l2 : List Addr} (h1 : l1.Nodup) (h2 : l2.Nodup) (h : ∀ a ∈ l1, a ∉ l2) : (l1 ++ l2).Nodup := by
  rw [List.nodup_append]
  exact ⟨h1, h2, fun a ha b hb e => h a ha (by rw [e]; exact hb)⟩
theorem nodup_split {l1 l2 : List Addr} (h : (l1 ++ l2).Nodup) : l1.Nodup ∧ l2.Nodup ∧ ∀ a ∈ l1, a ∉ l2 := by
  rw [List.nodup_append] at h
  exact ⟨h.1, h.2.1, fun a ha hb => h.2.2 a ha a hb rfl⟩
theorem tA_nil {Q : List V → Hp → Prop} (h : tA κ XT W p evNil σ H Q) : tNil σ H Q := by
  obtain ⟨γ, ft, c⟩ := h
  exact c γ H [] [] rfl ft (Reach.refl fun _ h => h) ⟨.nil, by simpa using ft.nd, by simp⟩ ⟨by simp, by simp⟩
theorem tA_cons {Q : List V → Hp → Prop} (h : tA κ XT W (p && q) (evCons q m ms) σ H Q) : tCons (tM κ XT W p m) (tA κ XT W q ms) σ H Q := by
  obtain ⟨γ, ft, c⟩ := h
  refine ⟨γ, ft, ?_⟩
  cases hm : m γ.env with
  | no => simp only [evCons, hm] at c; exact c.elim
  | ex cc fs e => simp only [evCons, hm] at c; exact c
  | ok v e1 =>
    simp only [evCons, hm] at c
    intro γ1 H1 xs fps ee ft1 r1 hl hn x ex
    subst ex
    subst ee
    by_cases hq : (!q && v.t.isB) = true
    · rw [if_pos hq] at c; exact c.elim
    · rw [if_neg hq] at c
      have hb : v.t.isB = true → q = true := fun z => by
        cases q
        · exact absurd (by rw [z]; rfl) hq
        · rfl
      cases hl.tri with
      | @cons _ _ fp _ _ _ hv tl =>
        cases tl
        refine ⟨γ1, ft1, ?_⟩
        have hsp := nodup_split hl.nd
        have hfp : ∀ a ∈ fp, a ∉ γ1.P := fun a ha hp => hsp.2.2 a hp (by simpa using ha)
        cases hms : ms γ1.env with
        | no => simp only [hms] at c; exact c.elim
        | ex cc fs e =>
          simp only [hms] at c
          intro γ2 H2 cls d e2 ft2 r2 xr
          exact c γ2 H2 cls d e2 ft2 ((r1.trans r2 r1.newP fun _ a h => .inl h).weak fun z => by cases z) xr
        | ok vs e2 =>
          simp only [hms] at c
          intro γ2 H2 ys gps e2' ft2 r2 hl2 hn2
          subst e2'
          cases hr : refix γ2.env v with
          | none => simp only [hr] at c; exact c.elim
          | some v' =>
            simp only [hr] at c
            have hv2 := hv.move r2 ft2 hb hfp hr
            have hFa : ∀ a ∈ fp, γ1.F a = none ∧ γ1.G a = none ∧ H1 a ≠ none := fun a ha => hl.fr a (by simpa using ha)
            have f2 : ∀ a ∈ fp, γ2.F a = none ∧ γ2.G a = none ∧ H2 a ≠ none := fun a ha => by
              obtain ⟨h1, h2, h3⟩ := hFa a ha
              refine ⟨?_, by rw [r2.g]; exact h2, fun z => h3 (r2.mono a z)⟩
              cases e : γ2.F a with
              | none => rfl
              | some o =>
                rcases r2.newF a (by rw [e]; intro z; cases z) with z | z | z
                · exact absurd h1 z
                · exact absurd z (hfp a ha)
                · exact absurd z h3
            have notP2 : ∀ a ∈ fp, a ∉ γ2.P := fun a ha hp => (r2.newP a hp).elim (hfp a ha) (hFa a ha).2.2
            have notG : ∀ a ∈ fp, a ∉ gps.flatten := fun a ha hp => (hn2.1 a hp).elim (hfp a ha) (hFa a ha).2.2
            refine c γ2 H2 (x :: ys) (fp :: gps) rfl ft2 (r1.trans r2 r1.newP fun _ a h => .inl h) ⟨.cons hv2 hl2.tri, ?_, ?_⟩ ⟨?_, ?_⟩
            · have s2 := nodup_split hl2.nd
              rw [List.flatten_cons]
              refine nodup_app s2.1 (nodup_app (by simpa using hsp.2.1) s2.2.1 notG) fun a ha hb => ?_
              rcases List.mem_append.mp hb with z | z
              · exact notP2 a z ha
              · exact s2.2.2 a ha z
            · intro a ha
              rw [List.flatten_cons] at ha
              rcases List.mem_append.mp ha with z | z
              · exact f2 a z
              · exact hl2.fr a z
            · intro a ha
              rw [List.flatten_cons] at ha
              rcases List.mem_append.mp ha with z | z
              · exact hn.1 a (by simpa using z)
              · exact (hn2.1 a z).elim (fun y => r1.newP a y) fun y => .inr (r1.mono a y)
            · intro hpq a ha
              obtain ⟨hp, hq'⟩ := Bool.and_eq_true_iff.mp hpq
              rw [List.flatten_cons] at ha
              rcases List.mem_append.mp ha with z | z
              · exact hn.2 hp a (by simpa using z)
              · intro y
                rcases hn2.1 a z with w | w
                · exact hn2.2 hq' a z w
                · exact (ft.fr a y).2.2 (r1.mono a w)

theorem Cont.mono {Q Q' : List V → Hp → Prop} {r : R (List Val)} (hQ : ∀ xs H, Q xs H → Q' xs H) (h : Cont κ XT W p A γ σ H r Q) : Cont κ XT W p A γ σ H r Q' := by
  cases r with
  | ok vs e => exact fun γ' H' xs fps a b c d f => hQ _ _ (h γ' H' xs fps a b c d f)
  | ex c fs e => exact h
  | no => exact h
theorem tM.mono {Q Q' : VK} (hQ : ∀ x H, Q x H → Q' x H) (h : tM κ XT W p m σ H Q) : tM κ XT W p m σ H Q' :=
  h.elim fun γ z => ⟨γ, z.1, z.2.mono fun xs H k x e => hQ _ _ (k x e)⟩
theorem tA.mono {Q Q' : List V → Hp → Prop} (hQ : ∀ x H, Q x H → Q' x H) (h : tA κ XT W p ms σ H Q) : tA κ XT W p ms σ H Q' := h.elim fun γ z => ⟨γ, z.1, z.2.mono hQ⟩
theorem tA_one {Q : List V → Hp → Prop} (h : tA κ XT W p (evCons true m evNil) σ H Q) : tM κ XT W p m σ H fun x H1 => Q [x] H1 := by
  have h' : tA κ XT W (p && true) (evCons true m evNil) σ H Q := by rw [Bool.and_true]; exact h
  exact tM.mono (fun x H1 k => (tA_nil k : tNil σ H1 fun xs H2 => Q (x :: xs) H2)) (tA_cons h')
theorem tA_two {m' : ME} {Q : List V → Hp → Prop} (h : tA κ XT W (p && q) (evCons q m (evCons true m' evNil)) σ H Q) : tM κ XT W p m σ H fun x H1 => tM κ XT W q m' σ H1 fun y H2 => Q [x, y] H2 :=
  tM.mono (fun x H k => tA_one k) (tA_cons h)
/-- an operation upon values: new objects at most, own slots may become frozen -/
abbrev Op := List Val → Env → Option (Val × Env)
def mOp (ms : MA) (op : Op) : ME := fun env => (ms env).bind fun vs e => match op vs e with
  | some (v, e') => .ok v e'
  | none => .no
def OpS (κ : Kx) (r : List V → Hp → VK → Prop) (op : Op) : Prop :=
  ∀ (γ : Gst) (σ : St) (H : Hp) (vs : List Val) (xs : List V) (fps : List (List Addr)) (v : Val) (e' : Env) (Q : VK), Fits κ γ σ H → Held κ γ σ H vs xs fps → op vs γ.env = some (v, e') →
    (∀ γ' H' x fp, γ'.env = e' → Fits κ γ' σ H' → Reach true (γ.P ++ fps.flatten) γ H γ' H' → Held κ γ' σ H' [v] [x] [fp] → (∀ a ∈ fp, a ∈ fps.flatten ∨ H a = none) → Q x H') → r xs H Q
theorem tM_op {r : List V → Hp → VK → Prop} {op : Op} {Q : VK} (hr : OpS κ r op) (h : tM κ XT W p (mOp ms op) σ H Q) : tA κ XT W p ms σ H fun xs H1 => r xs H1 Q := by
  obtain ⟨γ, ft, c⟩ := h
  refine ⟨γ, ft, ?_⟩
  cases hm : ms γ.env with
  | no => simp only [mOp, hm, R.bind, R.map] at c; exact c
  | ex cc fs e => simp only [mOp, hm, R.bind, R.map] at c; exact c
  | ok vs e1 =>
    intro γ1 H1 xs fps ee ft1 r1 hl hn
    subst ee
    cases ho : op vs γ1.env with
    | none => simp only [mOp, hm, R.bind, ho, R.map] at c; exact c.elim
    | some ve =>
      obtain ⟨v, e'⟩ := ve
      simp only [mOp, hm, R.bind, ho, R.map] at c
      refine hr γ1 σ H1 vs xs fps v e' Q ft1 hl ho fun γ2 H2 x fp e2 ft2 r2 hl2 hn2 => ?_
      have hB : ∀ a ∈ γ1.P ++ fps.flatten, a ∈ γ.P ∨ H a = none := fun a ha => (List.mem_append.mp ha).elim (r1.newP a) (hn.1 a)
      refine c γ2 H2 [x] [fp] e2 ft2 ((r1.trans r2 hB fun hp a ha => (List.mem_append.mp ha).imp id (hn.2 hp a)).weak fun z => by rw [z]; rfl) hl2 ⟨fun a ha => ?_, fun hp a ha hP => ?_⟩ x rfl
      · exact (hn2 a (by simpa using ha)).elim (hn.1 a) fun z => .inr (r1.mono a z)
      · rcases hn2 a (by simpa using ha) with z | z
        · exact hn.2 hp a z hP
        · exact (ft.fr a hP).2.2 (r1.mono a z)
end
end Py

set_option Elab.async false
set_option linter.all false
set_option maxRecDepth 100000
set_option maxHeartbeats 1000000
/-! PyD: statements. -/
namespace Py
open PySem L2

inductive Fl where
  | nx (env : Env) | rt (v : Val) (env : Env) | bk (env : Env) | ct (env : Env) | ex (c : Nat) (fs : List D) (env : Env) | no
abbrev MS := Env → Fl
section
variable (κ : Kx) (XT : Nat → Option (Value × List Str))
/-- a state behind: reached, and the lent slots stand -/
structure Got (A : List Addr) (γ : Gst) (σ : St) (H : Hp) (env : Env) (γ' : Gst) (σ' : St) (H' : Hp) : Prop where
  env : γ'.env = env
  ft : Fits κ γ' σ' H'
  rc : Reach false A γ H γ' H'
  pin : ∀ i, Mu γ.env i ∨ Lk γ.env i → σ'[i]? = σ[i]?
def ContS (W : WX) (A : List Addr) (γ : Gst) (σ : St) (H : Hp) (D : Ends) : Fl → Prop
  | .nx e => ∀ γ' σ' H', Got κ A γ σ H e γ' σ' H' → D.nx σ' H'
  | .bk e => ∀ γ' σ' H', Got κ A γ σ H e γ' σ' H' → D.bk σ' H'
  | .ct e => ∀ γ' σ' H', Got κ A γ σ H e γ' σ' H' → D.ct σ' H'
  | .rt v e => ∀ γ' σ' H' x fp, Got κ A γ σ H e γ' σ' H' → Held κ γ' σ' H' [v] [x] [fp] → (∀ a ∈ fp, a ∈ A ∨ H a = none) → D.rt x H'
  | .ex c fs e => ∀ γ' σ' H' cls d, Got κ A γ σ H e γ' σ' H' → XRep κ γ'.F H' XT c fs cls d → W cls d σ' H'
  | .no => False
def tS (W : WX) (m : MS) : TS := fun D σ H => ∃ γ, Fits κ γ σ H ∧ ContS κ XT W γ.P γ σ H D (m γ.env)
end
def mSeq (a b : MS) : MS := fun env => match a env with
  | .nx e => b e
  | r => r
def mPass : MS := fun env => .nx env
def mBreak : MS := fun env => .bk env
def mCont : MS := fun env => .ct env

section
variable {κ : Kx} {XT : Nat → Option (Value × List Str)} {p q : Bool} {A B : List Addr} {γ γ1 γ2 : Gst} {σ σ1 σ2 : St} {H H1 H2 : Hp} {W : WX} {D : Ends} {e : Env} {r : Fl} {X : Cx}
theorem PE.imp {e : Expr} {t t' : TE} (h : PE X e t) (k : ∀ σ H Q, t' σ H Q → t σ H Q) : PE X e t' := ⟨fun pins s σ H Q I q => h.run pins s σ H Q I (k σ H Q q)⟩
theorem PT.imp {e : Expr} {t t' : TT} (h : PT X e t) (k : ∀ σ H Q, t' σ H Q → t σ H Q) : PT X e t' := ⟨fun pins s σ H Q I q => h.run pins s σ H Q I (k σ H Q q)⟩
theorem PS.imp {st : Stmt} {t t' : TS} (h : PS X st t) (k : ∀ D σ H, t' D σ H → t D σ H) : PS X st t' := ⟨fun pins s σ H D I q => h.run pins s σ H D I (k D σ H q)⟩
theorem PSs.imp {st : List Stmt} {t t' : TS} (h : PSs X st t) (k : ∀ D σ H, t' D σ H → t D σ H) : PSs X st t' := ⟨fun pins s σ H D I q => h.run pins s σ H D I (k D σ H q)⟩
theorem Got.here (ft : Fits κ γ σ H) (hA : ∀ a ∈ γ.P, a ∈ A) : Got κ A γ σ H γ.env γ σ H := ⟨rfl, ft, Reach.refl hA, fun _ _ => rfl⟩
theorem Got.trans {e1 : Env} (g : Got κ A γ σ H e1 γ1 σ1 H1) (h : Got κ B γ1 σ1 H1 e γ2 σ2 H2) (hB : ∀ a ∈ B, a ∈ A ∨ H a = none) : Got κ A γ σ H e γ2 σ2 H2 :=
  ⟨h.env, h.ft, (g.rc.trans h.rc hB fun z => by cases z).weak (fun z => by cases z), fun i hi => (h.pin i (hi.imp (g.rc.mus i) fun ⟨s, e, z⟩ => ⟨s, g.rc.lks i s e z, z⟩)).trans (g.pin i hi)⟩
/-- what is wanted behind goes along -/
theorem ContS.step {e1 : Env} (g : Got κ A γ σ H e1 γ1 σ1 H1) (hB : ∀ a ∈ B, a ∈ A ∨ H a = none) (h : ContS κ XT W A γ σ H D r) : ContS κ XT W B γ1 σ1 H1 D r := by
  cases r with
  | nx e => exact fun γ2 σ2 H2 k => h γ2 σ2 H2 (g.trans k hB)
  | bk e => exact fun γ2 σ2 H2 k => h γ2 σ2 H2 (g.trans k hB)
  | ct e => exact fun γ2 σ2 H2 k => h γ2 σ2 H2 (g.trans k hB)
  | rt v e => exact fun γ2 σ2 H2 x fp k l n => h γ2 σ2 H2 x fp (g.trans k hB) l fun a ha => (n a ha).elim (hB a) fun z => .inr (g.rc.mono a z)
  | ex c fs e => exact fun γ2 σ2 H2 cls d k l => h γ2 σ2 H2 cls d (g.trans k hB) l
  | no => exact h
theorem tS.at {m : MS} {e1 : Env} (g : Got κ A γ σ H e1 γ1 σ1 H1) (h : ContS κ XT W A γ σ H D (m e1)) : tS κ XT W m D σ1 H1 :=
  ⟨γ1, g.ft, by rw [g.env]; exact h.step g g.rc.newP⟩
theorem tS_seq {a b : MS} (h : tS κ XT W (mSeq a b) D σ H) : tSeq (tS κ XT W a) (tS κ XT W b) D σ H := by
  obtain ⟨γ, ft, c⟩ := h
  refine ⟨γ, ft, ?_⟩
  cases ha : a γ.env with
  | nx e =>
    simp only [mSeq, ha] at c
    exact fun γ1 σ1 H1 g => tS.at g c
  | bk e => simp only [mSeq, ha] at c; exact c
  | ct e => simp only [mSeq, ha] at c; exact c
  | rt v e => simp only [mSeq, ha] at c; exact c
  | ex cc fs e => simp only [mSeq, ha] at c; exact c
  | no => simp only [mSeq, ha] at c; exact c
theorem tS_pass (h : tS κ XT W mPass D σ H) : tNext D σ H := by
  obtain ⟨γ, ft, c⟩ := h
  exact c γ σ H (Got.here ft fun _ h => h)
theorem tS_break (h : tS κ XT W mBreak D σ H) : tBreak D σ H := by
  obtain ⟨γ, ft, c⟩ := h
  exact c γ σ H (Got.here ft fun _ h => h)
theorem tS_cont (h : tS κ XT W mCont D σ H) : tCont D σ H := by
  obtain ⟨γ, ft, c⟩ := h
  exact c γ σ H (Got.here ft fun _ h => h)
/-- first a value, then what is done with it -/
def mThen (m : ME) (k : Val → Env → Fl) : MS := fun env => match m env with
  | .ok v e => k v e
  | .ex c fs e => .ex c fs e
  | .no => .no
theorem tS_then {m : ME} {k : Val → Env → Fl} {K : V → Hp → Prop} (h : tS κ XT W (mThen m k) D σ H)
    (hk : ∀ (γ : Gst) (H : Hp) (γ1 : Gst) (H1 : Hp) v x fp, Fits κ γ1 σ H1 → Reach p γ.P γ H γ1 H1 → Held κ γ1 σ H1 [v] [x] [fp] → (∀ a ∈ fp, a ∈ γ.P ∨ H a = none) → ContS κ XT W γ.P γ σ H D (k v γ1.env) → K x H1) :
    tM κ XT W p m σ H K := by
  obtain ⟨γ, ft, c⟩ := h
  refine ⟨γ, ft, ?_⟩
  cases hm : m γ.env with
  | no => simp only [mThen, hm] at c; exact c
  | ex cc fs e =>
    simp only [mThen, hm] at c
    exact fun γ1 H1 cls d e1 f1 r1 xr => c γ1 σ H1 cls d ⟨e1, f1, r1, fun _ _ => rfl⟩ xr
  | ok v e =>
    simp only [mThen, hm] at c
    intro γ1 H1 xs fps e1 f1 r1 hl hn x ex
    subst ex
    cases hl.tri with
    | @cons _ _ fp _ _ _ hv tl =>
      cases tl
      exact hk γ H γ1 H1 v x fp f1 r1 hl (fun a ha => hn.1 a (by simpa using ha)) (by rw [e1]; exact c)

/-- an expression as a statement: its value is let go -/
def mDrop (m : ME) : MS := mThen m fun _ e => .nx e
theorem tS_drop {m : ME} (h : tS κ XT W (mDrop m) D σ H) : tDrop (tM κ XT W p m) D σ H :=
  tS_then h fun γ H γ1 H1 v x fp f1 r1 hl hn c => c γ1 σ H1 ⟨rfl, f1, r1.weak (fun z => by cases z), fun _ _ => rfl⟩
/-- what may leave a def: frozen or new things -/
def outV : Val → Env → Option (Val × Env)
  | ⟨.f, d⟩, e => some (⟨.f, d⟩, e)
  | ⟨.o k, d⟩, e => some (⟨.o k, d⟩, e)
  | ⟨.s i k, d⟩, e => (match e[i]? with
    | some (.ow _ _) => some (⟨.o k, d⟩, e.set i .un)
    | _ => none)
  | _, _ => none
def mRet (m : ME) : MS := mThen m fun v e => match outV v e with
  | some (v', e') => .rt v' e'
  | none => .no
end
section
variable {α β γ : Type} {R : α → β → γ → Prop} {as : List α} {bs : List β} {cs : List γ}
theorem Tri.set (t : Tri R as bs cs) : ∀ {i : Nat} {a : α} {b : β} {c : γ}, R a b c → Tri R (as.set i a) (bs.set i b) (cs.set i c) := by
  induction t with
  | nil => intro i a b c r; exact .nil
  | cons r t ih =>
    intro i a b c q
    cases i with
    | zero => exact .cons q t
    | succ i => exact .cons r (ih q)
theorem Tri.set1 (t : Tri R as bs cs) : ∀ {i : Nat} {a : α} {b : β} {c : γ}, bs[i]? = some b → R a b c → Tri R (as.set i a) bs (cs.set i c) := by
  induction t with
  | nil => intro i a b c h r; simp at h
  | cons r t ih =>
    intro i a b c h q
    cases i with
    | zero => simp at h; subst h; exact .cons q t
    | succ i => exact .cons r (ih (by simpa using h) q)
end
/-- the footprints with one slot's taken out -/
theorem mem_set {fps : List (List Addr)} {i : Nat} {f : List Addr} {a : Addr} (h : a ∈ (fps.set i f).flatten) : a ∈ f ∨ ∃ j g, j ≠ i ∧ fps[j]? = some g ∧ a ∈ g := by
  obtain ⟨g, hg, ha⟩ := List.mem_flatten.mp h
  obtain ⟨j, hj⟩ := List.getElem?_of_mem hg
  rw [List.getElem?_set] at hj
  by_cases e : i = j
  · subst e
    rw [if_pos rfl] at hj
    by_cases hl : i < fps.length
    · rw [if_pos hl] at hj; cases hj; exact .inl ha
    · rw [if_neg hl] at hj; cases hj
  · rw [if_neg e] at hj
    exact .inr ⟨j, g, fun z => e z.symm, hj, ha⟩
theorem nodup_flat_ne {fps : List (List Addr)} (h : fps.flatten.Nodup) : ∀ {i j : Nat} {f g : List Addr} {a : Addr}, fps[i]? = some f → fps[j]? = some g → a ∈ f → a ∈ g → i = j := by
  induction fps with
  | nil => intro i j f g a h1; simp at h1
  | cons x r ih =>
    intro i j f g a h1 h2 h3 h4
    rw [List.flatten_cons] at h
    obtain ⟨n1, n2, n3⟩ := nodup_split h
    cases i with
    | zero =>
      cases j with
      | zero => rfl
      | succ j =>
        simp at h1 h2
        subst h1
        exact absurd (mem_flat (List.mem_of_getElem? h2) h4) (n3 a h3)
    | succ i =>
      cases j with
      | zero =>
        simp at h1 h2
        subst h2
        exact absurd (mem_flat (List.mem_of_getElem? h1) h3) (n3 a h4)
      | succ j =>
        simp at h1 h2
        rw [ih n2 h1 h2 h3 h4]
theorem nodup_flat_set {fps : List (List Addr)} (h : fps.flatten.Nodup) {i : Nat} {f : List Addr} (hf : f.Nodup) (hd : ∀ a ∈ f, ∀ j g, j ≠ i → fps[j]? = some g → a ∉ g) : (fps.set i f).flatten.Nodup := by
  induction fps generalizing i with
  | nil => simp
  | cons x r ih =>
    rw [List.flatten_cons] at h
    obtain ⟨n1, n2, n3⟩ := nodup_split h
    cases i with
    | zero =>
      rw [List.set_cons_zero, List.flatten_cons]
      refine nodup_app hf n2 fun a ha hb => ?_
      obtain ⟨g, hg, hag⟩ := List.mem_flatten.mp hb
      obtain ⟨j, hj⟩ := List.getElem?_of_mem hg
      exact hd a ha (j + 1) g (by omega) (by simpa using hj) hag
    | succ i =>
      rw [List.set_cons_succ, List.flatten_cons]
      refine nodup_app n1 (ih n2 fun a ha j g hj e => hd a ha (j + 1) g (by omega) (by simpa using e)) fun a ha hb => ?_
      rcases mem_set hb with z | ⟨j, g, hj, e, z⟩
      · exact hd a z 0 x (by omega) rfl ha
      · exact n3 a ha (mem_flat (List.mem_of_getElem? e) z)
section
variable {κ : Kx} {XT : Nat → Option (Value × List Str)} {p q : Bool} {A B : List Addr} {γ γ1 γ2 : Gst} {σ σ1 σ2 : St} {H H1 H2 : Hp} {W : WX} {D : Ends} {X : Cx}
/-- slot i takes another value (its old things are let go) -/
def Gst.put (γ : Gst) (i : Nat) (s : Slot) (f : List Addr) : Gst := { γ with env := γ.env.set i s, fps := γ.fps.set i f }
theorem Fits.put (ft : Fits κ γ σ H) {i : Nat} {s : Slot} {x : Option V} {f : List Addr} (hs : SlotRep κ γ.F γ.G H s x f) (hf : f.Nodup) (hd : ∀ a ∈ f, a ∉ γ.P) (hfr : ∀ a ∈ f, γ.F a = none ∧ γ.G a = none ∧ H a ≠ none) : Fits κ (γ.put i s f) (σ.set i x) H where
  lf := ft.lf
  lg := ft.lg
  nd := nodup_flat_set ft.nd hf fun a ha j g _ e hg => hd a ha (fps_mem e hg)
  fr := fun a ha => (mem_set ha).elim (fun z => hfr a z) fun ⟨j, g, _, e, z⟩ => ft.fr a (fps_mem e z)
  sl := ft.sl.set hs
theorem Gst.put_P (γ : Gst) {i : Nat} {s : Slot} {f : List Addr} {a : Addr} (h : a ∈ (γ.put i s f).P) : a ∈ f ∨ a ∈ γ.P := (mem_set h).imp id fun ⟨j, g, _, e, z⟩ => fps_mem e z
theorem get_set_ne {α : Type} {l : List α} {i j : Nat} {a : α} (h : i ≠ j) : (l.set i a)[j]? = l[j]? := by rw [List.getElem?_set, if_neg h]
theorem Lk.set {env : Env} {i j : Nat} {s u : Slot} (h : env[j]? = some u) (ne : i ≠ j) : (env.set i s)[j]? = some u := by rw [get_set_ne ne]; exact h
theorem Mu.set {env : Env} {i j : Nat} {s : Slot} (h : Mu env j) (ne : i ≠ j) : Mu (env.set i s) j := by
  obtain ⟨k, d, z⟩ := h
  exact ⟨k, d, by rw [get_set_ne ne]; exact z⟩
end
end Py

set_option Elab.async false
set_option linter.all false
set_option maxRecDepth 100000
set_option maxHeartbeats 1000000
/-! PyE: freezing, moving, storing in a slot, return, if. -/
namespace Py
open PySem L2
section
variable {κ : Kx} {XT : Nat → Option (Value × List Str)} {p q : Bool} {A B : List Addr} {γ γ1 γ2 : Gst} {σ σ1 σ2 : St} {F F' G H H1 H2 : Hp} {W : WX} {D : Ends} {X : Cx} {v : Val} {x : V} {fp : List Addr}
theorem SlotRep.mono (h : Le F F') {s : Slot} {b : Option V} {f : List Addr} (e : SlotRep κ F G H s b f) : SlotRep κ F' G H s b f := by
  cases s with
  | un => exact e
  | xn c fs => exact e
  | fz d => exact ⟨e.1.elim fun x z => ⟨x, z.1, z.2.mono h⟩, e.2⟩
  | bo k d => exact ⟨e.1.elim fun x z => z.elim fun q z => ⟨x, q, z.1, Lay.mono h k d x q (fun _ _ _ y => y) z.2⟩, e.2⟩
  | ow k d => exact e.elim fun x z => ⟨x, z.1, Lay.mono h k d x f (fun _ _ _ y => y) z.2⟩
  | mu k d => exact e.elim fun x z => ⟨x, z.1, Lay.mono h k d x f (fun _ _ _ y => y) z.2⟩
  | lk k d => exact e.elim fun x z => ⟨x, z.1, Lay.mono h k d x f (fun _ _ _ y => y) z.2⟩
  | lm k d => exact e.elim fun x z => ⟨x, z.1, Lay.mono h k d x f (fun _ _ _ y => y) z.2⟩
/-- the objects at fp become frozen -/
def Gst.fz (γ : Gst) (H : Hp) (fp : List Addr) : Gst := { γ with F := frz γ.F H fp }
theorem Fits.fz (ft : Fits κ γ σ H) (h1 : ∀ a ∈ fp, a ∉ γ.P) (h2 : ∀ a ∈ fp, γ.F a = none) : Fits κ (γ.fz H fp) σ H where
  lf := frz_le ft.lf
  lg := ft.lg
  nd := ft.nd
  fr := fun a ha => ⟨(frz_out fun z => h1 a z ha).trans (ft.fr a ha).1, (ft.fr a ha).2⟩
  sl := ft.sl.imp fun s b f _ e => e.mono (le_frz h2)
theorem Reach.fz (hA : ∀ a ∈ γ.P, a ∈ A) (hf : ∀ a ∈ fp, a ∈ A) (h2 : ∀ a ∈ fp, γ.F a = none) : Reach p A γ H (γ.fz H fp) H where
  g := rfl
  f := le_frz h2
  keep := fun _ _ h _ => h
  mono := fun _ h => h
  newF := fun a h => by
    by_cases z : a ∈ fp
    · exact .inr (.inl (hf a z))
    · exact .inl fun y => h ((frz_out z).trans y)
  newP := fun a h => .inl (hA a h)
  mus := fun _ h => h
  lks := fun _ _ h _ => h
  pure := fun _ => ⟨fun _ _ h _ => h, fun _ h => .inl h⟩
/-- slot i is emptied, what it held is handed on -/
theorem Fits.take (ft : Fits κ γ σ H) {i : Nat} {s : Slot} {b : Option V} {f : List Addr} (hb : σ[i]? = some b) (hs : SlotRep κ γ.F γ.G H s b []) : Fits κ (γ.put i s []) σ H where
  lf := ft.lf
  lg := ft.lg
  nd := nodup_flat_set ft.nd (by simp) fun a ha => by simp at ha
  fr := fun a ha => (mem_set ha).elim (fun z => by simp at z) fun ⟨j, g, _, e, z⟩ => ft.fr a (fps_mem e z)
  sl := ft.sl.set1 hb hs
theorem take_out (ft : Fits κ γ σ H) {i : Nat} {s : Slot} {f : List Addr} (hf : γ.fps[i]? = some f) : ∀ a ∈ f, a ∉ (γ.put i s []).P := fun a ha hp => by
  rcases mem_set hp with z | ⟨j, g, ne, e, z⟩
  · simp at z
  · exact ne (nodup_flat_ne ft.nd e hf z ha)
theorem Reach.put {i : Nat} {s : Slot} {f : List Addr} (hA : ∀ a ∈ γ.P, a ∈ A) (hf : ∀ a ∈ f, a ∈ A ∨ H a = none) (hm : ¬ Mu γ.env i) (hk : ¬ Lk γ.env i) : Reach false A γ H (γ.put i s f) H where
  g := rfl
  f := Le.refl _
  keep := fun _ _ h _ => h
  mono := fun _ h => h
  newF := fun a h => .inl h
  newP := fun a h => (γ.put_P h).elim (hf a) fun z => .inl (hA a z)
  mus := fun j h => Mu.set h fun z => hm (by rw [z]; exact h)
  lks := fun j u e h => Lk.set e fun z => hk ⟨u, by rw [z]; exact e, h⟩
  pure := fun z => by cases z
theorem flat_nodup {fps : List (List Addr)} (h : fps.flatten.Nodup) {i : Nat} {f : List Addr} (e : fps[i]? = some f) : f.Nodup := by
  induction fps generalizing i with
  | nil => simp at e
  | cons y r ih =>
    rw [List.flatten_cons] at h
    obtain ⟨n1, n2, _⟩ := nodup_split h
    cases i with
    | zero => simp at e; subst e; exact n1
    | succ i => exact ih n2 (by simpa using e)
theorem Held.one (h : Held κ γ σ H [v] [x] [fp]) : VRep κ γ σ H v x fp := by cases h.tri with | cons a _ => exact a
theorem Held.mk1 (h : VRep κ γ σ H v x fp) (n : fp.Nodup) (d : ∀ a ∈ fp, a ∉ γ.P) (ft : Fits κ γ σ H) (fr : ∀ a ∈ fp, γ.F a = none ∧ γ.G a = none ∧ H a ≠ none) : Held κ γ σ H [v] [x] [fp] :=
  ⟨.cons h .nil, by rw [show ([fp] : List (List Addr)).flatten = fp by simp]; exact nodup_app ft.nd n fun a ha hb => d a hb ha, fun a ha => fr a (by simpa using ha)⟩
theorem Held.out (h : Held κ γ σ H [v] [x] [fp]) : fp.Nodup ∧ (∀ a ∈ fp, a ∉ γ.P) ∧ ∀ a ∈ fp, γ.F a = none ∧ γ.G a = none ∧ H a ≠ none := by
  have n := nodup_split h.nd
  rw [show ([fp] : List (List Addr)).flatten = fp by simp] at n
  exact ⟨n.2.1, fun a ha hp => n.2.2 a hp ha, fun a ha => h.fr a (by simpa using ha)⟩
theorem own_of {s : Slot} {k : Sh} {d : Py.D} (h : s.own = some (k, d)) : s = .ow k d ∨ s = .mu k d ∨ s = .lk k d ∨ s = .lm k d := by
  cases s <;> cases h <;> simp
theorem ow_not_mu {env : Env} {i : Nat} {k : Sh} {d : Py.D} (e : env[i]? = some (.ow k d)) : ¬ Mu env i := fun ⟨k', d', z⟩ => by
  rcases z with z | z <;> (rw [e] at z; cases z)
theorem ow_not_lk {env : Env} {i : Nat} {k : Sh} {d : Py.D} (e : env[i]? = some (.ow k d)) : ¬ Lk env i := fun ⟨s, z, y⟩ => by
  rw [e] at z
  cases z
  cases y
theorem tS_ret {m : ME} (h : tS κ XT W (mRet m) D σ H) : tRet (tM κ XT W p m) D σ H := by
  refine tS_then h fun γ H γ1 H1 v x fp f1 r1 hl hn c => ?_
  have go : Got κ γ.P γ σ H γ1.env γ1 σ H1 := ⟨rfl, f1, r1.weak (fun z => by cases z), fun _ _ => rfl⟩
  obtain ⟨t, d⟩ := v
  cases t with
  | f => exact c γ1 σ H1 x fp go hl hn
  | o k => exact c γ1 σ H1 x fp go hl hn
  | g k => exact c.elim
  | b k => exact c.elim
  | s i k =>
    obtain ⟨⟨sl, e1, e2, e3⟩, _⟩ := hl.one
    dsimp only at e2
    rcases own_of e2 with z | z | z | z
    · subst z
      simp only [outV, e1] at c
      obtain ⟨b, f, e4, e5, e6⟩ := f1.slot e1
      rw [e3] at e4
      cases e4
      obtain ⟨x', ex, e7⟩ := e6
      cases ex
      have ft2 : Fits κ (γ1.put i .un []) σ H1 := f1.take (f := f) e3 rfl
      have hm := ow_not_mu e1
      have hP : ∀ a ∈ f, a ∈ γ1.P := fun a ha => fps_mem e5 ha
      have r2 : Reach false γ1.P γ1 H1 (γ1.put i .un []) H1 := Reach.put (fun _ h => h) (fun a ha => by simp at ha) hm (ow_not_lk e1)
      refine c (γ1.put i .un []) σ H1 x f (go.trans ⟨rfl, ft2, r2, fun _ _ => rfl⟩ r1.newP) (Held.mk1 e7 (flat_nodup f1.nd e5) (take_out f1 e5) ft2 fun a ha => f1.fr a (hP a ha)) fun a ha => r1.newP a (hP a ha)
    all_goals (subst z; simp only [outV, e1] at c; exact c.elim)
/-- x = e -/
def slotOf : Val → Env → Option (Slot × Env)
  | ⟨.f, d⟩, e => some (.fz d, e)
  | ⟨.g k, d⟩, e => some (.bo k d, e)
  | ⟨.o k, d⟩, e => some (.ow k d, e)
  | ⟨.s i _, d⟩, e => (match e[i]? with
    | some (.ow _ _) => some (.fz d, e.set i (.fz d))
    | _ => none)
  | _, _ => none
def free : Option Slot → Bool
  | some .un | some (.fz _) | some (.bo _ _) | some (.ow _ _) => true
  | _ => false
def setSlot (i : Nat) (v : Val) (e : Env) : Option Env := match slotOf v e with
  | some (s, e1) => if free e1[i]? = true then some (e1.set i s) else none
  | none => none
def mSet (i : Nat) (m : ME) : MS := mThen m fun v e => match setSlot i v e with
  | some e' => .nx e'
  | none => .no
theorem free_not_mu {env : Env} {i : Nat} (h : free env[i]? = true) : ¬ Mu env i := fun ⟨k, d, z⟩ => by
  rcases z with z | z <;> (rw [z] at h; cases h)
theorem free_not_lk {env : Env} {i : Nat} (h : free env[i]? = true) : ¬ Lk env i := fun ⟨s, z, y⟩ => by
  rw [z] at h
  cases s <;> first | (cases y; done) | (cases h; done)
/-- the step behind a value: it goes to slot i -/
theorem set_ok {i : Nat} {e' : Env} (f1 : Fits κ γ1 σ H1) (hl : Held κ γ1 σ H1 [v] [x] [fp]) (hA : ∀ a ∈ γ1.P, a ∈ A) (hn : ∀ a ∈ fp, a ∈ A) (hs : setSlot i v γ1.env = some e') :
    ∃ γ2, γ2.env = e' ∧ Fits κ γ2 (σ.set i (some x)) H1 ∧ Reach false A γ1 H1 γ2 H1 ∧ (∀ j, Mu γ1.env j ∨ Lk γ1.env j → (σ.set i (some x))[j]? = σ[j]?) := by
  obtain ⟨n1, n2, n3⟩ := hl.out
  have hv := hl.one
  have key : ∀ (γ3 : Gst) (s : Slot), Fits κ γ3 σ H1 → free γ3.env[i]? = true → ∀ f, SlotRep κ γ3.F γ3.G H1 s (some x) f → f.Nodup → (∀ a ∈ f, a ∉ γ3.P) → (∀ a ∈ f, γ3.F a = none ∧ γ3.G a = none ∧ H1 a ≠ none) → (∀ a ∈ f, a ∈ A) → Reach false A γ1 H1 γ3 H1 → (∀ a ∈ γ3.P, a ∈ A) →
      ∃ γ2, γ2.env = γ3.env.set i s ∧ Fits κ γ2 (σ.set i (some x)) H1 ∧ Reach false A γ1 H1 γ2 H1 ∧ (∀ j, Mu γ1.env j ∨ Lk γ1.env j → (σ.set i (some x))[j]? = σ[j]?) := by
    intro γ3 s f3 hfree f sr fn fd ff fA r3 PA
    have nm := free_not_mu hfree
    have nl := free_not_lk hfree
    refine ⟨γ3.put i s f, rfl, f3.put sr fn fd ff, (r3.trans (Reach.put PA (fun a ha => .inl (fA a ha)) nm nl) (fun a ha => .inl ha) fun z => by cases z).weak (fun z => by cases z), fun j hj => get_set_ne fun z => ?_⟩
    subst z
    rcases hj with hj | ⟨u, hu, hk⟩
    · exact nm (r3.mus _ hj)
    · exact nl ⟨u, r3.lks _ u hu hk, hk⟩
  obtain ⟨t, d⟩ := v
  unfold setSlot at hs
  cases t with
  | f =>
    simp only [slotOf] at hs
    split at hs
    · rename_i hfree
      cases hs
      obtain ⟨hr, rfl⟩ := hv
      exact key γ1 (.fz d) f1 hfree [] ⟨⟨x, rfl, hr⟩, rfl⟩ (by simp) (by simp) (by simp) (by simp) (Reach.refl hA) hA
    · cases hs
  | g k =>
    simp only [slotOf] at hs
    split at hs
    · rename_i hfree
      cases hs
      obtain ⟨⟨q, hr⟩, rfl⟩ := hv
      exact key γ1 (.bo k d) f1 hfree [] ⟨⟨x, q, rfl, hr⟩, rfl⟩ (by simp) (by simp) (by simp) (by simp) (Reach.refl hA) hA
    · cases hs
  | o k =>
    simp only [slotOf] at hs
    split at hs
    · rename_i hfree
      cases hs
      exact key γ1 (.ow k d) f1 hfree fp ⟨x, rfl, hv⟩ n1 n2 n3 hn (Reach.refl hA) hA
    · cases hs
  | b k => simp only [slotOf] at hs; cases hs
  | s j k =>
    obtain ⟨⟨sl, e1, e2, e3⟩, rfl⟩ := hv
    dsimp only at e2
    rcases own_of e2 with z | z | z | z
    · subst z
      simp only [slotOf, e1] at hs
      split at hs
      · rename_i hfree
        cases hs
        obtain ⟨b, f, e4, e5, e6⟩ := f1.slot e1
        rw [e3] at e4
        cases e4
        obtain ⟨x', ex, e7⟩ := e6
        cases ex
        have hF : ∀ a ∈ f, γ1.F a = none := fun a ha => (f1.fr a (fps_mem e5 ha)).1
        have rp : Rep κ (frz γ1.F H1 f) d x := e7.freeze hF
        have f2 : Fits κ (γ1.put j .un []) σ H1 := f1.take (f := f) e3 rfl
        have f3 : Fits κ ((γ1.put j .un []).fz H1 f) σ H1 := f2.fz (take_out f1 e5) hF
        have f4 : Fits κ (((γ1.put j .un []).fz H1 f).put j (.fz d) []) σ H1 := f3.take (f := []) e3 ⟨⟨x, rfl, rp⟩, rfl⟩
        have eenv : (((γ1.put j .un []).fz H1 f).put j (.fz d) []).env = γ1.env.set j (.fz d) := by
          show (γ1.env.set j .un).set j (.fz d) = _
          rw [List.set_set]
        have hP : ∀ a ∈ (((γ1.put j .un []).fz H1 f).put j (.fz d) []).P, a ∈ γ1.P := fun a ha => by
          rcases Gst.put_P _ ha with z | z
          · simp at z
          · rcases Gst.put_P γ1 (s := .un) z with y | y
            · simp at y
            · exact y
        have r3 : Reach false A γ1 H1 (((γ1.put j .un []).fz H1 f).put j (.fz d) []) H1 := {
          g := rfl
          f := le_frz hF
          keep := fun _ _ h _ => h
          mono := fun _ h => h
          newF := fun a h => by
            by_cases z : a ∈ f
            · exact .inr (.inl (hA a (fps_mem e5 z)))
            · exact .inl fun y => h ((frz_out z).trans y)
          newP := fun a h => .inl (hA a (hP a h))
          mus := fun l h => by
            rw [eenv]
            exact Mu.set h fun z => ow_not_mu e1 (by rw [z]; exact h)
          lks := fun l u h hk => by
            rw [eenv]
            exact Lk.set h fun z => ow_not_lk e1 ⟨u, by rw [z]; exact h, hk⟩
          pure := fun z => by cases z }
        have := key _ (.fz d) f4 (by rw [eenv]; exact hfree) [] ⟨⟨x, rfl, rp⟩, rfl⟩ (by simp) (by simp) (by simp) (by simp) r3 fun a ha => hA a (hP a ha)
        rw [eenv] at this
        exact this
      · cases hs
    all_goals (subst z; simp only [slotOf, e1] at hs; cases hs)
theorem tS_set {m : ME} {i : Nat} (h : tS κ XT W (mSet i m) D σ H) : tAsg (tM κ XT W p m) (gName i) D σ H := by
  refine tS_then h fun γ H γ1 H1 v x fp f1 r1 hl hn c => ?_
  cases hs : setSlot i v γ1.env with
  | none => simp only [hs] at c; exact c.elim
  | some e' =>
    simp only [hs] at c
    obtain ⟨γ2, ee, f2, r2, pn⟩ := set_ok (A := γ1.P ++ fp) f1 hl (fun a h => List.mem_append_left _ h) (fun a h => List.mem_append_right _ h) hs
    refine c γ2 _ H1 ⟨ee, f2, ((r1.weak (q := false) fun z => by cases z).trans r2 (fun a ha => (List.mem_append.mp ha).elim (r1.newP a) (hn a)) fun z => by cases z).weak (fun z => by cases z), fun j hj => pn j (hj.imp (r1.mus j) fun ⟨u, hu, hk⟩ => ⟨u, r1.lks j u hu hk, hk⟩)⟩
end
end Py

set_option Elab.async false
set_option linter.all false
set_option maxRecDepth 100000
set_option maxHeartbeats 1000000
/-! PyF: what a value shows; names, constants, tests, if, and, or, not. -/
namespace Py
open PySem L2
section
variable {κ : Kx} {XT : Nat → Option (Value × List Str)} {p q : Bool} {A B : List Addr} {γ γ1 γ2 : Gst} {σ σ1 σ2 : St} {F F' G H H1 H2 : Hp} {W : WX} {Ds : Ends} {X : Cx} {v : Val} {x : V} {fp : List Addr}
/-- whatever the tag: the data stand in the heap -/
theorem VRep.rep (ft : Fits κ γ σ H) (h : VRep κ γ σ H v x fp) : Rep κ H v.d x := by
  obtain ⟨t, d⟩ := v
  cases t with
  | f => exact h.1.mono ft.lf
  | g k => exact h.1.elim fun q z => Lay.rep ft.lf k d x q (fun a _ o e => ft.lg a o e) z
  | b k => exact h.1.elim fun q z => Lay.rep ft.lf k d x q (fun a _ o e => e) z.1
  | o k => exact Lay.rep ft.lf k d x fp (fun a _ o e => e) h
  | s i k =>
    obtain ⟨⟨sl, e1, e2, e3⟩, _⟩ := h
    obtain ⟨b, f, e4, e5, e6⟩ := ft.slot e1
    rw [e3] at e4
    cases e4
    dsimp only at e2
    rcases own_of e2 with z | z | z | z <;> subst z <;> (obtain ⟨x', ex, e7⟩ := e6; cases ex; exact Lay.rep ft.lf k d x f (fun a _ o e => e) e7)
theorem VRep.atom (ft : Fits κ γ σ H) (h : VRep κ γ σ H v x fp) (ha : isAtom v.d = true) : x = atomV v.d := (rep_atom ha).mp (h.rep ft)
theorem vrep_atom {d : D} (ha : isAtom d = true) : VRep κ γ σ H ⟨.f, d⟩ (atomV d) [] := ⟨(rep_atom ha).mpr rfl, rfl⟩
theorem held_atom (ft : Fits κ γ σ H) {d : D} (ha : isAtom d = true) : Held κ γ σ H [⟨.f, d⟩] [atomV d] [[]] := Held.mk1 (vrep_atom ha) (by simp) (by simp) ft (by simp)
/-- an operation that hands on an atom, the heap as it was -/
def opA (op : List Val → Option D) : Op := fun vs e => (op vs).map fun d => (⟨.f, d⟩, e)
theorem OpS.atom {r : List V → Hp → VK → Prop} {op : List Val → Option D}
    (h : ∀ (γ : Gst) (σ : St) (H : Hp) (vs : List Val) (xs : List V) (fps : List (List Addr)) (d : D) (Q : VK), Fits κ γ σ H → Tri (VRep κ γ σ H) vs xs fps → op vs = some d → isAtom d = true ∧ (Q (atomV d) H → r xs H Q)) : OpS κ r (opA op) :=
  fun γ σ H vs xs fps v e' Q ft hl ho k => by
    unfold opA at ho
    cases hd : op vs with
    | none => rw [hd] at ho; cases ho
    | some d =>
      rw [hd] at ho
      cases ho
      obtain ⟨ha, hr⟩ := h γ σ H vs xs fps d Q ft hl.tri hd
      exact hr (k γ H (atomV d) [] rfl ft (Reach.refl fun a h => List.mem_append_left _ h) (held_atom ft ha) (by simp))
/-- a constant -/
def mC (d : D) : ME := fun env => .ok ⟨.f, d⟩ env
theorem tM_C {d : D} (ha : isAtom d = true) {Q : VK} (h : tM κ XT W p (mC d) σ H Q) : tC (atomV d) σ H Q := by
  obtain ⟨γ, ft, c⟩ := h
  exact c γ H [atomV d] [[]] rfl ft (Reach.refl fun _ h => h) (held_atom ft ha) ⟨by simp, by simp⟩ _ rfl
/-- a name -/
def mV (i : Nat) : ME := fun env => match env[i]? with
  | some (.fz d) => .ok ⟨.f, d⟩ env
  | some (.bo k d) => .ok ⟨.g k, d⟩ env
  | some (.ow k d) | some (.mu k d) | some (.lk k d) | some (.lm k d) => .ok ⟨.s i k, d⟩ env
  | _ => .no
theorem tM_V {i : Nat} {Q : VK} (h : tM κ XT W p (mV i) σ H Q) : tVar i σ H Q := by
  obtain ⟨γ, ft, c⟩ := h
  have fin : ∀ (v : Val) (x : V), σ[i]? = some (some x) → VRep κ γ σ H v x [] → mV i γ.env = .ok v γ.env → tVar i σ H Q := fun v x e r hm => by
    rw [hm] at c
    exact ⟨x, e, c γ H [x] [[]] rfl ft (Reach.refl fun _ h => h) (Held.mk1 r (by simp) (by simp) ft (by simp)) ⟨by simp, by simp⟩ _ rfl⟩
  cases e : γ.env[i]? with
  | none => simp only [mV, e] at c; exact c.elim
  | some s =>
    obtain ⟨b, f, e4, e5, e6⟩ := ft.slot e
    cases s with
    | un => simp only [mV, e] at c; exact c.elim
    | xn a b => simp only [mV, e] at c; exact c.elim
    | fz d =>
      obtain ⟨⟨x, rfl, e7⟩, _⟩ := e6
      exact fin ⟨.f, d⟩ x e4 ⟨e7, rfl⟩ (by simp only [mV, e])
    | bo k d =>
      obtain ⟨⟨x, q, rfl, e7⟩, _⟩ := e6
      exact fin ⟨.g k, d⟩ x e4 ⟨⟨q, e7⟩, rfl⟩ (by simp only [mV, e])
    | ow k d => obtain ⟨x, rfl, e7⟩ := e6; exact fin ⟨.s i k, d⟩ x e4 ⟨⟨_, e, rfl, e4⟩, rfl⟩ (by simp only [mV, e])
    | mu k d => obtain ⟨x, rfl, e7⟩ := e6; exact fin ⟨.s i k, d⟩ x e4 ⟨⟨_, e, rfl, e4⟩, rfl⟩ (by simp only [mV, e])
    | lk k d => obtain ⟨x, rfl, e7⟩ := e6; exact fin ⟨.s i k, d⟩ x e4 ⟨⟨_, e, rfl, e4⟩, rfl⟩ (by simp only [mV, e])
    | lm k d => obtain ⟨x, rfl, e7⟩ := e6; exact fin ⟨.s i k, d⟩ x e4 ⟨⟨_, e, rfl, e4⟩, rfl⟩ (by simp only [mV, e])
/-! ### tests -/
def tT (κ : Kx) (XT : Nat → Option (Value × List Str)) (W : WX) (p : Bool) (m : ME) : TT := fun σ H Q => tM κ XT W p m σ H fun x H' => ∃ b, x = .bl b ∧ Q b H'
/-- an expression whose value is a bool -/
def mBool (m : ME) : ME := fun env => (m env).bind fun v e => match v.d with
  | .bl b => .ok ⟨.f, .bl b⟩ e
  | _ => .no
/-- from m's value to what comes of it: an expression goes on -/
theorem tM_bind {m : ME} {k : Val → Env → R Val} {Q : VK} {K : V → Hp → Prop} (h : tM κ XT W (p && q) (fun env => (m env).bind k) σ H Q)
    (hk : ∀ (γ : Gst) (H : Hp) (γ1 : Gst) (H1 : Hp) v x fp, Fits κ γ σ H → Fits κ γ1 σ H1 → Reach p γ.P γ H γ1 H1 → Held κ γ1 σ H1 [v] [x] [fp] → New p γ.P γ H fp →
      Cont κ XT W (p && q) γ.P γ σ H ((k v γ1.env).map fun v => [v]) (fun xs H' => ∀ x, xs = [x] → Q x H') → K x H1) : tM κ XT W p m σ H K := by
  obtain ⟨γ, ft, c⟩ := h
  refine ⟨γ, ft, ?_⟩
  cases hm : m γ.env with
  | no => simp only [hm, R.bind, R.map] at c; exact c
  | ex cc fs e => simp only [hm, R.bind, R.map] at c; exact c
  | ok v e =>
    simp only [hm, R.bind] at c
    intro γ1 H1 xs fps e1 f1 r1 hl hn x ex
    subst ex
    cases hl.tri with
    | @cons _ _ fp _ _ _ hv tl =>
      cases tl
      exact hk γ H γ1 H1 v x fp ft f1 r1 hl (by simpa using hn) (by rw [e1]; exact c)
theorem Cont.step {Q : List V → Hp → Prop} {r : R (List Val)} (ft : Fits κ γ σ H) (r1 : Reach p γ.P γ H γ1 H1) (h : Cont κ XT W (p && q) γ.P γ σ H r Q) : Cont κ XT W q γ1.P γ1 σ H1 r Q := by
  cases r with
  | ok vs e =>
    refine fun γ2 H2 xs fps a b c d f => h γ2 H2 xs fps a b (r1.trans c r1.newP fun _ a h => .inl h) d ⟨fun y hy => (f.1 y hy).elim (r1.newP y) fun z => .inr (r1.mono y z), fun hpq y hy hP => ?_⟩
    obtain ⟨hp, hq'⟩ := Bool.and_eq_true_iff.mp hpq
    rcases f.1 y hy with w | w
    · exact f.2 hq' y hy w
    · exact (ft.fr y hP).2.2 (r1.mono y w)
  | ex cc fs e => exact fun γ2 H2 cls d a b c x => h γ2 H2 cls d a b ((r1.trans c r1.newP fun _ a h => .inl h).weak (fun z => by cases z)) x
  | no => exact h
/-- the continuation runs the next expression -/
theorem Cont.run {m : ME} {Q : VK} (ft : Fits κ γ σ H) (f1 : Fits κ γ1 σ H1) (r1 : Reach p γ.P γ H γ1 H1) (h : Cont κ XT W (p && q) γ.P γ σ H ((m γ1.env).map fun v => [v]) (fun xs H' => ∀ x, xs = [x] → Q x H')) : tM κ XT W q m σ H1 Q :=
  ⟨γ1, f1, Cont.step ft r1 h⟩
/-- it ends with an atom -/
theorem Cont.fin {d : D} {Q : VK} (ha : isAtom d = true) (f1 : Fits κ γ1 σ H1) (r1 : Reach p γ.P γ H γ1 H1) (h : Cont κ XT W p γ.P γ σ H (.ok [⟨.f, d⟩] γ1.env) (fun xs H' => ∀ x, xs = [x] → Q x H')) : Q (atomV d) H1 :=
  h γ1 H1 [atomV d] [[]] rfl f1 r1 (held_atom f1 ha) ⟨by simp, by simp⟩ _ rfl
theorem tT_bool {m : ME} {Q : Bool → Hp → Prop} (h : tT κ XT W p (mBool m) σ H Q) : tB (tM κ XT W p m) σ H Q := by
  refine tM_bind (q := true) (by rw [Bool.and_true]; exact h) fun γ H γ1 H1 v x fp ft f1 r1 hl hn c => ?_
  rw [Bool.and_true] at c
  obtain ⟨t, d⟩ := v
  cases d with
  | bl b =>
    have ex : x = .bl b := hl.one.atom f1 rfl
    obtain ⟨b', e, q⟩ := Cont.fin (d := .bl b) rfl f1 r1 c
    cases e
    exact ⟨b, ex, q⟩
  | _ => exact c.elim
def mNot (m : ME) : ME := fun env => (m env).bind fun v e => match v.d with
  | .bl b => .ok ⟨.f, .bl (!b)⟩ e
  | _ => .no
def mIfE (c a b : ME) : ME := fun env => (c env).bind fun v e => match v.d with
  | .bl true => a e
  | .bl false => b e
  | _ => .no
def mAnd (a b : ME) : ME := mIfE a b (mC (.bl false))
def mOr (a b : ME) : ME := mIfE a (mC (.bl true)) b
def mIf (c : ME) (a b : MS) : MS := mThen c fun v e => match v.d with
  | .bl true => a e
  | .bl false => b e
  | _ => .no
theorem tT_not {m : ME} {Q : Bool → Hp → Prop} (h : tT κ XT W p (mNot m) σ H Q) : tNot (tT κ XT W p m) σ H Q := by
  refine tM_bind (q := true) (by rw [Bool.and_true]; exact h) fun γ H γ1 H1 v x fp ft f1 r1 hl hn c => ?_
  rw [Bool.and_true] at c
  obtain ⟨t, d⟩ := v
  cases d with
  | bl b =>
    have ex : x = .bl b := hl.one.atom f1 rfl
    obtain ⟨b', e, q⟩ := Cont.fin (d := .bl (!b)) rfl f1 r1 c
    cases e
    exact ⟨b, ex, q⟩
  | _ => exact c.elim
theorem tM_not {m : ME} {Q : VK} (h : tM κ XT W p (mNot m) σ H Q) : tNotV (tM κ XT W p m) σ H Q := by
  refine tM_bind (q := true) (by rw [Bool.and_true]; exact h) fun γ H γ1 H1 v x fp ft f1 r1 hl hn c => ?_
  rw [Bool.and_true] at c
  obtain ⟨t, d⟩ := v
  cases d with
  | bl b => exact ⟨b, hl.one.atom f1 rfl, Cont.fin (d := .bl (!b)) rfl f1 r1 c⟩
  | _ => exact c.elim
theorem tM_ifE {c a b : ME} {Q : VK} (h : tM κ XT W (p && q) (mIfE c a b) σ H Q) : tIf (tT κ XT W p c) (tM κ XT W q a) (tM κ XT W q b) σ H Q := by
  refine tM_bind h fun γ H γ1 H1 v x fp ft f1 r1 hl hn k => ?_
  obtain ⟨t, d⟩ := v
  cases d with
  | bl b =>
    refine ⟨b, hl.one.atom f1 rfl, ?_⟩
    cases b with
    | true => rw [if_pos rfl]; exact Cont.run ft f1 r1 k
    | false => rw [if_neg Bool.false_ne_true]; exact Cont.run ft f1 r1 k
  | _ => exact k.elim
theorem tM_and {a b : ME} {Q : VK} (h : tM κ XT W (p && q) (mAnd a b) σ H Q) : tAndV (tM κ XT W p a) (tM κ XT W q b) σ H Q := by
  refine tM_bind h fun γ H γ1 H1 v x fp ft f1 r1 hl hn k => ?_
  obtain ⟨t, d⟩ := v
  cases d with
  | bl b =>
    refine ⟨b, hl.one.atom f1 rfl, ?_⟩
    cases b with
    | true => rw [if_pos rfl]; exact Cont.run ft f1 r1 k
    | false => rw [if_neg Bool.false_ne_true]; exact tM_C (d := .bl false) rfl (Cont.run ft f1 r1 k)
  | _ => exact k.elim
theorem tM_or {a b : ME} {Q : VK} (h : tM κ XT W (p && q) (mOr a b) σ H Q) : tOrV (tM κ XT W p a) (tM κ XT W q b) σ H Q := by
  refine tM_bind h fun γ H γ1 H1 v x fp ft f1 r1 hl hn k => ?_
  obtain ⟨t, d⟩ := v
  cases d with
  | bl b =>
    refine ⟨b, hl.one.atom f1 rfl, ?_⟩
    cases b with
    | true => rw [if_pos rfl]; exact tM_C (d := .bl true) rfl (Cont.run ft f1 r1 k)
    | false => rw [if_neg Bool.false_ne_true]; exact Cont.run ft f1 r1 k
  | _ => exact k.elim
theorem tT_and {a b : ME} {Q : Bool → Hp → Prop} (h : tT κ XT W (p && q) (mAnd a b) σ H Q) : tAnd (tT κ XT W p a) (tT κ XT W q b) σ H Q := by
  refine tM_bind h fun γ H γ1 H1 v x fp ft f1 r1 hl hn k => ?_
  obtain ⟨t, d⟩ := v
  cases d with
  | bl b =>
    refine ⟨b, hl.one.atom f1 rfl, ?_⟩
    cases b with
    | true => rw [if_pos rfl]; exact Cont.run ft f1 r1 k
    | false =>
      rw [if_neg Bool.false_ne_true]
      obtain ⟨b', e, z⟩ := tM_C (d := .bl false) rfl (Cont.run ft f1 r1 k)
      cases e
      exact z
  | _ => exact k.elim
theorem tT_or {a b : ME} {Q : Bool → Hp → Prop} (h : tT κ XT W (p && q) (mOr a b) σ H Q) : tOr (tT κ XT W p a) (tT κ XT W q b) σ H Q := by
  refine tM_bind h fun γ H γ1 H1 v x fp ft f1 r1 hl hn k => ?_
  obtain ⟨t, d⟩ := v
  cases d with
  | bl b =>
    refine ⟨b, hl.one.atom f1 rfl, ?_⟩
    cases b with
    | true =>
      rw [if_pos rfl]
      obtain ⟨b', e, z⟩ := tM_C (d := .bl true) rfl (Cont.run ft f1 r1 k)
      cases e
      exact z
    | false => rw [if_neg Bool.false_ne_true]; exact Cont.run ft f1 r1 k
  | _ => exact k.elim
theorem tS_if {c : ME} {a b : MS} (h : tS κ XT W (mIf c a b) Ds σ H) : tIfS (tT κ XT W p c) (tS κ XT W a) (tS κ XT W b) Ds σ H := by
  refine tS_then h fun γ H γ1 H1 v x fp f1 r1 hl hn k => ?_
  have go : Got κ γ.P γ σ H γ1.env γ1 σ H1 := ⟨rfl, f1, r1.weak (fun z => by cases z), fun _ _ => rfl⟩
  obtain ⟨t, d⟩ := v
  cases d with
  | bl b =>
    refine ⟨b, hl.one.atom f1 rfl, ?_⟩
    cases b with
    | true => rw [if_pos rfl]; exact tS.at go k
    | false => rw [if_neg Bool.false_ne_true]; exact tS.at go k
  | _ => exact k.elim
end
end Py

set_option Elab.async false
set_option linter.all false
set_option maxRecDepth 100000
set_option maxHeartbeats 1000000
/-! PyG: values that become part of something: frozen. Displays. Numbers. -/
namespace Py
open PySem L2
/-- things that never change -/
def solid : D → Bool
  | .lst _ | .dic _ _ | .obj _ _ => false
  | _ => true
def mkV (t : T) (d : D) : Val := if solid d = true then ⟨.f, d⟩ else ⟨t, d⟩
def frzV : Val → Env → Option (D × Env)
  | ⟨.f, d⟩, e => some (d, e)
  | ⟨.o _, d⟩, e => some (d, e)
  | ⟨.s i _, _⟩, e => (match e[i]? with
    | some (.ow _ d) => some (d, e.set i (.fz d))
    | some (.fz d) => some (d, e)
    | _ => none)
  | _, _ => none
def frzAll : List Val → Env → Option (List D × Env)
  | [], e => some ([], e)
  | v :: vs, e => (match frzV v e with
    | some (d, e1) => (match frzAll vs e1 with
      | some (ds, e2) => some (d :: ds, e2)
      | none => none)
    | none => none)
section
variable {κ : Kx} {XT : Nat → Option (Value × List Str)} {p q : Bool} {A B : List Addr} {γ γ1 γ2 : Gst} {σ σ1 σ2 : St} {F F' G H H1 H2 : Hp} {W : WX} {Ds : Ends} {X : Cx} {v : Val} {x : V} {fp : List Addr}
/-- what of a value stays when others are frozen -/
def VR0 (κ : Kx) (F : Hp) (σ : St) (H : Hp) (v : Val) (x : V) (fp : List Addr) : Prop := match v.t with
  | .f => Rep κ F v.d x ∧ fp = []
  | .o k => Lay κ F H k v.d x fp
  | .s i _ => σ[i]? = some (some x) ∧ fp = []
  | _ => True
theorem VRep.to0 (h : VRep κ γ σ H v x fp) : VR0 κ γ.F σ H v x fp := by
  obtain ⟨t, d⟩ := v
  cases t with
  | f => exact h
  | o k => exact h
  | s i k => exact ⟨h.1.elim fun sl z => z.2.2, h.2⟩
  | g k => exact True.intro
  | b k => exact True.intro
theorem VR0.mono (hF : Le F F') (h : VR0 κ F σ H v x fp) : VR0 κ F' σ H v x fp := by
  obtain ⟨t, d⟩ := v
  cases t with
  | f => exact ⟨h.1.mono hF, h.2⟩
  | o k => exact Lay.mono hF k d x fp (fun _ _ _ y => y) h
  | s i k => exact h
  | g k => exact True.intro
  | b k => exact True.intro
/-- own slot j becomes frozen -/
theorem freeze_slot {j : Nat} {k : Sh} {d : D} (f1 : Fits κ γ1 σ H1) (e1 : γ1.env[j]? = some (.ow k d)) (hA : ∀ a ∈ γ1.P, a ∈ A) :
    ∃ γ2 x, γ2.env = γ1.env.set j (.fz d) ∧ Fits κ γ2 σ H1 ∧ Reach true A γ1 H1 γ2 H1 ∧ (∀ a ∈ γ2.P, a ∈ γ1.P) ∧ σ[j]? = some (some x) ∧ Rep κ γ2.F d x ∧ (∀ a, γ2.F a ≠ none → γ1.F a ≠ none ∨ a ∈ γ1.P) := by
  obtain ⟨b, f, e4, e5, x, rfl, e7⟩ := f1.slot e1
  have hF : ∀ a ∈ f, γ1.F a = none := fun a ha => (f1.fr a (fps_mem e5 ha)).1
  have rp : Rep κ (frz γ1.F H1 f) d x := e7.freeze hF
  have f2 : Fits κ (γ1.put j .un []) σ H1 := f1.take (f := f) e4 rfl
  have f3 : Fits κ ((γ1.put j .un []).fz H1 f) σ H1 := f2.fz (take_out f1 e5) hF
  have f4 : Fits κ (((γ1.put j .un []).fz H1 f).put j (.fz d) []) σ H1 := f3.take (f := []) e4 ⟨⟨x, rfl, rp⟩, rfl⟩
  have eenv : (((γ1.put j .un []).fz H1 f).put j (.fz d) []).env = γ1.env.set j (.fz d) := by
    show (γ1.env.set j .un).set j (.fz d) = _
    rw [List.set_set]
  have efps : (((γ1.put j .un []).fz H1 f).put j (.fz d) []).fps = γ1.fps.set j [] := by
    show (γ1.fps.set j []).set j [] = _
    rw [List.set_set]
  have hP : ∀ a ∈ (((γ1.put j .un []).fz H1 f).put j (.fz d) []).P, a ∈ γ1.P := fun a ha => by
    rcases Gst.put_P _ ha with z | z
    · simp at z
    · rcases Gst.put_P γ1 (s := .un) z with y | y
      · simp at y
      · exact y
  have hN : ∀ a, (((γ1.put j .un []).fz H1 f).put j (.fz d) []).F a ≠ none → γ1.F a ≠ none ∨ a ∈ γ1.P := fun a h => by
    by_cases z : a ∈ f
    · exact .inr (fps_mem e5 z)
    · exact .inl fun y => h ((frz_out z).trans y)
  refine ⟨_, x, eenv, f4, ?_, hP, e4, rp, hN⟩
  exact {
    g := rfl
    f := le_frz hF
    keep := fun _ _ h _ => h
    mono := fun _ h => h
    newF := fun a h => (hN a h).imp id fun z => .inl (hA a z)
    newP := fun a h => .inl (hA a (hP a h))
    mus := fun l h => by
      rw [eenv]
      exact Mu.set h fun z => ow_not_mu e1 (by rw [z]; exact h)
    lks := fun l u h hk => by
      rw [eenv]
      exact Lk.set h fun z => ow_not_lk e1 ⟨u, by rw [z]; exact h, hk⟩
    pure := fun _ => ⟨fun _ _ h _ => h, fun a ha => by
      by_cases z : a ∈ f
      · exact .inr fun y => (f1.fr a (fps_mem e5 z)).2.2 ((frz_in z).symm.trans y)
      · left
        show a ∈ (((γ1.put j .un []).fz H1 f).put j (.fz d) []).fps.flatten
        rw [efps]
        obtain ⟨g, hg, hag⟩ := List.mem_flatten.mp ha
        obtain ⟨l, hl⟩ := List.getElem?_of_mem hg
        have hne : j ≠ l := fun y => by
          subst y
          rw [e5] at hl
          cases hl
          exact z hag
        exact mem_flat (List.mem_of_getElem? (i := l) (by rw [get_set_ne hne]; exact hl)) hag⟩ }
theorem frz_all : ∀ {vs : List Val} {xs : List V} {fps : List (List Addr)} {γ : Gst} {ds : List D} {e' : Env}, Fits κ γ σ H → Tri (VR0 κ γ.F σ H) vs xs fps → (γ.P ++ fps.flatten).Nodup → (∀ a ∈ fps.flatten, γ.F a = none) →
    frzAll vs γ.env = some (ds, e') → (∀ a ∈ γ.P, a ∈ A) → (∀ a ∈ fps.flatten, a ∈ A) →
    ∃ γ', γ'.env = e' ∧ Fits κ γ' σ H ∧ Reach true A γ H γ' H ∧ Paired (Rep κ γ'.F) ds xs ∧ (∀ a ∈ γ'.P, a ∈ γ.P)
  | [], _, _, γ, ds, e', ft, .nil, _, _, hz, hA, _ => by
    cases hz
    exact ⟨γ, rfl, ft, Reach.refl hA, .nil, fun _ h => h⟩
  | v :: vs, _, _, γ, ds, e', ft, @Tri.cons _ _ _ _ _ x fp _ xs fps hv tl, nd, hF, hz, hA, hB => by
    rw [List.flatten_cons] at nd hF hB
    obtain ⟨n1, n2, n3⟩ := nodup_split nd
    obtain ⟨m1, m2, m3⟩ := nodup_split n2
    simp only [frzAll] at hz
    cases h1 : frzV v γ.env with
    | none => rw [h1] at hz; cases hz
    | some de =>
      obtain ⟨d, e1⟩ := de
      simp only [h1] at hz
      cases h2 : frzAll vs e1 with
      | none => rw [h2] at hz; cases hz
      | some dse =>
        obtain ⟨ds2, e2⟩ := dse
        simp only [h2] at hz
        cases hz
        -- the head's step
        have key : ∃ γ1, γ1.env = e1 ∧ Fits κ γ1 σ H ∧ Reach true A γ H γ1 H ∧ Rep κ γ1.F d x ∧ (∀ a ∈ γ1.P, a ∈ γ.P) ∧ (∀ a ∈ fps.flatten, γ1.F a = none) := by
          obtain ⟨t, dd⟩ := v
          cases t with
          | f =>
            cases h1
            exact ⟨γ, rfl, ft, Reach.refl hA, hv.1, fun _ h => h, fun a ha => hF a (List.mem_append_right _ ha)⟩
          | o k =>
            cases h1
            have hf1 : ∀ a ∈ fp, γ.F a = none := fun a ha => hF a (List.mem_append_left _ ha)
            refine ⟨γ.fz H fp, rfl, ft.fz (fun a ha hp => n3 a hp (List.mem_append_left _ ha)) hf1, Reach.fz hA (fun a ha => hB a (List.mem_append_left _ ha)) hf1, ?_, fun _ h => h, fun a ha => ?_⟩
            · exact Lay.freeze (k := k) hf1 hv
            · exact (frz_out fun z => m3 a z ha).trans (hF a (List.mem_append_right _ ha))
          | s i k =>
            have hx : σ[i]? = some (some x) := hv.1
            simp only [frzV] at h1
            cases es : γ.env[i]? with
            | none => rw [es] at h1; cases h1
            | some s2 =>
              rw [es] at h1
              cases s2 with
              | ow k2 d2 =>
                cases h1
                obtain ⟨γ2, x2, q1, q2, q3, q4, q5, q6, q7⟩ := freeze_slot ft es hA
                rw [hx] at q5
                cases q5
                refine ⟨γ2, q1, q2, q3, q6, q4, fun a ha => ?_⟩
                cases e : γ2.F a with
                | none => rfl
                | some o => exact ((q7 a (by rw [e]; intro z; cases z)).elim (fun z => absurd (hF a (List.mem_append_right _ ha)) z) fun z => absurd (List.mem_append_right _ ha) (n3 a z))
              | fz d2 =>
                cases h1
                obtain ⟨b, f, e4, e5, ⟨x', ex, e7⟩, _⟩ := ft.slot es
                subst ex
                rw [hx] at e4
                cases e4
                exact ⟨γ, rfl, ft, Reach.refl hA, e7, fun _ h => h, fun a ha => hF a (List.mem_append_right _ ha)⟩
              | _ => cases h1
          | g k => cases h1
          | b k => cases h1
        obtain ⟨γ1, q1, q2, q3, q4, q5, q6⟩ := key
        subst q1
        have nd1 : (γ1.P ++ fps.flatten).Nodup := nodup_app q2.nd m2 fun a ha hb => n3 a (q5 a ha) (List.mem_append_right _ hb)
        obtain ⟨γ', w1, w2, w3, w4, w5⟩ := frz_all q2 (tl.imp fun v x f _ e => e.mono q3.f) nd1 q6 h2 (fun a ha => hA a (q5 a ha)) fun a ha => hB a (List.mem_append_right _ ha)
        exact ⟨γ', w1, w2, (q3.more w3 (Le.refl _)).weak (fun z => by rw [z]; rfl), .cons (q4.mono w3.f) w4, fun a ha => q5 a (w5 a ha)⟩
theorem Held.frz {vs : List Val} {xs : List V} {fps : List (List Addr)} {ds : List D} {e' : Env} (ft : Fits κ γ σ H) (hl : Held κ γ σ H vs xs fps) (hz : frzAll vs γ.env = some (ds, e')) :
    ∃ γ', γ'.env = e' ∧ Fits κ γ' σ H ∧ Reach true (γ.P ++ fps.flatten) γ H γ' H ∧ Paired (Rep κ γ'.F) ds xs ∧ (∀ a ∈ γ'.P, a ∈ γ.P) :=
  frz_all ft (hl.tri.imp fun v x f _ e => e.to0) hl.nd (fun a ha => (hl.fr a ha).1) hz (fun a ha => List.mem_append_left _ ha) fun a ha => List.mem_append_right _ ha
/-! ### new objects -/
theorem Le.upd {a : Addr} {o : HO} (h : H a = none) : Le H (upd H a o) := fun b u e => by rw [upd_ne (ne_of_none e h)]; exact e
theorem Fits.heap (ft : Fits κ γ σ H) (h : Le H H1) : Fits κ γ σ H1 where
  lf := ft.lf.trans h
  lg := ft.lg.trans h
  nd := ft.nd
  fr := fun a ha => ⟨(ft.fr a ha).1, (ft.fr a ha).2.1, fun z => by
    cases e : H a with
    | none => exact (ft.fr a ha).2.2 e
    | some o => rw [h a o e] at z; cases z⟩
  sl := ft.sl.imp fun s b f _ e => by
    cases s with
    | un => exact e
    | xn c fs => exact e
    | fz d => exact e
    | bo k d => exact e
    | ow k d => exact e.elim fun x z => ⟨x, z.1, Lay.mono (Le.refl _) k d x f (fun a _ o y => h a o y) z.2⟩
    | mu k d => exact e.elim fun x z => ⟨x, z.1, Lay.mono (Le.refl _) k d x f (fun a _ o y => h a o y) z.2⟩
    | lk k d => exact e.elim fun x z => ⟨x, z.1, Lay.mono (Le.refl _) k d x f (fun a _ o y => h a o y) z.2⟩
    | lm k d => exact e.elim fun x z => ⟨x, z.1, Lay.mono (Le.refl _) k d x f (fun a _ o y => h a o y) z.2⟩
theorem Reach.heap (h : Le H H1) (hA : ∀ a ∈ γ.P, a ∈ A) : Reach p A γ H γ H1 where
  g := rfl
  f := Le.refl _
  keep := fun a o e _ => h a o e
  mono := fun a z => by
    cases e : H a with
    | none => rfl
    | some o => rw [h a o e] at z; cases z
  newF := fun a z => .inl z
  newP := fun a z => .inl (hA a z)
  mus := fun _ h => h
  lks := fun _ _ h _ => h
  pure := fun _ => ⟨fun a o e _ => h a o e, fun _ z => .inl z⟩
theorem lay1 {ds : List D} {xs : List V} (h : Paired (Rep κ F) ds xs) : ∃ fps : List (List Addr), Tri (Lay κ F H .f) ds xs fps ∧ fps.flatten = [] := by
  induction h with
  | nil => exact ⟨[], .nil, rfl⟩
  | cons a t ih => obtain ⟨fps, h1, h2⟩ := ih; exact ⟨[] :: fps, .cons (layF.mpr ⟨a, rfl⟩) h1, by simpa using h2⟩
theorem rep_pair {ds : List D} {xs : List V} (h : Paired (Rep κ F) ds xs) : ∃ n, Paired (Fz κ F n) ds xs := by
  induction h with
  | nil => exact ⟨0, .nil⟩
  | cons a t ih =>
    obtain ⟨n, hn⟩ := a
    obtain ⟨m, hm⟩ := ih
    exact ⟨max n m, .cons (Fz.mono (Le.refl _) _ _ _ _ (Nat.le_max_left ..) hn) (L2.Paired.mapP hm fun d v e => Fz.mono (Le.refl _) _ _ _ _ (Nat.le_max_right ..) e)⟩
theorem fresh_notin (ft : Fits κ γ σ H) {a : Addr} (h : H a = none) : a ∉ γ.P ∧ γ.F a = none ∧ γ.G a = none := by
  refine ⟨fun z => (ft.fr a z).2.2 h, ?_, ?_⟩
  · cases e : γ.F a with
    | none => rfl
    | some o => rw [ft.lf a o e] at h; cases h
  · cases e : γ.G a with
    | none => rfl
    | some o => rw [ft.lg a o e] at h; cases h
/-- a new list of frozen things, own -/
theorem new_lst (ft : Fits κ γ σ H) {ds : List D} {xs : List V} (h : Paired (Rep κ γ.F) ds xs) {a : Addr} (ha : H a = none) (hA : ∀ b ∈ γ.P, b ∈ A) :
    Fits κ γ σ (upd H a (.lst xs)) ∧ Reach true A γ H γ (upd H a (.lst xs)) ∧ Held κ γ σ (upd H a (.lst xs)) [⟨.o (.l .f), .lst ds⟩] [.ref a] [[a]] := by
  have le : Le H (upd H a (.lst xs)) := Le.upd ha
  obtain ⟨n1, n2, n3⟩ := fresh_notin ft ha
  have ft2 := ft.heap le
  obtain ⟨fps, t1, t2⟩ := lay1 (H := upd H a (.lst xs)) h
  exact ⟨ft2, Reach.heap le hA, Held.mk1 ⟨a, xs, fps, rfl, upd_same, t1, by rw [t2]⟩ (by simp) (by simpa using n1) ft2 (by simpa using ⟨n2, n3, by rw [upd_same]; simp⟩)⟩
/-- a new frozen object -/
def Gst.add (γ : Gst) (a : Addr) (o : HO) : Gst := { γ with F := upd γ.F a o }
theorem Fits.add (ft : Fits κ γ σ H) {a : Addr} {o : HO} (ha : H a = none) : Fits κ (γ.add a o) σ (upd H a o) := by
  obtain ⟨n1, n2, n3⟩ := fresh_notin ft ha
  have f2 := ft.heap (Le.upd (o := o) ha)
  exact {
    lf := fun b u e => by
      by_cases z : b = a
      · subst z
        have e' : upd γ.F b o b = some u := e
        rw [upd_same] at e'
        rw [upd_same]
        exact e'
      · have e' : upd γ.F a o b = some u := e
        rw [upd_ne z] at e'
        rw [upd_ne z]
        exact ft.lf b u e'
    lg := f2.lg
    nd := ft.nd
    fr := fun b hb => ⟨(upd_ne (fun z => n1 (by rw [← z]; exact hb))).trans (ft.fr b hb).1, (f2.fr b hb).2⟩
    sl := f2.sl.imp fun s b f _ e => e.mono (Le.upd n2) }
theorem Reach.add (ft : Fits κ γ σ H) {a : Addr} {o : HO} (ha : H a = none) (hA : ∀ b ∈ γ.P, b ∈ A) : Reach p A γ H (γ.add a o) (upd H a o) where
  g := rfl
  f := Le.upd (fresh_notin ft ha).2.1
  keep := fun b u e _ => Le.upd ha b u e
  mono := fun b z => by
    by_cases q : b = a
    · rw [q]; exact ha
    · rw [upd_ne q] at z; exact z
  newF := fun b z => by
    by_cases q : b = a
    · exact .inr (.inr (by rw [q]; exact ha))
    · exact .inl fun y => z ((upd_ne q).trans y)
  newP := fun b z => .inl (hA b z)
  mus := fun _ h => h
  lks := fun _ _ h _ => h
  pure := fun _ => ⟨fun b u e _ => Le.upd ha b u e, fun _ z => .inl z⟩
/-- a new tuple -/
theorem new_tup (ft : Fits κ γ σ H) {ds : List D} {xs : List V} (h : Paired (Rep κ γ.F) ds xs) {a : Addr} (ha : H a = none) (hA : ∀ b ∈ γ.P, b ∈ A) :
    Fits κ (γ.add a (.tup xs)) σ (upd H a (.tup xs)) ∧ Reach true A γ H (γ.add a (.tup xs)) (upd H a (.tup xs)) ∧ Held κ (γ.add a (.tup xs)) σ (upd H a (.tup xs)) [⟨.f, .tup ds⟩] [.ref a] [[]] := by
  have f2 := ft.add (o := .tup xs) ha
  obtain ⟨n, hn⟩ := rep_pair h
  have le : Le γ.F (γ.add a (.tup xs)).F := Le.upd (fresh_notin ft ha).2.1
  exact ⟨f2, Reach.add ft ha hA, Held.mk1 ⟨⟨n + 1, a, xs, rfl, .inl (show upd γ.F a (.tup xs) a = _ from upd_same), L2.Paired.mapP hn fun d v e => Fz.mono le _ _ _ _ (Nat.le_refl _) e⟩, rfl⟩ (by simp) (by simp) f2 (by simp)⟩
/-! ### displays -/
def opLst : Op := fun vs e => (frzAll vs e).map fun r => (⟨.o (.l .f), .lst r.1⟩, r.2)
def opTup : Op := fun vs e => (frzAll vs e).map fun r => (⟨.f, .tup r.1⟩, r.2)
def rNewL : List V → Hp → VK → Prop := fun xs H Q => ∀ p, H p = none → Q (.ref p) (upd H p (.lst xs))
def rNewT : List V → Hp → VK → Prop := fun xs H Q => ∀ p, H p = none → Q (.ref p) (upd H p (.tup xs))
theorem ops_lst : OpS κ rNewL opLst := fun γ σ H vs xs fps v e' Q ft hl ho k a ha => by
  unfold opLst at ho
  cases hz : frzAll vs γ.env with
  | none => rw [hz] at ho; cases ho
  | some r =>
    obtain ⟨ds, e2⟩ := r
    rw [hz] at ho
    cases ho
    obtain ⟨γ1, q1, q2, q3, q4, q5⟩ := hl.frz ft hz
    obtain ⟨w1, w2, w3⟩ := new_lst (A := γ.P ++ fps.flatten) q2 q4 ha fun b hb => List.mem_append_left _ (q5 b hb)
    exact k γ1 _ (.ref a) [a] q1 w1 ((q3.more w2 (Le.upd ha)).weak fun _ => rfl) w3 (by simp [ha])
theorem ops_tup : OpS κ rNewT opTup := fun γ σ H vs xs fps v e' Q ft hl ho k a ha => by
  unfold opTup at ho
  cases hz : frzAll vs γ.env with
  | none => rw [hz] at ho; cases ho
  | some r =>
    obtain ⟨ds, e2⟩ := r
    rw [hz] at ho
    cases ho
    obtain ⟨γ1, q1, q2, q3, q4, q5⟩ := hl.frz ft hz
    obtain ⟨w1, w2, w3⟩ := new_tup (A := γ.P ++ fps.flatten) q2 q4 ha fun b hb => List.mem_append_left _ (q5 b hb)
    exact k (γ1.add a (.tup xs)) _ (.ref a) [] q1 w1 ((q3.more w2 (Le.upd ha)).weak fun _ => rfl) w3 (by simp)
end
end Py

set_option Elab.async false
set_option linter.all false
set_option maxRecDepth 100000
set_option maxHeartbeats 1000000
/-! PyH: operators upon values: numbers, lists, comparisons. -/
namespace Py
open PySem L2
/-- the text's classes beside what the context knows -/
abbrev kx (X : Cx) (CT : Cts) : Kx := ⟨X.K, CT⟩
def rOf (r : R2) : List V → Hp → VK → Prop := fun xs H Q => ∃ x y, xs = [x, y] ∧ r x y H Q
def rOr (r s : R2) : R2 := fun x y H Q => r x y H Q ∨ s x y H Q
theorem opr_or {X : Cx} {f : Value → Value → Sem Value} {r s : R2} (h : OpR X f r) (k : OpR X f s) : OpR X f (rOr r s) := fun pins st σ H x y v u Q I rx ry z =>
  z.elim (h pins st σ H x y v u Q I rx ry) (k pins st σ H x y v u Q I rx ry)
section
variable {κ : Kx} {XT : Nat → Option (Value × List Str)} {p q : Bool} {A B : List Addr} {γ γ1 γ2 : Gst} {σ σ1 σ2 : St} {F F' G H H1 H2 : Hp} {W : WX} {Ds : Ends} {X : Cx} {v : Val} {x : V} {fp : List Addr}
theorem tri2 {R : Val → V → List Addr → Prop} {a b : Val} {xs : List V} {fs : List (List Addr)} (t : Tri R [a, b] xs fs) : ∃ x y f g, xs = [x, y] ∧ fs = [f, g] ∧ R a x f ∧ R b y g := by
  cases t with
  | cons h t => cases t with
    | cons h2 t => cases t; exact ⟨_, _, _, _, rfl, rfl, h, h2⟩
theorem tri1 {R : Val → V → List Addr → Prop} {a : Val} {xs : List V} {fs : List (List Addr)} (t : Tri R [a] xs fs) : ∃ x f, xs = [x] ∧ fs = [f] ∧ R a x f := by
  cases t with
  | cons h t => cases t; exact ⟨_, _, rfl, rfl, h⟩
/-! ### two ints -/
def opI2 (f : Int → Int → Option D) : Op := opA fun vs => match vs with
  | [⟨_, .int i⟩, ⟨_, .int j⟩] => f i j
  | _ => none
theorem ops_I2 {C : Int → Int → Prop} {g : Int → Int → V} {f : Int → Int → Option D} (h : ∀ i j d, f i j = some d → C i j ∧ isAtom d = true ∧ g i j = atomV d) : OpS κ (rOf (rI C g)) (opI2 f) := by
  refine OpS.atom fun γ σ H vs xs fps d Q ft tr ho => ?_
  split at ho
  · rename_i t i u j
    obtain ⟨x, y, f1, f2, rfl, rfl, h1, h2⟩ := tri2 tr
    obtain ⟨c, ha, e⟩ := h i j d ho
    refine ⟨ha, fun q => ⟨x, y, rfl, i, j, h1.atom ft rfl, h2.atom ft rfl, c, ?_⟩⟩
    rw [e]
    exact q
  · cases ho
def fSub (i j : Int) : Option D := some (.int (i - j))
def mulOk (i j : Int) : Bool := decide (i.natAbs < 18446744073709551616) || (decide (j.natAbs < 18446744073709551616) || decide (i.natAbs.log2 + j.natAbs.log2 < 1000000))
def CMulA (i j : Int) : Prop := CMul i j ∨ CMulW i j
def fMul (i j : Int) : Option D := if mulOk i j = true then some (.int (i * j)) else none
def divOk (j : Int) : Bool := decide (0 < j) && decide (j.natAbs.log2 < 9000)
def fDiv (i j : Int) : Option D := if divOk j = true then some (.int (i / j)) else none
def fMod (i j : Int) : Option D := if decide (0 < j) = true then some (.int (i % j)) else none
def powOk (i j : Int) : Bool := decide (0 ≤ j) && decide (j ≤ 1000000) && decide (i.natAbs < 2 ^ 64)
def fPow (i j : Int) : Option D := if powOk i j = true then some (.int (i ^ j.toNat)) else none
def fShl (i j : Int) : Option D := if powOk i j = true then some (.int (i * 2 ^ j.toNat)) else none
def fAnd (i j : Int) : Option D := some (.int (Builtin.bitAnd i j))
theorem mulOk_ok {i j : Int} (c : mulOk i j = true) : CMulA i j := by
  unfold mulOk at c
  simp only [Bool.or_eq_true, decide_eq_true_eq] at c
  rcases c with c | c | c
  · exact .inl (.inl ⟨by omega, by omega⟩)
  · exact .inl (.inr ⟨by omega, by omega⟩)
  · exact .inr c
theorem op_mulA {X : Cx} : OpR X (binaryOp .Mult) (rI CMulA fun i j => .int (i * j)) := fun pins s σ H x y v u Q I rx ry ⟨i, j, a, b, c, d⟩ =>
  c.elim (fun c => op_mul pins s σ H x y v u Q I rx ry ⟨i, j, a, b, c, d⟩) fun c => op_mulW pins s σ H x y v u Q I rx ry ⟨i, j, a, b, c, d⟩
theorem ops_mul : OpS κ (rOf (rI CMulA fun i j => .int (i * j))) (opI2 fMul) := ops_I2 fun i j d h => by
  unfold fMul at h
  split at h
  · rename_i c; cases h; exact ⟨mulOk_ok c, rfl, rfl⟩
  · cases h
theorem ops_div : OpS κ (rOf (rI CDivW fun i j => .int (i / j))) (opI2 fDiv) := ops_I2 fun i j d h => by
  unfold fDiv at h
  split at h
  · rename_i c
    cases h
    obtain ⟨c1, c2⟩ := Bool.and_eq_true_iff.mp c
    exact ⟨⟨of_decide_eq_true c1, of_decide_eq_true c2⟩, rfl, rfl⟩
  · cases h
theorem ops_mod : OpS κ (rOf (rI (fun _ j => 0 < j) fun i j => .int (i % j))) (opI2 fMod) := ops_I2 fun i j d h => by
  unfold fMod at h
  split at h
  · rename_i c; cases h; exact ⟨of_decide_eq_true c, rfl, rfl⟩
  · cases h
theorem powOk_ok {i j : Int} (c : powOk i j = true) : CPow i j := by
  obtain ⟨c1, c3⟩ := Bool.and_eq_true_iff.mp c
  obtain ⟨c1, c2⟩ := Bool.and_eq_true_iff.mp c1
  exact ⟨of_decide_eq_true c1, of_decide_eq_true c2, of_decide_eq_true c3⟩
theorem ops_pow : OpS κ (rOf (rI CPow fun i j => .int (i ^ j.toNat))) (opI2 fPow) := ops_I2 fun i j d h => by
  unfold fPow at h
  split at h
  · rename_i c; cases h; exact ⟨powOk_ok c, rfl, rfl⟩
  · cases h
theorem ops_shl : OpS κ (rOf (rI CPow fun i j => .int (i * 2 ^ j.toNat))) (opI2 fShl) := ops_I2 fun i j d h => by
  unfold fShl at h
  split at h
  · rename_i c; cases h; exact ⟨powOk_ok c, rfl, rfl⟩
  · cases h
theorem rI_0 {g : Int → Int → V} {x y : V} {Q : VK} (h : rI (fun _ _ => True) g x y H Q) : rI0 g x y H Q := by
  obtain ⟨i, j, a, b, _, c⟩ := h
  exact ⟨i, j, a, b, c⟩
theorem OpS.imp {r s : List V → Hp → VK → Prop} {op : Op} (h : OpS κ r op) (k : ∀ xs H Q, r xs H Q → s xs H Q) : OpS κ s op := fun γ σ H vs xs fps v e' Q a b c d => k _ _ _ (h γ σ H vs xs fps v e' Q a b c d)
theorem rOf_imp {r s : R2} (h : ∀ x y H Q, r x y H Q → s x y H Q) : ∀ xs H Q, rOf r xs H Q → rOf s xs H Q := fun xs H Q ⟨x, y, e, z⟩ => ⟨x, y, e, h _ _ _ _ z⟩
theorem ops_sub : OpS κ (rOf (rI0 fun i j => .int (i - j))) (opI2 fSub) := (ops_I2 (C := fun _ _ => True) fun i j d h => by cases h; exact ⟨trivial, rfl, rfl⟩).imp (rOf_imp fun _ _ _ _ => rI_0)
theorem ops_and : OpS κ (rOf (rI0 fun i j => .int (Builtin.bitAnd i j))) (opI2 fAnd) := (ops_I2 (C := fun _ _ => True) fun i j d h => by cases h; exact ⟨trivial, rfl, rfl⟩).imp (rOf_imp fun _ _ _ _ => rI_0)
def fLt (i j : Int) : Option D := some (.bl (decide (i < j)))
def fLe (i j : Int) : Option D := some (.bl (decide (i ≤ j)))
def fGt (i j : Int) : Option D := some (.bl (decide (j < i)))
def fGe (i j : Int) : Option D := some (.bl (decide (j ≤ i)))
theorem ops_lt : OpS κ (rOf (rI0 fun i j => .bl (decide (i < j)))) (opI2 fLt) := (ops_I2 (C := fun _ _ => True) fun i j d h => by cases h; exact ⟨trivial, rfl, rfl⟩).imp (rOf_imp fun _ _ _ _ => rI_0)
theorem ops_le : OpS κ (rOf (rI0 fun i j => .bl (decide (i ≤ j)))) (opI2 fLe) := (ops_I2 (C := fun _ _ => True) fun i j d h => by cases h; exact ⟨trivial, rfl, rfl⟩).imp (rOf_imp fun _ _ _ _ => rI_0)
theorem ops_gt : OpS κ (rOf (rI0 fun i j => .bl (decide (j < i)))) (opI2 fGt) := (ops_I2 (C := fun _ _ => True) fun i j d h => by cases h; exact ⟨trivial, rfl, rfl⟩).imp (rOf_imp fun _ _ _ _ => rI_0)
theorem ops_ge : OpS κ (rOf (rI0 fun i j => .bl (decide (j ≤ i)))) (opI2 fGe) := (ops_I2 (C := fun _ _ => True) fun i j d h => by cases h; exact ⟨trivial, rfl, rfl⟩).imp (rOf_imp fun _ _ _ _ => rI_0)
/-! ### lists -/
/-- the elements may be shared -/
def elF : T → Bool
  | .f | .o _ => true
  | .g k | .b k | .s _ k => k.flat
theorem Rep.lst {ds : List D} (h : Rep κ F (.lst ds) x) : ∃ a vs, x = .ref a ∧ SqL κ.K F a vs ∧ Paired (Rep κ F) ds vs := by
  obtain ⟨n, h⟩ := h
  cases n with
  | zero => exact h.elim
  | succ n => obtain ⟨a, vs, e1, e2, e3⟩ := h; exact ⟨a, vs, e1, e2, L2.Paired.mapP e3 fun d v z => ⟨n, z⟩⟩
theorem Rep.tup {ds : List D} (h : Rep κ F (.tup ds) x) : ∃ a vs, x = .ref a ∧ SqT κ.K F a vs ∧ Paired (Rep κ F) ds vs := by
  obtain ⟨n, h⟩ := h
  cases n with
  | zero => exact h.elim
  | succ n => obtain ⟨a, vs, e1, e2, e3⟩ := h; exact ⟨a, vs, e1, e2.elim SqT.of (·.2), L2.Paired.mapP e3 fun d v z => ⟨n, z⟩⟩
/-- one that is no constant of the text -/
theorem Rep.tupT {ds : List D} (h : Rep κ F (.tup ds) x) (hk : κ.CT.kt ds = false) : ∃ a vs, x = .ref a ∧ F a = some (.tup vs) ∧ Paired (Rep κ F) ds vs := by
  obtain ⟨n, h⟩ := h
  cases n with
  | zero => exact h.elim
  | succ n => obtain ⟨a, vs, e1, e2, e3⟩ := h; exact ⟨a, vs, e1, e2.elim id (fun z => by rw [hk] at z; cases z.1), L2.Paired.mapP e3 fun d v z => ⟨n, z⟩⟩
theorem tri_lay0 {X0 : Hp} {ds : List D} {vs : List V} {fps : List (List Addr)} (t : Tri (Lay κ F X0 .f) ds vs fps) : Paired (Rep κ F) ds vs := by
  induction t with
  | nil => exact .nil
  | cons a t ih => exact .cons (layF.mp a).1 ih
/-- all temps are frozen -/
theorem Held.fz {vs : List Val} {xs : List V} {fps : List (List Addr)} (ft : Fits κ γ σ H) (hl : Held κ γ σ H vs xs fps) :
    Fits κ (γ.fz H fps.flatten) σ H ∧ Reach true (γ.P ++ fps.flatten) γ H (γ.fz H fps.flatten) H := by
  have n := nodup_split hl.nd
  exact ⟨ft.fz (fun a ha hp => n.2.2 a hp ha) fun a ha => (hl.fr a ha).1, Reach.fz (fun a h => List.mem_append_left _ h) (fun a h => List.mem_append_right _ h) fun a ha => (hl.fr a ha).1⟩
theorem list_elems {ds : List D} {t : T} {fs : List Addr} (ft : Fits κ γ σ H) (h : VRep κ γ σ H ⟨t, .lst ds⟩ x fp) (he : elF t = true) (hs : ∀ a ∈ fp, a ∈ fs) (hn : ∀ a ∈ fs, γ.F a = none) :
    ∃ a vs, x = .ref a ∧ SqL κ.K H a vs ∧ Paired (Rep κ (frz γ.F H fs)) ds vs := by
  have le1 : Le γ.F (frz γ.F H fs) := le_frz hn
  have flat : ∀ {X0 : Hp} {k : Sh} {q : List Addr}, k.flat = true → (∀ a o, X0 a = some o → H a = some o) → Lay κ γ.F X0 k (.lst ds) x q → ∃ a vs, x = .ref a ∧ SqL κ.K H a vs ∧ Paired (Rep κ (frz γ.F H fs)) ds vs := by
    intro X0 k q hk hx hl
    cases k with
    | f =>
      obtain ⟨a, vs, e1, e2, e3⟩ := (layF.mp hl).1.lst
      exact ⟨a, vs, e1, sqL_le ft.lf e2, L2.Paired.mapP e3 fun d v z => z.mono le1⟩
    | n k => cases hk
    | c k r => cases hk
    | l k =>
      obtain rfl : k = .f := by cases k <;> first | rfl | cases hk
      obtain ⟨a, vs, gs, e1, e2, e3, _⟩ := layL.mp hl
      exact ⟨a, vs, e1, SqL.of (hx a _ e2), L2.Paired.mapP (tri_lay0 e3) fun d v z => z.mono le1⟩
  cases t with
  | f =>
    obtain ⟨a, vs, e1, e2, e3⟩ := h.1.lst
    exact ⟨a, vs, e1, sqL_le ft.lf e2, L2.Paired.mapP e3 fun d v z => z.mono le1⟩
  | g k => obtain ⟨⟨q, hq⟩, _⟩ := h; exact flat (he) ft.lg hq
  | b k => obtain ⟨⟨q, hq, _⟩, _⟩ := h; exact flat (he) (fun _ _ z => z) hq
  | s i k =>
    obtain ⟨⟨sl, e1, e2, e3⟩, _⟩ := h
    obtain ⟨b, f, e4, e5, e6⟩ := ft.slot e1
    rw [e3] at e4
    cases e4
    dsimp only at e2
    rcases own_of e2 with z | z | z | z <;> subst z <;> (obtain ⟨x', ex, e7⟩ := e6; cases ex; exact flat (he) (fun _ _ z => z) e7)
  | o k =>
    have r : Rep κ (frz γ.F H fs) (.lst ds) x := Lay.rep le1 k _ _ fp (fun a ha o e => by rw [frz_in (hs a ha)]; exact e) h
    obtain ⟨a, vs, e1, e2, e3⟩ := r.lst
    exact ⟨a, vs, e1, sqL_le (frz_le ft.lf) e2, e3⟩
theorem Paired.app {α β : Type} {R : α → β → Prop} {a c : List α} {b d : List β} (h : Paired R a b) (k : Paired R c d) : Paired R (a ++ c) (b ++ d) := by
  induction h with
  | nil => exact k
  | cons r t ih => exact .cons r ih
def rCatS (K : PySem.W.Frag) : R2 := fun x y H Q => ∃ l b xs zs, x = .ref l ∧ y = .ref b ∧ SqL K H l xs ∧ SqL K H b zs ∧ xs.length + zs.length ≤ sizeLine ∧ ∀ p, H p = none → Q (.ref p) (upd H p (.lst (xs ++ zs)))
theorem op_catS : OpR X (binaryOp .Add) (rCatS X.K) := by
  intro pins s σ H x y v u Q I rx ry ⟨l, b, xs, zs, ex, ey, hH, hB, hz, q⟩
  subst ex ey
  cases rx
  cases ry
  obtain ⟨is1, r1, ⟨o1, n1, g1, c1, d1, s1⟩, _⟩ := I.list hH
  obtain ⟨is2, r2, ⟨o2, n2, g2, c2, d2, s2⟩, _⟩ := I.list hB
  have l1 := r1.length
  have l2 := r2.length
  obtain ⟨cl1, di1, da1, sl1⟩ := o1
  obtain ⟨cl2, di2, da2, sl2⟩ := o2
  dsimp only at c1 d1 s1 c2 d2 s2
  subst c1 d1 s1 c2 d2 s2
  refine PySem.concat_meets ⟨_, g1, rfl⟩ ⟨_, g2, rfl⟩ PySem.noFill_list_add PySem.seq_list_add PySem.F.slot_list_add PySem.F.entry_list_add (PySem.F.args_list_add_2 _ _)
    (PyProof.Rows.list_addW l b is1.toArray is2.toArray n1 n2 none none sl1 sl2 (by rw [List.size_toArray, List.size_toArray]; omega)) ⟨g1, g2, ?_⟩
  rw [show is1.toArray ++ is2.toArray = (is1 ++ is2).toArray by simp]
  exact ⟨.ref _, _, I.lnew (t' := s.toks) (r1.append r2) (by rw [List.length_append]; omega), rfl, q _ I.fresh⟩
def szOk (n : Nat) : Bool := decide (n ≤ 1000000)
theorem sz_line {n : Nat} (h : szOk n = true) : n ≤ sizeLine := Nat.le_trans (of_decide_eq_true h) (by decide)
def opAdd : Op := fun vs e => match vs with
  | [⟨_, .int i⟩, ⟨_, .int j⟩] => some (⟨.f, .int (i + j)⟩, e)
  | [⟨t, .lst a⟩, ⟨u, .lst b⟩] => if (elF t && elF u && szOk (a.length + b.length)) = true then some (⟨.o (.l .f), .lst (a ++ b)⟩, e) else none
  | [⟨_, .str a⟩, ⟨_, .str b⟩] => if szOk (a.length + b.length) = true then some (⟨.f, .str (a ++ b)⟩, e) else none
  | _ => none
def rStrCat : R2 := fun x y H Q => ∃ i j, x = .str i ∧ y = .str j ∧ i.length + j.length ≤ sizeLine ∧ Q (.str (i ++ j)) H
def rAddU (K : PySem.W.Frag) : R2 := rOr (rI0 fun i j => .int (i + j)) (rOr (rCatS K) rStrCat)
theorem op_addU : OpR X (binaryOp .Add) (rAddU X.K) := opr_or op_add (opr_or op_catS op_add_str)
theorem ops_add : OpS κ (rOf (rAddU κ.K)) opAdd := fun γ σ H vs xs fps v e' Q ft hl ho k => by
  unfold opAdd at ho
  split at ho
  · rename_i t i u j
    cases ho
    obtain ⟨x, y, f1, f2, rfl, rfl, h1, h2⟩ := tri2 hl.tri
    exact ⟨x, y, rfl, .inl ⟨i, j, h1.atom ft rfl, h2.atom ft rfl, k γ H (.int (i + j)) [] rfl ft (Reach.refl fun a h => List.mem_append_left _ h) (held_atom ft (d := .int (i + j)) rfl) (by simp)⟩⟩
  · rename_i t a u b
    split at ho
    · rename_i c
      cases ho
      obtain ⟨c, c3⟩ := Bool.and_eq_true_iff.mp c
      obtain ⟨c1, c2⟩ := Bool.and_eq_true_iff.mp c
      obtain ⟨f1, r1⟩ := hl.fz ft
      obtain ⟨x, y, g1, g2, ex, ef, h1, h2⟩ := tri2 hl.tri
      have hn : ∀ a ∈ fps.flatten, γ.F a = none := fun a ha => (hl.fr a ha).1
      obtain ⟨a1, v1, rfl, s1, p1⟩ := list_elems (fs := fps.flatten) ft h1 c1 (fun a ha => by rw [ef]; simp [ha]) hn
      obtain ⟨a2, v2, rfl, s2, p2⟩ := list_elems (fs := fps.flatten) ft h2 c2 (fun a ha => by rw [ef]; simp [ha]) hn
      have l1 := Paired.length p1
      have l2 := Paired.length p2
      refine ⟨_, _, ex, .inr (.inl ⟨a1, a2, v1, v2, rfl, rfl, s1, s2, by rw [← l1, ← l2]; exact sz_line c3, fun p hp => ?_⟩)⟩
      obtain ⟨w1, w2, w3⟩ := new_lst (A := γ.P ++ fps.flatten) f1 (Paired.app p1 p2) hp fun b hb => List.mem_append_left _ hb
      exact k (γ.fz H fps.flatten) _ (.ref p) [p] rfl w1 ((r1.more w2 (Le.upd hp)).weak fun _ => rfl) w3 (by simp [hp])
    · cases ho
  · rename_i t a u b
    split at ho
    · rename_i c
      cases ho
      obtain ⟨x, y, f1, f2, rfl, rfl, h1, h2⟩ := tri2 hl.tri
      exact ⟨x, y, rfl, .inr (.inr ⟨a, b, h1.atom ft rfl, h2.atom ft rfl, sz_line c, k γ H (.str (a ++ b)) [] rfl ft (Reach.refl fun a h => List.mem_append_left _ h) (held_atom ft (d := .str (a ++ b)) rfl) (by simp)⟩)⟩
    · cases ho
  · cases ho
end
end Py

set_option Elab.async false
set_option linter.all false
set_option maxRecDepth 100000
set_option maxHeartbeats 1000000
/-! PyI: a def's promise, its call. -/
namespace Py
open PySem L2
/-- what a def makes of its parameters' slots: the value, the slots behind (the lent ones) -/
inductive FR where
  | ok (v : Val) (ws : Env) | ex (c : Nat) (fs : List D) (ws : Env) | no
abbrev FM := Env → FR
/-- reached from a caller's side -/
structure Reach0 (A : List Addr) (γ : Gst) (H : Hp) (γ' : Gst) (H' : Hp) : Prop where
  f : Le γ.F γ'.F
  keep : ∀ a o, H a = some o → a ∉ A → H' a = some o
  mono : ∀ a, H' a = none → H a = none
  newF : ∀ a, γ'.F a ≠ none → γ.F a ≠ none ∨ a ∈ A ∨ H a = none
  newP : ∀ a ∈ γ'.P, a ∈ A ∨ H a = none
section
variable (κ : Kx) (XT : Nat → Option (Value × List Str))
def ContF (γ : Gst) (σ : St) (H : Hp) (Q : VK) (E : XK) : FR → Prop
  | .ok v ws => ∀ γ' H' x fp, γ'.env = ws → Fits κ γ' σ H' → Reach0 γ.P γ H γ' H' → Held κ γ' σ H' [v] [x] [fp] → (∀ a ∈ fp, a ∈ γ.P ∨ H a = none) → Q x H'
  | .ex c fs ws => ∀ γ' H' cls d, γ'.env = ws → Fits κ γ' σ H' → Reach0 γ.P γ H γ' H' → XRep κ γ'.F H' XT c fs cls d → E cls d H'
  | .no => False
def spF (np : Nat) (fm : FM) : Sp := fun xs H Q E => xs.length = np ∧ ∃ γ, Fits κ γ (xs.map some) H ∧ ContF κ XT γ (xs.map some) H Q E (fm γ.env)
end
/-! ### the arguments -/
/-- the first n values are own slots that are lent -/
def takes : Nat → List Val → Env → Option (List (Nat × Sh × D) × List Val × Env)
  | 0, vs, e => some ([], vs, e)
  | n + 1, ⟨.s i _, _⟩ :: vs, e => (match e[i]? with
    | some (.ow k d) | some (.mu k d) => (match takes n vs (e.set i .un) with
      | some (ts, ws, e') => some ((i, k, d) :: ts, ws, e')
      | none => none)
    | _ => none)
  | _, _, _ => none
def argSlot (n : Nat) (e : Env) : Val → Option Slot
  | ⟨.f, d⟩ => some (.fz d)
  | ⟨.g k, d⟩ => some (.bo k d)
  | ⟨.b k, d⟩ => if n = 0 then some (.bo k d) else none
  | ⟨.o k, d⟩ => some (.ow k d)
  | ⟨.s i _, _⟩ => (match e[i]? with
    | some (.ow k d) | some (.mu k d) | some (.lk k d) | some (.lm k d) => some (.bo k d)
    | some (.fz d) => some (.fz d)
    | _ => none)
def argSlots (n : Nat) (e : Env) : List Val → Option Env
  | [] => some []
  | v :: vs => (match argSlot n e v, argSlots n e vs with
    | some s, some ss => some (s :: ss)
    | _, _ => none)
/-- the lent slots come back -/
def backs (e0 : Env) : List (Nat × Sh × D) → Env → Env → Option Env
  | [], _, e => some e
  | (i, _, _) :: ts, w :: ws, e => (match w, e0[i]? with
    | .mu k d, some (.ow _ _) => backs e0 ts ws (e.set i (.ow k d))
    | .mu k d, some (.mu _ _) => backs e0 ts ws (e.set i (.mu k d))
    | _, _ => none)
  | _, _, _ => none
def outT : T → Bool
  | .f | .o _ => true
  | _ => false
def callV (n : Nat) (fm : FM) : List Val → Env → R Val := fun vs e => match takes n vs e with
  | some (ts, ws, e1) => (match argSlots n e1 ws with
    | some ss => (match fm (ts.map (fun t => .mu t.2.1 t.2.2) ++ ss) with
      | .ok v us => (match backs e ts us e1 with
        | some e2 => if outT v.t = true then .ok v e2 else .no
        | none => .no)
      | .ex c fs us => (match backs e ts us e1 with
        | some e2 => .ex c fs e2
        | none => .no)
      | .no => .no)
    | none => .no)
  | none => .no
section
variable {κ : Kx} {XT : Nat → Option (Value × List Str)} {p q : Bool} {A B : List Addr} {γ γ0 γ1 γ2 : Gst} {σ σ1 σ2 : St} {F F' G H H1 H2 : Hp} {W : WX} {Ds : Ends} {X : Cx} {v : Val} {x : V} {fp : List Addr}
/-- what of a value stays when slots are lent out -/
def VR2 (κ : Kx) (F G : Hp) (P0 : List Addr) (σ : St) (H : Hp) (v : Val) (x : V) (fp : List Addr) : Prop := match v.t with
  | .f => Rep κ F v.d x ∧ fp = []
  | .g k => (∃ q, Lay κ F G k v.d x q) ∧ fp = []
  | .b k => (∃ q, Lay κ F H k v.d x q ∧ ∀ a ∈ q, a ∈ P0 ∨ F a ≠ none) ∧ fp = []
  | .o k => Lay κ F H k v.d x fp
  | .s i _ => σ[i]? = some (some x) ∧ fp = []
theorem VRep.to2 (h : VRep κ γ σ H v x fp) : VR2 κ γ.F γ.G γ.P σ H v x fp := by
  obtain ⟨t, d⟩ := v
  cases t with
  | f => exact h
  | g k => exact h
  | b k => exact h
  | o k => exact h
  | s i k => exact ⟨h.1.elim fun sl z => z.2.2, h.2⟩
/-- slots are lent: their things stand apart -/
theorem takes_ok : ∀ {n : Nat} {vs : List Val} {xs : List V} {fps : List (List Addr)} {γ : Gst} {ts : List (Nat × Sh × D)} {ws : List Val} {e' : Env} {G0 : Hp} {P0 : List Addr}, Fits κ γ σ H → Tri (VR2 κ γ.F G0 P0 σ H) vs xs fps → takes n vs γ.env = some (ts, ws, e') →
    ∃ γ' xs1 xs2 gps tfs, xs = xs1 ++ xs2 ∧ γ'.env = e' ∧ γ'.F = γ.F ∧ γ'.G = γ.G ∧ Fits κ γ' σ H ∧ Tri (VR2 κ γ.F G0 P0 σ H) ws xs2 gps ∧ gps.flatten = fps.flatten ∧
      Tri (fun (t : Nat × Sh × D) x f => σ[t.1]? = some (some x) ∧ Lay κ γ.F H t.2.1 t.2.2 x f) ts xs1 tfs ∧ (γ'.P ++ tfs.flatten).Nodup ∧ (∀ a, a ∈ γ'.P ∨ a ∈ tfs.flatten ↔ a ∈ γ.P)
  | 0, vs, xs, fps, γ, ts, ws, e', G0, P0, ft, tr, h => by
    cases h
    exact ⟨γ, [], xs, fps, [], rfl, rfl, rfl, rfl, ft, tr, rfl, .nil, by simpa using ft.nd, by simp⟩
  | n + 1, [], xs, fps, γ, ts, ws, e', G0, P0, ft, tr, h => by cases h
  | n + 1, ⟨t, d0⟩ :: vs, _, _, γ, ts, ws, e', G0, P0, ft, @Tri.cons _ _ _ _ _ x f _ xs fps hv tl, h => by
    cases t with
    | s i k0 =>
      obtain ⟨hx, rfl⟩ : σ[i]? = some (some x) ∧ f = [] := hv
      have go : ∀ {sl : Slot} {k : Sh} {d : D}, γ.env[i]? = some sl → sl.own = some (k, d) → (match takes n vs (γ.env.set i .un) with
          | some (ts, ws, e') => some ((i, k, d) :: ts, ws, e')
          | none => none) = some (ts, ws, e') → ∃ γ' xs1 xs2 gps tfs, x :: xs = xs1 ++ xs2 ∧ γ'.env = e' ∧ γ'.F = γ.F ∧ γ'.G = γ.G ∧ Fits κ γ' σ H ∧ Tri (VR2 κ γ.F G0 P0 σ H) ws xs2 gps ∧ gps.flatten = ([] :: fps).flatten ∧
      Tri (fun (t : Nat × Sh × D) x f => σ[t.1]? = some (some x) ∧ Lay κ γ.F H t.2.1 t.2.2 x f) ts xs1 tfs ∧ (γ'.P ++ tfs.flatten).Nodup ∧ (∀ a, a ∈ γ'.P ∨ a ∈ tfs.flatten ↔ a ∈ γ.P) := by
        intro sl k d es ow h
        obtain ⟨b, f, e4, e5, e6⟩ := ft.slot es
        rw [hx] at e4
        cases e4
        have e7 : Lay κ γ.F H k d x f := by rcases own_of ow with z | z | z | z <;> subst z <;> (obtain ⟨x', ex, e7⟩ := e6; cases ex; exact e7)
        have f2 : Fits κ (γ.put i .un []) σ H := ft.take (f := f) hx rfl
        cases hh : takes n vs (γ.env.set i .un) with
        | none => rw [hh] at h; cases h
        | some r =>
          obtain ⟨ts2, ws2, e2⟩ := r
          rw [hh] at h
          cases h
          obtain ⟨γ', xs1, xs2, gps, tfs, q1, q2, q3, q4, q5, q6, q7, q8, q9, q10⟩ := takes_ok (γ := γ.put i .un []) (G0 := G0) (P0 := P0) f2 tl hh
          refine ⟨γ', x :: xs1, xs2, gps, f :: tfs, by rw [q1]; rfl, q2, q3, q4, q5, q6, by simpa using q7, .cons ⟨hx, e7⟩ q8, ?_, fun a => ?_⟩
          · rw [List.flatten_cons]
            have n := nodup_split q9
            have out := take_out (s := .un) ft e5
            refine nodup_app n.1 (nodup_app (flat_nodup ft.nd e5) n.2.1 fun a ha hb => out a ha ((q10 a).mp (.inr hb))) fun a ha hb => ?_
            rcases List.mem_append.mp hb with z | z
            · exact out a z ((q10 a).mp (.inl ha))
            · exact n.2.2 a ha z
          · rw [List.flatten_cons, List.mem_append]
            constructor
            · rintro (z | z | z)
              · exact (γ.put_P ((q10 a).mp (.inl z))).elim (fun w => by simp at w) id
              · exact fps_mem e5 z
              · exact (γ.put_P ((q10 a).mp (.inr z))).elim (fun w => by simp at w) id
            · intro z
              by_cases w : a ∈ f
              · exact .inr (.inl w)
              · have : a ∈ (γ.put i .un []).P := by
                  obtain ⟨g, hg, hag⟩ := List.mem_flatten.mp z
                  obtain ⟨l, hl⟩ := List.getElem?_of_mem hg
                  have hne : i ≠ l := fun y => by subst y; rw [e5] at hl; cases hl; exact w hag
                  exact mem_flat (List.mem_of_getElem? (i := l) (by show (γ.fps.set i [])[l]? = _; rw [get_set_ne hne]; exact hl)) hag
                exact ((q10 a).mpr this).imp id .inr
      unfold takes at h
      cases es : γ.env[i]? with
      | none => rw [es] at h; cases h
      | some sl =>
        rw [es] at h
        cases sl with
        | ow k d => exact go es rfl h
        | mu k d => exact go es rfl h
        | _ => cases h
    | _ => cases h

theorem takes_mu : ∀ {n : Nat} {vs : List Val} {e : Env} {ts : List (Nat × Sh × D)} {ws : List Val} {e' : Env}, takes n vs e = some (ts, ws, e') → ∀ i, Mu e i → Mu e' i ∨ i ∈ ts.map (·.1)
  | 0, vs, e, ts, ws, e', h, i, m => by cases h; exact .inl m
  | n + 1, [], e, ts, ws, e', h, i, m => by cases h
  | n + 1, ⟨t, d0⟩ :: vs, e, ts, ws, e', h, i, m => by
    cases t with
    | s j k0 =>
      have go : ∀ {k : Sh} {d : D}, (match takes n vs (e.set j .un) with
          | some (ts, ws, e') => some ((j, k, d) :: ts, ws, e')
          | none => none) = some (ts, ws, e') → Mu e' i ∨ i ∈ ts.map (·.1) := by
        intro k d h
        cases hh : takes n vs (e.set j .un) with
        | none => rw [hh] at h; cases h
        | some r =>
          obtain ⟨ts2, ws2, e2⟩ := r
          rw [hh] at h
          cases h
          by_cases z : j = i
          · exact .inr (by simp [z])
          · exact (takes_mu hh i (Mu.set m z)).imp id fun w => by rw [List.map_cons]; exact List.mem_cons_of_mem _ w
      unfold takes at h
      cases es : e[j]? with
      | none => rw [es] at h; cases h
      | some sl =>
        rw [es] at h
        cases sl with
        | ow k d => exact go h
        | mu k d => exact go h
        | _ => cases h
    | _ => cases h
theorem takes_lk : ∀ {n : Nat} {vs : List Val} {e : Env} {ts : List (Nat × Sh × D)} {ws : List Val} {e' : Env}, takes n vs e = some (ts, ws, e') → ∀ i u, e[i]? = some u → u.isLk = true → e'[i]? = some u ∧ i ∉ ts.map (·.1)
  | 0, vs, e, ts, ws, e', h, i, u, hu, hk => by cases h; exact ⟨hu, by simp⟩
  | n + 1, [], e, ts, ws, e', h, i, u, hu, hk => by cases h
  | n + 1, ⟨t, d0⟩ :: vs, e, ts, ws, e', h, i, u, hu, hk => by
    cases t with
    | s j k0 =>
      have go : ∀ {k : Sh} {d : D} {s0 : Slot}, e[j]? = some s0 → s0.isLk = false → (match takes n vs (e.set j .un) with
          | some (ts, ws, e') => some ((j, k, d) :: ts, ws, e')
          | none => none) = some (ts, ws, e') → e'[i]? = some u ∧ i ∉ ts.map (·.1) := by
        intro k d s0 es h0 h
        have ne : j ≠ i := fun z => by
          subst z
          rw [es] at hu
          cases hu
          rw [h0] at hk
          cases hk
        cases hh : takes n vs (e.set j .un) with
        | none => rw [hh] at h; cases h
        | some r =>
          obtain ⟨ts2, ws2, e2⟩ := r
          rw [hh] at h
          cases h
          obtain ⟨a, b⟩ := takes_lk hh i u (Lk.set hu ne) hk
          refine ⟨a, fun z => ?_⟩
          rw [List.map_cons] at z
          rcases List.mem_cons.mp z with w | w
          · exact ne w.symm
          · exact b w
      unfold takes at h
      cases es : e[j]? with
      | none => rw [es] at h; cases h
      | some sl =>
        rw [es] at h
        cases sl with
        | ow k d => exact go es rfl h
        | mu k d => exact go es rfl h
        | _ => cases h
    | _ => cases h
theorem backs_lk {e0 : Env} : ∀ {ts : List (Nat × Sh × D)} {us e e2 : Env}, backs e0 ts us e = some e2 → ∀ i, i ∉ ts.map (·.1) → e2[i]? = e[i]?
  | [], us, e, e2, h, i, hi => by cases h; rfl
  | (j, k, d) :: ts, [], e, e2, h, i, hi => by cases h
  | (j, k, d) :: ts, u :: us, e, e2, h, i, hi => by
    rw [List.map_cons] at hi
    have ne : j ≠ i := fun z => hi (by rw [z]; exact List.mem_cons_self)
    have hi' : i ∉ ts.map (·.1) := fun z => hi (List.mem_cons_of_mem _ z)
    unfold backs at h
    cases u with
    | mu k1 d1 =>
      cases es : e0[j]? with
      | none => rw [es] at h; cases h
      | some s0 =>
        rw [es] at h
        cases s0 with
        | ow k2 d2 => rw [backs_lk h i hi', get_set_ne ne]
        | mu k2 d2 => rw [backs_lk h i hi', get_set_ne ne]
        | _ => cases h
    | _ => cases h
/-- the heap as a callee sees it: all but what it is given -/
def lentG (H : Hp) (M : List Addr) : Hp := fun a => if a ∈ M then none else H a
theorem lentG_out {M : List Addr} {a : Addr} (h : a ∉ M) : lentG H M a = H a := if_neg h
theorem lentG_in {M : List Addr} {a : Addr} (h : a ∈ M) : lentG H M a = none := if_pos h
theorem lentG_le {M : List Addr} : Le (lentG H M) H := fun a o e => by
  by_cases z : a ∈ M
  · rw [lentG_in z] at e; cases e
  · rw [lentG_out z] at e; exact e
theorem arg_ok {n : Nat} {M : List Addr} {s : Slot} {P0 : List Addr} {G0 : Hp} (ft : Fits κ γ σ H) (h : VR2 κ γ.F G0 P0 σ H v x fp) (lg : Le G0 H) (e : argSlot n γ.env v = some s) (m1 : ∀ a ∈ γ.P, a ∉ M) (m2 : ∀ a, γ.F a ≠ none → a ∉ M) (m3 : ∀ a, G0 a ≠ none → a ∉ M) (m4 : n = 0 → ∀ a ∈ P0, a ∉ M) :
    SlotRep κ γ.F (lentG H M) H s (some x) fp := by
  obtain ⟨t, d⟩ := v
  cases t with
  | f => cases e; exact ⟨⟨x, rfl, h.1⟩, h.2⟩
  | g k =>
    cases e
    obtain ⟨⟨q, hq⟩, h2⟩ := h
    exact ⟨⟨x, q, rfl, Lay.mono (Le.refl _) k d x q (fun a _ o z => by rw [lentG_out (m3 a (by rw [z]; intro w; cases w))]; exact lg a o z) hq⟩, h2⟩
  | b k =>
    obtain ⟨⟨q, hq, hp⟩, h2⟩ := h
    simp only [argSlot] at e
    split at e
    · rename_i hn
      cases e
      exact ⟨⟨x, q, rfl, Lay.mono (Le.refl _) k d x q (fun a ha o z => by rw [lentG_out ((hp a ha).elim (m4 hn a) (m2 a))]; exact z) hq⟩, h2⟩
    · cases e
  | o k => cases e; exact ⟨x, rfl, h⟩
  | s i k0 =>
    obtain ⟨hx, h2⟩ : σ[i]? = some (some x) ∧ fp = [] := h
    simp only [argSlot] at e
    cases es : γ.env[i]? with
    | none => rw [es] at e; cases e
    | some sl =>
      rw [es] at e
      obtain ⟨b, f, e4, e5, e6⟩ := ft.slot es
      rw [hx] at e4
      cases e4
      have lay : ∀ {k : Sh} {d : D}, Lay κ γ.F H k d x f → SlotRep κ γ.F (lentG H M) H (.bo k d) (some x) fp := fun hl =>
        ⟨⟨x, f, rfl, Lay.mono (Le.refl _) _ _ x f (fun a ha o z => by rw [lentG_out (m1 a (fps_mem e5 ha))]; exact z) hl⟩, h2⟩
      cases sl with
      | fz d => cases e; obtain ⟨⟨x', ex, e7⟩, _⟩ := e6; cases ex; exact ⟨⟨x, rfl, e7⟩, h2⟩
      | ow k d => cases e; obtain ⟨x', ex, e7⟩ := e6; cases ex; exact lay e7
      | mu k d => cases e; obtain ⟨x', ex, e7⟩ := e6; cases ex; exact lay e7
      | lk k d => cases e; obtain ⟨x', ex, e7⟩ := e6; cases ex; exact lay e7
      | lm k d => cases e; obtain ⟨x', ex, e7⟩ := e6; cases ex; exact lay e7
      | _ => cases e
theorem args_ok {n : Nat} {M : List Addr} {P0 : List Addr} {G0 : Hp} (ft : Fits κ γ σ H) (lg : Le G0 H) (m1 : ∀ a ∈ γ.P, a ∉ M) (m2 : ∀ a, γ.F a ≠ none → a ∉ M) (m3 : ∀ a, G0 a ≠ none → a ∉ M) (m4 : n = 0 → ∀ a ∈ P0, a ∉ M) :
    ∀ {vs : List Val} {xs : List V} {fps : List (List Addr)} {ss : Env}, Tri (VR2 κ γ.F G0 P0 σ H) vs xs fps → argSlots n γ.env vs = some ss → Tri (SlotRep κ γ.F (lentG H M) H) ss (xs.map some) fps
  | [], _, _, ss, .nil, e => by cases e; exact .nil
  | v :: vs, _, _, ss, .cons hv tl, e => by
    unfold argSlots at e
    cases e1 : argSlot n γ.env v with
    | none => rw [e1] at e; cases e
    | some s =>
      cases e2 : argSlots n γ.env vs with
      | none => rw [e1, e2] at e; cases e
      | some ss2 =>
        rw [e1, e2] at e
        cases e
        exact .cons (arg_ok ft hv lg e1 m1 m2 m3 m4) (args_ok ft lg m1 m2 m3 m4 tl e2)
theorem Fits.back (ft : Fits κ γ σ H) {i : Nat} {s : Slot} {x : Option V} {f : List Addr} (hx : σ[i]? = some x) (hs : SlotRep κ γ.F γ.G H s x f) (hf : f.Nodup) (hd : ∀ a ∈ f, a ∉ γ.P) (hfr : ∀ a ∈ f, γ.F a = none ∧ γ.G a = none ∧ H a ≠ none) : Fits κ (γ.put i s f) σ H where
  lf := ft.lf
  lg := ft.lg
  nd := nodup_flat_set ft.nd hf fun a ha j g _ e hg => hd a ha (fps_mem e hg)
  fr := fun a ha => (mem_set ha).elim (fun z => hfr a z) fun ⟨j, g, _, e, z⟩ => ft.fr a (fps_mem e z)
  sl := ft.sl.set1 hx hs
theorem Mu.put {env : Env} {i : Nat} {k : Sh} {d : D} (h : i < env.length) : Mu (env.set i (.mu k d)) i := ⟨k, d, .inl (by simp [h])⟩
theorem backs_ok {e0 : Env} {Gc : Hp} : ∀ {ts : List (Nat × Sh × D)} {us : Env} {xs1 ys : List V} {tfs fs : List (List Addr)} {γ : Gst} {e2 : Env} {R0 : Nat × Sh × D → V → List Addr → Prop}, Fits κ γ σ H → Tri R0 ts xs1 tfs → (∀ t x f, R0 t x f → σ[t.1]? = some (some x)) → Tri (SlotRep κ γ.F Gc H) us ((xs1 ++ ys).map some) fs →
    (γ.P ++ fs.flatten).Nodup → (∀ a ∈ fs.flatten, γ.F a = none ∧ γ.G a = none ∧ H a ≠ none) → backs e0 ts us γ.env = some e2 →
    ∃ γ2, γ2.env = e2 ∧ Fits κ γ2 σ H ∧ γ2.F = γ.F ∧ γ2.G = γ.G ∧ (∀ a ∈ γ2.P, a ∈ γ.P ∨ a ∈ fs.flatten) ∧ (∀ i, ((i ∉ ts.map (·.1) ∧ Mu γ.env i) ∨ (i ∈ ts.map (·.1) ∧ Mu e0 i)) → Mu e2 i) ∧ (ts = [] → γ2.fps = γ.fps)
  | [], us, _, ys, _, fs, γ, e2, R0, ft, .nil, hR, tu, nd, fr, h => by
    cases h
    exact ⟨γ, rfl, ft, rfl, rfl, fun a z => .inl z, fun i z => z.elim (·.2) fun w => by simp at w, fun _ => rfl⟩
  | t :: ts, us, _, ys, _, fs, γ, e2, R0, ft, @Tri.cons _ _ _ _ _ x1 f1 _ xs1 tfs r1 tr, hR, tu, nd, fr, h => by
    cases tu with
    | @cons u _ f us' _ fs' hu tl =>
      obtain ⟨i, k0, d0⟩ := t
      have hx : σ[i]? = some (some x1) := hR _ _ _ r1
      rw [List.flatten_cons] at nd fr
      obtain ⟨n1, n2, n3⟩ := nodup_split nd
      obtain ⟨m1, m2, m3⟩ := nodup_split n2
      unfold backs at h
      have go : ∀ {s : Slot} {k : Sh} {d : D}, (s = .ow k d ∨ s = .mu k d) → Lay κ γ.F H k d x1 f → (Mu e0 i → s = .mu k d) → backs e0 ts us' (γ.env.set i s) = some e2 →
          ∃ γ2, γ2.env = e2 ∧ Fits κ γ2 σ H ∧ γ2.F = γ.F ∧ γ2.G = γ.G ∧ (∀ a ∈ γ2.P, a ∈ γ.P ∨ a ∈ (f :: fs').flatten) ∧ (∀ j, ((j ∉ ((i, k0, d0) :: ts).map (·.1) ∧ Mu γ.env j) ∨ (j ∈ ((i, k0, d0) :: ts).map (·.1) ∧ Mu e0 j)) → Mu e2 j) ∧ ((i, k0, d0) :: ts = [] → γ2.fps = γ.fps) := by
        intro s k d hs hl hm hb
        have sr : SlotRep κ γ.F γ.G H s (some x1) f := by rcases hs with z | z <;> subst z <;> exact ⟨x1, rfl, hl⟩
        have f2 : Fits κ (γ.put i s f) σ H := ft.back hx sr m1 (fun a ha hp => n3 a hp (List.mem_append_left _ ha)) fun a ha => fr a (List.mem_append_left _ ha)
        have nd2 : ((γ.put i s f).P ++ fs'.flatten).Nodup := nodup_app f2.nd m2 fun a ha hb => (γ.put_P ha).elim (fun z => m3 a z hb) fun z => n3 a z (List.mem_append_right _ hb)
        obtain ⟨γ2, q1, q2, q3, q4, q5, q6, _⟩ := backs_ok (e0 := e0) (Gc := Gc) (γ := γ.put i s f) (R0 := R0) f2 tr hR tl nd2 (fun a ha => fr a (List.mem_append_right _ ha)) hb
        refine ⟨γ2, q1, q2, q3, q4, fun a ha => ?_, fun j hj => ?_, fun z => by cases z⟩
        · rw [List.flatten_cons, List.mem_append]
          rcases q5 a ha with z | z
          · exact (γ.put_P z).elim (fun w => .inr (.inl w)) .inl
          · exact .inr (.inr z)
        · have il : i < γ.env.length := by
            have l1 := ft.sl.len1
            have l2 := (List.getElem?_eq_some_iff.mp hx).1
            omega
          refine q6 j ?_
          rw [List.map_cons, List.mem_cons] at hj
          by_cases w : j ∈ ts.map (·.1)
          · exact .inr ⟨w, hj.elim (fun z => absurd (.inr w) z.1) (·.2)⟩
          · refine .inl ⟨w, ?_⟩
            by_cases z : j = i
            · subst z
              have hm' := hm (hj.elim (fun y => absurd (.inl rfl) y.1) (·.2))
              rw [hm']
              exact Mu.put il
            · exact Mu.set (hj.elim (·.2) fun y => absurd y.1 fun v => v.elim z w) fun y => z y.symm
      cases u with
      | mu k d =>
        obtain ⟨x', ex, hl⟩ := hu
        cases ex
        cases es : e0[i]? with
        | none => rw [es] at h; cases h
        | some s0 =>
          rw [es] at h
          cases s0 with
          | ow k1 d1 => exact go (.inl rfl) hl (fun m => absurd m (ow_not_mu es)) h
          | mu k1 d1 => exact go (.inr rfl) hl (fun _ => rfl) h
          | _ => cases h
      | _ => cases h

def CallC (κ : Kx) (XT : Nat → Option (Value × List Str)) (p : Bool) (A : List Addr) (γ : Gst) (σ : St) (H : Hp) (Q : VK) (E : XK) : R Val → Prop
  | .ok v e' => ∀ γ' H' x fp, γ'.env = e' → Fits κ γ' σ H' → Reach p A γ H γ' H' → Held κ γ' σ H' [v] [x] [fp] → New p A γ H fp → Q x H'
  | .ex c fs e' => ∀ γ' H' cls d, γ'.env = e' → Fits κ γ' σ H' → Reach false A γ H γ' H' → XRep κ γ'.F H' XT c fs cls d → E cls d H'
  | .no => False
theorem Tri.map2 {α β γ δ : Type} {R : α → δ → γ → Prop} {f : β → δ} {as : List α} {bs : List β} {cs : List γ} (t : Tri (fun a b c => R a (f b) c) as bs cs) : Tri R as (bs.map f) cs := by
  induction t with
  | nil => exact .nil
  | cons r t ih => exact .cons r ih
theorem Tri.map1 {α β γ δ : Type} {R : δ → β → γ → Prop} {f : α → δ} {as : List α} {bs : List β} {cs : List γ} (t : Tri (fun a b c => R (f a) b c) as bs cs) : Tri R (as.map f) bs cs := by
  induction t with
  | nil => exact .nil
  | cons r t ih => exact .cons r ih
theorem call_sp {n : Nat} {fm : FM} {vs : List Val} {xs : List V} {fps : List (List Addr)} {Q : VK} {E : XK} (ft : Fits κ γ σ H) (hl : Held κ γ σ H vs xs fps)
    (c : CallC κ XT (n == 0) (γ.P ++ fps.flatten) γ σ H Q E (callV n fm vs γ.env)) : spF κ XT xs.length fm xs H Q E := by
  refine ⟨rfl, ?_⟩
  unfold callV at c
  cases ht : takes n vs γ.env with
  | none => rw [ht] at c; exact c.elim
  | some r =>
    obtain ⟨ts, ws, e1⟩ := r
    simp only [ht] at c
    obtain ⟨γn, xs1, xs2, gps, tfs, q1, q2, q3, q4, q5, q6, q7, q8, q9, q10⟩ := takes_ok (G0 := γ.G) (P0 := γ.P) ft (hl.tri.imp fun v x f _ e => e.to2) ht
    subst q2
    cases hss : argSlots n γn.env ws with
    | none => rw [hss] at c; exact c.elim
    | some ss =>
      simp only [hss] at c
      have hsp := nodup_split hl.nd
      have n9 := nodup_split q9
      have gN : gps.flatten.Nodup := by rw [q7]; exact hsp.2.1
      have gP : ∀ a ∈ gps.flatten, a ∉ γ.P := fun a ha hp => hsp.2.2 a hp (by rw [← q7]; exact ha)
      have gF : ∀ a ∈ gps.flatten, γ.F a = none ∧ γ.G a = none ∧ H a ≠ none := fun a ha => hl.fr a (by rw [← q7]; exact ha)
      have tP : ∀ a ∈ tfs.flatten, a ∈ γ.P := fun a ha => (q10 a).mp (.inr ha)
      -- what is given away
      have MN : (tfs ++ gps).flatten.Nodup := by rw [List.flatten_append]; exact nodup_app n9.2.1 gN fun a ha hb => gP a hb (tP a ha)
      have Mfr : ∀ a ∈ (tfs ++ gps).flatten, γ.F a = none ∧ γ.G a = none ∧ H a ≠ none := fun a ha => by
        rw [List.flatten_append] at ha
        exact (List.mem_append.mp ha).elim (fun z => ft.fr a (tP a z)) (gF a)
      have MA : ∀ a ∈ (tfs ++ gps).flatten, a ∈ γ.P ++ fps.flatten := fun a ha => by
        rw [List.flatten_append] at ha
        exact (List.mem_append.mp ha).elim (fun z => List.mem_append_left _ (tP a z)) fun z => List.mem_append_right _ (by rw [← q7]; exact z)
      have m1 : ∀ a ∈ γn.P, a ∉ (tfs ++ gps).flatten := fun a ha hb => by
        rw [List.flatten_append] at hb
        exact (List.mem_append.mp hb).elim (n9.2.2 a ha) fun z => gP a z ((q10 a).mp (.inl ha))
      have m2 : ∀ a, γn.F a ≠ none → a ∉ (tfs ++ gps).flatten := fun a h z => h (by rw [q3]; exact (Mfr a z).1)
      have m3 : ∀ a, γ.G a ≠ none → a ∉ (tfs ++ gps).flatten := fun a h z => h (Mfr a z).2.1
      have m4 : n = 0 → ∀ a ∈ γ.P, a ∉ (tfs ++ gps).flatten := fun hn a ha hb => by
        subst hn
        simp only [takes, Option.some.injEq, Prod.mk.injEq] at ht
        obtain ⟨rfl, _, _⟩ := ht
        cases q8
        exact gP a (by simpa using hb) ha
      have targs : Tri (SlotRep κ γ.F (lentG H (tfs ++ gps).flatten) H) ss (xs2.map some) gps := by
        have := args_ok (G0 := γ.G) (P0 := γ.P) (n := n) q5 ft.lg m1 m2 m3 m4 (by rw [q3]; exact q6) hss
        rw [q3] at this
        exact this
      have tmus : Tri (SlotRep κ γ.F (lentG H (tfs ++ gps).flatten) H) (ts.map fun t => Slot.mu t.2.1 t.2.2) (xs1.map some) tfs := Tri.map1 (Tri.map2 (q8.imp fun t x f _ z => ⟨x, rfl, z.2⟩))
      let γc : Gst := ⟨γ.F, lentG H (tfs ++ gps).flatten, (ts.map fun t => Slot.mu t.2.1 t.2.2) ++ ss, tfs ++ gps⟩
      have fc : Fits κ γc (xs.map some) H := {
        lf := ft.lf
        lg := lentG_le
        nd := MN
        fr := fun a ha => ⟨(Mfr a ha).1, lentG_in ha, (Mfr a ha).2.2⟩
        sl := by rw [q1, List.map_append]; exact tmus.app targs }
      refine ⟨γc, fc, ?_⟩
      -- the way back
      have back : ∀ (γ' : Gst) (H' : Hp) (us e2 : Env), γ'.env = us → Fits κ γ' (xs.map some) H' → Reach0 γc.P γc H γ' H' → backs γ.env ts us γn.env = some e2 →
          ∃ γ2, γ2.env = e2 ∧ Fits κ γ2 σ H' ∧ γ2.F = γ'.F ∧ Reach (n == 0) (γ.P ++ fps.flatten) γ H γ2 H' ∧ (∀ a ∈ γ2.P, a ∈ γn.P ∨ a ∈ γ'.P) ∧ γ2.G = γ.G := by
        intro γ' H' us e2 eu f' r' hb
        subst eu
        have keep : ∀ a o, H a = some o → a ∉ (tfs ++ gps).flatten → H' a = some o := r'.keep
        have nF : ∀ a, γ'.F a ≠ none → γ.F a ≠ none ∨ a ∈ (tfs ++ gps).flatten ∨ H a = none := r'.newF
        have nP : ∀ a ∈ γ'.P, a ∈ (tfs ++ gps).flatten ∨ H a = none := r'.newP
        have still : ∀ a, H a ≠ none → a ∉ (tfs ++ gps).flatten → γ.F a = none → γ'.F a = none := fun a h1 h2 h3 => by
          cases e : γ'.F a with
          | none => rfl
          | some o => exact ((nF a (by rw [e]; intro z; cases z)).elim (fun z => absurd h3 z) fun z => z.elim (fun y => absurd y h2) fun y => absurd y h1)
        have fm' : Fits κ { γn with F := γ'.F } σ H' := {
          lf := f'.lf
          lg := fun a o e => by
            have e' : γ.G a = some o := by rw [← q4]; exact e
            exact keep a o (ft.lg a o e') (m3 a (by rw [e']; intro z; cases z))
          nd := q5.nd
          fr := fun a ha => by
            obtain ⟨h1, h2, h3⟩ := q5.fr a ha
            refine ⟨still a h3 (m1 a ha) (by rw [← q3]; exact h1), h2, ?_⟩
            cases e : H a with
            | none => exact absurd e h3
            | some o => rw [keep a o e (m1 a ha)]; intro z; cases z
          sl := by
            have leF : Le γn.F γ'.F := by rw [q3]; exact r'.f
            refine q5.sl.imp fun s b f hf e => ?_
            have hm : ∀ a ∈ f, ∀ o, H a = some o → H' a = some o := fun a ha o z => keep a o z (m1 a (mem_flat hf ha))
            cases s with
            | un => exact e
            | xn c fs => exact e
            | fz d => exact ⟨e.1.elim fun x z => ⟨x, z.1, z.2.mono leF⟩, e.2⟩
            | bo k d => exact ⟨e.1.elim fun x z => z.elim fun q z => ⟨x, q, z.1, Lay.mono leF k d x q (fun _ _ _ y => y) z.2⟩, e.2⟩
            | ow k d => exact e.elim fun x z => ⟨x, z.1, Lay.mono leF k d x f hm z.2⟩
            | mu k d => exact e.elim fun x z => ⟨x, z.1, Lay.mono leF k d x f hm z.2⟩
            | lk k d => exact e.elim fun x z => ⟨x, z.1, Lay.mono leF k d x f hm z.2⟩
            | lm k d => exact e.elim fun x z => ⟨x, z.1, Lay.mono leF k d x f hm z.2⟩ }
        have hne : ∀ a ∈ γ'.P, a ∉ γn.P := fun a ha hp => (nP a ha).elim (m1 a hp) (q5.fr a hp).2.2
        obtain ⟨γ2, w1, w2, w3, w4, w5, w6, w7⟩ := backs_ok (e0 := γ.env) (Gc := γ'.G) (γ := { γn with F := γ'.F }) (us := γ'.env) (xs1 := xs1) (ys := xs2) (fs := γ'.fps)
          (R0 := fun (t : Nat × Sh × D) x f => σ[t.1]? = some (some x) ∧ Lay κ γ.F H t.2.1 t.2.2 x f) fm' q8 (fun t x f z => z.1) (by have := f'.sl; rw [q1] at this; exact this)
          (nodup_app q5.nd f'.nd fun a ha hb => hne a hb ha) (fun a ha => ⟨(f'.fr a ha).1, by
            show γn.G a = none
            rw [q4]
            rcases nP a ha with z | z
            · exact (Mfr a z).2.1
            · exact (fresh_notin ft z).2.2, (f'.fr a ha).2.2⟩) hb
        refine ⟨γ2, w1, w2, w3, ?_, w5, w4.trans q4⟩
        have hA : ∀ a ∈ γ2.P, a ∈ γ.P ++ fps.flatten ∨ H a = none := fun a ha => (w5 a ha).elim (fun z => .inl (List.mem_append_left _ ((q10 a).mp (.inl z)))) fun z => (nP a z).imp (MA a) id
        exact {
          g := w4.trans q4
          f := by rw [w3]; exact r'.f
          keep := fun a o e h => keep a o e fun z => h (MA a z)
          mono := r'.mono
          newF := fun a h => by rw [w3] at h; exact (nF a h).imp id fun z => z.imp (MA a) id
          newP := hA
          mus := fun i hi => by
            rw [w1]
            refine w6 i ?_
            by_cases z : i ∈ ts.map (·.1)
            · exact .inr ⟨z, hi⟩
            · exact .inl ⟨z, (takes_mu ht i hi).elim id fun y => absurd y z⟩
          lks := fun i u hu hk => by
            obtain ⟨y1, y2⟩ := takes_lk ht i u hu hk
            rw [w1, backs_lk hb i y2]
            exact y1
          pure := fun hn => by
            have hn0 : n = 0 := by simpa using hn
            refine ⟨fun a o e h => keep a o e fun z => ?_, fun a ha => .inl ?_⟩
            · rcases h with h | h
              · exact m4 hn0 a h z
              · exact h (MA a z)
            · subst hn0
              simp only [takes, Option.some.injEq, Prod.mk.injEq] at ht
              obtain ⟨rfl, _, _⟩ := ht
              cases q8
              have hg : a ∈ γn.P := ((q10 a).mpr ha).elim id fun z => by simp at z
              show a ∈ γ2.fps.flatten
              rw [w7 rfl]
              exact hg }
      cases hf : fm γc.env with
      | no =>
        have hf' : fm (ts.map (fun t => Slot.mu t.2.1 t.2.2) ++ ss) = .no := hf
        simp only [hf'] at c
        exact c.elim
      | ok v us =>
        have hf' : fm (ts.map (fun t => Slot.mu t.2.1 t.2.2) ++ ss) = .ok v us := hf
        simp only [hf'] at c
        intro γ' H' x fp eu f' r' hh hn
        cases hb : backs γ.env ts us γn.env with
        | none => simp only [hb] at c; exact c.elim
        | some e2 =>
          simp only [hb] at c
          by_cases ho : outT v.t = true
          · rw [if_pos ho] at c
            obtain ⟨γ2, w1, w2, w3, w4, w5, w6⟩ := back γ' H' us e2 eu f' r' hb
            obtain ⟨o1, o2, o3⟩ := hh.out
            have nP : ∀ a ∈ fp, a ∈ (tfs ++ gps).flatten ∨ H a = none := hn
            have hv : VRep κ γ2 σ H' v x fp := by
              have h1 := hh.one
              obtain ⟨t, d⟩ := v
              cases t with
              | f => exact ⟨by rw [w3]; exact h1.1, h1.2⟩
              | o k => show Lay κ γ2.F H' k d x fp; rw [w3]; exact h1
              | g k => cases ho
              | b k => cases ho
              | s i k => cases ho
            refine c γ2 H' x fp w1 w2 w4 (Held.mk1 hv o1 (fun a ha hp => ?_) w2 fun a ha => ⟨by rw [w3]; exact (o3 a ha).1, ?_, (o3 a ha).2.2⟩) ⟨fun a ha => (nP a ha).imp (MA a) id, fun hn0 a ha hp => ?_⟩
            · rcases w5 a hp with z | z
              · exact (nP a ha).elim (m1 a z) (q5.fr a z).2.2
              · exact o2 a ha z
            · rw [w6]
              rcases nP a ha with z | z
              · exact (Mfr a z).2.1
              · exact (fresh_notin ft z).2.2
            · exact (nP a ha).elim (m4 (by simpa using hn0) a hp) (ft.fr a hp).2.2
          · rw [if_neg ho] at c; exact c.elim
      | ex cc fs us =>
        have hf' : fm (ts.map (fun t => Slot.mu t.2.1 t.2.2) ++ ss) = .ex cc fs us := hf
        simp only [hf'] at c
        intro γ' H' cls d eu f' r' xr
        cases hb : backs γ.env ts us γn.env with
        | none => simp only [hb] at c; exact c.elim
        | some e2 =>
          simp only [hb] at c
          obtain ⟨γ2, w1, w2, w3, w4, _, _⟩ := back γ' H' us e2 eu f' r' hb
          exact c γ2 H' cls d w1 w2 (w4.weak fun z => by cases z) (by rw [w3]; exact xr)
/-- f(..): the arguments, then the def -/
def mCall (n : Nat) (fm : FM) (ms : MA) : ME := fun env => (ms env).bind (callV n fm)
theorem tM_call {n : Nat} {fm : FM} {ms : MA} {Q : VK} (h : tM κ XT W (p && n == 0) (mCall n fm ms) σ H Q) : tA κ XT W p ms σ H fun xs H1 => spF κ XT xs.length fm xs H1 Q fun cls d H' => W cls d σ H' := by
  obtain ⟨γ, ft, c⟩ := h
  refine ⟨γ, ft, ?_⟩
  cases hm : ms γ.env with
  | no => simp only [mCall, hm, R.bind, R.map] at c; exact c
  | ex cc fs e => simp only [mCall, hm, R.bind, R.map] at c; exact c
  | ok vs e1 =>
    intro γ1 H1 xs fps ee ft1 r1 hl hn
    subst ee
    refine call_sp (n := n) ft1 hl ?_
    have hB : ∀ a ∈ γ1.P ++ fps.flatten, a ∈ γ.P ∨ H a = none := fun a ha => (List.mem_append.mp ha).elim (r1.newP a) (hn.1 a)
    have hT : p = true → ∀ a ∈ γ1.P ++ fps.flatten, a ∈ γ1.P ∨ a ∉ γ.P := fun hp a ha => (List.mem_append.mp ha).imp id (hn.2 hp a)
    cases hc : callV n fm vs γ1.env with
    | no => simp only [mCall, hm, R.bind, hc, R.map] at c; exact c
    | ex cc fs e =>
      simp only [mCall, hm, R.bind, hc, R.map] at c
      exact fun γ2 H2 cls d e2 ft2 r2 xr => c γ2 H2 cls d e2 ft2 (((r1.weak (q := false) fun z => by cases z).trans r2 hB fun z => by cases z).weak fun z => by cases z) xr
    | ok v e =>
      simp only [mCall, hm, R.bind, hc, R.map] at c
      intro γ2 H2 x fp e2 ft2 r2 hl2 hn2
      refine c γ2 H2 [x] [fp] e2 ft2 (r1.trans r2 hB hT) hl2 ⟨fun a ha => ?_, fun hp a ha hP => ?_⟩ x rfl
      · exact (hn2.1 a (by simpa using ha)).elim (hB a) fun z => .inr (r1.mono a z)
      · obtain ⟨hp1, hp2⟩ := Bool.and_eq_true_iff.mp hp
        have ha' : a ∈ fp := by simpa using ha
        rcases hn2.1 a ha' with z | z
        · rcases List.mem_append.mp z with w | w
          · exact hn2.2 hp2 a ha' w
          · exact hn.2 hp1 a w hP
        · exact (ft.fr a hP).2.2 (r1.mono a z)
end
end Py

set_option Elab.async false
set_option linter.all false
set_option maxRecDepth 100000
set_option maxHeartbeats 1000000
/-! PyJ: a def's body keeps its promise. -/
namespace Py
open PySem L2
def keepMu : Slot → Slot → Slot
  | .mu _ _, .mu k d => .mu k d
  | _, _ => .un
def finEnv : Env → Env → Env
  | [], _ => []
  | _ :: r, [] => .un :: finEnv r []
  | s :: r, u :: us => keepMu s u :: finEnv r us
def mkF (nn : Nat) (body : MS) : FM := fun pe => match body (pe ++ List.replicate (nn - pe.length) .un) with
  | .nx e => .ok ⟨.f, .non⟩ (finEnv pe e)
  | .rt v e => if outT v.t = true then .ok v (finEnv pe e) else .no
  | .ex c fs e => .ex c fs (finEnv pe e)
  | _ => .no
section
variable {κ : Kx} {XT : Nat → Option (Value × List Str)} {p q : Bool} {A B : List Addr} {γ γ0 γ1 γ2 : Gst} {σ σ1 σ2 : St} {F F' G H H1 H2 : Hp} {W : WX} {Ds : Ends} {X : Cx} {v : Val} {x : V} {fp : List Addr}
theorem tri_rep (n : Nat) : Tri (SlotRep κ F G H) (List.replicate n .un) (List.replicate n none) (List.replicate n []) := by
  induction n with
  | zero => exact .nil
  | succ n ih => exact .cons rfl ih
theorem flat_rep (n : Nat) : (List.replicate n ([] : List Addr)).flatten = [] := by
  induction n with
  | zero => rfl
  | succ n ih => rw [List.replicate_succ, List.flatten_cons, ih]; rfl
def Gst.wide (γ : Gst) (n : Nat) : Gst := { γ with env := γ.env ++ List.replicate n .un, fps := γ.fps ++ List.replicate n [] }
theorem Gst.wide_P (γ : Gst) (n : Nat) : (γ.wide n).P = γ.P := by
  show (γ.fps ++ List.replicate n []).flatten = _
  rw [List.flatten_append, flat_rep, List.append_nil]
  rfl
theorem Fits.wide (ft : Fits κ γ σ H) (n : Nat) : Fits κ (γ.wide n) (σ ++ List.replicate n none) H where
  lf := ft.lf
  lg := ft.lg
  nd := by rw [Gst.wide_P]; exact ft.nd
  fr := fun a ha => by rw [Gst.wide_P] at ha; exact ft.fr a ha
  sl := ft.sl.app (tri_rep n)
/-- the lent parameters at the end -/
theorem fin_tri : ∀ {pe e : Env} {xs : List V} {σ' : St} {fps : List (List Addr)}, pe.length = xs.length → Tri (SlotRep κ F G H) e σ' fps → (∀ i, Mu pe i → σ'[i]? = some (xs[i]?)) →
    ∃ gps, Tri (SlotRep κ F G H) (finEnv pe e) (xs.map some) gps ∧ (fps.flatten.Nodup → gps.flatten.Nodup) ∧ ∀ a ∈ gps.flatten, a ∈ fps.flatten
  | [], e, [], σ', fps, _, _, _ => ⟨[], by unfold finEnv; exact .nil, fun _ => by simp, by simp⟩
  | [], e, _ :: _, σ', fps, hl, _, _ => by cases hl
  | _ :: _, e, [], σ', fps, hl, _, _ => by cases hl
  | s :: pe, [], x :: xs, _, _, hl, .nil, hp => by
    obtain ⟨gps, h1, h2, h3⟩ := fin_tri (pe := pe) (e := []) (xs := xs) (by simpa using hl) .nil (fun i hi => by
      have := hp (i + 1) (by obtain ⟨k, d, z⟩ := hi; exact ⟨k, d, by simpa using z⟩)
      simpa using this)
    unfold finEnv
    exact ⟨[] :: gps, .cons rfl h1, fun hn => by rw [List.flatten_cons]; exact h2 hn, fun a ha => h3 a (by simpa using ha)⟩
  | s :: pe, u :: us, x :: xs, _, _, hl, @Tri.cons _ _ _ _ _ b f _ σ' fps r t, hp => by
    have hl' : pe.length = xs.length := by simpa using hl
    obtain ⟨gps, h1, h2, h3⟩ := fin_tri (pe := pe) (xs := xs) hl' t (fun i hi => by
      have := hp (i + 1) (by obtain ⟨k, d, z⟩ := hi; exact ⟨k, d, by simpa using z⟩)
      simpa using this)
    have key : keepMu s u = .un ∨ ∃ k d k' d', s = .mu k' d' ∧ u = .mu k d ∧ keepMu s u = .mu k d := by
      cases s with
      | mu k' d' => cases u with
        | mu k d => exact .inr ⟨k, d, k', d', rfl, rfl, rfl⟩
        | _ => exact .inl rfl
      | _ => exact .inl rfl
    unfold finEnv
    rcases key with e | ⟨k, d, k', d', rfl, rfl, e⟩
    · rw [e]
      exact ⟨[] :: gps, .cons rfl h1, fun hn => by rw [List.flatten_cons] at hn ⊢; exact h2 (nodup_split hn).2.1, fun a ha => by rw [List.flatten_cons] at ha ⊢; exact List.mem_append_right _ (h3 a (by simpa using ha))⟩
    · rw [e]
      obtain ⟨x', ex, hl⟩ := r
      have hb := hp 0 ⟨k', d', .inl rfl⟩
      simp at hb
      rw [ex] at hb
      cases hb
      refine ⟨f :: gps, .cons ⟨x, rfl, hl⟩ h1, fun hn => ?_, fun a ha => ?_⟩
      · rw [List.flatten_cons] at hn ⊢
        obtain ⟨n1, n2, n3⟩ := nodup_split hn
        exact nodup_app n1 (h2 n2) fun a ha hb => n3 a ha (h3 a hb)
      · rw [List.flatten_cons] at ha ⊢
        exact (List.mem_append.mp ha).elim (List.mem_append_left _) fun z => List.mem_append_right _ (h3 a z)
/-- from the body's end to the call's end -/
theorem fin_ok {xs : List V} {pe e : Env} {n : Nat} (ft : Fits κ γ (xs.map some) H) (hpe : γ.env = pe) (g : Got κ (γ.wide n).P (γ.wide n) (xs.map some ++ List.replicate n none) H e γ1 σ1 H1) :
    ∃ γ2, γ2.env = finEnv pe e ∧ Fits κ γ2 (xs.map some) H1 ∧ γ2.F = γ1.F ∧ γ2.G = γ1.G ∧ (∀ a ∈ γ2.P, a ∈ γ1.P) ∧ Reach0 γ.P γ H γ2 H1 := by
  subst hpe
  have hl : γ.env.length = xs.length := by have := ft.sl.len1; simpa using this
  obtain ⟨gps, t1, t2, t3⟩ := fin_tri (pe := γ.env) (e := e) (xs := xs) hl (by have := g.ft.sl; rw [g.env] at this; exact this) fun i hi => by
    have hi' : Mu (γ.wide n).env i := by
      obtain ⟨k, d, z⟩ := hi
      have il : i < γ.env.length := by rcases z with z | z <;> exact (List.getElem?_eq_some_iff.mp z).1
      refine ⟨k, d, ?_⟩
      show (γ.env ++ _)[i]? = _ ∨ (γ.env ++ _)[i]? = _
      rw [List.getElem?_append_left il]
      exact z
    have il : i < xs.length := by
      obtain ⟨k, d, z⟩ := hi
      rw [← hl]
      rcases z with z | z <;> exact (List.getElem?_eq_some_iff.mp z).1
    rw [g.pin i (.inl hi'), List.getElem?_append_left (by simpa using il)]
    simp [il]
  have hP : ∀ a ∈ gps.flatten, a ∈ γ1.P := t3
  refine ⟨⟨γ1.F, γ1.G, finEnv γ.env e, gps⟩, rfl, ⟨g.ft.lf, g.ft.lg, t2 g.ft.nd, fun a ha => g.ft.fr a (hP a ha), t1⟩, rfl, rfl, hP, ?_⟩
  have r := g.rc
  rw [Gst.wide_P] at r
  exact ⟨r.f, r.keep, r.mono, r.newF, fun a ha => r.newP a (hP a ha)⟩
theorem held_fin {xs : List V} (hv : outT v.t = true) (hl : Held κ γ1 σ1 H [v] [x] [fp]) (hF : γ2.F = γ1.F) (hG : γ2.G = γ1.G) (hP : ∀ a ∈ γ2.P, a ∈ γ1.P) (ft : Fits κ γ2 σ H) : Held κ γ2 σ H [v] [x] [fp] := by
  obtain ⟨o1, o2, o3⟩ := hl.out
  refine Held.mk1 ?_ o1 (fun a ha hp => o2 a ha (hP a hp)) ft fun a ha => by rw [hF, hG]; exact o3 a ha
  have h1 := hl.one
  obtain ⟨t, d⟩ := v
  cases t with
  | f => exact ⟨by rw [hF]; exact h1.1, h1.2⟩
  | o k => show Lay κ γ2.F H k d x fp; rw [hF]; exact h1
  | g k => cases hv
  | b k => cases hv
  | s i k => cases hv
/-- the body's reading from the def's promise -/
theorem body_ok {m : MS} {N : List Str} {xs : List V} {Q : VK} {E : XK} {np : Nat} (h : spF κ XT np (mkF N.length m) xs H Q E) : tS κ XT (fun cls d _ H => E cls d H) m { nx := fun _ H' => Q .non H', rt := Q } (L2.start N xs) H := by
  obtain ⟨rfl, γ, ft, c⟩ := h
  have hl : γ.env.length = xs.length := by have := ft.sl.len1; simpa using this
  have eσ : L2.start N xs = xs.map some ++ List.replicate (N.length - γ.env.length) none := by unfold L2.start; rw [hl]
  rw [eσ]
  refine ⟨γ.wide (N.length - γ.env.length), ft.wide _, ?_⟩
  have ee : (γ.wide (N.length - γ.env.length)).env = γ.env ++ List.replicate (N.length - γ.env.length) .un := rfl
  rw [ee]
  unfold mkF at c
  cases hm : m (γ.env ++ List.replicate (N.length - γ.env.length) .un) with
  | nx e =>
    simp only [hm] at c
    intro γ1 σ1 H1 g
    obtain ⟨γ2, q1, q2, q3, q4, q5, q6⟩ := fin_ok ft rfl g
    exact c γ2 H1 .non [] q1 q2 q6 (held_atom q2 (d := .non) rfl) (by simp)
  | rt v e =>
    simp only [hm] at c
    intro γ1 σ1 H1 x fp g hh hn
    obtain ⟨γ2, q1, q2, q3, q4, q5, q6⟩ := fin_ok ft rfl g
    by_cases ho : outT v.t = true
    · rw [if_pos ho] at c
      rw [Gst.wide_P] at hn
      exact c γ2 H1 x fp q1 q2 q6 (held_fin (xs := xs) ho hh q3 q4 q5 q2) hn
    · rw [if_neg ho] at c; exact c.elim
  | ex cc fs e =>
    simp only [hm] at c
    intro γ1 σ1 H1 cls d g xr
    obtain ⟨γ2, q1, q2, q3, q4, q5, q6⟩ := fin_ok ft rfl g
    exact c γ2 H1 cls d q1 q2 q6 (by rw [q3]; exact xr)
  | bk e => simp only [hm] at c; exact c.elim
  | ct e => simp only [hm] at c; exact c.elim
  | no => simp only [hm] at c; exact c.elim
/-- THE RULE for a def -/
theorem fn_ok {P : Program} {w : World} {K : PySem.W.Frag} {mg : Str → Option Value} {base : Heap} {CT : Cts} {x qual : Str} {params : Arguments} {body : List Stmt} {scope : Scope} {dvs : List V} {kws : List (Str × V)} {f : Addr} {fd : FuncData} {N ps : List Str} {k : Nat} {m : MS}
    (Fd : FunD K x qual params body scope dvs kws f fd) (S : FnScope N ps scope)
    (hb : ∀ (cdv : Value) (A : Around) (outer : List PySem.Env) (s : Shared) (H : Hp) (E : XK), Room k (A.deeper (PyProof.Rows.envOfC qual scope s.heap.objs.size f cdv)) →
      PSs (cxOf (L2.CX P w) P w K mg base N qual scope f cdv A outer s H E) body (tS ⟨K, CT⟩ XT (fun cls d _ H => E cls d H) m)) :
    FnOk P w K mg base (L2.CX P w) (k + 1) f fd ps (spF ⟨K, CT⟩ XT ps.length (mkF N.length m)) :=
  Fd.ok S (fun vs H Q E h => h.1) fun cdv A outer s H vs Q E hr h => ⟨_, hb cdv A outer s H E hr, body_ok h⟩
end
end Py

set_option Elab.async false
set_option linter.all false
set_option maxRecDepth 100000
set_option maxHeartbeats 1000000
/-! PyK: targets, loops. -/
namespace Py
open PySem L2
abbrev As := Val → Env → Option Env
abbrev Ass := List Val → Env → Option Env
def fgT : T → Bool
  | .f | .g _ => true
  | _ => false
def aTp (f : Ass) : As := fun v e => match v.d with
  | .tup ds => f (ds.map fun d => ⟨.f, d⟩) e
  | _ => none
def aNil : Ass := fun vs e => match vs with
  | [] => some e
  | _ => none
def aCons (f : As) (fs : Ass) : Ass := fun vs e => match vs with
  | v :: r => if fgT v.t = true then (match f v e with
    | some e1 => fs r e1
    | none => none) else none
  | [] => none
def TgS (κ : Kx) (g : TG) (f : As) : Prop := ∀ (γ : Gst) (σ : St) (H : Hp) (v : Val) (x : V) (fp : List Addr) (e' : Env) (A : List Addr) (K : St → Hp → Prop), Fits κ γ σ H → Held κ γ σ H [v] [x] [fp] → (∀ a ∈ γ.P, a ∈ A) → (∀ a ∈ fp, a ∈ A) → f v γ.env = some e' →
  (∀ γ' σ', Got κ A γ σ H e' γ' σ' H → K σ' H) → g x σ H K
def TgsS (κ : Kx) (t : TGs) (f : Ass) : Prop := ∀ (γ : Gst) (σ : St) (H : Hp) (vs : List Val) (xs : List V) (fps : List (List Addr)) (e' : Env) (A : List Addr) (K : St → Hp → Prop), Fits κ γ σ H → Tri (fun v x f => fgT v.t = true ∧ VRep κ γ σ H v x f) vs xs fps → (∀ a ∈ γ.P, a ∈ A) → f vs γ.env = some e' →
  (∀ γ' σ', Got κ A γ σ H e' γ' σ' H → K σ' H) → t xs σ H K
section
variable {κ : Kx} {XT : Nat → Option (Value × List Str)} {p q : Bool} {A B : List Addr} {γ γ0 γ1 γ2 : Gst} {σ σ1 σ2 : St} {F F' G H H1 H2 : Hp} {W : WX} {Ds : Ends} {X : Cx} {v : Val} {x : V} {fp : List Addr}
theorem tg_name {i : Nat} : TgS κ (gName i) (setSlot i) := fun γ σ H v x fp e' A K ft hl hA hf hs k => by
  obtain ⟨γ2, ee, f2, r2, pn⟩ := set_ok ft hl hA hf hs
  exact k γ2 _ ⟨ee, f2, r2, pn⟩
theorem fg_vrep (h : VRep κ γ σ H v x fp) (hv : fgT v.t = true) (hF : Le γ.F γ1.F) (hG : γ1.G = γ.G) : VRep κ γ1 σ1 H1 v x fp := by
  obtain ⟨t, d⟩ := v
  cases t with
  | f => exact ⟨h.1.mono hF, h.2⟩
  | g k => exact ⟨h.1.elim fun q z => ⟨q, by rw [hG]; exact Lay.mono hF k d x q (fun _ _ _ y => y) z⟩, h.2⟩
  | b k => cases hv
  | o k => cases hv
  | s i k => cases hv
theorem fg_nil (h : VRep κ γ σ H v x fp) (hv : fgT v.t = true) : fp = [] := by
  obtain ⟨t, d⟩ := v
  cases t with
  | f => exact h.2
  | g k => exact h.2
  | b k => cases hv
  | o k => cases hv
  | s i k => cases hv
theorem tgs_nil : TgsS κ gNil aNil := fun γ σ H vs xs fps e' A K ft tr hA hs k => by
  cases tr with
  | nil => cases hs; exact ⟨rfl, k γ σ (Got.here ft hA)⟩
  | cons a t => cases hs
theorem tgs_cons {g : TG} {t : TGs} {f : As} {fs : Ass} (h1 : TgS κ g f) (h2 : TgsS κ t fs) : TgsS κ (gCons g t) (aCons f fs) := fun γ σ H vs xs fps e' A K ft tr hA hs k => by
  cases tr with
  | nil => cases hs
  | @cons v x fp vs xs fps a tl =>
    obtain ⟨hv0, a⟩ := a
    have e0 := fg_nil a hv0
    subst e0
    simp only [aCons, hv0, if_true] at hs
    cases hf : f v γ.env with
    | none => rw [hf] at hs; cases hs
    | some e1 =>
      rw [hf] at hs
      refine ⟨x, xs, rfl, ?_⟩
      refine h1 γ σ H v x [] e1 A _ ft (Held.mk1 a (by simp) (by simp) ft (by simp)) hA (by simp) hf fun γ1 σ1 g1 => ?_
      have hA1 : ∀ a ∈ γ1.P, a ∈ A := fun a ha => (g1.rc.newP a ha).elim id fun z => absurd z (g1.ft.fr a ha).2.2
      exact h2 γ1 σ1 H vs xs fps e' A _ g1.ft (tl.imp fun v x f hm z => ⟨z.1, fg_vrep z.2 z.1 g1.rc.f g1.rc.g⟩) hA1 (by rw [g1.env]; exact hs) fun γ2 σ2 g2 => k γ2 σ2 (g1.trans g2 fun a ha => .inl ha)
theorem tri_f {ds : List D} {vs : List V} (h : Paired (Rep κ γ.F) ds vs) : ∃ fps : List (List Addr), Tri (fun v x f => fgT v.t = true ∧ VRep κ γ σ H v x f) (ds.map fun d => (⟨.f, d⟩ : Val)) vs fps := by
  induction h with
  | nil => exact ⟨[], .nil⟩
  | cons a t ih => obtain ⟨fps, h1⟩ := ih; exact ⟨[] :: fps, .cons ⟨rfl, a, rfl⟩ h1⟩
/-- a tuple is frozen, whatever holds it -/
theorem VRep.tup {ds : List D} {t : T} (ft : Fits κ γ σ H) (h : VRep κ γ σ H ⟨t, .tup ds⟩ x fp) : Rep κ γ.F (.tup ds) x := by
  have lay : ∀ {X0 : Hp} {k : Sh} {q : List Addr}, Lay κ γ.F X0 k (.tup ds) x q → Rep κ γ.F (.tup ds) x := fun {X0 k q} h => ((lay_sol k rfl).mp h).1
  cases t with
  | f => exact h.1
  | g k => exact h.1.elim fun q z => lay z
  | b k => exact h.1.elim fun q z => lay z.1
  | o k => exact lay h
  | s i k =>
    obtain ⟨⟨sl, e1, e2, e3⟩, _⟩ := h
    obtain ⟨b, f, e4, e5, e6⟩ := ft.slot e1
    rw [e3] at e4
    cases e4
    dsimp only at e2
    rcases own_of e2 with z | z | z | z <;> subst z <;> (obtain ⟨x', ex, e7⟩ := e6; cases ex; exact lay e7)
theorem tg_tup {t : TGs} {f : Ass} {n : Nat} (h : TgsS κ t f) (hn : ∀ vs e e', f vs e = some e' → vs.length = n) : TgS κ (gTup κ.K n t) (aTp f) := fun γ σ H v x fp e' A K ft hl hA hf hs k => by
  obtain ⟨tt, d⟩ := v
  unfold aTp at hs
  split at hs
  · rename_i ds hd
    dsimp only at hd
    subst hd
    obtain ⟨a, vs, rfl, q1, q2⟩ := (hl.one.tup ft).tup
    obtain ⟨fps, tr⟩ := tri_f (σ := σ) (H := H) q2
    have l1 := hn _ _ _ hs
    refine ⟨a, vs, rfl, sqT_le ft.lf q1, ?_, h γ σ H _ vs fps e' A K ft tr hA hs k⟩
    rw [← Paired.length q2]
    simpa using l1
  · cases hs
theorem aNil_len : ∀ vs e e', aNil vs e = some e' → vs.length = 0 := fun vs e e' h => by
  cases vs with
  | nil => rfl
  | cons a b => cases h
theorem aCons_len {f : As} {fs : Ass} {n : Nat} (h : ∀ vs e e', fs vs e = some e' → vs.length = n) : ∀ vs e e', aCons f fs vs e = some e' → vs.length = n + 1 := fun vs e e' hs => by
  cases vs with
  | nil => cases hs
  | cons v r =>
    unfold aCons at hs
    dsimp only at hs
    split at hs
    · split at hs
      · simp [h _ _ _ hs]
      · cases hs
    · cases hs
/-! ### loops -/
/-- an item of a walk: a value, or a new pair of two values -/
inductive Item where
  | one (v : Val) | two (v w : Val)
def asItem (f : As) (fs : Ass) : Item → Env → Option Env
  | .one v, e => if fgT v.t = true then f v e else none
  | .two v w, e => if (fgT v.t && fgT w.t) = true then fs [v, w] e else none
def loopF (as : Item → Env → Option Env) (body : MS) : List Item → Env → Fl
  | [], e => .nx e
  | it :: r, e => (match as it e with
    | none => .no
    | some e1 => (match body e1 with
      | .nx e2 => loopF as body r e2
      | .ct e2 => loopF as body r e2
      | .bk e2 => .nx e2
      | z => z))
/-- what a walk gives, item by item -/
def ItemRep (κ : Kx) (γ : Gst) (σ : St) : Item → (Hp → V → Hp → Prop) → Prop
  | .one v, y => fgT v.t = true → ∀ H x H', Fits κ γ σ H → y H x H' → H' = H ∧ VRep κ γ σ H v x []
  | .two v w, y => fgT v.t = true → fgT w.t = true → ∀ H x H', Fits κ γ σ H → y H x H' → ∃ T a b, x = .ref T ∧ H T = none ∧ H' = upd H T (.tup [a, b]) ∧ VRep κ γ σ H v a [] ∧ VRep κ γ σ H w b []
/-- a slot that a comprehension's own name may cover -/
def plainS : Option Slot → Bool
  | some .un | some (.fz _) | some (.bo _ _) => true
  | _ => false
def wipeE : List Nat → Env → Env
  | [], e => e
  | v :: vs, e => (wipeE vs e).set v .un
/-- the slots vs are emptied -/
def wipeF : List Nat → List (List Addr) → List (List Addr)
  | [], f => f
  | v :: vs, f => (wipeF vs f).set v []
def Gst.wipe (γ : Gst) (vs : List Nat) : Gst := { γ with env := wipeE vs γ.env, fps := wipeF vs γ.fps }
theorem wipeE_get : ∀ {vs : List Nat} {e : Env} {j : Nat}, j ∉ vs → (wipeE vs e)[j]? = e[j]?
  | [], e, j, h => rfl
  | v :: vs, e, j, h => by
    unfold wipeE
    rw [get_set_ne fun z => h (by simp [z]), wipeE_get fun z => h (List.mem_cons_of_mem _ z)]
theorem wipe_get (σ : St) : ∀ (vs : List Nat) (j : Nat), (L2.wipe σ vs)[j]? = if j ∈ vs ∧ j < σ.length then some none else σ[j]?
  | [], j => by simp [L2.wipe]
  | v :: vs, j => by
    unfold L2.wipe
    rw [List.getElem?_set, L2.wipe_length, wipe_get σ vs j]
    by_cases z : v = j
    · subst z
      by_cases y : v < σ.length
      · simp [y]
      · simp [y]
    · simp [z, Ne.symm z]
/-- a source: a walk of the items, as long as S stands -/
structure Src (κ : Kx) (J : It) (items : List Item) (S : Gst → St → Hp → Prop) : Prop where
  walk : ∃ G Y, Walk J items.length G Y ∧ (∀ γ σ H, Fits κ γ σ H → S γ σ H → G H) ∧ ∀ γ σ H, Fits κ γ σ H → S γ σ H → ∀ i it, items[i]? = some it → ItemRep κ γ σ it (Y i)
  stay : ∀ A γ σ H e γ' σ' H', Fits κ γ σ H → S γ σ H → Got κ A γ σ H e γ' σ' H' → S γ' σ' H'
  wipe : ∀ γ σ H H' vs, S γ σ H → (∀ i ∈ vs, plainS γ.env[i]? = true) → S (γ.wipe vs) (L2.wipe σ vs) H'
theorem Got.upd (ft : Fits κ γ σ H) {a : Addr} {o : HO} (ha : H a = none) (hA : ∀ b ∈ γ.P, b ∈ A) : Got κ A γ σ H γ.env γ σ (upd H a o) := ⟨rfl, ft.heap (Le.upd ha), Reach.heap (Le.upd ha) hA, fun _ _ => rfl⟩
/-- the item goes to the target -/
theorem item_as {g : TG} {t : TGs} {f : As} {fs : Ass} {it : Item} {y : Hp → V → Hp → Prop} {e1 : Env} {K : St → Hp → Prop} {H' : Hp} (hg : TgS κ g f) (hgs : (∀ n, g = gTup κ.K n t → TgsS κ t fs) ∧ (∀ v w, it = .two v w → g = gTup κ.K 2 t)) (ft : Fits κ γ σ H) (hi : ItemRep κ γ σ it y) (hy : y H x H') (hs : asItem f fs it γ.env = some e1)
    (k : ∀ γ' σ', Got κ γ.P γ σ H e1 γ' σ' H' → K σ' H') : g x σ H' K := by
  cases it with
  | one v =>
    simp only [asItem] at hs
    split at hs
    · rename_i hv
      obtain ⟨rfl, hr⟩ := hi hv H x H' ft hy
      exact hg γ σ H' v x [] e1 γ.P K ft (Held.mk1 hr (by simp) (by simp) ft (by simp)) (fun _ h => h) (by simp) hs k
    · cases hs
  | two v w =>
    simp only [asItem] at hs
    split at hs
    · rename_i hv
      obtain ⟨h1, h2⟩ := Bool.and_eq_true_iff.mp hv
      obtain ⟨T, a, b, rfl, hT, rfl, r1, r2⟩ := hi h1 h2 H x H' ft hy
      have eg := hgs.2 v w rfl
      have g0 := Got.upd ft (o := .tup [a, b]) hT (A := γ.P) fun _ h => h
      rw [eg]
      refine ⟨T, [a, b], rfl, SqT.of upd_same, rfl, ?_⟩
      exact hgs.1 2 eg γ σ _ [v, w] [a, b] [[], []] e1 γ.P K g0.ft (.cons ⟨h1, fg_vrep r1 h1 (Le.refl _) rfl⟩ (.cons ⟨h2, fg_vrep r2 h2 (Le.refl _) rfl⟩ .nil)) (fun _ h => h) hs
        fun γ' σ' g1 => k γ' σ' (g0.trans g1 fun a ha => .inl ha)
    · cases hs
/-- the loop's reading -/
theorem loop_ok {J : It} {items : List Item} {S : Gst → St → Hp → Prop} {g : TG} {t : TGs} {f : As} {fs : Ass} {body : MS} (sr : Src κ J items S) (hg : TgS κ g f) (hgs : (∀ n, g = gTup κ.K n t → TgsS κ t fs) ∧ (∀ it ∈ items, ∀ v w, it = .two v w → g = gTup κ.K 2 t))
    (ft : Fits κ γ σ H) (hS : S γ σ H) (c : ContS κ XT W A γ σ H Ds (loopF (asItem f fs) body items γ.env)) (hA : ∀ a ∈ γ.P, a ∈ A) :
    ∃ W' : Nat → Nat → St → Hp → Prop, (∃ m, W' 0 m σ H) ∧ ∀ i m σ H, W' i m σ H →
      (J.stop i H ∧ Ds.nx σ H) ∨ (J.go i H ∧ ∃ N : St → Hp → Prop, (∀ σ' H', N σ' H' → ∃ m', m' < m ∧ W' (i + 1) m' σ' H') ∧ ∀ x H', J.yld i H x H' → g x σ H' fun σ2 H2 => tS κ XT W body { Ds with nx := N, ct := N, bk := Ds.nx } σ2 H2) := by
  obtain ⟨G, Y, wk, w1, w2⟩ := sr.walk
  refine for_it wk (fun i σ1 H1 => ∃ γ1, Fits κ γ1 σ1 H1 ∧ S γ1 σ1 H1 ∧ ContS κ XT W γ1.P γ1 σ1 H1 Ds (loopF (asItem f fs) body (items.drop i) γ1.env)) ⟨γ, ft, hS, ?_⟩ (fun i σ1 H1 _ ⟨γ1, f1, s1, _⟩ => w1 γ1 σ1 H1 f1 s1) ?_ ?_
  · rw [List.drop_zero]
    exact c.step (Got.here ft hA) fun a ha => .inl (hA a ha)
  · rintro i x σ1 H1 H2 hi ⟨γ1, f1, s1, c1⟩ hy
    obtain ⟨it, hit⟩ : ∃ it, items[i]? = some it := ⟨items[i], by simp [hi]⟩
    have ed : items.drop i = it :: items.drop (i + 1) := by
      rw [List.drop_eq_getElem_cons hi]
      congr 1
      simpa [hi] using hit
    rw [ed] at c1
    unfold loopF at c1
    cases ha : asItem f fs it γ1.env with
    | none => simp only [ha] at c1; exact c1.elim
    | some e1 =>
      simp only [ha] at c1
      refine item_as hg ⟨hgs.1, fun v w e => hgs.2 it (List.mem_of_getElem? hit) v w e⟩ f1 (w2 γ1 σ1 H1 f1 s1 i it hit) hy ha fun γ2 σ2 g2 => ?_
      refine ⟨γ2, g2.ft, ?_⟩
      rw [g2.env]
      cases hb : body e1 with
      | nx e2 =>
        simp only [hb] at c1
        exact fun γ3 σ3 H3 g3 => ⟨γ3, g3.ft, sr.stay _ _ _ _ _ _ _ _ f1 s1 (g2.trans g3 g2.rc.newP), by rw [g3.env]; exact c1.step (g2.trans g3 g2.rc.newP) fun a ha => ((g2.trans g3 g2.rc.newP).rc.newP a ha)⟩
      | ct e2 =>
        simp only [hb] at c1
        exact fun γ3 σ3 H3 g3 => ⟨γ3, g3.ft, sr.stay _ _ _ _ _ _ _ _ f1 s1 (g2.trans g3 g2.rc.newP), by rw [g3.env]; exact c1.step (g2.trans g3 g2.rc.newP) fun a ha => ((g2.trans g3 g2.rc.newP).rc.newP a ha)⟩
      | bk e2 =>
        simp only [hb] at c1
        exact fun γ3 σ3 H3 g3 => c1 γ3 σ3 H3 (g2.trans g3 g2.rc.newP)
      | rt v e2 =>
        simp only [hb] at c1
        exact fun γ3 σ3 H3 x fp g3 hh hn => c1 γ3 σ3 H3 x fp (g2.trans g3 g2.rc.newP) hh fun a ha => (hn a ha).elim (g2.rc.newP a) fun z => .inr (g2.rc.mono a z)
      | ex cc fs2 e2 =>
        simp only [hb] at c1
        exact fun γ3 σ3 H3 cls d g3 xr => c1 γ3 σ3 H3 cls d (g2.trans g3 g2.rc.newP) xr
      | no => simp only [hb] at c1; exact c1.elim
  · rintro σ1 H1 ⟨γ1, f1, s1, c1⟩
    rw [List.drop_length] at c1
    exact c1 γ1 σ1 H1 (Got.here f1 fun _ h => h)
end
end Py

set_option Elab.async false
set_option linter.all false
set_option maxRecDepth 100000
set_option maxHeartbeats 1000000
/-! PyL: items of a list; for over lists, tuples, ranges. -/
namespace Py
open PySem L2
def mkT (t : Sh → T) : Sh → T
  | .f => .f
  | s => t s
def T.sub : T → T
  | .f => .f
  | .g k => mkT .g k.sub
  | .b k => mkT .b k.sub
  | .s _ k => mkT .b k.sub
  | .o k => mkT .o k.sub
def lockS : Slot → Option Slot
  | .ow k d => some (.lk k d)
  | .mu k d => some (.lm k d)
  | _ => none
def unlock (i : Nat) (e : Env) : Env := match e[i]? with
  | some (.lk k d) => e.set i (.ow k d)
  | some (.lm k d) => e.set i (.mu k d)
  | _ => e
def unlockFl (i : Nat) : Fl → Fl
  | .nx e => .nx (unlock i e)
  | .bk e => .bk (unlock i e)
  | .ct e => .ct (unlock i e)
  | .rt v e => .rt v (unlock i e)
  | .ex c fs e => .ex c fs (unlock i e)
  | .no => .no
section
variable {κ : Kx} {XT : Nat → Option (Value × List Str)} {p q : Bool} {A B : List Addr} {γ γ0 γ1 γ2 : Gst} {σ σ1 σ2 : St} {F F' G H H1 H2 : Hp} {W : WX} {Ds : Ends} {X : Cx} {v : Val} {x : V} {fp : List Addr}
theorem sol_solid {d : D} (h : solid d = true) : isSol d = true := by cases d <;> first | rfl | (cases h; done)
theorem lay_solid {k : Sh} {d : D} {X0 : Hp} {q : List Addr} (hs : solid d = true) (h : Lay κ F X0 k d x q) : Rep κ F d x ∧ q = [] := (lay_sol k (sol_solid hs)).mp h
theorem vrep_rep {d : D} (t : T) (h : Rep κ γ.F d x) (ht : solid d = true ∨ t = .f) : VRep κ γ σ H (mkV t d) x [] := by
  unfold mkV
  split
  · exact ⟨h, rfl⟩
  · rename_i hs
    rcases ht with z | z
    · exact absurd z hs
    · subst z; exact ⟨h, rfl⟩
/-- an item of own or lent data -/
theorem item_lay {k : Sh} {d : D} {q : List Addr} {Y0 : Hp} (t : Sh → T) (h : Lay κ γ.F Y0 k d x q) (mk : solid d = false → VRep κ γ σ H ⟨t k, d⟩ x []) : VRep κ γ σ H (mkV (mkT t k) d) x [] := by
  by_cases hs : solid d = true
  · unfold mkV
    rw [if_pos hs]
    exact ⟨(lay_solid hs h).1, rfl⟩
  · cases k with
    | f => exact vrep_rep _ (layF.mp h).1 (.inr rfl)
    | _ =>
      unfold mkV
      rw [if_neg hs]
      exact mk (by simpa using hs)
theorem Paired.get {α β : Type} {R : α → β → Prop} {as : List α} {bs : List β} (h : Paired R as bs) : ∀ {i : Nat} {a : α}, as[i]? = some a → ∃ b, bs[i]? = some b ∧ R a b := by
  induction h with
  | nil => intro i a e; simp at e
  | cons r t ih =>
    intro i a e
    cases i with
    | zero => simp at e; subst e; exact ⟨_, rfl, r⟩
    | succ i => simp at e; simpa using ih e
/-- a list by its items, each with its tag (own temps left aside) -/
theorem list_items {t : T} {ds : List D} (ft : Fits κ γ σ H) (h : VRep κ γ σ H ⟨t, .lst ds⟩ x fp) (ho : ∀ k, t ≠ .o k) :
    ∃ a vs, x = .ref a ∧ SqL κ.K H a vs ∧ vs.length = ds.length ∧ ∀ (i : Nat) d, ds[i]? = some d → ∃ y, vs[i]? = some y ∧ VRep κ γ σ H (mkV t.sub d) y [] := by
  have ofRep : Rep κ γ.F (.lst ds) x → ∃ a vs, x = .ref a ∧ SqL κ.K H a vs ∧ vs.length = ds.length ∧ ∀ (i : Nat) d, ds[i]? = some d → ∃ y, vs[i]? = some y ∧ VRep κ γ σ H (mkV .f d) y [] := fun hr => by
    obtain ⟨a, vs, e1, e2, e3⟩ := hr.lst
    refine ⟨a, vs, e1, sqL_le ft.lf e2, (Paired.length e3).symm, fun i d hd => ?_⟩
    obtain ⟨y, h1, h2⟩ := Paired.get e3 hd
    exact ⟨y, h1, vrep_rep _ h2 (.inr rfl)⟩
  have ofLay : ∀ {Y0 : Hp} {k : Sh} {q : List Addr} (t' : Sh → T), (∀ a o, Y0 a = some o → H a = some o) → Lay κ γ.F Y0 k (.lst ds) x q → (∀ j d y f, (∀ a ∈ f, a ∈ q) → Lay κ γ.F Y0 j d y f → solid d = false → VRep κ γ σ H ⟨t' j, d⟩ y []) →
      ∃ a vs, x = .ref a ∧ SqL κ.K H a vs ∧ vs.length = ds.length ∧ ∀ (i : Nat) d, ds[i]? = some d → ∃ y, vs[i]? = some y ∧ VRep κ γ σ H (mkV (mkT t' k.sub) d) y [] := by
    intro Y0 k q t' hY hl mk
    cases k with
    | f => exact ofRep (layF.mp hl).1
    | n r => simp [Lay, isSol] at hl
    | c s r => simp [Lay, isSol] at hl
    | l k =>
      obtain ⟨a, vs, gs, e1, e2, e3, rfl⟩ := layL.mp hl
      refine ⟨a, vs, e1, SqL.of (hY a _ e2), e3.len1.symm, fun i d hd => ?_⟩
      obtain ⟨y, f, h1, h2, h3⟩ := e3.get hd
      exact ⟨y, h1, item_lay t' h3 fun hs => mk k d y f (fun b hb => List.mem_cons_of_mem _ (mem_flat (List.mem_of_getElem? h2) hb)) h3 hs⟩
  cases t with
  | f => exact ofRep h.1
  | g k =>
    obtain ⟨⟨q, hq⟩, _⟩ := h
    exact ofLay .g ft.lg hq fun j d y f hf hl hs => ⟨⟨f, hl⟩, rfl⟩
  | b k =>
    obtain ⟨⟨q, hq, hp⟩, _⟩ := h
    exact ofLay .b (fun _ _ z => z) hq fun j d y f hf hl hs => ⟨⟨f, hl, fun a ha => hp a (hf a ha)⟩, rfl⟩
  | o k => exact absurd rfl (ho k)
  | s i k =>
    obtain ⟨⟨sl, e1, e2, e3⟩, _⟩ := h
    obtain ⟨b, f, e4, e5, e6⟩ := ft.slot e1
    rw [e3] at e4
    cases e4
    dsimp only at e2
    have hl : Lay κ γ.F H k (.lst ds) x f := by rcases own_of e2 with z | z | z | z <;> subst z <;> (obtain ⟨x', ex, e7⟩ := e6; cases ex; exact e7)
    exact ofLay .b (fun _ _ z => z) hl fun j d y f' hf hl hs => ⟨⟨f', hl, fun a ha => .inl (fps_mem e5 (hf a ha))⟩, rfl⟩
/-! ### sources -/
theorem walk_any {K : PySem.W.Frag} {a : Addr} {n : Nat} : Walk (Itl K a) n (fun H => ∃ vs, SqL K H a vs ∧ vs.length = n) (fun i H x H' => H' = H ∧ ∀ vs, SqL K H a vs → vs[i]? = some x) :=
  ⟨fun i H hi ⟨vs, q, e⟩ => ⟨vs, vs[i]'(by omega), q, by simp [e, hi]⟩, fun H ⟨vs, q, e⟩ => ⟨vs, q, by omega⟩, fun i H x H' hi _ y => y⟩
theorem walk_anyT {K : PySem.W.Frag} {a : Addr} {n : Nat} : Walk (Itt K a) n (fun H => ∃ vs, SqT K H a vs ∧ vs.length = n) (fun i H x H' => H' = H ∧ ∀ vs, SqT K H a vs → vs[i]? = some x) :=
  ⟨fun i H hi ⟨vs, q, e⟩ => ⟨vs, vs[i]'(by omega), q, by simp [e, hi]⟩, fun H ⟨vs, q, e⟩ => ⟨vs, q, by omega⟩, fun i H x H' hi _ y => y⟩
/-- what stands while a list is walked -/
def Stands (κ : Kx) (t : T) (ds : List D) (x : V) : Gst → St → Hp → Prop := fun γ σ H => match t with
  | .f => Rep κ γ.F (.lst ds) x
  | .g k => ∃ q, Lay κ γ.F γ.G k (.lst ds) x q
  | .s i k => (γ.env[i]? = some (.lk k (.lst ds)) ∨ γ.env[i]? = some (.lm k (.lst ds))) ∧ σ[i]? = some (some x)
  | _ => False
theorem Stands.vrep {t : T} {ds : List D} (h : Stands κ t ds x γ σ H) : VRep κ γ σ H ⟨t, .lst ds⟩ x [] ∧ ∀ k, t ≠ .o k := by
  cases t with
  | f => exact ⟨⟨h, rfl⟩, fun k z => by cases z⟩
  | g k => exact ⟨⟨h, rfl⟩, fun k z => by cases z⟩
  | b k => exact h.elim
  | o k => exact h.elim
  | s i k =>
    refine ⟨?_, fun k z => by cases z⟩
    rcases h.1 with z | z
    · exact ⟨⟨_, z, rfl, h.2⟩, rfl⟩
    · exact ⟨⟨_, z, rfl, h.2⟩, rfl⟩
theorem Stands.stay {t : T} {ds : List D} {e : Env} (h : Stands κ t ds x γ σ H) (g : Got κ A γ σ H e γ1 σ1 H1) : Stands κ t ds x γ1 σ1 H1 := by
  cases t with
  | f => exact Rep.mono g.rc.f h
  | g k =>
    obtain ⟨q, z⟩ := h
    exact ⟨q, by rw [g.rc.g]; exact Lay.mono g.rc.f k _ _ q (fun _ _ _ y => y) z⟩
  | b k => exact h
  | o k => exact h
  | s i k =>
    obtain ⟨h1, h2⟩ := h
    refine ⟨h1.imp (fun z => g.rc.lks i _ z rfl) fun z => g.rc.lks i _ z rfl, ?_⟩
    rw [g.pin i (.inr (h1.elim (fun z => ⟨_, z, rfl⟩) fun z => ⟨_, z, rfl⟩))]
    exact h2
theorem Stands.wipe {t : T} {ds : List D} {vs : List Nat} (h : Stands κ t ds x γ σ H) (hp : ∀ i ∈ vs, plainS γ.env[i]? = true) : Stands κ t ds x (γ.wipe vs) (L2.wipe σ vs) H1 := by
  cases t with
  | f => exact h
  | g k => exact h
  | b k => exact h
  | o k => exact h
  | s i k =>
    obtain ⟨h1, h2⟩ := h
    have hi : i ∉ vs := fun z => by
      have := hp i z
      rcases h1 with y | y <;> (rw [y] at this; cases this)
    refine ⟨?_, ?_⟩
    · show (wipeE vs γ.env)[i]? = _ ∨ (wipeE vs γ.env)[i]? = _
      rw [wipeE_get hi]
      exact h1
    · rw [wipe_get, if_neg fun z => hi z.1]
      exact h2
def itemsOf (t : T) (ds : List D) : List Item := ds.map fun d => .one (mkV t.sub d)
theorem src_list {t : T} {ds : List D} {a : Addr} : Src κ (Itl κ.K a) (itemsOf t ds) (Stands κ t ds (.ref a)) where
  walk := ⟨_, _, walk_any, fun γ σ H ft h => by
      obtain ⟨b, vs, e1, e2, e3, _⟩ := list_items ft h.vrep.1 h.vrep.2
      cases e1
      exact ⟨vs, e2, by rw [e3]; simp [itemsOf]⟩, fun γ σ H ft h i it hi => by
      obtain ⟨d, hd, rfl⟩ : ∃ d, ds[i]? = some d ∧ it = .one (mkV t.sub d) := by
        simp only [itemsOf, List.getElem?_map] at hi
        cases e : ds[i]? with
        | none => rw [e] at hi; cases hi
        | some d => rw [e] at hi; cases hi; exact ⟨d, rfl, rfl⟩
      rintro _ H1 x H1' ft1 ⟨rfl, hx⟩
      have h1 : Stands κ t ds (.ref a) γ σ H1' := by
        cases t <;> exact h
      obtain ⟨b, vs, e1, e2, e3, e4⟩ := list_items ft1 h1.vrep.1 h1.vrep.2
      cases e1
      obtain ⟨y, y1, y2⟩ := e4 i d hd
      rw [hx vs e2] at y1
      cases y1
      exact ⟨rfl, y2⟩⟩
  stay := fun A γ σ H e γ' σ' H' ft h g => h.stay g
  wipe := fun γ σ H H' vs h hp => h.wipe hp
theorem src_tup {ds : List D} {a : Addr} : Src κ (Itt κ.K a) (ds.map fun d => .one ⟨.f, d⟩) (fun γ _ _ => Rep κ γ.F (.tup ds) (.ref a)) where
  walk := ⟨_, _, walk_anyT, fun γ σ H ft h => by
      obtain ⟨b, vs, e1, e2, e3⟩ := h.tup
      cases e1
      exact ⟨vs, sqT_le ft.lf e2, by rw [← Paired.length e3]; simp⟩, fun γ σ H ft h i it hi => by
      obtain ⟨d, hd, rfl⟩ : ∃ d, ds[i]? = some d ∧ it = .one ⟨.f, d⟩ := by
        simp only [List.getElem?_map] at hi
        cases e : ds[i]? with
        | none => rw [e] at hi; cases hi
        | some d => rw [e] at hi; cases hi; exact ⟨d, rfl, rfl⟩
      rintro _ H1 x H1' ft1 ⟨rfl, hx⟩
      obtain ⟨b, vs, e1, e2, e3⟩ := h.tup
      cases e1
      obtain ⟨y, y1, y2⟩ := Paired.get e3 hd
      rw [hx vs (sqT_le ft1.lf e2)] at y1
      cases y1
      exact ⟨rfl, y2, rfl⟩⟩
  stay := fun A γ σ H e γ' σ' H' ft h g => h.mono g.rc.f
  wipe := fun γ σ H H' vs h hp => h
def rangeItems (lo c : Int) (n : Nat) : List Item := (List.range n).map fun (i : Nat) => .one ⟨.f, .int (lo + ((i : Nat) : Int) * c)⟩
theorem src_rangeC {lo c : Int} {n : Nat} : Src κ (Itc lo c n) (rangeItems lo c n) (fun _ _ _ => True) where
  walk := ⟨_, _, by have := walk_rangeC (lo := lo) (c := c) (n := n); rw [show (rangeItems lo c n).length = n by simp [rangeItems]]; exact this, fun _ _ _ _ _ => trivial, fun γ σ H ft h i it hi => by
      simp only [rangeItems, List.getElem?_map] at hi
      have il : i < n := by
        by_cases z : i < n
        · exact z
        · rw [List.getElem?_eq_none (by simpa using z)] at hi; cases hi
      rw [List.getElem?_range il] at hi
      cases hi
      rintro _ H1 x H1' ft1 ⟨rfl, hx⟩
      subst hx
      exact ⟨rfl, (rep_atom (d := .int (lo + (i : Int) * c)) rfl).mpr rfl, rfl⟩⟩
  stay := fun _ _ _ _ _ _ _ _ _ _ _ => trivial
  wipe := fun _ _ _ _ _ _ _ => trivial
theorem src_range {lo : Int} {n : Nat} : Src κ (Itr lo n) (rangeItems lo 1 n) (fun _ _ _ => True) where
  walk := ⟨_, _, by have := walk_range (lo := lo) (n := n); rw [show (rangeItems lo 1 n).length = n by simp [rangeItems]]; exact this, fun _ _ _ _ _ => trivial, fun γ σ H ft h i it hi => by
      simp only [rangeItems, List.getElem?_map] at hi
      have il : i < n := by
        by_cases z : i < n
        · exact z
        · rw [List.getElem?_eq_none (by simpa using z)] at hi; cases hi
      rw [List.getElem?_range il] at hi
      cases hi
      rintro _ H1 x H1' ft1 ⟨rfl, hx⟩
      subst hx
      exact ⟨rfl, (rep_atom (d := .int (lo + (i : Int) * 1)) rfl).mpr (by show V.int _ = V.int _; rw [Int.mul_one]), rfl⟩⟩
  stay := fun _ _ _ _ _ _ _ _ _ _ _ => trivial
  wipe := fun _ _ _ _ _ _ _ => trivial
end
end Py

set_option Elab.async false
set_option linter.all false
set_option maxRecDepth 100000
set_option maxHeartbeats 1000000
/-! PyM: for over a value. -/
namespace Py
open PySem L2
section
variable {κ : Kx} {XT : Nat → Option (Value × List Str)} {p q : Bool} {A B : List Addr} {γ γ0 γ1 γ2 : Gst} {σ σ1 σ2 : St} {F F' G H H1 H2 : Hp} {W : WX} {Ds : Ends} {X : Cx} {v : Val} {x : V} {fp : List Addr}
theorem Got.set {i : Nat} {s s' : Slot} (ft : Fits κ γ σ H) (e : γ.env[i]? = some s) (hs : ∀ b f, SlotRep κ γ.F γ.G H s b f → SlotRep κ γ.F γ.G H s' b f) : Fits κ { γ with env := γ.env.set i s' } σ H where
  lf := ft.lf
  lg := ft.lg
  nd := ft.nd
  fr := ft.fr
  sl := by
    obtain ⟨b, f, e4, e5, e6⟩ := ft.slot e
    have := ft.sl.set1 e4 (hs b f e6)
    have ef : γ.fps.set i f = γ.fps := by
      apply List.ext_getElem?
      intro j
      by_cases z : i = j
      · subst z
        rw [List.getElem?_set, if_pos rfl, e5]
        simp [(List.getElem?_eq_some_iff.mp e5).1]
      · rw [get_set_ne z]
    rw [ef] at this
    exact this
/-- a slot is locked for a while -/
theorem unlock_cont {i : Nat} {k : Sh} {d : D} {s s' : Slot} {r : Fl} (ft : Fits κ γ σ H) (e : γ.env[i]? = some s) (hs : (s = .ow k d ∧ s' = .lk k d) ∨ (s = .mu k d ∧ s' = .lm k d)) (hA : ∀ a ∈ γ.P, a ∈ A) (c : ContS κ XT W A γ σ H Ds (unlockFl i r)) :
    ContS κ XT W A { γ with env := γ.env.set i s' } σ H Ds r := by
  have il : i < γ.env.length := (List.getElem?_eq_some_iff.mp e).1
  have hlk : s'.isLk = true := by rcases hs with ⟨_, z⟩ | ⟨_, z⟩ <;> subst z <;> rfl
  have e' : (γ.env.set i s')[i]? = some s' := by simp [il]
  have key : ∀ {e2 : Env} {γ' : Gst} {σ' : St} {H' : Hp}, Got κ A { γ with env := γ.env.set i s' } σ H e2 γ' σ' H' → Got κ A γ σ H (unlock i e2) { γ' with env := γ'.env.set i s } σ' H' := by
    intro e2 γ' σ' H' g
    have ei : γ'.env[i]? = some s' := g.rc.lks i s' e' hlk
    have eu : unlock i e2 = γ'.env.set i s := by
      rw [← g.env]
      unfold unlock
      rcases hs with ⟨z, w⟩ | ⟨z, w⟩ <;> (subst z w; rw [ei])
    have f2 : Fits κ { γ' with env := γ'.env.set i s } σ' H' := Got.set g.ft ei fun b f h => by rcases hs with ⟨z, w⟩ | ⟨z, w⟩ <;> (subst z w; exact h)
    have il' : i < γ'.env.length := (List.getElem?_eq_some_iff.mp ei).1
    have ne : ∀ j u, γ.env[j]? = some u → u.isLk = true → i ≠ j := fun j u hu hk z => by
      subst z
      rw [e] at hu
      cases hu
      rcases hs with ⟨z, _⟩ | ⟨z, _⟩ <;> (subst z; cases hk)
    refine ⟨eu.symm, f2, ?_, fun j hj => g.pin j ?_⟩
    · exact {
        g := g.rc.g
        f := g.rc.f
        keep := g.rc.keep
        mono := g.rc.mono
        newF := g.rc.newF
        newP := g.rc.newP
        mus := fun j hj => by
          by_cases z : i = j
          · subst z
            obtain ⟨k1, d1, hj⟩ := hj
            rw [e] at hj
            rcases hs with ⟨z, w⟩ | ⟨z, w⟩
            · subst z; rcases hj with y | y <;> cases y
            · subst z; exact Mu.put il'
          · exact Mu.set (g.rc.mus j (Mu.set hj z)) z
        lks := fun j u hu hk => Lk.set (g.rc.lks j u (Lk.set hu (ne j u hu hk)) hk) (ne j u hu hk)
        pure := fun z => by cases z }
    · rcases hj with hj | ⟨u, hu, hk⟩
      · by_cases z : i = j
        · subst z; exact .inr ⟨s', e', hlk⟩
        · exact .inl (Mu.set hj z)
      · exact .inr ⟨u, Lk.set hu (ne j u hu hk), hk⟩
  cases r with
  | nx e2 => exact fun γ' σ' H' g => c _ σ' H' (key g)
  | bk e2 => exact fun γ' σ' H' g => c _ σ' H' (key g)
  | ct e2 => exact fun γ' σ' H' g => c _ σ' H' (key g)
  | rt v e2 =>
    intro γ' σ' H' x fp g hh hn
    have ei : γ'.env[i]? = some s' := g.rc.lks i s' e' hlk
    refine c _ σ' H' x fp (key g) ?_ hn
    obtain ⟨o1, o2, o3⟩ := hh.out
    refine Held.mk1 ?_ o1 o2 (key g).ft o3
    have h1 := hh.one
    obtain ⟨t, dd⟩ := v
    cases t with
    | f => exact h1
    | g k => exact h1
    | b k => exact h1
    | o k => exact h1
    | s j k0 =>
      obtain ⟨⟨sl, q1, q2, q3⟩, q4⟩ := h1
      by_cases z : i = j
      · subst z
        rw [ei] at q1
        cases q1
        have il' : i < γ'.env.length := (List.getElem?_eq_some_iff.mp ei).1
        refine ⟨⟨s, by simp [il'], ?_, q3⟩, q4⟩
        rcases hs with ⟨z, w⟩ | ⟨z, w⟩ <;> (subst z w; exact q2)
      · exact ⟨⟨sl, by show (γ'.env.set i s)[j]? = _; rw [get_set_ne z]; exact q1, q2, q3⟩, q4⟩
  | ex cc fs e2 => exact fun γ' σ' H' cls dd g xr => c _ σ' H' cls dd (key g) xr
  | no => exact c
def iSeq (K : PySem.W.Frag) (tl : TE) : TI := fun σ H R => iList K tl σ H R ∨ iTup K tl σ H R
theorem pi_seq {tg l : Expr} {tl : TE} (hl : PE X l tl) : PI X tg l (iSeq X.K tl) := ⟨fun pins s σ H R I h => h.elim ((pi_list hl).run pins s σ H R I) ((pi_tup hl).run pins s σ H R I)⟩
end
end Py

set_option Elab.async false
set_option linter.all false
set_option maxRecDepth 100000
set_option maxHeartbeats 1000000
/-! PyN: ==, in, items, slices, built-in functions. -/
namespace Py
open PySem L2
/-! ### data as the library's -/
mutual
def toP : D → PyData
  | .non => .none
  | .bl b => .bool b
  | .int i => .int i
  | .str s => .str s
  | .lst xs => .list (toPs xs)
  | .tup xs => .tuple (toPs xs)
  | .dic _ _ => .dict []
  | .obj _ _ => .dict []
def toPs : List D → List PyData
  | [] => []
  | d :: ds => toP d :: toPs ds
end
theorem toPs_map (ds : List D) : toPs ds = ds.map toP := by
  induction ds with
  | nil => simp [toPs]
  | cons d r ih => simp [toPs, ih]
def shp (d : D) : Bool := SeqAt.shaped (toP d)
section
variable {κ : Kx} {XT : Nat → Option (Value × List Str)} {p q : Bool} {A B : List Addr} {γ γ0 γ1 γ2 : Gst} {σ σ1 σ2 : St} {F F' G H H1 H2 : Hp} {W : WX} {Ds : Ends} {X : Cx} {v : Val} {x : V} {fp : List Addr}
theorem canLay_mem {ds : List D} (h : PyData.canLayAll0 (toPs ds) = true) : ∀ d ∈ ds, (toP d).canLay0 = true := by
  induction ds with
  | nil => simp
  | cons a r ih =>
    intro d hd
    simp only [toPs, PyData.canLayAll0, Bool.and_eq_true] at h
    rcases List.mem_cons.mp hd with z | z
    · subst z; exact h.1
    · exact ih h.2 d z
theorem dpAll_of {ds : List D} {vs : List V} (h : Paired (fun d v => d ∈ ds ∧ Rep κ H d v) ds vs) (k : ∀ d v, d ∈ ds → Rep κ H d v → Dp κ.K H v (toP d)) : DpAll κ.K H vs (toPs ds) := by
  have : ∀ {es : List D} {us : List V}, Paired (fun d v => d ∈ ds ∧ Rep κ H d v) es us → DpAll κ.K H us (toPs es) := by
    intro es us h
    induction h with
    | nil => simp only [toPs]; exact .nil
    | cons a t ih => simp only [toPs]; exact .cons (k _ _ a.1 a.2) ih
  exact this h
theorem paired_mem {α β : Type} {R : α → β → Prop} {as : List α} {bs : List β} (h : Paired R as bs) : Paired (fun a b => a ∈ as ∧ R a b) as bs := by
  induction h with
  | nil => exact .nil
  | cons r t ih => exact .cons ⟨List.mem_cons_self, r⟩ (L2.Paired.mapP ih fun a b z => ⟨List.mem_cons_of_mem _ z.1, z.2⟩)
theorem fz_dp : ∀ (n : Nat) (d : D) (v : V), Fz κ H n d v → (toP d).canLay0 = true → Dp κ.K H v (toP d) := by
  intro n
  induction n with
  | zero =>
    intro d v h c
    cases d with
    | non => cases h; simp only [toP]; exact .non
    | bl b => cases h; simp only [toP]; exact .bl b
    | int i => cases h; simp only [toP]; exact .int i
    | str s => cases h; simp only [toP]; exact .str s
    | _ => exact h.elim
  | succ n ih =>
    intro d v h c
    cases d with
    | non => cases h; simp only [toP]; exact .non
    | bl b => cases h; simp only [toP]; exact .bl b
    | int i => cases h; simp only [toP]; exact .int i
    | str s => cases h; simp only [toP]; exact .str s
    | lst ds =>
      obtain ⟨a, vs, rfl, e2, e3⟩ := h
      simp only [toP] at c ⊢
      simp only [PyData.canLay0] at c
      refine .lst e2 ?_
      have hm := canLay_mem c
      have : ∀ {es : List D} {us : List V}, Paired (fun d v => d ∈ ds ∧ Fz κ H n d v) es us → DpAll κ.K H us (toPs es) := by
        intro es us h
        induction h with
        | nil => simp only [toPs]; exact .nil
        | cons a t ih2 => simp only [toPs]; exact .cons (ih _ _ a.2 (hm _ a.1)) ih2
      exact this (paired_mem e3)
    | tup ds =>
      obtain ⟨a, vs, rfl, e2, e3⟩ := h
      simp only [toP] at c ⊢
      simp only [PyData.canLay0] at c
      refine .tup (e2.elim SqT.of (·.2)) ?_
      have hm := canLay_mem c
      have : ∀ {es : List D} {us : List V}, Paired (fun d v => d ∈ ds ∧ Fz κ H n d v) es us → DpAll κ.K H us (toPs es) := by
        intro es us h
        induction h with
        | nil => simp only [toPs]; exact .nil
        | cons a t ih2 => simp only [toPs]; exact .cons (ih _ _ a.2 (hm _ a.1)) ih2
      exact this (paired_mem e3)
    | dic t kvs => simp [toP, PyData.canLay0] at c
    | obj cc ds => simp [toP, PyData.canLay0] at c
theorem rep_dp {d : D} (h : Rep κ H d x) (c : shp d = true) : Dp κ.K H x (toP d) := h.elim fun n z => fz_dp n d x z (Bool.and_eq_true_iff.mp c).1
def eqvD (a b : D) : Bool := PyData.eqv (toP a) (toP b)
def opEq (neg : Bool) : Op := opA fun vs => match vs with
  | [⟨_, a⟩, ⟨_, b⟩] => if (shp a && shp b) = true then some (.bl (if neg then !eqvD a b else eqvD a b)) else none
  | _ => none
theorem ops_eq : OpS κ (rOf (rEqD κ.K)) (opEq false) := by
  refine OpS.atom fun γ σ H vs xs fps d Q ft tr ho => ?_
  split at ho
  · rename_i t a u b
    split at ho
    · rename_i c
      cases ho
      obtain ⟨c1, c2⟩ := Bool.and_eq_true_iff.mp c
      obtain ⟨x, y, f1, f2, rfl, rfl, h1, h2⟩ := tri2 tr
      exact ⟨rfl, fun q => ⟨x, y, rfl, toP a, toP b, rep_dp (h1.rep ft) c1, rep_dp (h2.rep ft) c2, c1, c2, q⟩⟩
    · cases ho
  · cases ho
theorem ops_ne : OpS κ (rOf (rNeD κ.K)) (opEq true) := by
  refine OpS.atom fun γ σ H vs xs fps d Q ft tr ho => ?_
  split at ho
  · rename_i t a u b
    split at ho
    · rename_i c
      cases ho
      obtain ⟨c1, c2⟩ := Bool.and_eq_true_iff.mp c
      obtain ⟨x, y, f1, f2, rfl, rfl, h1, h2⟩ := tri2 tr
      exact ⟨rfl, fun q => ⟨x, y, rfl, toP a, toP b, rep_dp (h1.rep ft) c1, rep_dp (h2.rep ft) c2, c1, c2, q⟩⟩
    · cases ho
  · cases ho
/-! ### is None -/
def isNone : D → Bool
  | .non => true
  | _ => false
theorem rep_none {d : D} (h : Rep κ H d x) : decide (x = .non) = isNone d := by
  obtain ⟨n, h⟩ := h
  cases d with
  | non => cases n <;> (cases h; rfl)
  | bl b => cases n <;> (cases h; rfl)
  | int i => cases n <;> (cases h; rfl)
  | str s => cases n <;> (cases h; rfl)
  | lst ds => cases n with
    | zero => exact h.elim
    | succ n => obtain ⟨a, vs, rfl, _⟩ := h; rfl
  | tup ds => cases n with
    | zero => exact h.elim
    | succ n => obtain ⟨a, vs, rfl, _⟩ := h; rfl
  | dic t ds => cases n with
    | zero => exact h.elim
    | succ n => obtain ⟨a, rfl, _⟩ := h; rfl
  | obj c ds => cases n with
    | zero => exact h.elim
    | succ n => obtain ⟨a, C, dx, names, vs, rfl, _⟩ := h; rfl
def opIsN (neg : Bool) : Op := opA fun vs => match vs with
  | [⟨_, a⟩] => some (.bl (if neg then !isNone a else isNone a))
  | _ => none
/-! ### in, not in: lists and tuples of data; signs in texts -/
def inD (a : D) (ds : List D) : Bool := ds.any fun z => eqvD z a
theorem any_toPs (a : D) (ds : List D) : ((toPs ds).any fun z => PyData.eqv z (toP a)) = inD a ds := by
  induction ds with
  | nil => simp [toPs, inD]
  | cons d r ih => simp only [toPs, inD, List.any_cons] at ih ⊢; rw [ih]; rfl
def opIn (neg : Bool) : Op := opA fun vs => match vs with
  | [⟨_, a⟩, ⟨_, .lst ds⟩] => if (shp a && shp (.lst ds)) = true then some (.bl (if neg then !inD a ds else inD a ds)) else none
  | _ => none
theorem ops_in : OpS κ (rOf (rInD κ.K)) (opIn false) := by
  refine OpS.atom fun γ σ H vs xs fps d Q ft tr ho => ?_
  split at ho
  · rename_i t a u ds
    split at ho
    · rename_i c
      cases ho
      obtain ⟨c1, c2⟩ := Bool.and_eq_true_iff.mp c
      obtain ⟨x, y, f1, f2, rfl, rfl, h1, h2⟩ := tri2 tr
      have r2 := rep_dp (h2.rep ft) c2
      simp only [toP] at r2
      refine ⟨rfl, fun q => ⟨x, y, rfl, toP a, toPs ds, rep_dp (h1.rep ft) c1, r2, c1, by have := c2; simp only [shp, toP] at this; exact this, ?_⟩⟩
      rw [any_toPs]
      exact q
    · cases ho
  · cases ho
theorem ops_notin : OpS κ (rOf (rNotInD κ.K)) (opIn true) := by
  refine OpS.atom fun γ σ H vs xs fps d Q ft tr ho => ?_
  split at ho
  · rename_i t a u ds
    split at ho
    · rename_i c
      cases ho
      obtain ⟨c1, c2⟩ := Bool.and_eq_true_iff.mp c
      obtain ⟨x, y, f1, f2, rfl, rfl, h1, h2⟩ := tri2 tr
      have r2 := rep_dp (h2.rep ft) c2
      simp only [toP] at r2
      refine ⟨rfl, fun q => ⟨x, y, rfl, toP a, toPs ds, rep_dp (h1.rep ft) c1, r2, c1, by have := c2; simp only [shp, toP] at this; exact this, ?_⟩⟩
      rw [any_toPs]
      exact q
    · cases ho
  · cases ho
/-! ### items -/
theorem atI_get {α β : Type} {as : List α} {bs : List β} {i : Int} {a : α} (hl : as.length = bs.length) (h : atI as i = some a) : ∃ j : Nat, as[j]? = some a ∧ ∀ b, bs[j]? = some b → atI bs i = some b := by
  unfold atI at h ⊢
  rw [hl] at h
  cases e : ixN bs.length i with
  | none => rw [e] at h; cases h
  | some j => rw [e] at h; exact ⟨j, h, fun b hb => hb⟩
/-- an item of own temps: the others are let go -/
theorem item_own {k : Sh} {ds : List D} {a : Addr} (h : Lay κ F H k (.lst ds) (.ref a) fp) : ∃ vs, (SqL κ.K F a vs ∨ H a = some (.lst vs)) ∧ vs.length = ds.length ∧ ∀ (i : Nat) d, ds[i]? = some d → ∃ y f, vs[i]? = some y ∧ (∀ b ∈ f, b ∈ fp) ∧ (fp.Nodup → f.Nodup) ∧ Lay κ F H k.sub d y f := by
  cases k with
  | n r => simp [Lay, isSol] at h
  | c s r => simp [Lay, isSol] at h
  | f =>
    obtain ⟨b, vs, e1, e2, e3⟩ := (layF.mp h).1.lst
    cases e1
    exact ⟨vs, .inl e2, (Paired.length e3).symm, fun i d hd => by
      obtain ⟨y, h1, h2⟩ := Paired.get e3 hd
      exact ⟨y, [], h1, by simp, by simp, layF.mpr ⟨h2, rfl⟩⟩⟩
  | l k =>
    obtain ⟨b, vs, gs, e1, e2, e3, rfl⟩ := layL.mp h
    cases e1
    exact ⟨vs, .inr e2, e3.len1.symm, fun i d hd => by
      obtain ⟨y, f, h1, h2, h3⟩ := e3.get hd
      exact ⟨y, f, h1, fun c hc => List.mem_cons_of_mem _ (mem_flat (List.mem_of_getElem? h2) hc), fun hn => flat_nodup (List.nodup_cons.mp hn).2 h2, h3⟩⟩
def opIx : Op := fun vs e => match vs with
  | [⟨t, .lst ds⟩, ⟨_, .int i⟩] => (atI ds i).map fun d => (mkV t.sub d, e)
  | [⟨_, .tup ds⟩, ⟨_, .int i⟩] => (atI ds i).map fun d => (⟨.f, d⟩, e)
  | [⟨_, .str s⟩, ⟨_, .int i⟩] => if szOk s.length = true then (atI s.cps.toList i).map fun c => (⟨.f, .str ⟨#[c]⟩⟩, e) else none
  | _ => none
theorem ops_ix : OpS κ (rOf (rIx κ.K)) opIx := fun γ σ H vs xs fps v e' Q ft hl ho k => by
  have hA : ∀ a ∈ γ.P, a ∈ γ.P ++ fps.flatten := fun a h => List.mem_append_left _ h
  unfold opIx at ho
  split at ho
  · rename_i t ds u i
    obtain ⟨x, y, g1, g2, rfl, ef, h1, h2⟩ := tri2 hl.tri
    have ey : y = .int i := h2.atom ft rfl
    subst ey
    cases hd : atI ds i with
    | none => rw [hd] at ho; cases ho
    | some d =>
      rw [hd] at ho
      cases ho
      by_cases ho' : ∀ kk, t ≠ .o kk
      · obtain ⟨a, ws, rfl, q1, q2, q3⟩ := list_items ft h1 ho'
        obtain ⟨j, j1, j2⟩ := atI_get q2.symm hd
        obtain ⟨z, z1, z2⟩ := q3 j d j1
        exact ⟨_, _, rfl, .inl ⟨a, ws, i, z, rfl, rfl, q1, j2 z z1, k γ H z [] rfl ft (Reach.refl hA) (Held.mk1 z2 (by simp) (by simp) ft (by simp)) (by simp)⟩⟩
      · obtain ⟨kk, rfl⟩ : ∃ kk, t = .o kk := by
          cases t with
          | o kk => exact ⟨kk, rfl⟩
          | _ => exact absurd (fun kk z => by cases z) ho'
        have hlay : Lay κ γ.F H kk (.lst ds) x g1 := h1
        obtain ⟨a, _, rfl, _⟩ := (h1.rep ft).lst
        obtain ⟨ws, q1, q2, q3⟩ := item_own hlay
        obtain ⟨j, j1, j2⟩ := atI_get q2.symm hd
        obtain ⟨z, f, z1, z2, z3, z4⟩ := q3 j d j1
        have sq : SqL κ.K H a ws := q1.elim (fun w => sqL_le ft.lf w) SqL.of
        have hnd := nodup_split hl.nd
        have g1n : g1.Nodup := by
          have := hnd.2.1
          rw [ef] at this
          exact (nodup_split (by simpa using this : (g1 ++ g2).Nodup)).1
        have memf : ∀ b ∈ f, b ∈ fps.flatten := fun b hb => by rw [ef]; simp [z2 b hb]
        refine ⟨_, _, rfl, .inl ⟨a, ws, i, z, rfl, rfl, sq, j2 z z1, ?_⟩⟩
        -- the item's own things, or frozen
        show Q z H
        by_cases hs : solid d = true
        · have hv : VRep κ γ σ H (mkV (T.o kk).sub d) z [] := by unfold mkV; rw [if_pos hs]; exact ⟨(lay_solid hs z4).1, rfl⟩
          exact k γ H z [] rfl ft (Reach.refl hA) (Held.mk1 hv (by simp) (by simp) ft (by simp)) (by simp)
        · by_cases hk : kk.sub = .f
          · have hr : Rep κ γ.F d z ∧ f = [] := by
              rw [hk] at z4
              exact layF.mp z4
            have hv : VRep κ γ σ H (mkV (T.o kk).sub d) z [] := by unfold mkV; rw [if_neg hs, show (T.o kk).sub = .f by show mkT .o kk.sub = _; rw [hk]; rfl]; exact ⟨hr.1, rfl⟩
            exact k γ H z [] rfl ft (Reach.refl hA) (Held.mk1 hv (by simp) (by simp) ft (by simp)) (by simp)
          · have hv : VRep κ γ σ H (mkV (T.o kk).sub d) z f := by unfold mkV; rw [if_neg hs, show (T.o kk).sub = .o kk.sub by show mkT .o kk.sub = _; cases hh : kk.sub <;> first | exact absurd hh hk | rfl]; exact z4
            exact k γ H z f rfl ft (Reach.refl hA) (Held.mk1 hv (z3 g1n) (fun b hb hp => hnd.2.2 b hp (memf b hb)) ft fun b hb => hl.fr b (memf b hb)) fun b hb => .inl (memf b hb)
  · rename_i t ds u i
    obtain ⟨x, y, g1, g2, rfl, ef, h1, h2⟩ := tri2 hl.tri
    have ey : y = .int i := h2.atom ft rfl
    subst ey
    cases hd : atI ds i with
    | none => rw [hd] at ho; cases ho
    | some d =>
      rw [hd] at ho
      cases ho
      obtain ⟨a, ws, rfl, q1, q2⟩ := (h1.tup ft).tup
      obtain ⟨j, j1, j2⟩ := atI_get (Paired.length q2) hd
      obtain ⟨z, z1, z2⟩ := Paired.get q2 j1
      exact ⟨_, _, rfl, .inr (.inl ⟨a, ws, i, z, rfl, rfl, sqT_le ft.lf q1, j2 z z1, k γ H z [] rfl ft (Reach.refl hA) (Held.mk1 ⟨z2, rfl⟩ (by simp) (by simp) ft (by simp)) (by simp)⟩)⟩
  · rename_i t s u i
    obtain ⟨x, y, g1, g2, rfl, ef, h1, h2⟩ := tri2 hl.tri
    have ey : y = .int i := h2.atom ft rfl
    have ex : x = .str s := h1.atom ft rfl
    subst ey ex
    split at ho
    · rename_i c
      cases hd : atI s.cps.toList i with
      | none => rw [hd] at ho; cases ho
      | some cc =>
        rw [hd] at ho
        cases ho
        exact ⟨_, _, rfl, .inr (.inr ⟨s, i, cc, rfl, rfl, sz_line c, hd, k γ H _ [] rfl ft (Reach.refl hA) (held_atom ft (d := .str ⟨#[cc]⟩) rfl) (by simp)⟩)⟩
    · cases ho
  · cases ho
end
end Py

set_option Elab.async false
set_option linter.all false
set_option maxRecDepth 100000
set_option maxHeartbeats 1000000
/-! PyO: built-in functions upon values. -/
namespace Py
open PySem L2
section
variable {κ : Kx} {XT : Nat → Option (Value × List Str)} {p q : Bool} {A B : List Addr} {γ γ0 γ1 γ2 : Gst} {σ σ1 σ2 : St} {F F' G H H1 H2 : Hp} {W : WX} {Ds : Ends} {X : Cx} {v : Val} {x : V} {fp : List Addr}
/-! ### len -/
def opLen : Op := opA fun vs => match vs with
  | [⟨_, .lst ds⟩] => some (.int ds.length)
  | [⟨_, .tup ds⟩] => some (.int ds.length)
  | [⟨_, .str s⟩] => if szOk s.length = true then some (.int s.length) else none
  | _ => none
theorem ops_len : OpS κ (fun xs H Q => ∃ x n, xs = [x] ∧ LenV κ.K x H n ∧ Q (.int n) H) opLen := by
  refine OpS.atom fun γ σ H vs xs fps d Q ft tr ho => ?_
  split at ho
  · rename_i t ds
    cases ho
    obtain ⟨x, f1, rfl, rfl, h1⟩ := tri1 tr
    obtain ⟨a, ws, rfl, q1, q2⟩ := (h1.rep ft).lst
    exact ⟨rfl, fun q => ⟨_, ds.length, rfl, .inl ⟨ws, q1, Paired.length q2⟩, q⟩⟩
  · rename_i t ds
    cases ho
    obtain ⟨x, f1, rfl, rfl, h1⟩ := tri1 tr
    obtain ⟨a, ws, rfl, q1, q2⟩ := (h1.rep ft).tup
    exact ⟨rfl, fun q => ⟨_, ds.length, rfl, .inr ⟨ws, q1, Paired.length q2⟩, q⟩⟩
  · rename_i t s
    split at ho
    · rename_i c
      cases ho
      obtain ⟨x, f1, rfl, rfl, h1⟩ := tri1 tr
      have ex : x = .str s := h1.atom ft rfl
      subst ex
      exact ⟨rfl, fun q => ⟨_, s.length, rfl, ⟨sz_line c, rfl⟩, q⟩⟩
    · cases ho
  · cases ho
/-! ### list(..), tuple(..) -/
theorem tup_elems {ds : List D} {t : T} {fs : List Addr} (ft : Fits κ γ σ H) (h : VRep κ γ σ H ⟨t, .tup ds⟩ x fp) (hn : ∀ a ∈ fs, γ.F a = none) : ∃ a vs, x = .ref a ∧ SqT κ.K H a vs ∧ Paired (Rep κ (frz γ.F H fs)) ds vs := by
  obtain ⟨a, vs, e1, e2, e3⟩ := (h.tup ft).tup
  exact ⟨a, vs, e1, sqT_le ft.lf e2, L2.Paired.mapP e3 fun d v z => z.mono (le_frz hn)⟩
def opList : Op := fun vs e => match vs with
  | [⟨t, .lst ds⟩] => if elF t = true then some (⟨.o (.l .f), .lst ds⟩, e) else none
  | [⟨_, .tup ds⟩] => some (⟨.o (.l .f), .lst ds⟩, e)
  | _ => none
theorem ops_list : OpS κ (fun xs H Q => ∃ p ys, xs = [.ref p] ∧ (SqL κ.K H p ys ∨ SqT κ.K H p ys) ∧ ∀ l, H l = none → Q (.ref l) (upd H l (.lst ys))) opList := fun γ σ H vs xs fps v e' Q ft hl ho k => by
  obtain ⟨f1, r1⟩ := hl.fz ft
  have hn : ∀ a ∈ fps.flatten, γ.F a = none := fun a ha => (hl.fr a ha).1
  have fin : ∀ {ds : List D} {ws : List V}, Paired (Rep κ (frz γ.F H fps.flatten)) ds ws → v = ⟨.o (.l .f), .lst ds⟩ → e' = γ.env → ∀ l, H l = none → Q (.ref l) (upd H l (.lst ws)) := fun {ds ws} pr ev ee l hl' => by
    subst ev ee
    obtain ⟨w1, w2, w3⟩ := new_lst (A := γ.P ++ fps.flatten) f1 pr hl' fun b hb => List.mem_append_left _ hb
    exact k (γ.fz H fps.flatten) _ (.ref l) [l] rfl w1 ((r1.more w2 (Le.upd hl')).weak fun _ => rfl) w3 (by simp [hl'])
  unfold opList at ho
  split at ho
  · rename_i t ds
    split at ho
    · rename_i c
      cases ho
      obtain ⟨x, g1, rfl, ef, h1⟩ := tri1 hl.tri
      obtain ⟨a, ws, rfl, s1, p1⟩ := list_elems (fs := fps.flatten) ft h1 c (fun a ha => by rw [ef]; simp [ha]) hn
      exact ⟨a, ws, rfl, .inl s1, fin p1 rfl rfl⟩
    · cases ho
  · rename_i t ds
    cases ho
    obtain ⟨x, g1, rfl, ef, h1⟩ := tri1 hl.tri
    obtain ⟨a, ws, rfl, s1, p1⟩ := tup_elems (fs := fps.flatten) ft h1 hn
    exact ⟨a, ws, rfl, .inr s1, fin p1 rfl rfl⟩
  · cases ho
def opTuple : Op := fun vs e => match vs with
  | [⟨t, .lst ds⟩] => if elF t = true then some (⟨.f, .tup ds⟩, e) else none
  | [⟨_, .tup ds⟩] => some (⟨.f, .tup ds⟩, e)
  | _ => none
theorem ops_tuple : OpS κ (fun xs H Q => ∃ p ys, xs = [.ref p] ∧ ((SqL κ.K H p ys ∧ ∀ l, H l = none → Q (.ref l) (upd H l (.tup ys))) ∨ (SqT κ.K H p ys ∧ Q (.ref p) H))) opTuple := fun γ σ H vs xs fps v e' Q ft hl ho k => by
  obtain ⟨f1, r1⟩ := hl.fz ft
  have hn : ∀ a ∈ fps.flatten, γ.F a = none := fun a ha => (hl.fr a ha).1
  unfold opTuple at ho
  split at ho
  · rename_i t ds
    split at ho
    · rename_i c
      cases ho
      obtain ⟨x, g1, rfl, ef, h1⟩ := tri1 hl.tri
      obtain ⟨a, ws, rfl, s1, p1⟩ := list_elems (fs := fps.flatten) ft h1 c (fun a ha => by rw [ef]; simp [ha]) hn
      refine ⟨a, ws, rfl, .inl ⟨s1, fun l hl' => ?_⟩⟩
      obtain ⟨w1, w2, w3⟩ := new_tup (A := γ.P ++ fps.flatten) f1 p1 hl' fun b hb => List.mem_append_left _ hb
      exact k ((γ.fz H fps.flatten).add l (.tup ws)) _ (.ref l) [] rfl w1 ((r1.more w2 (Le.upd hl')).weak fun _ => rfl) w3 (by simp)
    · cases ho
  · rename_i t ds
    cases ho
    obtain ⟨x, g1, rfl, ef, h1⟩ := tri1 hl.tri
    have hr := h1.tup ft
    obtain ⟨a, ws, rfl, s1, p1⟩ := hr.tup
    exact ⟨a, ws, rfl, .inr ⟨sqT_le ft.lf s1, k γ H _ [] rfl ft (Reach.refl fun a h => List.mem_append_left _ h) (Held.mk1 ⟨hr, rfl⟩ (by simp) (by simp) ft (by simp)) (by simp)⟩⟩
  · cases ho
/-! ### numbers -/
def opInt : Op := opA fun vs => match vs with
  | [⟨_, .int i⟩] => some (.int i)
  | [⟨_, .bl b⟩] => some (.int (if b then 1 else 0))
  | _ => none
theorem ops_int : OpS κ (fun xs H Q => (∃ i, xs = [.int i] ∧ Q (.int i) H) ∨ ∃ k, xs = [.bl k] ∧ Q (.int (if k then 1 else 0)) H) opInt := by
  refine OpS.atom fun γ σ H vs xs fps d Q ft tr ho => ?_
  split at ho
  · rename_i t i
    cases ho
    obtain ⟨x, f1, rfl, rfl, h1⟩ := tri1 tr
    have ex : x = .int i := h1.atom ft rfl
    subst ex
    exact ⟨rfl, fun q => .inl ⟨i, rfl, q⟩⟩
  · rename_i t b
    cases ho
    obtain ⟨x, f1, rfl, rfl, h1⟩ := tri1 tr
    have ex : x = .bl b := h1.atom ft rfl
    subst ex
    exact ⟨rfl, fun q => .inr ⟨b, rfl, q⟩⟩
  · cases ho
def opAbs : Op := opA fun vs => match vs with
  | [⟨_, .int i⟩] => some (.int (if i < 0 then -i else i))
  | _ => none
theorem ops_abs : OpS κ (fun xs H Q => ∃ i, xs = [.int i] ∧ Q (.int (if i < 0 then -i else i)) H) opAbs := by
  refine OpS.atom fun γ σ H vs xs fps d Q ft tr ho => ?_
  split at ho
  · rename_i t i
    cases ho
    obtain ⟨x, f1, rfl, rfl, h1⟩ := tri1 tr
    have ex : x = .int i := h1.atom ft rfl
    subst ex
    exact ⟨rfl, fun q => ⟨i, rfl, q⟩⟩
  · cases ho
def opMax : Op := opA fun vs => match vs with
  | [⟨_, .int i⟩, ⟨_, .int j⟩] => some (.int (if j > i then j else i))
  | _ => none
def opMin : Op := opA fun vs => match vs with
  | [⟨_, .int i⟩, ⟨_, .int j⟩] => some (.int (if j < i then j else i))
  | _ => none
theorem ops_max : OpS κ (fun xs H Q => ∃ i j, xs = [.int i, .int j] ∧ Q (.int (if j > i then j else i)) H) opMax := by
  refine OpS.atom fun γ σ H vs xs fps d Q ft tr ho => ?_
  split at ho
  · rename_i t i u j
    cases ho
    obtain ⟨x, y, f1, f2, rfl, rfl, h1, h2⟩ := tri2 tr
    have ex : x = .int i := h1.atom ft rfl
    have ey : y = .int j := h2.atom ft rfl
    subst ex ey
    exact ⟨rfl, fun q => ⟨i, j, rfl, q⟩⟩
  · cases ho
theorem ops_min : OpS κ (fun xs H Q => ∃ i j, xs = [.int i, .int j] ∧ Q (.int (if j < i then j else i)) H) opMin := by
  refine OpS.atom fun γ σ H vs xs fps d Q ft tr ho => ?_
  split at ho
  · rename_i t i u j
    cases ho
    obtain ⟨x, y, f1, f2, rfl, rfl, h1, h2⟩ := tri2 tr
    have ex : x = .int i := h1.atom ft rfl
    have ey : y = .int j := h2.atom ft rfl
    subst ex ey
    exact ⟨rfl, fun q => ⟨i, j, rfl, q⟩⟩
  · cases ho
def intsOf : List D → Option (List Int)
  | [] => some []
  | .int i :: r => (intsOf r).map fun ns => i :: ns
  | _ => none
theorem ints_rep : ∀ {ds : List D} {ns : List Int} {ws : List V}, intsOf ds = some ns → Paired (Rep κ H) ds ws → ws = ns.map V.int
  | [], ns, _, h, .nil => by cases h; rfl
  | d :: r, ns, _, h, .cons a t => by
    cases d with
    | int i =>
      unfold intsOf at h
      cases e : intsOf r with
      | none => rw [e] at h; cases h
      | some ms =>
        rw [e] at h
        cases h
        have ea := (rep_atom (d := .int i) rfl).mp a
        rw [ea, ints_rep e t]
        rfl
    | _ => cases h
def opSum : Op := opA fun vs => match vs with
  | [⟨_, .lst ds⟩] => (intsOf ds).map fun ns => .int ns.sum
  | _ => none
theorem ops_sum : OpS κ (rSum κ.K) opSum := by
  refine OpS.atom fun γ σ H vs xs fps d Q ft tr ho => ?_
  split at ho
  · rename_i t ds
    cases e : intsOf ds with
    | none => rw [e] at ho; cases ho
    | some ns =>
      rw [e] at ho
      cases ho
      obtain ⟨x, f1, rfl, rfl, h1⟩ := tri1 tr
      obtain ⟨a, ws, rfl, q1, q2⟩ := (h1.rep ft).lst
      rw [ints_rep e q2] at q1
      exact ⟨rfl, fun q => ⟨a, ns, rfl, q1, q⟩⟩
  · cases ho
/-- the greatest, the least item -/
def maxL : List Int → Option Int
  | [] => none
  | n :: r => some (r.foldl (fun m i => if i > m then i else m) n)
def minL : List Int → Option Int
  | [] => none
  | n :: r => some (r.foldl (fun m i => if i < m then i else m) n)
theorem foldl_max (r : List Int) : ∀ n : Int, n ≤ r.foldl (fun m i => if i > m then i else m) n ∧ ∀ y ∈ r, y ≤ r.foldl (fun m i => if i > m then i else m) n := by
  induction r with
  | nil => intro n; simp
  | cons a r ih =>
    intro n
    rw [List.foldl_cons]
    obtain ⟨h1, h2⟩ := ih (if a > n then a else n)
    have h3 : n ≤ (if a > n then a else n) ∧ a ≤ (if a > n then a else n) := by split <;> omega
    refine ⟨by omega, fun y hy => ?_⟩
    rcases List.mem_cons.mp hy with z | z
    · subst z; omega
    · exact h2 y z
theorem foldl_min (r : List Int) : ∀ n : Int, r.foldl (fun m i => if i < m then i else m) n ≤ n ∧ ∀ y ∈ r, r.foldl (fun m i => if i < m then i else m) n ≤ y := by
  induction r with
  | nil => intro n; simp
  | cons a r ih =>
    intro n
    rw [List.foldl_cons]
    obtain ⟨h1, h2⟩ := ih (if a < n then a else n)
    have h3 : (if a < n then a else n) ≤ n ∧ (if a < n then a else n) ≤ a := by split <;> omega
    refine ⟨by omega, fun y hy => ?_⟩
    rcases List.mem_cons.mp hy with z | z
    · subst z; omega
    · exact h2 y z
def opMaxL : Op := opA fun vs => match vs with
  | [⟨_, .lst ds⟩] => ((intsOf ds).bind maxL).map .int
  | _ => none
def opMinL : Op := opA fun vs => match vs with
  | [⟨_, .lst ds⟩] => ((intsOf ds).bind minL).map .int
  | _ => none
theorem ops_maxL : OpS κ (rMax κ.K) opMaxL := by
  refine OpS.atom fun γ σ H vs xs fps d Q ft tr ho => ?_
  split at ho
  · rename_i t ds
    cases e : intsOf ds with
    | none => rw [e] at ho; cases ho
    | some ns =>
      rw [e] at ho
      cases ns with
      | nil => cases ho
      | cons n r =>
        cases ho
        obtain ⟨x, f1, rfl, rfl, h1⟩ := tri1 tr
        obtain ⟨a, ws, rfl, q1, q2⟩ := (h1.rep ft).lst
        rw [ints_rep e q2] at q1
        refine ⟨rfl, fun q => ⟨a, n :: r, rfl, q1, by simp, fun m hm hM => ?_⟩⟩
        obtain ⟨g1, g2⟩ := foldl_max r n
        have : m = r.foldl (fun m i => if i > m then i else m) n := by
          apply Int.le_antisymm
          · rcases List.mem_cons.mp hm with z | z
            · subst z; exact g1
            · exact g2 m z
          · apply hM
            clear hM hm q q1 q2 h1
            have : ∀ (r : List Int) (n : Int), r.foldl (fun m i => if i > m then i else m) n ∈ n :: r := by
              intro r
              induction r with
              | nil => intro n; simp
              | cons a r ih =>
                intro n
                rw [List.foldl_cons]
                have := ih (if a > n then a else n)
                rcases List.mem_cons.mp this with z | z
                · rw [z]; split <;> simp
                · exact List.mem_cons_of_mem _ (List.mem_cons_of_mem _ z)
            exact this r n
        rw [this]
        exact q
  · cases ho
theorem ops_minL : OpS κ (rMin κ.K) opMinL := by
  refine OpS.atom fun γ σ H vs xs fps d Q ft tr ho => ?_
  split at ho
  · rename_i t ds
    cases e : intsOf ds with
    | none => rw [e] at ho; cases ho
    | some ns =>
      rw [e] at ho
      cases ns with
      | nil => cases ho
      | cons n r =>
        cases ho
        obtain ⟨x, f1, rfl, rfl, h1⟩ := tri1 tr
        obtain ⟨a, ws, rfl, q1, q2⟩ := (h1.rep ft).lst
        rw [ints_rep e q2] at q1
        refine ⟨rfl, fun q => ⟨a, n :: r, rfl, q1, by simp, fun m hm hM => ?_⟩⟩
        obtain ⟨g1, g2⟩ := foldl_min r n
        have : m = r.foldl (fun m i => if i < m then i else m) n := by
          apply Int.le_antisymm
          · apply hM
            clear hM hm q q1 q2 h1
            have : ∀ (r : List Int) (n : Int), r.foldl (fun m i => if i < m then i else m) n ∈ n :: r := by
              intro r
              induction r with
              | nil => intro n; simp
              | cons a r ih =>
                intro n
                rw [List.foldl_cons]
                have := ih (if a < n then a else n)
                rcases List.mem_cons.mp this with z | z
                · rw [z]; split <;> simp
                · exact List.mem_cons_of_mem _ (List.mem_cons_of_mem _ z)
            exact this r n
          · rcases List.mem_cons.mp hm with z | z
            · subst z; exact g1
            · exact g2 m z
        rw [this]
        exact q
  · cases ho
/-! ### slices -/
def cutL {α : Type} (xs : List α) (lo hi : Option Int) : List α := (xs.drop (HT.sIx xs.length 0 lo)).take (HT.sIx xs.length xs.length hi - HT.sIx xs.length 0 lo)
theorem Paired.drop {α β : Type} {R : α → β → Prop} : ∀ {as : List α} {bs : List β} (n : Nat), Paired R as bs → Paired R (as.drop n) (bs.drop n)
  | _, _, 0, h => h
  | _, _, _ + 1, .nil => .nil
  | _, _, n + 1, .cons _ t => Paired.drop n t
theorem Paired.take {α β : Type} {R : α → β → Prop} : ∀ {as : List α} {bs : List β} (n : Nat), Paired R as bs → Paired R (as.take n) (bs.take n)
  | _, _, 0, _ => .nil
  | _, _, _ + 1, .nil => .nil
  | _, _, n + 1, .cons r t => .cons r (Paired.take n t)
theorem paired_cut {R : D → V → Prop} {ds : List D} {vs : List V} {lo hi : Option Int} (h : Paired R ds vs) : Paired R (cutL ds lo hi) (cutV vs lo hi) := by
  unfold cutL cutV
  rw [Paired.length h]
  exact Paired.take _ (Paired.drop _ h)

/-- the values of a slice's parts -/
def partsOf (a b : Bool) (vs : List Val) : Option (Option Int × Option Int) := match a with
  | true => (match b with
    | true => (match vs with
      | [⟨_, .int i⟩, ⟨_, .int j⟩] => some (some i, some j)
      | _ => none)
    | false => (match vs with
      | [⟨_, .int i⟩] => some (some i, none)
      | _ => none))
  | false => (match b with
    | true => (match vs with
      | [⟨_, .int j⟩] => some (none, some j)
      | _ => none)
    | false => (match vs with
      | [] => some (none, none)
      | _ => none))
def opSl (a b : Bool) : Op := fun vs e => match vs with
  | v :: r => (match partsOf a b r with
    | some (lo, hi) => (match v.d with
      | .lst ds => if elF v.t = true then some (⟨.o (.l .f), .lst (cutL ds lo hi)⟩, e) else none
      | .str s => if szOk s.length = true then some (⟨.f, .str (cutS s lo hi)⟩, e) else none
      | _ => none)
    | none => none)
  | [] => none
def rSlU (K : PySem.W.Frag) : V → Option Int → Option Int → Hp → VK → Prop := fun x lo hi H Q => rSlL K x lo hi H Q ∨ rSlS x lo hi H Q
/-- the parts as readings -/
def rPart : Bool → V → Option Int → Prop
  | true, x, o => ∃ i, x = .int i ∧ o = some i
  | false, _, _ => False
def rSlA (K : PySem.W.Frag) (a b : Bool) : List V → Hp → VK → Prop := fun xs H Q => ∃ x r lo hi, xs = x :: r ∧ rSlU K x lo hi H Q ∧
  ((a = true ∧ b = true ∧ ∃ i j, r = [.int i, .int j] ∧ lo = some i ∧ hi = some j) ∨ (a = true ∧ b = false ∧ ∃ i, r = [.int i] ∧ lo = some i ∧ hi = none) ∨
   (a = false ∧ b = true ∧ ∃ j, r = [.int j] ∧ lo = none ∧ hi = some j) ∨ (a = false ∧ b = false ∧ r = [] ∧ lo = none ∧ hi = none))
theorem ops_sl {a b : Bool} : OpS κ (rSlA κ.K a b) (opSl a b) := fun γ σ H vs xs fps v e' Q ft hl ho k => by
  unfold opSl at ho
  cases vs with
  | nil => cases ho
  | cons w r =>
    simp only at ho
    cases hp : partsOf a b r with
    | none => rw [hp] at ho; cases ho
    | some lh =>
      obtain ⟨lo, hi⟩ := lh
      rw [hp] at ho
      simp only at ho
      have tr := hl.tri
      cases tr with
      | @cons _ x f1 _ ys gs h1 tl =>
        have parts : ((a = true ∧ b = true ∧ ∃ i j, ys = [.int i, .int j] ∧ lo = some i ∧ hi = some j) ∨ (a = true ∧ b = false ∧ ∃ i, ys = [.int i] ∧ lo = some i ∧ hi = none) ∨ (a = false ∧ b = true ∧ ∃ j, ys = [.int j] ∧ lo = none ∧ hi = some j) ∨ (a = false ∧ b = false ∧ ys = [] ∧ lo = none ∧ hi = none)) := by
          cases a <;> cases b
          · cases r with
            | nil => cases hp; cases tl; exact .inr (.inr (.inr ⟨rfl, rfl, rfl, rfl, rfl⟩))
            | cons c d => cases hp
          · simp only [partsOf] at hp
            split at hp <;> cases hp
            obtain ⟨y, f2, rfl, rfl, h2⟩ := tri1 tl
            exact .inr (.inr (.inl ⟨rfl, rfl, _, by rw [h2.atom ft rfl]; rfl, rfl, rfl⟩))
          · simp only [partsOf] at hp
            split at hp <;> cases hp
            obtain ⟨y, f2, rfl, rfl, h2⟩ := tri1 tl
            exact .inr (.inl ⟨rfl, rfl, _, by rw [h2.atom ft rfl]; rfl, rfl, rfl⟩)
          · simp only [partsOf] at hp
            split at hp <;> cases hp
            obtain ⟨y, z, f2, f3, rfl, rfl, h2, h3⟩ := tri2 tl
            exact .inl ⟨rfl, rfl, _, _, by rw [h2.atom ft rfl, h3.atom ft rfl]; rfl, rfl, rfl⟩
        refine ⟨x, ys, lo, hi, rfl, ?_, parts⟩
        obtain ⟨t, d⟩ := w
        cases d with
        | lst ds =>
          simp only at ho
          split at ho
          · rename_i c
            cases ho
            obtain ⟨f1', r1⟩ := hl.fz ft
            have hn : ∀ a ∈ (f1 :: gs).flatten, γ.F a = none := fun a ha => (hl.fr a ha).1
            obtain ⟨a1, ws, rfl, s1, p1⟩ := list_elems (fs := (f1 :: gs).flatten) ft h1 c (fun a ha => by simp [ha]) hn
            refine .inl ⟨a1, ws, rfl, s1, fun l hl' => ?_⟩
            obtain ⟨w1, w2, w3⟩ := new_lst (A := γ.P ++ (f1 :: gs).flatten) f1' (paired_cut (lo := lo) (hi := hi) p1) hl' fun b hb => List.mem_append_left _ hb
            exact k (γ.fz H (f1 :: gs).flatten) _ (.ref l) [l] rfl w1 ((r1.more w2 (Le.upd hl')).weak fun _ => rfl) w3 (by simp [hl'])
          · cases ho
        | str s =>
          simp only at ho
          split at ho
          · rename_i c
            cases ho
            exact .inr ⟨s, h1.atom ft rfl, sz_line c, k γ H _ [] rfl ft (Reach.refl fun a h => List.mem_append_left _ h) (held_atom ft (d := .str (cutS s lo hi)) rfl) (by simp)⟩
          · cases ho
        | _ => cases ho
end
end Py

set_option Elab.async false
set_option linter.all false
set_option maxRecDepth 100000
set_option maxHeartbeats 1000000
/-! PyP: the rules by syntax: expressions. -/
namespace Py
open PySem L2
def ev1 (m : ME) : MA := evCons true m evNil
def ev2 (q : Bool) (m n : ME) : MA := evCons q m (evCons true n evNil)
section
variable {X : Cx} {CT : Cts} {XT : Nat → Option (Value × List Str)} {W : WX} {p q : Bool} {a b e : Expr} {es : List Expr} {ma mb m : ME} {ms : MA} {pos : Pos}
theorem e_int {i : Int} {j : Nat} : PE X (.Constant (.int i) j pos) (tM (kx X CT) XT W true (mC (.int i))) := PE.imp pe_int fun σ H Q h => tM_C rfl h
theorem e_bl {i : Bool} {j : Nat} : PE X (.Constant (.bool i) j pos) (tM (kx X CT) XT W true (mC (.bl i))) := PE.imp pe_bl fun σ H Q h => tM_C rfl h
theorem e_non {j : Nat} : PE X (.Constant .none j pos) (tM (kx X CT) XT W true (mC .non)) := PE.imp pe_non fun σ H Q h => tM_C rfl h
theorem e_str {s : Str} {j : Nat} : PE X (.Constant (.str s) j pos) (tM (kx X CT) XT W true (mC (.str s))) := PE.imp pe_str fun σ H Q h => tM_C rfl h
theorem e_var {i : Nat} {x : Str} (hN : X.N[i]? = some x) (hv : Vis X.env.scope x) (hd : (x == ("__debug__" : Str)) = false) (hcd : (x == ("__classdict__" : Str)) = false) : PE X (.Name x pos) (tM (kx X CT) XT W true (mV i)) :=
  PE.imp (pe_var hN hv hd hcd) fun σ H Q h => tM_V h
theorem e_glob {x : Str} {d : D} {u : Value} (hg : Gl X x) (hm : X.mg x = some u) (ha : isAtom d = true) (r : RelV (atomV d) u) (hd : (x == ("__debug__" : Str)) = false) : PE X (.Name x pos) (tM (kx X CT) XT W true (mC d)) :=
  PE.imp (pe_glob hg hm r hd) fun σ H Q h => tM_C ha h
/-! arguments -/
theorem a_nil : PA X [] (tA (kx X CT) XT W true evNil) := ⟨fun pos pins s σ H Q I h => (pa_nil (X := X)).run pos pins s σ H Q I (tA_nil h)⟩
theorem a_cons (he : PE X e (tM (kx X CT) XT W p m)) (hr : PA X es (tA (kx X CT) XT W q ms)) (hs : starEach (e :: es) X.env = (false, eval e X.env) :: starEach es X.env) : PA X (e :: es) (tA (kx X CT) XT W (p && q) (evCons q m ms)) :=
  ⟨fun pos pins s σ H Q I h => (pa_cons he hr hs).run pos pins s σ H Q I (tA_cons h)⟩
/-! operators -/
theorem two_op {r2 : R2} {o : Op} {σ : St} {H : Hp} {Q : VK} (hs : OpS (kx X CT) (rOf r2) o) (h : tM (kx X CT) XT W (p && q) (mOp (ev2 q ma mb) o) σ H Q) : tOp r2 (tM (kx X CT) XT W p ma) (tM (kx X CT) XT W q mb) σ H Q :=
  tM.mono (fun x H1 k => tM.mono (fun y H2 k2 => by
    obtain ⟨x', y', e, z⟩ := k2
    cases e
    exact z) k) (tA_two (tM_op hs h))
theorem e_bin {op : Operator} {r2 : R2} {o : Op} (ho : OpR X (binaryOp op) r2) (hs : OpS (kx X CT) (rOf r2) o) (ha : PE X a (tM (kx X CT) XT W p ma)) (hb : PE X b (tM (kx X CT) XT W q mb)) : PE X (.BinOp a op b pos) (tM (kx X CT) XT W (p && q) (mOp (ev2 q ma mb) o)) :=
  PE.imp (pe_op ho ha hb) fun σ H Q h => two_op hs h
theorem e_cmp {op : CmpOp} {r2 : R2} {o : Op} (ho : OpR X (compareOp op) r2) (hs : OpS (kx X CT) (rOf r2) o) (ha : PE X a (tM (kx X CT) XT W p ma)) (hb : PE X b (tM (kx X CT) XT W q mb)) (hm : behindInMarks op b = false) : PE X (.Compare a [op] [b] pos) (tM (kx X CT) XT W (p && q) (mOp (ev2 q ma mb) o)) :=
  PE.imp (pe_cmpR ho ha hb hm) fun σ H Q h => two_op hs h
theorem t_cmp {op : CmpOp} {r2 : R2} {o : Op} (ho : OpR X (compareOp op) r2) (hs : OpS (kx X CT) (rOf r2) o) (ha : PE X a (tM (kx X CT) XT W p ma)) (hb : PE X b (tM (kx X CT) XT W q mb)) (hm : behindInMarks op b = false) : PT X (.Compare a [op] [b] pos) (tT (kx X CT) XT W (p && q) (mOp (ev2 q ma mb) o)) :=
  PT.imp (pt_cmpR ho ha hb hm) fun σ H Q h => two_op hs h
/-- is None, is not None -/
def rIs (neg : Bool) : R2 := fun x y H Q => y = .non ∧ Q (.bl (if neg then !decide (x = .non) else decide (x = .non))) H
theorem is_op {neg : Bool} {j : Nat} {pos' : Pos} {σ : St} {H : Hp} {Q : VK} (h : tM (kx X CT) XT W p (mOp (ev1 ma) (opIsN neg)) σ H Q) : tOp (rIs neg) (tM (kx X CT) XT W p ma) (tC .non) σ H Q := by
  refine tM.mono (fun x H1 k => ?_) (tA_one (tM_op (r := fun xs H Q => ∃ x, xs = [x] ∧ Q (.bl (if neg then !decide (x = .non) else decide (x = .non))) H) ?_ h))
  · obtain ⟨x', e, z⟩ := k
    cases e
    exact ⟨rfl, z⟩
  · refine OpS.atom fun γ σ H vs xs fps d Q ft tr ho => ?_
    split at ho
    · cases ho
      obtain ⟨x, f1, rfl, rfl, h1⟩ := tri1 tr
      refine ⟨rfl, fun q => ⟨x, rfl, ?_⟩⟩
      rw [rep_none (h1.rep ft)]
      exact q
    · cases ho
theorem op_is0 : OpR X (compareOp .Is) (rIs false) := fun pins s σ H x y v u Q I rx ry h => op_isN pins s σ H x y v u Q I rx ry h
theorem op_is1 : OpR X (compareOp .IsNot) (rIs true) := fun pins s σ H x y v u Q I rx ry h => op_notN pins s σ H x y v u Q I rx ry h
theorem e_isN {j : Nat} {pos' : Pos} (ha : PE X a (tM (kx X CT) XT W p ma)) : PE X (.Compare a [.Is] [.Constant .none j pos'] pos) (tM (kx X CT) XT W p (mOp (ev1 ma) (opIsN false))) :=
  PE.imp (pe_cmpR op_is0 ha pe_non (nobehind _ (by decide) (by decide))) fun σ H Q h => is_op (j := j) (pos' := pos') h
theorem e_notN {j : Nat} {pos' : Pos} (ha : PE X a (tM (kx X CT) XT W p ma)) : PE X (.Compare a [.IsNot] [.Constant .none j pos'] pos) (tM (kx X CT) XT W p (mOp (ev1 ma) (opIsN true))) :=
  PE.imp (pe_cmpR op_is1 ha pe_non (nobehind _ (by decide) (by decide))) fun σ H Q h => is_op (j := j) (pos' := pos') h
theorem t_isN {j : Nat} {pos' : Pos} (ha : PE X a (tM (kx X CT) XT W p ma)) : PT X (.Compare a [.Is] [.Constant .none j pos'] pos) (tT (kx X CT) XT W p (mOp (ev1 ma) (opIsN false))) :=
  PT.imp (pt_cmpR op_is0 ha pe_non (nobehind _ (by decide) (by decide))) fun σ H Q h => is_op (j := j) (pos' := pos') h
theorem t_notN {j : Nat} {pos' : Pos} (ha : PE X a (tM (kx X CT) XT W p ma)) : PT X (.Compare a [.IsNot] [.Constant .none j pos'] pos) (tT (kx X CT) XT W p (mOp (ev1 ma) (opIsN true))) :=
  PT.imp (pt_cmpR op_is1 ha pe_non (nobehind _ (by decide) (by decide))) fun σ H Q h => is_op (j := j) (pos' := pos') h
/-- -a -/
def opNeg : Op := opA fun vs => match vs with
  | [⟨_, .int i⟩] => some (.int (-i))
  | _ => none
theorem e_neg (ha : PE X a (tM (kx X CT) XT W p ma)) : PE X (.UnaryOp .USub a pos) (tM (kx X CT) XT W p (mOp (ev1 ma) opNeg)) := by
  refine PE.imp (pe_un un_neg ha) fun σ H Q h => ?_
  refine tM.mono (fun x H1 k => ?_) (tA_one (tM_op (r := fun xs H Q => ∃ x, xs = [x] ∧ rU (fun i => .int (-i)) x H Q) ?_ h))
  · obtain ⟨x', e, z⟩ := k
    cases e
    exact z
  · refine OpS.atom fun γ σ H vs xs fps d Q ft tr ho => ?_
    split at ho
    · cases ho
      obtain ⟨x, f1, rfl, rfl, h1⟩ := tri1 tr
      exact ⟨rfl, fun q => ⟨x, rfl, _, h1.atom ft rfl, q⟩⟩
    · cases ho
/-- a < b < c -/
def mChain (o1 o2 : Op) (q r : Bool) (ma mb mc : ME) : ME := fun env => (ev2 q ma mb env).bind fun vs e => match vs with
  | [x, y] => (match o1 [x, y] e with
    | some (⟨_, .bl true⟩, e1) => if (!r && y.t.isB) = true then .no else (match y.t with
      | .s _ _ => .no
      | .o _ => .no
      | _ => (mc e1).bind fun z e2 => match o2 [y, z] e2 with
        | some (v, e3) => .ok v e3
        | none => .no)
    | some (⟨_, .bl false⟩, e1) => .ok ⟨.f, .bl false⟩ e1
    | _ => .no)
  | _ => .no
/-! and, or, not, if -/
theorem e_not (ha : PE X a (tM (kx X CT) XT W p ma)) : PE X (.UnaryOp .Not a pos) (tM (kx X CT) XT W p (mNot ma)) := PE.imp (pe_not ha) fun σ H Q h => tM_not h
theorem t_not (ha : PT X a (tT (kx X CT) XT W p ma)) : PT X (.UnaryOp .Not a pos) (tT (kx X CT) XT W p (mNot ma)) := PT.imp (pt_not ha) fun σ H Q h => tT_not h
theorem e_and {rest : List Expr} (ha : PE X a (tM (kx X CT) XT W p ma)) (hb : PE X (.BoolOp .And (b :: rest) pos) (tM (kx X CT) XT W q mb)) : PE X (.BoolOp .And (a :: b :: rest) pos) (tM (kx X CT) XT W (p && q) (mAnd ma mb)) := PE.imp (pe_and ha hb) fun σ H Q h => tM_and h
theorem e_or {rest : List Expr} (ha : PE X a (tM (kx X CT) XT W p ma)) (hb : PE X (.BoolOp .Or (b :: rest) pos) (tM (kx X CT) XT W q mb)) : PE X (.BoolOp .Or (a :: b :: rest) pos) (tM (kx X CT) XT W (p && q) (mOr ma mb)) := PE.imp (pe_or ha hb) fun σ H Q h => tM_or h
theorem e_one {op : BoolOp} (ha : PE X a (tM (kx X CT) XT W p ma)) : PE X (.BoolOp op [a] pos) (tM (kx X CT) XT W p ma) := pe_one ha
theorem PW.imp {t t' : TT} (h : PW X e t) (k : ∀ σ H Q, t' σ H Q → t σ H Q) : PW X e t' := ⟨fun wh pins s σ H Q I z => h.run wh pins s σ H Q I (k σ H Q z)⟩
theorem w_and {rest : List Expr} (ha : PT X a (tT (kx X CT) XT W p ma)) (hb : PW X (.BoolOp .And (b :: rest) pos) (tT (kx X CT) XT W q mb)) : PW X (.BoolOp .And (a :: b :: rest) pos) (tT (kx X CT) XT W (p && q) (mAnd ma mb)) := PW.imp (pw_and ha hb) fun σ H Q h => tT_and h
theorem w_or {rest : List Expr} (ha : PT X a (tT (kx X CT) XT W p ma)) (hb : PW X (.BoolOp .Or (b :: rest) pos) (tT (kx X CT) XT W q mb)) : PW X (.BoolOp .Or (a :: b :: rest) pos) (tT (kx X CT) XT W (p && q) (mOr ma mb)) := PW.imp (pw_or ha hb) fun σ H Q h => tT_or h
theorem e_if {c : Expr} {mc : ME} (hc : PT X c (tT (kx X CT) XT W p mc)) (ha : PE X a (tM (kx X CT) XT W q ma)) (hb : PE X b (tM (kx X CT) XT W q mb)) : PE X (.IfExp c a b pos) (tM (kx X CT) XT W (p && q) (mIfE mc ma mb)) := PE.imp (pe_ifExp hc ha hb) fun σ H Q h => tM_ifE h
theorem t_val (h : PE X e (tM (kx X CT) XT W p m)) (he : ∀ whole, isTrue e X.env whole = (do let v ← whole; standAt e.pos; holding [v] (truthy v))) : PT X e (tT (kx X CT) XT W p (mBool m)) := PT.imp (pt_val h he) fun σ H Q h => tT_bool h
/-! displays, items, slices -/
theorem sz_held {κ : Kx} {γ : Gst} {σ : St} {H : Hp} {vs : List Val} {xs : List V} {fps : List (List Addr)} (h : Held κ γ σ H vs xs fps) : xs.length = vs.length := h.tri.len1.symm
def szAll (n : Nat) (ms : MA) : MA := fun env => (ms env).bind fun vs e => if decide (vs.length ≤ n) = true then .ok vs e else .no
theorem tA_sz {n : Nat} {σ : St} {H : Hp} {Q : List V → Hp → Prop} (h : tA (kx X CT) XT W p (szAll n ms) σ H Q) : tA (kx X CT) XT W p ms σ H fun xs H1 => xs.length ≤ n ∧ Q xs H1 := by
  obtain ⟨γ, ft, c⟩ := h
  refine ⟨γ, ft, ?_⟩
  cases hm : ms γ.env with
  | no => simp only [szAll, hm, R.bind] at c; exact c
  | ex cc fs e => simp only [szAll, hm, R.bind] at c; exact c
  | ok vs e =>
    simp only [szAll, hm, R.bind] at c
    intro γ1 H1 xs fps e1 f1 r1 hl hn
    split at c
    · rename_i hz
      exact ⟨by rw [sz_held hl]; exact of_decide_eq_true hz, c γ1 H1 xs fps e1 f1 r1 hl hn⟩
    · exact c.elim
theorem e_lst (h : PA X es (tA (kx X CT) XT W p ms)) : PE X (.List es pos) (tM (kx X CT) XT W p (mOp (szAll 1000 ms) opLst)) :=
  PE.imp (pe_lst h) fun σ H Q z => tA.mono (fun xs H1 ⟨k1, k2⟩ => ⟨Nat.le_trans k1 (by decide), k2⟩) (tA_sz (tM_op ops_lst z))
theorem e_tup {x1 : Nat} (h : PA X es (tA (kx X CT) XT W p ms)) : PE X (.Tuple es x1 pos) (tM (kx X CT) XT W p (mOp (szAll 1000 ms) opTup)) :=
  PE.imp (pe_tup h) fun σ H Q z => tA.mono (fun xs H1 ⟨k1, k2⟩ => ⟨Nat.le_trans k1 (by decide), k2⟩) (tA_sz (tM_op ops_tup z))
theorem e_ix (ha : PE X a (tM (kx X CT) XT W p ma)) (hb : PE X b (tM (kx X CT) XT W q mb)) (hs : PlainIx b) : PE X (.Subscript a b pos) (tM (kx X CT) XT W (p && q) (mOp (ev2 q ma mb) opIx)) := PE.imp (pe_ix ix_seq ha hb hs) fun σ H Q h => two_op ops_ix h
theorem sl_U : SlR X (rSlU X.K) := sl_list.or sl_str
theorem tM_int {σ : St} {H : Hp} {Q : Option Int → Hp → Prop} {K : V → Hp → Prop} (h : tM (kx X CT) XT W p m σ H K) (k : ∀ x H1, K x H1 → ∃ i, x = .int i ∧ Q (some i) H1) : tPart (tM (kx X CT) XT W p m) σ H Q := tM.mono k h
theorem e_sl0 {p2 : Pos} (ha : PE X a (tM (kx X CT) XT W p ma)) : PE X (.Subscript a (.Slice none none none p2) pos) (tM (kx X CT) XT W p (mOp (ev1 ma) (opSl false false))) :=
  PE.imp (pe_slice sl_U ha po_none po_none) fun σ H Q h => tM.mono (fun x H1 k => by
    obtain ⟨x', r, lo, hi, e, z, y⟩ := k
    cases e
    rcases y with y | y | y | ⟨_, _, _, rfl, rfl⟩
    · cases y.1
    · cases y.1
    · cases y.2.1
    · exact z) (tA_one (tM_op ops_sl h))
theorem e_sl1 {lo : Expr} {p2 : Pos} (ha : PE X a (tM (kx X CT) XT W p ma)) (hl : PE X lo (tM (kx X CT) XT W q mb)) : PE X (.Subscript a (.Slice (some lo) none none p2) pos) (tM (kx X CT) XT W (p && q) (mOp (ev2 q ma mb) (opSl true false))) :=
  PE.imp (pe_slice sl_U ha (po_some hl) po_none) fun σ H Q h => tM.mono (fun x H1 k => tM.mono (fun y H2 k2 => by
    obtain ⟨x', r, lo, hi, e, z, w⟩ := k2
    cases e
    rcases w with w | ⟨_, _, i, e2, rfl, rfl⟩ | w | w
    · cases w.2.1
    · cases e2; exact ⟨i, rfl, z⟩
    · cases w.1
    · cases w.1) k) (tA_two (tM_op ops_sl h))
theorem e_sl2 {hi : Expr} {p2 : Pos} (ha : PE X a (tM (kx X CT) XT W p ma)) (hl : PE X hi (tM (kx X CT) XT W q mb)) : PE X (.Subscript a (.Slice none (some hi) none p2) pos) (tM (kx X CT) XT W (p && q) (mOp (ev2 q ma mb) (opSl false true))) :=
  PE.imp (pe_slice sl_U ha po_none (po_some hl)) fun σ H Q h => tM.mono (fun x H1 k => tM.mono (fun y H2 k2 => by
    obtain ⟨x', r, lo, hi, e, z, w⟩ := k2
    cases e
    rcases w with w | w | ⟨_, _, i, e2, rfl, rfl⟩ | w
    · cases w.1
    · cases w.1
    · cases e2; exact ⟨i, rfl, z⟩
    · cases w.2.1) k) (tA_two (tM_op ops_sl h))
/-! built-in functions -/
theorem e_callB {x : Str} {id : String} {r : List V → Hp → VK → Prop} {o : Op} {p0 : Pos} (hc : CallR X (.builtin id) r) (hs : OpS (kx X CT) r o) (hg : Gl X x) (hm : X.mg x = none) (hv : bootBuiltins x = some (.builtin id)) (ha : PA X (e :: es) (tA (kx X CT) XT W p ms)) (hn : x ≠ "__name__") (hdb : (x == ("__debug__" : Str)) = false)
    (he : starEach (e :: es) X.env = (false, eval e X.env) :: starEach es X.env) (hpl : (backTo pos (starEach es X.env)).any (·.1) = false) : PE X (.Call (.Name x p0) (e :: es) [] pos) (tM (kx X CT) XT W p (mOp ms o)) :=
  PE.imp (pe_callB hc hg hm hv ha hn hdb he hpl) fun σ H Q h => tM_op hs h
theorem e_callTy {x : Str} {T : String} {r : List V → Hp → VK → Prop} {o : Op} {p0 : Pos} (hc : CallR X (.type T) r) (hs : OpS (kx X CT) r o) (hg : Gl X x) (hm : X.mg x = none) (hv : bootBuiltins x = some (.type T)) (ha : PA X (e :: es) (tA (kx X CT) XT W p ms)) (hn : x ≠ "__name__") (hdb : (x == ("__debug__" : Str)) = false)
    (he : starEach (e :: es) X.env = (false, eval e X.env) :: starEach es X.env) (hpl : (backTo pos (starEach es X.env)).any (·.1) = false) : PE X (.Call (.Name x p0) (e :: es) [] pos) (tM (kx X CT) XT W p (mOp ms o)) :=
  PE.imp (pe_callTy hc hg hm hv ha hn hdb he hpl) fun σ H Q h => tM_op hs h
end
end Py

set_option Elab.async false
set_option linter.all false
set_option maxRecDepth 100000
set_option maxHeartbeats 1000000
/-! PyQ: what is walked: values, ranges, enumerate, zip, reversed; for. -/
namespace Py
open PySem L2
/-- a list that is to be walked: its tag meanwhile, the slots that are locked, the slots -/
def srcT (v : Val) (e : Env) : Option (T × List Nat × Env) := match v.t with
  | .f => some (.f, [], e)
  | .g k => some (.g k, [], e)
  | .o _ => some (.f, [], e)
  | .b _ => none
  | .s i k => if k.flat = true then (match e[i]? with
      | some (.lk _ _) => some (.s i k, [], e)
      | some (.lm _ _) => some (.s i k, [], e)
      | some (.ow k d) => some (.s i k, [i], e.set i (.lk k d))
      | some (.mu k d) => some (.s i k, [i], e.set i (.lm k d))
      | _ => none)
    else (match e[i]? with
      | some (.ow _ d) => some (.f, [], e.set i (.fz d))
      | _ => none)
def unlockAll : List Nat → Fl → Fl
  | [], r => r
  | i :: l, r => unlockFl i (unlockAll l r)
def unlockE : List Nat → Env → Env
  | [], e => e
  | i :: l, e => unlock i (unlockE l e)
section
variable (κ : Kx)
def Lock1 (i : Nat) (γ γ' : Gst) : Prop := ∃ k d s s', γ.env[i]? = some s ∧ ((s = .ow k d ∧ s' = .lk k d) ∨ (s = .mu k d ∧ s' = .lm k d)) ∧ γ' = { γ with env := γ.env.set i s' }
def Locks : List Nat → Gst → Gst → Prop
  | [], γ, γ' => γ' = γ
  | i :: l, γ, γ' => ∃ γm, Lock1 i γ γm ∧ Locks l γm γ'
end
/-- a walk: items, locked slots -/
abbrev MI := Env → R (List Item × List Nat)
section
variable {κ : Kx} {XT : Nat → Option (Value × List Str)} {p q : Bool} {A B : List Addr} {γ γ0 γ1 γ2 γ3 : Gst} {σ σ1 σ2 : St} {F F' G H H1 H2 : Hp} {W : WX} {Ds : Ends} {X : Cx} {v : Val} {x : V} {fp : List Addr}
theorem Lock1.fits {i : Nat} (h : Lock1 i γ γ1) (ft : Fits κ γ σ H) : Fits κ γ1 σ H := by
  obtain ⟨k, d, s, s', e, hs, rfl⟩ := h
  exact Got.set ft e fun b f z => by rcases hs with ⟨y, w⟩ | ⟨y, w⟩ <;> (subst y w; exact z)
theorem Locks.fits : ∀ {l : List Nat} {γ γ1 : Gst}, Locks l γ γ1 → Fits κ γ σ H → Fits κ γ1 σ H
  | [], _, _, h, ft => by cases h; exact ft
  | i :: l, _, _, ⟨γm, h1, h2⟩, ft => h2.fits (h1.fits ft)
theorem Lock1.P {i : Nat} (h : Lock1 i γ γ1) : γ1.P = γ.P ∧ γ1.F = γ.F ∧ γ1.G = γ.G := by
  obtain ⟨k, d, s, s', e, hs, rfl⟩ := h
  exact ⟨rfl, rfl, rfl⟩
theorem Locks.P : ∀ {l : List Nat} {γ γ1 : Gst}, Locks l γ γ1 → γ1.P = γ.P ∧ γ1.F = γ.F ∧ γ1.G = γ.G
  | [], _, _, h => by cases h; exact ⟨rfl, rfl, rfl⟩
  | i :: l, _, _, ⟨γm, h1, h2⟩ => by
    obtain ⟨a, b, c⟩ := h1.P
    obtain ⟨a', b', c'⟩ := h2.P
    exact ⟨a'.trans a, b'.trans b, c'.trans c⟩
theorem Locks.cont : ∀ {l : List Nat} {γ γ1 : Gst} {r : Fl}, Locks l γ γ1 → Fits κ γ σ H → (∀ a ∈ γ.P, a ∈ A) → ContS κ XT W A γ σ H Ds (unlockAll l r) → ContS κ XT W A γ1 σ H Ds r
  | [], _, _, r, h, ft, hA, c => by cases h; exact c
  | i :: l, γ, γ1, r, ⟨γm, h1, h2⟩, ft, hA, c => by
    have fm := h1.fits ft
    have hP := h1.P.1
    refine h2.cont fm (by rw [hP]; exact hA) ?_
    obtain ⟨k, d, s, s', e, hs, rfl⟩ := h1
    exact unlock_cont ft e hs hA c
/-- what is wanted of a walk -/
def ContI (κ : Kx) (XT : Nat → Option (Value × List Str)) (W : WX) (p : Bool) (γ : Gst) (σ : St) (H : Hp) (R : It → Hp → Prop) : Py.R (List Item × List Nat) → Prop
  | .ok (its, ls) env' => ∀ γ1 γ2 H1 J S, Fits κ γ1 σ H1 → Reach p γ.P γ H γ1 H1 → Locks ls γ1 γ2 → γ2.env = env' → Src κ J its S → S γ2 σ H1 → R J H1
  | .ex c fs env' => ∀ γ' H' cls d, γ'.env = env' → Fits κ γ' σ H' → Reach false γ.P γ H γ' H' → XRep κ γ'.F H' XT c fs cls d → W cls d σ H'
  | .no => False
def tI (κ : Kx) (XT : Nat → Option (Value × List Str)) (W : WX) (p : Bool) (m : MI) : TI := fun σ H R => ∃ γ, Fits κ γ σ H ∧ ContI κ XT W p γ σ H R (m γ.env)
/-- a list value as a source -/
theorem src_val {ds : List D} {t : T} {t' : T} {ls : List Nat} {e' : Env} (f1 : Fits κ γ1 σ H1) (hl : Held κ γ1 σ H1 [⟨t, .lst ds⟩] [x] [fp]) (h : srcT ⟨t, .lst ds⟩ γ1.env = some (t', ls, e')) :
    ∃ γ2 γ3, Fits κ γ2 σ H1 ∧ Reach true (γ1.P ++ fp) γ1 H1 γ2 H1 ∧ Locks ls γ2 γ3 ∧ γ3.env = e' ∧ Stands κ t' ds x γ3 σ H1 := by
  have hA : ∀ a ∈ γ1.P, a ∈ γ1.P ++ fp := fun a h => List.mem_append_left _ h
  cases t with
  | f => cases h; exact ⟨γ1, γ1, f1, Reach.refl hA, rfl, rfl, hl.one.1⟩
  | g k => cases h; exact ⟨γ1, γ1, f1, Reach.refl hA, rfl, rfl, hl.one.1⟩
  | b k => cases h
  | o k =>
    cases h
    obtain ⟨o1, o2, o3⟩ := hl.out
    exact ⟨γ1.fz H1 fp, γ1.fz H1 fp, f1.fz o2 fun a ha => (o3 a ha).1, Reach.fz hA (fun _ h => List.mem_append_right _ h) fun a ha => (o3 a ha).1, rfl, rfl, Lay.freeze (k := k) (fun a ha => (o3 a ha).1) hl.one⟩
  | s i k =>
    obtain ⟨⟨sl, e1, e2, e3⟩, _⟩ := hl.one
    dsimp only at e2
    have il : i < γ1.env.length := (List.getElem?_eq_some_iff.mp e1).1
    unfold srcT at h
    dsimp only at h
    split at h
    · rename_i hk
      rcases own_of e2 with z | z | z | z <;> subst z <;> rw [e1] at h <;> cases h
      · exact ⟨γ1, _, f1, Reach.refl hA, ⟨_, ⟨k, .lst ds, _, _, e1, .inl ⟨rfl, rfl⟩, rfl⟩, rfl⟩, rfl, .inl (by simp [il]), e3⟩
      · exact ⟨γ1, _, f1, Reach.refl hA, ⟨_, ⟨k, .lst ds, _, _, e1, .inr ⟨rfl, rfl⟩, rfl⟩, rfl⟩, rfl, .inr (by simp [il]), e3⟩
      · exact ⟨γ1, γ1, f1, Reach.refl hA, rfl, rfl, .inl e1, e3⟩
      · exact ⟨γ1, γ1, f1, Reach.refl hA, rfl, rfl, .inr e1, e3⟩
    · rename_i hk
      rcases own_of e2 with z | z | z | z <;> subst z <;> rw [e1] at h <;> cases h
      obtain ⟨γ2, x2, q1, q2, q3, q4, q5, q6, q7⟩ := freeze_slot (A := γ1.P ++ fp) f1 e1 hA
      rw [e3] at q5
      cases q5
      exact ⟨γ2, γ2, q2, q3, rfl, q1, q6⟩
def seqI (v : Val) (e : Env) : R (List Item × List Nat) := match v.d with
  | .lst ds => (match srcT v e with
    | some (t, ls, e') => .ok (itemsOf t ds, ls) e'
    | none => .no)
  | .tup ds => .ok (ds.map fun d => .one ⟨.f, d⟩, []) e
  | _ => .no
def mSeqI (m : ME) : MI := fun env => (m env).bind seqI
theorem Reach.join (r1 : Reach p γ.P γ H γ1 H1) (hn : New p γ.P γ H fp) (r2 : Reach true (γ1.P ++ fp) γ1 H1 γ2 H2) : Reach p γ.P γ H γ2 H2 :=
  (r1.trans r2 (fun a ha => (List.mem_append.mp ha).elim (r1.newP a) (hn.1 a)) fun hp a ha => (List.mem_append.mp ha).imp id (hn.2 hp a)).weak fun z => by rw [z]; rfl
theorem tI_seq {m : ME} {R : It → Hp → Prop} (h : tI κ XT W p (mSeqI m) σ H R) : iSeq κ.K (tM κ XT W p m) σ H R := by
  obtain ⟨γ, ft, c⟩ := h
  unfold mSeqI at c
  cases hm : m γ.env with
  | no => simp only [hm, Py.R.bind] at c; exact c.elim
  | ex cc fs2 e =>
    simp only [hm, Py.R.bind] at c
    refine .inl ⟨γ, ft, ?_⟩
    rw [hm]
    exact fun γ1 H1 cls d e1 f1 r1 xr => c γ1 H1 cls d e1 f1 r1 xr
  | ok v e =>
    simp only [hm, Py.R.bind] at c
    obtain ⟨tt, d⟩ := v
    cases d with
    | lst ds =>
      refine .inl ⟨γ, ft, ?_⟩
      rw [hm]
      intro γ1 H1 xs fps e1 f1 r1 hl hn x ex
      subst ex
      subst e1
      obtain ⟨y, fp, e2, e3, _⟩ := tri1 hl.tri
      cases e2
      subst e3
      obtain ⟨a, vs, rfl, hs, _⟩ := (hl.one.rep f1).lst
      simp only [seqI] at c
      cases hh : srcT ⟨tt, .lst ds⟩ γ1.env with
      | none => rw [hh] at c; exact c.elim
      | some r =>
        obtain ⟨t', ls, e'⟩ := r
        simp only [hh] at c
        obtain ⟨γ2, γ3, q1, q2, q3, q4, q5⟩ := src_val f1 hl hh
        exact ⟨a, rfl, ⟨vs, hs⟩, c γ2 γ3 H1 _ _ q1 (r1.join (by simpa using hn) q2) q3 q4 src_list q5⟩
    | tup ds =>
      refine .inr ⟨γ, ft, ?_⟩
      rw [hm]
      intro γ1 H1 xs fps e1 f1 r1 hl hn x ex
      subst ex
      subst e1
      obtain ⟨y, fp, e2, e3, _⟩ := tri1 hl.tri
      cases e2
      subst e3
      have rep := hl.one.tup f1
      obtain ⟨a, vs, rfl, hs, _⟩ := rep.tup
      exact ⟨a, rfl, ⟨vs, sqT_le f1.lf hs⟩, c γ1 γ1 H1 _ _ f1 r1 rfl rfl src_tup rep⟩
    | _ => exact c.elim
/-! ### ranges -/
def okR (i : Int) : Bool := decide (-4611686018427387904 ≤ i) && decide (i < 4611686018427387904)
theorem okR_ok {i : Int} (h : okR i = true) : -(2 ^ 62) ≤ i ∧ i < 2 ^ 62 := by
  obtain ⟨a, b⟩ := Bool.and_eq_true_iff.mp h
  have a := of_decide_eq_true a
  have b := of_decide_eq_true b
  constructor <;> omega
def rng1I (vs : List Val) (e : Env) : R (List Item × List Nat) := match vs with
  | [⟨_, .int j⟩] => if okR j = true then .ok (rangeItems 0 1 j.toNat, []) e else .no
  | _ => .no
def rng2I (vs : List Val) (e : Env) : R (List Item × List Nat) := match vs with
  | [⟨_, .int i⟩, ⟨_, .int j⟩] => if (okR i && okR j) = true then .ok (rangeItems i 1 (j - i).toNat, []) e else .no
  | _ => .no
def rng3I (vs : List Val) (e : Env) : R (List Item × List Nat) := match vs with
  | [⟨_, .int i⟩, ⟨_, .int j⟩, ⟨_, .int c⟩] => if (okR i && okR j && decide (c = -1)) = true then .ok (rangeItems i (-1) (i - j).toNat, []) e else .no
  | _ => .no
def mRng1 (ms : MA) : MI := fun env => (ms env).bind rng1I
def mRng2 (ms : MA) : MI := fun env => (ms env).bind rng2I
def mRng3 (ms : MA) : MI := fun env => (ms env).bind rng3I
/-- the arguments of a walk -/
theorem tI_args {ms : MA} {k : List Val → Env → Py.R (List Item × List Nat)} {R : It → Hp → Prop} {K : List V → Hp → Prop} (h : tI κ XT W p (fun env => (ms env).bind k) σ H R)
    (hk : ∀ (γ : Gst) (H : Hp) (γ1 : Gst) (H1 : Hp) vs xs fps, Fits κ γ1 σ H1 → Reach p γ.P γ H γ1 H1 → Held κ γ1 σ H1 vs xs fps → New p γ.P γ H fps.flatten → ContI κ XT W p γ σ H R (k vs γ1.env) → K xs H1) : tA κ XT W p ms σ H K := by
  obtain ⟨γ, ft, c⟩ := h
  refine ⟨γ, ft, ?_⟩
  cases hm : ms γ.env with
  | no => simp only [hm, Py.R.bind] at c; exact c
  | ex cc fs e => simp only [hm, Py.R.bind] at c; exact c
  | ok vs e =>
    simp only [hm, Py.R.bind] at c
    intro γ1 H1 xs fps e1 f1 r1 hl hn
    exact hk γ H γ1 H1 vs xs fps f1 r1 hl hn (by rw [e1]; exact c)
theorem tri3 {R : Val → V → List Addr → Prop} {a b c : Val} {xs : List V} {fs : List (List Addr)} (t : Tri R [a, b, c] xs fs) : ∃ x y z f g h, xs = [x, y, z] ∧ fs = [f, g, h] ∧ R a x f ∧ R b y g ∧ R c z h := by
  cases t with
  | cons h t => cases t with
    | cons h2 t => cases t with
      | cons h3 t => cases t; exact ⟨_, _, _, _, _, _, rfl, rfl, h, h2, h3⟩
theorem tI_rng1 {ms : MA} {R : It → Hp → Prop} (h : tI κ XT W p (mRng1 ms) σ H R) : iRng1 (tA κ XT W p ms) σ H R := by
  refine tI_args h fun γ H γ1 H1 vs xs fps f1 r1 hl hn c => ?_
  unfold rng1I at c
  split at c
  · rename_i t j
    obtain ⟨x, f, rfl, rfl, r⟩ := tri1 hl.tri
    split at c
    · rename_i ho
      obtain ⟨a, b⟩ := okR_ok ho
      have ex : x = .int j := r.atom f1 rfl
      exact ⟨j, by rw [ex], a, b, c γ1 γ1 H1 _ _ f1 r1 rfl rfl src_range trivial⟩
    · exact c.elim
  · exact c.elim
theorem tI_rng2 {ms : MA} {R : It → Hp → Prop} (h : tI κ XT W p (mRng2 ms) σ H R) : iRng2 (tA κ XT W p ms) σ H R := by
  refine tI_args h fun γ H γ1 H1 vs xs fps f1 r1 hl hn c => ?_
  unfold rng2I at c
  split at c
  · rename_i t i u j
    obtain ⟨x, y, f, g, rfl, rfl, r, r'⟩ := tri2 hl.tri
    split at c
    · rename_i ho
      obtain ⟨o1, o2⟩ := Bool.and_eq_true_iff.mp ho
      obtain ⟨a, b⟩ := okR_ok o1
      obtain ⟨a', b'⟩ := okR_ok o2
      have ex : x = .int i := r.atom f1 rfl
      have ey : y = .int j := r'.atom f1 rfl
      exact ⟨i, j, by rw [ex, ey], ⟨a, b, a', b'⟩, c γ1 γ1 H1 _ _ f1 r1 rfl rfl src_range trivial⟩
    · exact c.elim
  · exact c.elim
theorem tI_rng3 {ms : MA} {R : It → Hp → Prop} (h : tI κ XT W p (mRng3 ms) σ H R) : iRng3 (tA κ XT W p ms) σ H R := by
  refine tI_args h fun γ H γ1 H1 vs xs fps f1 r1 hl hn c => ?_
  unfold rng3I at c
  split at c
  · rename_i t i u j w cc
    obtain ⟨x, y, z, f, g, g', rfl, rfl, r, r', r''⟩ := tri3 hl.tri
    split at c
    · rename_i ho
      obtain ⟨o1, o3⟩ := Bool.and_eq_true_iff.mp ho
      obtain ⟨o1, o2⟩ := Bool.and_eq_true_iff.mp o1
      obtain ⟨a, b⟩ := okR_ok o1
      obtain ⟨a', b'⟩ := okR_ok o2
      have ec : cc = -1 := of_decide_eq_true o3
      subst ec
      have ex : x = .int i := r.atom f1 rfl
      have ey : y = .int j := r'.atom f1 rfl
      have ez : z = .int (-1) := r''.atom f1 rfl
      exact ⟨i, j, -1, (i - j).toNat, by rw [ex, ey, ez], RgC.neg a b a' b', c γ1 γ1 H1 _ _ f1 r1 rfl rfl src_rangeC trivial⟩
    · exact c.elim
  · exact c.elim
/-! ### enumerate, zip -/
def enumItems (t : T) : Nat → List D → List Item
  | _, [] => []
  | n, d :: r => .two ⟨.f, .int n⟩ (mkV t.sub d) :: enumItems t (n + 1) r
theorem enum_len {t : T} : ∀ {ds : List D} {n : Nat}, (enumItems t n ds).length = ds.length
  | [], _ => rfl
  | d :: r, n => by simp [enumItems, enum_len]
theorem enum_get {t : T} : ∀ {ds : List D} {n i : Nat} {it : Item}, (enumItems t n ds)[i]? = some it → ∃ d, ds[i]? = some d ∧ it = .two ⟨.f, .int ((n + i : Nat) : Int)⟩ (mkV t.sub d)
  | [], _, i, it, h => by simp [enumItems] at h
  | d :: r, n, 0, it, h => by simp [enumItems] at h; exact ⟨d, rfl, by rw [← h]; rfl⟩
  | d :: r, n, i + 1, it, h => by
    simp only [enumItems, List.getElem?_cons_succ] at h
    obtain ⟨d', h1, h2⟩ := enum_get h
    exact ⟨d', by simpa using h1, by rw [h2]; congr 4; omega⟩
theorem walk_enumA {K : PySem.W.Frag} {a : Addr} {n : Nat} : Walk (Ite K a) n (fun H => ∃ vs, SqL K H a vs ∧ vs.length = n) (fun i H v H' => ∃ T x, v = .ref T ∧ H T = none ∧ H' = upd H T (.tup [.int (i : Nat), x]) ∧ ∀ vs, SqL K H a vs → vs[i]? = some x) :=
  ⟨fun i H hi ⟨vs, q, e⟩ => ⟨vs, vs[i]'(by omega), q, by simp [e, hi]⟩, fun H ⟨vs, q, e⟩ => ⟨vs, q, by omega⟩, fun i H x H' hi _ y => y⟩
theorem Stands.heap {t : T} {ds : List D} (h : Stands κ t ds x γ σ H) : Stands κ t ds x γ σ H1 := by cases t <;> exact h
theorem src_enum {t : T} {ds : List D} {a : Addr} : Src κ (Ite κ.K a) (enumItems t 0 ds) (Stands κ t ds (.ref a)) where
  walk := ⟨_, _, walk_enumA, fun γ σ H ft h => by
      obtain ⟨b, vs, e1, e2, e3, _⟩ := list_items ft h.vrep.1 h.vrep.2
      cases e1
      exact ⟨vs, e2, by rw [e3, enum_len]⟩, fun γ σ H ft h i it hi => by
      obtain ⟨d, hd, rfl⟩ := enum_get hi
      rintro _ _ H1 x H1' ft1 ⟨T, y, rfl, hT, rfl, hy⟩
      have h1 : Stands κ t ds (.ref a) γ σ H1 := h.heap
      obtain ⟨b, vs, e1, e2, e3, e4⟩ := list_items ft1 h1.vrep.1 h1.vrep.2
      cases e1
      obtain ⟨z, z1, z2⟩ := e4 i d hd
      rw [hy vs e2] at z1
      cases z1
      exact ⟨T, _, _, rfl, hT, rfl, ⟨(rep_atom (d := .int ((0 + i : Nat) : Int)) rfl).mpr (by simp [atomV]), rfl⟩, z2⟩⟩
  stay := fun A γ σ H e γ' σ' H' ft h g => h.stay g
  wipe := fun γ σ H H' vs h hp => h.wipe hp
def enumI (v : Val) (e : Env) : R (List Item × List Nat) := match v.d with
  | .lst ds => (match srcT v e with
    | some (t, ls, e') => .ok (enumItems t 0 ds, ls) e'
    | none => .no)
  | _ => .no
def mEnum (m : ME) : MI := fun env => (ev1 m env).bind fun vs e => match vs with
  | [v] => enumI v e
  | _ => .no
theorem tI_enum {m : ME} {R : It → Hp → Prop} (h : tI κ XT W p (mEnum m) σ H R) : iEnum κ.K (tA κ XT W p (ev1 m)) σ H R := by
  refine tI_args h fun γ H γ1 H1 vs xs fps f1 r1 hl hn c => ?_
  split at c
  · rename_i v
    obtain ⟨tt, d⟩ := v
    cases d with
    | lst ds =>
      obtain ⟨x, fp, rfl, rfl, _⟩ := tri1 hl.tri
      obtain ⟨a, vs, rfl, hs, _⟩ := (hl.one.rep f1).lst
      simp only [enumI] at c
      cases hh : srcT ⟨tt, .lst ds⟩ γ1.env with
      | none => rw [hh] at c; exact c.elim
      | some r =>
        obtain ⟨t', ls, e'⟩ := r
        simp only [hh] at c
        obtain ⟨γ2, γ3, q1, q2, q3, q4, q5⟩ := src_val f1 hl hh
        exact ⟨a, vs, rfl, hs, c γ2 γ3 H1 _ _ q1 (r1.join (by simpa using hn) q2) q3 q4 src_enum q5⟩
    | _ => exact c.elim
  · exact c.elim
/-- two frozen or lent lists at once -/
def zipItems (t u : T) : List D → List D → List Item
  | a :: as, b :: bs => .two (mkV t.sub a) (mkV u.sub b) :: zipItems t u as bs
  | _, _ => []
theorem zip_len {t u : T} : ∀ {as bs : List D}, (zipItems t u as bs).length = min as.length bs.length
  | [], bs => by simp [zipItems]
  | a :: as, [] => by simp [zipItems]
  | a :: as, b :: bs => by simp [zipItems, zip_len]
theorem zip_get {t u : T} : ∀ {as bs : List D} {i : Nat} {it : Item}, (zipItems t u as bs)[i]? = some it → ∃ a b, as[i]? = some a ∧ bs[i]? = some b ∧ it = .two (mkV t.sub a) (mkV u.sub b)
  | [], bs, i, it, h => by simp [zipItems] at h
  | a :: as, [], i, it, h => by simp [zipItems] at h
  | a :: as, b :: bs, 0, it, h => by simp [zipItems] at h; exact ⟨a, b, rfl, rfl, h.symm⟩
  | a :: as, b :: bs, i + 1, it, h => by
    simp only [zipItems, List.getElem?_cons_succ] at h
    obtain ⟨a', b', h1, h2, h3⟩ := zip_get h
    exact ⟨a', b', by simpa using h1, by simpa using h2, h3⟩
theorem walk_zipA {K : PySem.W.Frag} {a b : Addr} {n m l : Nat} (hl : l = min n m) : Walk (Itz K a b) l (fun H => (∃ vs, SqL K H a vs ∧ vs.length = n) ∧ ∃ ws, SqL K H b ws ∧ ws.length = m) (fun i H v H' => ∃ T x y, v = .ref T ∧ H T = none ∧ H' = upd H T (.tup [x, y]) ∧ (∀ vs, SqL K H a vs → vs[i]? = some x) ∧ ∀ ws, SqL K H b ws → ws[i]? = some y) := by
  subst hl
  refine ⟨fun i H hi ⟨⟨vs, q, e⟩, ws, q', e'⟩ => ?_, fun H ⟨⟨vs, q, e⟩, ws, q', e'⟩ => ⟨vs, ws, q, q', by omega⟩, fun i H x H' hi _ y => y⟩
  have h1 : i < vs.length := by omega
  have h2 : i < ws.length := by omega
  exact ⟨vs, ws, vs[i], ws[i], q, q', by simp [h1], by simp [h2]⟩
theorem src_zip {t u : T} {ds es : List D} {a b : Addr} : Src κ (Itz κ.K a b) (zipItems t u ds es) (fun γ σ H => Stands κ t ds (.ref a) γ σ H ∧ Stands κ u es (.ref b) γ σ H) where
  walk := ⟨_, _, walk_zipA (n := ds.length) (m := es.length) zip_len, fun γ σ H ft ⟨h, h'⟩ => by
      obtain ⟨b, vs, e1, e2, e3, _⟩ := list_items ft h.vrep.1 h.vrep.2
      cases e1
      obtain ⟨b, ws, e1, e2', e3', _⟩ := list_items ft h'.vrep.1 h'.vrep.2
      cases e1
      exact ⟨⟨vs, e2, e3⟩, ws, e2', e3'⟩, fun γ σ H ft ⟨h, h'⟩ i it hi => by
      obtain ⟨d, e, hd, he, rfl⟩ := zip_get hi
      rintro _ _ H1 x H1' ft1 ⟨T, y, z, rfl, hT, rfl, hy, hz⟩
      have h1 : Stands κ t ds (.ref a) γ σ H1 := h.heap
      have h2 : Stands κ u es (.ref b) γ σ H1 := h'.heap
      obtain ⟨b1, vs, e1, e2, e3, e4⟩ := list_items ft1 h1.vrep.1 h1.vrep.2
      cases e1
      obtain ⟨b1, ws, e1, e2', e3', e4'⟩ := list_items ft1 h2.vrep.1 h2.vrep.2
      cases e1
      obtain ⟨p1, p2, p3⟩ := e4 i d hd
      rw [hy vs e2] at p2
      cases p2
      obtain ⟨q1, q2, q3⟩ := e4' i e he
      rw [hz ws e2'] at q2
      cases q2
      exact ⟨T, _, _, rfl, hT, rfl, p3, q3⟩⟩
  stay := fun A γ σ H e γ' σ' H' ft h g => ⟨h.1.stay g, h.2.stay g⟩
  wipe := fun γ σ H H' vs h hp => ⟨h.1.wipe hp, h.2.wipe hp⟩
def lentT : T → Option T
  | .f => some .f
  | .g k => some (.g k)
  | .o _ => some .f
  | _ => none
def zipI (vs : List Val) (e : Env) : R (List Item × List Nat) := match vs with
  | [⟨t, .lst as⟩, ⟨u, .lst bs⟩] => (match lentT t, lentT u with
    | some t', some u' => .ok (zipItems t' u' as bs, []) e
    | _, _ => .no)
  | _ => .no
def mZip (ms : MA) : MI := fun env => (ms env).bind zipI
theorem lent_stands {t t' : T} {ds : List D} {fs : List Addr} (ft : Fits κ γ σ H) (h : VRep κ γ σ H ⟨t, .lst ds⟩ x fp) (ht : lentT t = some t') (hs : ∀ a ∈ fp, a ∈ fs) (hn : ∀ a ∈ fs, γ.F a = none) : Stands κ t' ds x (γ.fz H fs) σ H := by
  have le1 : Le γ.F (frz γ.F H fs) := le_frz hn
  cases t with
  | f => cases ht; exact Rep.mono le1 h.1
  | g k =>
    cases ht
    obtain ⟨⟨q, z⟩, _⟩ := h
    exact ⟨q, Lay.mono le1 k _ _ q (fun _ _ _ y => y) z⟩
  | o k => cases ht; exact Lay.rep le1 k _ _ fp (fun a ha o e => by rw [frz_in (hs a ha)]; exact e) h
  | b k => cases ht
  | s i k => cases ht
theorem tI_zip {ms : MA} {R : It → Hp → Prop} (h : tI κ XT W p (mZip ms) σ H R) : iZip κ.K (tA κ XT W p ms) σ H R := by
  refine tI_args h fun γ H γ1 H1 vs xs fps f1 r1 hl hn c => ?_
  unfold zipI at c
  split at c
  · rename_i t as u bs
    cases ht : lentT t with
    | none => rw [ht] at c; exact c.elim
    | some t' =>
      cases hu : lentT u with
      | none => rw [ht, hu] at c; exact c.elim
      | some u' =>
        simp only [ht, hu] at c
        obtain ⟨x, y, g1, g2, rfl, ef, h1, h2⟩ := tri2 hl.tri
        obtain ⟨a, vs, rfl, hs, _⟩ := (h1.rep f1).lst
        obtain ⟨b, ws, rfl, hs', _⟩ := (h2.rep f1).lst
        obtain ⟨f2, r2⟩ := hl.fz f1
        have hnF : ∀ a ∈ fps.flatten, γ1.F a = none := fun a ha => (hl.fr a ha).1
        exact ⟨a, b, vs, ws, rfl, hs, hs', c (γ1.fz H1 fps.flatten) _ H1 _ _ f2 (r1.join hn r2) rfl rfl src_zip ⟨lent_stands f1 h1 ht (fun a ha => by rw [ef]; simp [ha]) hnF, lent_stands f1 h2 hu (fun a ha => by rw [ef]; simp [ha]) hnF⟩⟩
  · exact c.elim
/-! ### for -/
def mForI (src : MI) (as : Item → Env → Option Env) (body : MS) : MS := fun env => match src env with
  | .ok (its, ls) e => unlockAll ls (loopF as body its e)
  | .ex c fs e => .ex c fs e
  | .no => .no
theorem tS_forI {g : TG} {t : TGs} {f : As} {fs : Ass} {body : MS} {src : MI} {wi : TI} (hw : ∀ σ H R, tI κ XT W p src σ H R → wi σ H R) (hg : TgS κ g f) (hgs : (∀ n, g = gTup κ.K n t → TgsS κ t fs) ∧ ∀ env its ls e, src env = .ok (its, ls) e → ∀ it ∈ its, ∀ v w, it = .two v w → g = gTup κ.K 2 t)
    (h : tS κ XT W (mForI src (asItem f fs) body) Ds σ H) : tFor wi g (tS κ XT W body) Ds σ H := by
  obtain ⟨γ, ft, c⟩ := h
  refine hw σ H _ ⟨γ, ft, ?_⟩
  unfold mForI at c
  cases hm : src γ.env with
  | no => rw [hm] at c; exact c
  | ex cc fs2 e =>
    rw [hm] at c
    exact fun γ1 H1 cls d e1 f1 r1 xr => c γ1 σ H1 cls d ⟨e1, f1, r1, fun _ _ => rfl⟩ xr
  | ok il e =>
    obtain ⟨its, ls⟩ := il
    simp only [hm] at c
    intro γ1 γ2 H1 J S f1 r1 lk e2 sr hS
    have g1 : Got κ γ.P γ σ H γ1.env γ1 σ H1 := ⟨rfl, f1, r1.weak (fun z => by cases z), fun _ _ => rfl⟩
    have c1 : ContS κ XT W γ1.P γ1 σ H1 Ds (unlockAll ls (loopF (asItem f fs) body its e)) := c.step g1 r1.newP
    have c2 := lk.cont f1 (fun _ h => h) c1
    have eP := lk.P.1
    exact loop_ok (t := t) (fs := fs) sr hg ⟨hgs.1, hgs.2 γ.env its ls e hm⟩ (lk.fits f1) hS (by rw [e2]; exact c2) (by rw [eP]; exact fun _ h => h)
/-! ### while -/
def whileF (n : Nat) (c : ME) (body : MS) : Env → Fl := match n with
  | 0 => fun _ => .no
  | n + 1 => fun env => (match c env with
    | .ok ⟨_, .bl true⟩ e => (match body e with
      | .nx e2 => whileF n c body e2
      | .ct e2 => whileF n c body e2
      | .bk e2 => .nx e2
      | r => r)
    | .ok ⟨_, .bl false⟩ e => .nx e
    | .ex cc fs e => .ex cc fs e
    | _ => .no)
theorem tS_while {n : Nat} {c : ME} {body : MS} (h : tS κ XT W (whileF n c body) Ds σ H) : tWhile (tT κ XT W p c) (tS κ XT W body) Ds σ H := by
  refine ⟨fun m σ H => tS κ XT W (whileF m c body) Ds σ H, ⟨n, h⟩, fun m σ H hw => ?_⟩
  cases m with
  | zero => obtain ⟨γ, ft, z⟩ := hw; exact z.elim
  | succ m =>
    obtain ⟨γ, ft, z⟩ := hw
    refine ⟨γ, ft, ?_⟩
    unfold whileF at z
    cases hc : c γ.env with
    | no => rw [hc] at z; exact z.elim
    | ex cc fs e =>
      rw [hc] at z
      exact fun γ1 H1 cls d e1 f1 r1 xr => z γ1 σ H1 cls d ⟨e1, f1, r1, fun _ _ => rfl⟩ xr
    | ok v e =>
      intro γ1 H1 xs fps e1 f1 r1 hl hn x ex
      subst ex
      obtain ⟨y, fp, e2, e3, hv⟩ := tri1 hl.tri
      cases e2
      obtain ⟨t, d⟩ := v
      rw [hc] at z
      cases d with
      | bl b =>
        refine ⟨b, hv.atom f1 rfl, ?_⟩
        have g1 : Got κ γ.P γ σ H e γ1 σ H1 := ⟨e1, f1, r1.weak (fun z => by cases z), fun _ _ => rfl⟩
        cases b with
        | true =>
          show if true = true then _ else _
          rw [if_pos rfl]
          simp only at z
          refine ⟨fun σ H => tS κ XT W (whileF m c body) Ds σ H, fun σ' H' k => ⟨m, Nat.lt_succ_self _, k⟩, γ1, f1, ?_⟩
          rw [e1]
          cases hb : body e with
          | nx e2 => simp only [hb] at z; exact fun γ2 σ2 H2 g2 => tS.at (g1.trans g2 g1.rc.newP) z
          | ct e2 => simp only [hb] at z; exact fun γ2 σ2 H2 g2 => tS.at (g1.trans g2 g1.rc.newP) z
          | bk e2 => simp only [hb] at z; exact fun γ2 σ2 H2 g2 => z γ2 σ2 H2 (g1.trans g2 g1.rc.newP)
          | rt v e2 => simp only [hb] at z; exact fun γ2 σ2 H2 x fp g2 hh hn => z γ2 σ2 H2 x fp (g1.trans g2 g1.rc.newP) hh fun a ha => (hn a ha).elim (g1.rc.newP a) fun w => .inr (g1.rc.mono a w)
          | ex cc fs e2 => simp only [hb] at z; exact fun γ2 σ2 H2 cls d g2 xr => z γ2 σ2 H2 cls d (g1.trans g2 g1.rc.newP) xr
          | no => simp only [hb] at z; exact z.elim
        | false =>
          show if false = true then _ else _
          rw [if_neg Bool.false_ne_true]
          exact z γ1 σ H1 g1
      | _ => exact z.elim
open Classical in
/-- while: as often as it turns -/
noncomputable def mWhile (c : ME) (body : MS) : MS := fun env => if h : ∃ n, whileF n c body env ≠ .no then whileF (choose h) c body env else .no
theorem whileF_mono {c : ME} {body : MS} : ∀ {n : Nat} {env : Env}, whileF n c body env ≠ .no → ∀ m, n ≤ m → whileF m c body env = whileF n c body env
  | 0, env, h, _, _ => absurd rfl h
  | n + 1, env, h, m, hm => by
    obtain ⟨m, rfl⟩ : ∃ k, m = k + 1 := ⟨m - 1, by omega⟩
    unfold whileF at h ⊢
    cases hc : c env with
    | no => rfl
    | ex cc fs e => rfl
    | ok v e =>
      rw [hc] at h
      obtain ⟨t, d⟩ := v
      cases d with
      | bl b =>
        cases b with
        | true =>
          dsimp only at h ⊢
          cases hb : body e with
          | nx e2 => rw [hb] at h; exact whileF_mono h m (by omega)
          | ct e2 => rw [hb] at h; exact whileF_mono h m (by omega)
          | bk e2 => rfl
          | rt v e2 => rfl
          | ex cc fs e2 => rfl
          | no => rfl
        | false => rfl
      | _ => rfl
theorem mWhile_of {c : ME} {body : MS} {env : Env} {n : Nat} {r : Fl} (h : whileF n c body env = r) (hr : r ≠ .no) : mWhile c body env = r := by
  have hx : ∃ n, whileF n c body env ≠ .no := ⟨n, by rw [h]; exact hr⟩
  unfold mWhile
  rw [dif_pos hx]
  have h1 := Classical.choose_spec hx
  have e1 := whileF_mono h1 (Nat.max n (Classical.choose hx)) (Nat.le_max_right ..)
  have e2 := whileF_mono (n := n) (by rw [h]; exact hr) (Nat.max n (Classical.choose hx)) (Nat.le_max_left ..)
  rw [← e1, e2, h]
theorem mWhile_step (c : ME) (body : MS) (env : Env) : mWhile c body env = match c env with
    | .ok ⟨_, .bl true⟩ e => (match body e with
      | .nx e2 => mWhile c body e2
      | .ct e2 => mWhile c body e2
      | .bk e2 => .nx e2
      | r => r)
    | .ok ⟨_, .bl false⟩ e => .nx e
    | .ex cc fs e => .ex cc fs e
    | _ => .no := by
  have to : ∀ r, r ≠ .no → (∃ n, whileF n c body env = r) → mWhile c body env = r := fun r hr ⟨n, h⟩ => mWhile_of h hr
  have no : (∀ n, whileF n c body env = .no) → mWhile c body env = .no := fun h => by
    unfold mWhile
    rw [dif_neg fun ⟨n, z⟩ => z (h n)]
  have go : ∀ e t e2, c env = .ok ⟨t, .bl true⟩ e → (body e = .nx e2 ∨ body e = .ct e2) → mWhile c body env = mWhile c body e2 := fun e t e2 hc hb => by
    have st : ∀ n, whileF (n + 1) c body env = whileF n c body e2 := fun n => by
      conv => lhs; unfold whileF
      rw [hc]
      rcases hb with hb | hb <;> simp only [hb]
    by_cases hx : ∃ n, whileF n c body e2 ≠ .no
    · obtain ⟨n, hn⟩ := hx
      rw [mWhile_of (n := n) rfl hn]
      exact mWhile_of (n := n + 1) (st n) hn
    · have h2 : ∀ n, whileF n c body e2 = .no := fun n => Classical.byContradiction fun z => hx ⟨n, z⟩
      rw [no fun n => by cases n with
        | zero => rfl
        | succ n => rw [st, h2]]
      unfold mWhile
      rw [dif_neg hx]
  cases hc : c env with
  | no => exact no fun n => by cases n with
    | zero => rfl
    | succ n => unfold whileF; rw [hc]
  | ex cc fs e => exact to _ (by intro z; cases z) ⟨1, by unfold whileF; rw [hc]⟩
  | ok v e =>
    obtain ⟨t, d⟩ := v
    cases d with
    | bl b =>
      cases b with
      | true =>
        dsimp only
        cases hb : body e with
        | nx e2 => exact go e t e2 hc (.inl hb)
        | ct e2 => exact go e t e2 hc (.inr hb)
        | bk e2 => exact to _ (by intro z; cases z) ⟨1, by unfold whileF; rw [hc]; simp only [hb]⟩
        | rt v e2 => exact to _ (by intro z; cases z) ⟨1, by unfold whileF; rw [hc]; simp only [hb]⟩
        | ex cc fs e2 => exact to _ (by intro z; cases z) ⟨1, by unfold whileF; rw [hc]; simp only [hb]⟩
        | no => exact no fun n => by cases n with
          | zero => rfl
          | succ n => unfold whileF; rw [hc]; simp only [hb]
      | false => exact to _ (by intro z; cases z) ⟨1, by unfold whileF; rw [hc]⟩
    | _ => exact no fun n => by cases n with
      | zero => rfl
      | succ n => unfold whileF; rw [hc]
theorem tS_mWhile {c : ME} {body : MS} (h : tS κ XT W (mWhile c body) Ds σ H) : tWhile (tT κ XT W p c) (tS κ XT W body) Ds σ H := by
  obtain ⟨γ, ft, z⟩ := h
  by_cases hx : ∃ n, whileF n c body γ.env ≠ .no
  · have e : mWhile c body γ.env = whileF (Classical.choose hx) c body γ.env := by unfold mWhile; rw [dif_pos hx]
    rw [e] at z
    exact tS_while ⟨γ, ft, z⟩
  · have e : mWhile c body γ.env = .no := by unfold mWhile; rw [dif_neg hx]
    rw [e] at z
    exact z.elim
end
end Py

set_option Elab.async false
set_option linter.all false
set_option maxRecDepth 100000
set_option maxHeartbeats 1000000
/-! PyR: list comprehensions. -/
namespace Py
open PySem L2
/-- the slots L alone may differ -/
def OnlyAt (L : List Nat) (σ σ' : St) : Prop := σ'.length = σ.length ∧ ∀ j, j ∉ L → σ'[j]? = σ[j]?
def TgW (g : TG) (L : List Nat) : Prop := ∀ x σ H (K0 K : St → Hp → Prop), g x σ H K0 → (∀ σ' H', K0 σ' H' → OnlyAt L σ σ' → K σ' H') → g x σ H K
def TgsW (g : TGs) (L : List Nat) : Prop := ∀ x σ H (K0 K : St → Hp → Prop), g x σ H K0 → (∀ σ' H', K0 σ' H' → OnlyAt L σ σ' → K σ' H') → g x σ H K
theorem tgw_name {i : Nat} : TgW (gName i) [i] := fun x σ H K0 K h k => k _ _ h ⟨by simp, fun j hj => get_set_ne fun z => hj (by simp [z])⟩
theorem tgsw_nil : TgsW gNil [] := fun x σ H K0 K h k => ⟨h.1, k _ _ h.2 ⟨rfl, fun _ _ => rfl⟩⟩
theorem tgsw_cons {g : TG} {t : TGs} {L M : List Nat} (h1 : TgW g L) (h2 : TgsW t M) : TgsW (gCons g t) (L ++ M) := fun x σ H K0 K ⟨v, r, e, h⟩ k =>
  ⟨v, r, e, h1 v σ H _ _ h fun σ1 H1 h' o1 => h2 r σ1 H1 _ _ h' fun σ2 H2 h'' o2 => k σ2 H2 h'' ⟨o2.1.trans o1.1, fun j hj => (o2.2 j fun z => hj (List.mem_append_right _ z)).trans (o1.2 j fun z => hj (List.mem_append_left _ z))⟩⟩
theorem tgw_tup {t : TGs} {L : List Nat} {K : PySem.W.Frag} {n : Nat} (h : TgsW t L) : TgW (gTup K n t) L := fun x σ H K0 K' ⟨a, xs, e, s, l, z⟩ k => ⟨a, xs, e, s, l, h xs σ H K0 K' z k⟩
theorem wipe_same {σ σ' : St} {vs L : List Nat} (hL : ∀ j ∈ L, j ∈ vs) (h : OnlyAt L (wipe σ vs) σ') : wipe σ' vs = wipe σ vs := by
  apply List.ext_getElem?
  intro j
  have hl : σ'.length = σ.length := by rw [h.1, wipe_length]
  rw [wipe_get, hl]
  by_cases z : j ∈ vs ∧ j < σ.length
  · rw [if_pos z, wipe_get, if_pos z]
  · rw [if_neg z]
    by_cases y : j ∈ vs
    · have hj : σ.length ≤ j := by
        by_cases w : j < σ.length
        · exact absurd ⟨y, w⟩ z
        · omega
      rw [List.getElem?_eq_none (by omega), List.getElem?_eq_none (by rw [wipe_length]; exact hj)]
    · exact h.2 j fun w => y (hL j w)
/-- what a comprehension's turns make: the items so far -/
def compLoop (vs : List Nat) (as : Item → Env → Option Env) (tst elt : ME) : List Item → List D → Env → R (List D)
  | [], acc, e => .ok acc e
  | it :: r, acc, e => (match as it e with
    | none => .no
    | some e1 => (match tst e1 with
      | .ok ⟨_, .bl true⟩ e2 => (match elt e2 with
        | .ok v e3 => (match frzV v e3 with
          | some (d, e4) => if (szOk acc.length && vs.all fun i => plainS e4[i]?) = true then compLoop vs as tst elt r (acc ++ [d]) (wipeE vs e4) else .no
          | none => .no)
        | _ => .no)
      | .ok ⟨_, .bl false⟩ e2 => if (vs.all fun i => plainS e2[i]?) = true then compLoop vs as tst elt r acc (wipeE vs e2) else .no
      | _ => .no))
def restoreE (e0 : Env) : List Nat → Env → Env
  | [], e => e
  | v :: vs, e => (restoreE e0 vs e).set v (e0.getD v .un)
def mComp (src : MI) (vs : List Nat) (as : Item → Env → Option Env) (tst elt : ME) : ME := fun env => match src env with
  | .ok (its, ls) e => if (vs.all fun i => plainS e[i]?) = true then (match compLoop vs as tst elt its [] (wipeE vs e) with
      | .ok ds e' => .ok ⟨.o (.l .f), .lst ds⟩ (unlockE ls (restoreE e vs e'))
      | _ => .no) else .no
  | .ex c fs e => .ex c fs e
  | .no => .no
section
variable {κ : Kx} {XT : Nat → Option (Value × List Str)} {p q : Bool} {A B : List Addr} {γ γ0 γ1 γ2 γ3 : Gst} {σ σ1 σ2 : St} {F F' G H H1 H2 : Hp} {W : WX} {Ds : Ends} {X : Cx} {v : Val} {x : V} {fp : List Addr}
theorem wipe_tri {e : Env} {σ : St} {fps : List (List Addr)} (h : Tri (SlotRep κ F G H) e σ fps) : ∀ vs : List Nat, Tri (SlotRep κ F G H) (wipeE vs e) (L2.wipe σ vs) (wipeF vs fps)
  | [] => h
  | v :: vs => Tri.set (wipe_tri h vs) rfl
theorem wipeF_mem {fps : List (List Addr)} : ∀ {vs : List Nat} {a : Addr}, a ∈ (wipeF vs fps).flatten → a ∈ fps.flatten
  | [], a, h => h
  | v :: vs, a, h => by
    rcases mem_set h with z | ⟨j, g, _, e, z⟩
    · simp at z
    · exact wipeF_mem (vs := vs) (mem_flat (List.mem_of_getElem? e) z)
theorem wipeF_nodup {fps : List (List Addr)} (h : fps.flatten.Nodup) : ∀ vs : List Nat, (wipeF vs fps).flatten.Nodup
  | [] => h
  | v :: vs => nodup_flat_set (wipeF_nodup h vs) (by simp) fun a ha => by simp at ha
theorem Fits.wipe (ft : Fits κ γ σ H) (vs : List Nat) : Fits κ (γ.wipe vs) (L2.wipe σ vs) H where
  lf := ft.lf
  lg := ft.lg
  nd := wipeF_nodup ft.nd vs
  fr := fun a ha => ft.fr a (wipeF_mem ha)
  sl := wipe_tri ft.sl vs
theorem wipeE_un : ∀ {vs : List Nat} {e : Env} {j : Nat} {s : Slot}, j ∈ vs → (wipeE vs e)[j]? = some s → s = .un
  | [], e, j, s, h, _ => by simp at h
  | v :: vs, e, j, s, h, he => by
    unfold wipeE at he
    by_cases z : v = j
    · subst z
      rw [List.getElem?_set, if_pos rfl] at he
      split at he
      · cases he; rfl
      · cases he
    · rw [get_set_ne z] at he
      exact wipeE_un (by rcases List.mem_cons.mp h with w | w; exact absurd w.symm z; exact w) he
/-- reached within a comprehension: all but its own slots as in Reach -/
structure ReachC (p : Bool) (A : List Addr) (vs : List Nat) (γ : Gst) (H : Hp) (γ' : Gst) (H' : Hp) : Prop where
  g : γ'.G = γ.G
  f : Le γ.F γ'.F
  keep : ∀ a o, H a = some o → a ∉ A → H' a = some o
  mono : ∀ a, H' a = none → H a = none
  newF : ∀ a, γ'.F a ≠ none → γ.F a ≠ none ∨ a ∈ A ∨ H a = none
  newP : ∀ a ∈ γ'.P, a ∈ A ∨ H a = none
  mus : ∀ i, i ∉ vs → Mu γ.env i → Mu γ'.env i
  lks : ∀ (i : Nat) (s : Slot), i ∉ vs → γ.env[i]? = some s → s.isLk = true → γ'.env[i]? = some s
  pure : p = true → (∀ a o, H a = some o → H' a = some o) ∧ ∀ a ∈ γ.P, a ∈ γ'.P ∨ γ'.F a ≠ none
theorem ReachC.step {vs : List Nat} (r : ReachC p A vs γ H γ1 H1) (s : Reach q γ1.P γ1 H1 γ2 H2) (hp : p = true → q = true) (hA : ∀ a ∈ γ1.P, a ∈ A ∨ H a = none) : ReachC p A vs γ H γ2 H2 where
  g := s.g.trans r.g
  f := r.f.trans s.f
  keep := fun a o e h => s.keep a o (r.keep a o e h) fun z => (hA a z).elim h fun y => by rw [e] at y; cases y
  mono := fun a h => r.mono a (s.mono a h)
  newF := fun a h => (s.newF a h).elim (fun z => r.newF a z) fun z => z.elim (fun y => .inr (hA a y)) fun y => .inr (.inr (r.mono a y))
  newP := fun a h => (s.newP a h).elim (hA a) fun z => .inr (r.mono a z)
  mus := fun i hi h => s.mus i (r.mus i hi h)
  lks := fun i u hi e h => s.lks i u (r.lks i u hi e h) h
  pure := fun h => by
    obtain ⟨r1, r2⟩ := r.pure h
    have le := s.le (hp h)
    obtain ⟨_, s2⟩ := s.pure (hp h)
    refine ⟨fun a o e => le a o (r1 a o e), fun a ha => (r2 a ha).elim (s2 a) fun z => .inr ?_⟩
    cases e : γ1.F a with
    | none => exact absurd e z
    | some o => rw [s.f a o e]; intro y; cases y
theorem ReachC.wipe {vs : List Nat} (r : ReachC p A vs γ H γ1 H1) (hw : p = true → ∀ a ∈ γ1.P, a ∈ (γ1.wipe vs).P) : ReachC p A vs γ H (γ1.wipe vs) H1 where
  g := r.g
  f := r.f
  keep := r.keep
  mono := r.mono
  newF := r.newF
  newP := fun a h => r.newP a (wipeF_mem h)
  mus := fun i hi h => by
    obtain ⟨k, d, z⟩ := r.mus i hi h
    exact ⟨k, d, by show (wipeE vs γ1.env)[i]? = _ ∨ (wipeE vs γ1.env)[i]? = _; rw [wipeE_get hi]; exact z⟩
  lks := fun i u hi e h => by
    show (wipeE vs γ1.env)[i]? = _
    rw [wipeE_get hi]
    exact r.lks i u hi e h
  pure := fun h => ⟨(r.pure h).1, fun a ha => ((r.pure h).2 a ha).imp (hw h a) id⟩

theorem plain_fp (ft : Fits κ γ σ H) {vs : List Nat} (hp : ∀ i ∈ vs, plainS γ.env[i]? = true) : ∀ a ∈ γ.P, a ∈ (γ.wipe vs).P := by
  intro a ha
  obtain ⟨g, hg, hag⟩ := List.mem_flatten.mp ha
  obtain ⟨j, hj⟩ := List.getElem?_of_mem hg
  have hjv : j ∉ vs := fun z => by
    have hpl := hp j z
    cases e : γ.env[j]? with
    | none => rw [e] at hpl; cases hpl
    | some s =>
      obtain ⟨b, f, e4, e5, e6⟩ := ft.slot e
      rw [hj] at e5
      cases e5
      rw [e] at hpl
      cases s with
      | un => have z : g = [] := e6; rw [z] at hag; simp at hag
      | fz d => have z : g = [] := e6.2; rw [z] at hag; simp at hag
      | bo k d => have z : g = [] := e6.2; rw [z] at hag; simp at hag
      | _ => cases hpl
  have : ∀ {us : List Nat}, j ∉ us → (wipeF us γ.fps)[j]? = some g := by
    intro us
    induction us with
    | nil => intro _; exact hj
    | cons u us ih =>
      intro h
      show ((wipeF us γ.fps).set u [])[j]? = _
      rw [get_set_ne fun z => h (by simp [z])]
      exact ih fun z => h (List.mem_cons_of_mem _ z)
  exact mem_flat (List.mem_of_getElem? (this hjv)) hag
theorem Fits.other (ft : Fits κ γ σ H) {a : Addr} {o : HO} (h1 : a ∉ γ.P) (h2 : γ.F a = none) (h3 : γ.G a = none) : Fits κ γ σ (upd H a o) where
  lf := fun b u e => by rw [upd_ne fun z => by rw [z, h2] at e; cases e]; exact ft.lf b u e
  lg := fun b u e => by rw [upd_ne fun z => by rw [z, h3] at e; cases e]; exact ft.lg b u e
  nd := ft.nd
  fr := fun b hb => ⟨(ft.fr b hb).1, (ft.fr b hb).2.1, by rw [upd_ne fun z => h1 (by rw [← z]; exact hb)]; exact (ft.fr b hb).2.2⟩
  sl := ft.sl.imp fun s b f hf e => by
    have hm : ∀ c ∈ f, ∀ u, H c = some u → upd H a o c = some u := fun c hc u z => by rw [upd_ne fun y => h1 (by rw [← y]; exact mem_flat hf hc)]; exact z
    cases s with
    | un => exact e
    | xn c fs => exact e
    | fz d => exact e
    | bo k d => exact e
    | ow k d => exact e.elim fun x z => ⟨x, z.1, Lay.mono (Le.refl _) k d x f hm z.2⟩
    | mu k d => exact e.elim fun x z => ⟨x, z.1, Lay.mono (Le.refl _) k d x f hm z.2⟩
    | lk k d => exact e.elim fun x z => ⟨x, z.1, Lay.mono (Le.refl _) k d x f hm z.2⟩
    | lm k d => exact e.elim fun x z => ⟨x, z.1, Lay.mono (Le.refl _) k d x f hm z.2⟩
/-- the state of a comprehension between two turns -/
structure Turn0 (κ : Kx) (p : Bool) (γ2 : Gst) (H1 : Hp) (vs : List Nat) (σ : St) (a : Addr) (S : Gst → St → Hp → Prop) (ds : List D) (γ : Gst) (H : Hp) : Prop where
  ft : Fits κ γ (L2.wipe σ vs) H
  st : S γ (L2.wipe σ vs) H
  rc : ReachC p γ2.P vs γ2 H1 γ H
  acc : ∃ acc, H a = some (.lst acc) ∧ Paired (Rep κ γ.F) ds acc
  out : a ∉ γ.P ∧ γ.F a = none ∧ γ.G a = none
theorem tri_len {α β γ : Type} {R : α → β → γ → Prop} : ∀ {as : List α} {bs : List β} {cs : List γ}, as.length = bs.length → cs.length = bs.length → (∀ (i : Nat) a b c, as[i]? = some a → bs[i]? = some b → cs[i]? = some c → R a b c) → Tri R as bs cs
  | [], [], [], _, _, _ => .nil
  | a :: as, b :: bs, c :: cs, h1, h2, h => .cons (h 0 a b c rfl rfl rfl) (tri_len (by simpa using h1) (by simpa using h2) fun i a b c e1 e2 e3 => h (i + 1) a b c (by simpa using e1) (by simpa using e2) (by simpa using e3))
  | [], _ :: _, _, h1, _, _ => by cases h1
  | _ :: _, [], _, h1, _, _ => by cases h1
  | [], [], _ :: _, _, h2, _ => by cases h2
  | _ :: _, _ :: _, [], _, h2, _ => by cases h2
theorem restore_get (e0 : Env) : ∀ (vs : List Nat) (e : Env) (j : Nat), (restoreE e0 vs e)[j]? = if j ∈ vs ∧ j < e.length then some (e0.getD j .un) else e[j]?
  | [], e, j => by simp [restoreE]
  | v :: vs, e, j => by
    have hl : ∀ us : List Nat, (restoreE e0 us e).length = e.length := fun us => by
      induction us with
      | nil => rfl
      | cons u us ih => simp [restoreE, ih]
    unfold restoreE
    rw [List.getElem?_set, hl, restore_get e0 vs e j]
    by_cases z : v = j
    · subst z
      by_cases y : v < e.length
      · simp [y]
      · simp [y]
    · simp [z, Ne.symm z]
theorem restore_len (e0 e : Env) : ∀ us : List Nat, (restoreE e0 us e).length = e.length
  | [] => rfl
  | u :: us => by simp [restoreE, restore_len e0 e us]
/-- the end: the own names' slots as they were -/
theorem turn_end {vs : List Nat} {a : Addr} {S : Gst → St → Hp → Prop} {ds : List D} (t : Turn0 κ p γ2 H1 vs σ a S ds γ H) (f2 : Fits κ γ2 σ H1) (hp : ∀ i ∈ vs, plainS γ2.env[i]? = true) :
    ∃ γ', γ'.env = restoreE γ2.env vs γ.env ∧ Fits κ γ' σ H ∧ Reach p γ2.P γ2 H1 γ' H ∧ γ'.F = γ.F ∧ (∀ b ∈ γ'.P, b ∈ γ.P) ∧ γ'.G = γ.G := by
  have hl1 : γ.env.length = σ.length := by have := t.ft.sl.len1; rw [L2.wipe_length] at this; exact this
  have hl2 : γ.fps.length = σ.length := by have := t.ft.sl.len2; rw [L2.wipe_length] at this; exact this
  have wl : ∀ us : List Nat, (wipeF us γ.fps).length = γ.fps.length := fun us => by
    induction us with
    | nil => rfl
    | cons u us ih => simp [wipeF, ih]
  have wget : ∀ {us : List Nat} {j : Nat}, j ∉ us → (wipeF us γ.fps)[j]? = γ.fps[j]? := by
    intro us
    induction us with
    | nil => intro j _; rfl
    | cons u us ih =>
      intro j h
      show ((wipeF us γ.fps).set u [])[j]? = _
      rw [get_set_ne fun z => h (by simp [z])]
      exact ih fun z => h (List.mem_cons_of_mem _ z)
  have wnil : ∀ {us : List Nat} {j : Nat} {f : List Addr}, j ∈ us → (wipeF us γ.fps)[j]? = some f → f = [] := by
    intro us
    induction us with
    | nil => intro j f h; simp at h
    | cons u us ih =>
      intro j f h e
      have e : ((wipeF us γ.fps).set u [])[j]? = some f := e
      by_cases z : u = j
      · subst z
        rw [List.getElem?_set, if_pos rfl] at e
        split at e
        · cases e; rfl
        · cases e
      · rw [get_set_ne z] at e
        exact ih (by rcases List.mem_cons.mp h with w | w; exact absurd w.symm z; exact w) e
  let γ' : Gst := ⟨γ.F, γ.G, restoreE γ2.env vs γ.env, wipeF vs γ.fps⟩
  have hP : ∀ b ∈ γ'.P, b ∈ γ.P := fun b hb => wipeF_mem hb
  have ft' : Fits κ γ' σ H := {
    lf := t.ft.lf
    lg := t.ft.lg
    nd := wipeF_nodup t.ft.nd vs
    fr := fun b hb => t.ft.fr b (hP b hb)
    sl := by
      refine tri_len (by rw [restore_len]; exact hl1) (by rw [wl]; exact hl2) fun i s b f e1 e2 e3 => ?_
      have il : i < σ.length := (List.getElem?_eq_some_iff.mp e2).1
      rw [restore_get] at e1
      by_cases z : i ∈ vs
      · rw [if_pos ⟨z, by rw [hl1]; exact il⟩] at e1
        have ef := wnil z e3
        subst ef
        have hpl := hp i z
        cases e : γ2.env[i]? with
        | none => rw [e] at hpl; cases hpl
        | some s2 =>
          have es : γ2.env.getD i .un = s2 := by simp [List.getD, e]
          rw [es] at e1
          cases e1
          obtain ⟨b', f', e4, e5, e6⟩ := f2.slot e
          rw [e2] at e4
          cases e4
          rw [e] at hpl
          have gG := t.rc.g
          cases s with
          | un => rfl
          | fz d => exact ⟨e6.1.elim fun x z => ⟨x, z.1, z.2.mono t.rc.f⟩, rfl⟩
          | bo k d => exact ⟨e6.1.elim fun x z => z.elim fun q z => ⟨x, q, z.1, by show Lay κ γ.F γ.G k d x q; rw [gG]; exact Lay.mono t.rc.f k d x q (fun _ _ _ y => y) z.2⟩, rfl⟩
          | _ => cases hpl
      · rw [if_neg fun y => z y.1] at e1
        rw [wget z] at e3
        obtain ⟨b', f', e4, e5, e6⟩ := t.ft.slot e1
        rw [wipe_get, if_neg fun y => z y.1, e2] at e4
        cases e4
        rw [e3] at e5
        cases e5
        exact e6 }
  refine ⟨γ', rfl, ft', ?_, rfl, hP, rfl⟩
  have notMu : ∀ i ∈ vs, ¬ Mu γ2.env i := fun i hi ⟨k, d, z⟩ => by
    have hpl := hp i hi
    rcases z with z | z <;> (rw [z] at hpl; cases hpl)
  exact {
    g := t.rc.g
    f := t.rc.f
    keep := t.rc.keep
    mono := t.rc.mono
    newF := t.rc.newF
    newP := fun b hb => t.rc.newP b (hP b hb)
    mus := fun i hi => by
      have hv : i ∉ vs := fun z => notMu i z hi
      obtain ⟨k, d, z⟩ := t.rc.mus i hv hi
      exact ⟨k, d, by show (restoreE γ2.env vs γ.env)[i]? = _ ∨ (restoreE γ2.env vs γ.env)[i]? = _; rw [restore_get, if_neg fun y => hv y.1]; exact z⟩
    lks := fun i u hu hk => by
      have hv : i ∉ vs := fun z => by
        have hpl := hp i z
        rw [hu] at hpl
        cases u <;> first | (cases hk; done) | (cases hpl; done)
      show (restoreE γ2.env vs γ.env)[i]? = _
      rw [restore_get, if_neg fun y => hv y.1]
      exact t.rc.lks i u hv hu hk
    pure := fun h => by
      obtain ⟨r1, r2⟩ := t.rc.pure h
      refine ⟨fun b o e _ => r1 b o e, fun b hb => (r2 b hb).imp (fun z => ?_) id⟩
      obtain ⟨g, hg, hag⟩ := List.mem_flatten.mp z
      obtain ⟨j, hj⟩ := List.getElem?_of_mem hg
      by_cases y : j ∈ vs
      · -- the own names hold nothing
        exfalso
        have jl : j < γ.env.length := by rw [hl1, ← hl2]; exact (List.getElem?_eq_some_iff.mp hj).1
        obtain ⟨s, hs⟩ : ∃ s, γ.env[j]? = some s := ⟨γ.env[j], by simp [jl]⟩
        obtain ⟨b', f', e4, e5, e6⟩ := t.ft.slot hs
        rw [hj] at e5
        cases e5
        rw [wipe_get, if_pos ⟨y, by rw [← hl1]; exact jl⟩] at e4
        cases e4
        cases s with
        | un => have w : g = [] := e6; rw [w] at hag; simp at hag
        | xn c fs => have w : g = [] := e6; rw [w] at hag; simp at hag
        | fz d => have w : g = [] := e6.2; rw [w] at hag; simp at hag
        | bo k d => have w : g = [] := e6.2; rw [w] at hag; simp at hag
        | ow k d => obtain ⟨x, w, _⟩ := e6; cases w
        | mu k d => obtain ⟨x, w, _⟩ := e6; cases w
        | lk k d => obtain ⟨x, w, _⟩ := e6; cases w
        | lm k d => obtain ⟨x, w, _⟩ := e6; cases w
      · exact mem_flat (List.mem_of_getElem? (by rw [wget y]; exact hj)) hag }
end
end Py

set_option Elab.async false
set_option linter.all false
set_option maxRecDepth 100000
set_option maxHeartbeats 1000000
/-! PyS: a list comprehension's reading. -/
namespace Py
open PySem L2
section
variable {κ : Kx} {XT : Nat → Option (Value × List Str)} {p q : Bool} {A B : List Addr} {γ γ0 γ1 γ2 γ3 : Gst} {σ σ1 σ2 : St} {F F' G H H1 H2 : Hp} {W : WX} {Ds : Ends} {X : Cx} {v : Val} {x : V} {fp : List Addr}
theorem tM.weak {m : ME} {Q : VK} (hp : q = true → p = true) (h : tM κ XT W q m σ H Q) : tM κ XT W p m σ H Q := by
  obtain ⟨γ, ft, c⟩ := h
  refine ⟨γ, ft, ?_⟩
  cases hm : (m γ.env).map fun v => [v] with
  | no => rw [hm] at c; exact c
  | ex cc fs e => rw [hm] at c; exact c
  | ok vs e =>
    rw [hm] at c
    exact fun γ' H' xs fps a b r d n => c γ' H' xs fps a b (r.weak hp) d ⟨n.1, fun z => n.2 (hp z)⟩
theorem tI.weak {m : MI} {R : It → Hp → Prop} (hp : q = true → p = true) (h : tI κ XT W q m σ H R) : tI κ XT W p m σ H R := by
  obtain ⟨γ, ft, c⟩ := h
  refine ⟨γ, ft, ?_⟩
  cases hm : m γ.env with
  | no => rw [hm] at c; exact c
  | ex cc fs e => rw [hm] at c; exact c
  | ok vs e =>
    rw [hm] at c
    obtain ⟨its, ls⟩ := vs
    exact fun γ1 γ2 H1 J S f1 r1 => c γ1 γ2 H1 J S f1 (r1.weak hp)
theorem ReachC.other {vs : List Nat} {a : Addr} {o : HO} (r : ReachC p A vs γ H γ1 H1) (h : H a = none) (h1 : H1 a ≠ none) : ReachC p A vs γ H γ1 (upd H1 a o) where
  g := r.g
  f := r.f
  keep := fun b u e hb => by rw [upd_ne fun z => by rw [z, h] at e; cases e]; exact r.keep b u e hb
  mono := fun b e => by
    by_cases z : b = a
    · rw [z]; exact h
    · rw [upd_ne z] at e; exact r.mono b e
  newF := r.newF
  newP := r.newP
  mus := r.mus
  lks := r.lks
  pure := fun hp => ⟨fun b u e => by rw [upd_ne fun z => by rw [z, h] at e; cases e]; exact (r.pure hp).1 b u e, (r.pure hp).2⟩
/-- the locks are taken off -/
theorem unlock_reach {i : Nat} (lk : Lock1 i γ γ1) (f : Fits κ γ2 σ1 H2) (r : Reach p A γ1 H γ2 H2) : ∃ γ3, γ3.env = unlock i γ2.env ∧ Fits κ γ3 σ1 H2 ∧ Reach p A γ H γ3 H2 ∧ γ3.F = γ2.F ∧ γ3.G = γ2.G ∧ γ3.P = γ2.P := by
  obtain ⟨k, d, s, s', e, hs, rfl⟩ := lk
  have il : i < γ.env.length := (List.getElem?_eq_some_iff.mp e).1
  have hlk : s'.isLk = true := by rcases hs with ⟨_, z⟩ | ⟨_, z⟩ <;> subst z <;> rfl
  have e' : (γ.env.set i s')[i]? = some s' := by simp [il]
  have ei : γ2.env[i]? = some s' := r.lks i s' e' hlk
  have il' : i < γ2.env.length := (List.getElem?_eq_some_iff.mp ei).1
  have ne : ∀ j u, γ.env[j]? = some u → u.isLk = true → i ≠ j := fun j u hu hk z => by
    subst z
    rw [e] at hu
    cases hu
    rcases hs with ⟨z, _⟩ | ⟨z, _⟩ <;> (subst z; cases hk)
  refine ⟨{ γ2 with env := γ2.env.set i s }, ?_, Got.set f ei fun b f h => by rcases hs with ⟨z, w⟩ | ⟨z, w⟩ <;> (subst z w; exact h), ?_, rfl, rfl, rfl⟩
  · unfold unlock
    rcases hs with ⟨z, w⟩ | ⟨z, w⟩ <;> (subst z w; rw [ei])
  · exact {
      g := r.g
      f := r.f
      keep := r.keep
      mono := r.mono
      newF := r.newF
      newP := r.newP
      mus := fun j hj => by
        by_cases z : i = j
        · subst z
          obtain ⟨k1, d1, hj⟩ := hj
          rw [e] at hj
          rcases hs with ⟨z, w⟩ | ⟨z, w⟩
          · subst z; rcases hj with y | y <;> cases y
          · subst z; exact Mu.put il'
        · exact Mu.set (r.mus j (Mu.set hj z)) z
      lks := fun j u hu hk => Lk.set (r.lks j u (Lk.set hu (ne j u hu hk)) hk) (ne j u hu hk)
      pure := r.pure }
theorem unlocks_reach : ∀ {l : List Nat} {γ γ1 γ2 : Gst}, Locks l γ γ1 → Fits κ γ2 σ1 H2 → Reach p A γ1 H γ2 H2 → ∃ γ3, γ3.env = unlockE l γ2.env ∧ Fits κ γ3 σ1 H2 ∧ Reach p A γ H γ3 H2 ∧ γ3.F = γ2.F ∧ γ3.G = γ2.G ∧ γ3.P = γ2.P
  | [], _, _, γ2, h, f, r => by cases h; exact ⟨γ2, rfl, f, r, rfl, rfl, rfl⟩
  | i :: l, γ, γ1, γ2, ⟨γm, h1, h2⟩, f, r => by
    obtain ⟨γ3, a1, a2, a3, a4, a5, a6⟩ := unlocks_reach h2 f r
    obtain ⟨γ4, b1, b2, b3, b4, b5, b6⟩ := unlock_reach h1 a2 a3
    exact ⟨γ4, by rw [b1, a1]; rfl, b2, b3, b4.trans a4, b5.trans a5, b6.trans a6⟩
theorem sz_lt {n : Nat} (h : szOk n = true) : n < sizeLine := Nat.lt_of_le_of_lt (of_decide_eq_true h) (by decide)
theorem frz_one {d : D} {e e' : Env} (h : frzV v e = some (d, e')) : frzAll [v] e = some ([d], e') := by
  simp only [frzAll, h]
/-- what a source, a target, a test and an element make -/
theorem tM_comp {src : MI} {wi : TI} {g : TG} {t : TGs} {f : As} {fs : Ass} {tst elt : ME} {vs L : List Nat} {W0 : WX} {p1 p2 : Bool} {Q : VK} (hw : ∀ σ H R, tI κ XT W false src σ H R → wi σ H R) (hg : TgS κ g f) (hgs : (∀ n, g = gTup κ.K n t → TgsS κ t fs) ∧ ∀ env its ls e, src env = .ok (its, ls) e → ∀ it ∈ its, ∀ v w, it = .two v w → g = gTup κ.K 2 t)
    (hgW : TgW g L) (hL : ∀ j ∈ L, j ∈ vs) 
    (h : tM κ XT W false (mComp src vs (asItem f fs) tst elt) σ H Q) : tLc wi g (tT κ XT W0 p1 tst) (tM κ XT W0 p2 elt) vs σ H Q := by
  obtain ⟨γ, ft, c⟩ := h
  refine hw σ H _ ⟨γ, ft, ?_⟩
  unfold mComp at c
  cases hm : src γ.env with
  | no => rw [hm] at c; exact c
  | ex cc fs2 e => rw [hm] at c; exact c
  | ok il e =>
    obtain ⟨its, ls⟩ := il
    simp only [hm] at c
    intro γ1 γ2 H1 J S f1 r1 lk e2 sr hS D hD
    subst e2
    have hpl : (vs.all fun i => plainS γ2.env[i]?) = true := by
      by_cases z : (vs.all fun i => plainS γ2.env[i]?) = true
      · exact z
      · rw [if_neg z] at c; exact c.elim
    rw [if_pos hpl] at c
    have hpl' : ∀ i ∈ vs, plainS γ2.env[i]? = true := fun i hi => List.all_eq_true.mp hpl i hi
    have hgs2 := hgs.2 γ.env its ls γ2.env hm
    cases hl : compLoop vs (asItem f fs) tst elt its [] (wipeE vs γ2.env) with
    | no => rw [hl] at c; exact c.elim
    | ex cc fs2 e => rw [hl] at c; exact c.elim
    | ok dsF eF =>
      simp only [hl, R.map] at c
      obtain ⟨G, Y, wk, w1, w2⟩ := sr.walk
      have f2 : Fits κ γ2 σ H1 := lk.fits f1
      obtain ⟨lP, lF, lG⟩ := lk.P
      refine lc_it wk (fun i H => ∃ γt ds, Turn0 κ false γ2 H1 vs σ D S ds γt H ∧ compLoop vs (asItem f fs) tst elt (its.drop i) ds γt.env = .ok dsF eF) ?_ (fun i H _ ⟨γt, ds, t, _⟩ => w1 γt _ H t.ft t.st) ?_ ?_
      · refine ⟨γ2.wipe vs, [], ⟨(f2.wipe vs).heap (Le.upd hD), sr.wipe γ2 σ H1 _ vs hS hpl', ?_, ⟨[], upd_same, .nil⟩, ?_⟩, by rw [List.drop_zero]; exact hl⟩
        · have r0 : ReachC false γ2.P vs γ2 H1 γ2 (upd H1 D (.lst [])) := {
            g := rfl
            f := Le.refl _
            keep := fun a o e _ => Le.upd hD a o e
            mono := fun a e => by
              by_cases z : a = D
              · rw [z]; exact hD
              · rw [upd_ne z] at e; exact e
            newF := fun a h => .inl h
            newP := fun a h => .inl h
            mus := fun _ _ h => h
            lks := fun _ _ _ h _ => h
            pure := fun _ => ⟨fun a o e => Le.upd hD a o e, fun a h => .inl h⟩ }
          exact r0.wipe fun _ => plain_fp f2 hpl'
        · obtain ⟨n1, n2, n3⟩ := fresh_notin f2 hD
          exact ⟨fun z => n1 (wipeF_mem z), n2, n3⟩
      · rintro i x Hh Hh' hi ⟨γt, ds, tn, hc⟩ hy
        obtain ⟨it, hit⟩ : ∃ it, its[i]? = some it := ⟨its[i], by simp [hi]⟩
        have ed : its.drop i = it :: its.drop (i + 1) := by
          rw [List.drop_eq_getElem_cons hi]
          congr 1
          simpa [hi] using hit
        rw [ed] at hc
        unfold compLoop at hc
        cases ha : asItem f fs it γt.env with
        | none => simp only [ha] at hc; cases hc
        | some e1 =>
          simp only [ha] at hc
          obtain ⟨acc0, hacc, hpair⟩ := tn.acc
          refine hgW x (wipe σ vs) Hh' _ _ (item_as (K := fun σ2 H2 => ∃ γ2', Got κ γt.P γt (wipe σ vs) Hh e1 γ2' σ2 H2) hg ⟨hgs.1, fun v w e => hgs2 it (List.mem_of_getElem? hit) v w e⟩ tn.ft (w2 γt _ Hh tn.ft tn.st i it hit) hy ha fun γ' σ' gg => ⟨γ', gg⟩) ?_
          rintro σ2 Hx ⟨γa, ga⟩ only
          have hws := wipe_same hL only
          refine ⟨hws, γa, ga.ft, ?_⟩
          rw [ga.env]
          -- from a state behind the test or the element, with the list grown or not, to the next turn
          have fin : ∀ (γe : Gst) (He : Hp) (ds' : List Py.D) (acc' : List V), Fits κ γe σ2 He → ReachC false γ2.P vs γ2 H1 γe He → Got κ γt.P γt (wipe σ vs) Hh γe.env γe σ2 He → (∀ j ∈ vs, plainS γe.env[j]? = true) → D ∉ γe.P → γe.F D = none → γe.G D = none → He D ≠ none → Paired (Rep κ γe.F) ds' acc' →
              compLoop vs (asItem f fs) tst elt (its.drop (i + 1)) ds' (wipeE vs γe.env) = .ok dsF eF → ∀ Hn, (Hn = He ∧ He D = some (.lst acc')) ∨ Hn = upd He D (.lst acc') →
              ∃ γt ds, Turn0 κ false γ2 H1 vs σ D S ds γt Hn ∧ compLoop vs (asItem f fs) tst elt (its.drop (i + 1)) ds γt.env = .ok dsF eF := by
            intro γe He ds' acc' fe re gote ple o1 o2 o3 o4 pr hcl Hn hH
            have fw : Fits κ (γe.wipe vs) (wipe σ vs) He := by have := fe.wipe vs; rw [hws] at this; exact this
            have st1 : S γe σ2 He := sr.stay _ _ _ _ _ _ _ _ tn.ft tn.st gote
            have st2 : S (γe.wipe vs) (wipe σ vs) Hn := by have := sr.wipe γe σ2 He Hn vs st1 ple; rw [hws] at this; exact this
            have rw' : ReachC false γ2.P vs γ2 H1 (γe.wipe vs) He := re.wipe fun _ => plain_fp fe ple
            have oP : D ∉ (γe.wipe vs).P := fun z => o1 (wipeF_mem z)
            rcases hH with ⟨rfl, hH⟩ | rfl
            · exact ⟨γe.wipe vs, ds', ⟨fw, st2, rw', ⟨acc', hH, pr⟩, oP, o2, o3⟩, hcl⟩
            · exact ⟨γe.wipe vs, ds', ⟨fw.other oP o2 o3, st2, rw'.other hD o4, ⟨acc', upd_same, pr⟩, oP, o2, o3⟩, hcl⟩
          have hDh : ∀ {γx : Gst} {Hy : Hp}, Reach false γt.P γt Hh γx Hy → Hy D = some (.lst acc0) ∧ D ∉ γx.P ∧ γx.F D = none ∧ γx.G D = none := by
            intro γx Hy rr
            refine ⟨rr.keep D _ hacc tn.out.1, fun z => (rr.newP D z).elim tn.out.1 (fun y => by rw [hacc] at y; cases y), ?_, by rw [rr.g]; exact tn.out.2.2⟩
            cases e : γx.F D with
            | none => rfl
            | some o =>
              rcases rr.newF D (by rw [e]; intro z; cases z) with z | z | z
              · exact absurd tn.out.2.1 z
              · exact absurd z tn.out.1
              · rw [hacc] at z; cases z
          have ra : ReachC false γ2.P vs γ2 H1 γa Hx := tn.rc.step ga.rc (fun z => z) tn.rc.newP
          cases ht : tst e1 with
          | no => rw [ht] at hc; cases hc
          | ex cc fs2 e => rw [ht] at hc; cases hc
          | ok vt e2 =>
            obtain ⟨tt, td⟩ := vt
            cases td with
            | bl b =>
              intro γb Hb xs fps eb fb rb hlb hnb x ex
              subst ex
              obtain ⟨y, fpb, ey, ef, hvb⟩ := tri1 hlb.tri
              cases ey
              refine ⟨b, hvb.atom fb rfl, ?_⟩
              subst eb
              have gotb : Got κ γt.P γt (wipe σ vs) Hh γb.env γb σ2 Hb := ga.trans ⟨rfl, fb, rb.weak (fun z => by cases z), fun _ _ => rfl⟩ ga.rc.newP
              have rcb : ReachC false γ2.P vs γ2 H1 γb Hb := ra.step rb (fun z => by cases z) ra.newP
              cases b with
              | false =>
                rw [if_neg Bool.false_ne_true]
                rw [ht] at hc
                simp only at hc
                by_cases hpl2 : (vs.all fun i => plainS γb.env[i]?) = true
                · rw [if_pos hpl2] at hc
                  obtain ⟨d1, d2, d3, d4⟩ := hDh gotb.rc
                  exact fin γb Hb ds acc0 fb rcb gotb (fun i hi => List.all_eq_true.mp hpl2 i hi) d2 d3 d4 (by rw [d1]; intro z; cases z) (L2.Paired.mapP hpair fun d v q => q.mono gotb.rc.f) hc Hb (.inl ⟨rfl, d1⟩)
                · rw [if_neg hpl2] at hc; cases hc
              | true =>
                rw [if_pos rfl]
                rw [ht] at hc
                simp only at hc
                refine ⟨γb, fb, ?_⟩
                cases he : elt γb.env with
                | no => rw [he] at hc; cases hc
                | ex cc fs2 e => rw [he] at hc; cases hc
                | ok v e3 =>
                  rw [he] at hc
                  simp only at hc
                  intro γc Hc xs fps ec fc rc hlc hnc y ey
                  subst ey
                  subst ec
                  cases hz : frzV v γc.env with
                  | none => rw [hz] at hc; cases hc
                  | some de =>
                    obtain ⟨d, e4⟩ := de
                    rw [hz] at hc
                    simp only at hc
                    by_cases hb2 : (szOk ds.length && vs.all fun i => plainS e4[i]?) = true
                    · rw [if_pos hb2] at hc
                      obtain ⟨hsz, hpl2⟩ := Bool.and_eq_true_iff.mp hb2
                      obtain ⟨y', fpc, ey', ef', hvc⟩ := tri1 hlc.tri
                      cases ey'
                      subst ef'
                      obtain ⟨γd, q1, q2, q3, q4, q5⟩ := hlc.frz fc (frz_one hz)
                      subst q1
                      have hB : ∀ a ∈ γc.P ++ [fpc].flatten, a ∈ γb.P ∨ Hb a = none := fun a ha => (List.mem_append.mp ha).elim (rc.newP a) (hnc.1 a)
                      have rd : Reach p2 γb.P γb Hb γd Hc := (rc.trans q3 hB fun hp a ha => (List.mem_append.mp ha).imp id (hnc.2 hp a)).weak fun z => by rw [z]; rfl
                      have gotd : Got κ γt.P γt (wipe σ vs) Hh γd.env γd σ2 Hc := gotb.trans ⟨rfl, q2, rd.weak (fun z => by cases z), fun _ _ => rfl⟩ gotb.rc.newP
                      have rcd : ReachC false γ2.P vs γ2 H1 γd Hc := rcb.step rd (fun z => by cases z) rcb.newP
                      obtain ⟨d1, d2, d3, d4⟩ := hDh gotd.rc
                      cases q4 with
                      | cons hr _ =>
                      refine ⟨acc0, d1, ?_, ?_⟩
                      · rw [← Paired.length hpair]; exact sz_lt hsz
                      · exact fin γd Hc (ds ++ [d]) (acc0 ++ [y]) q2 rcd gotd (fun i hi => List.all_eq_true.mp hpl2 i hi) d2 d3 d4 (by rw [d1]; intro z; cases z) (Paired.app (L2.Paired.mapP hpair fun d v q => q.mono gotd.rc.f) (.cons hr .nil)) hc _ (.inr rfl)
                    · rw [if_neg hb2] at hc; cases hc
            | _ => rw [ht] at hc; cases hc
      · rintro Hh ⟨γt, ds, tn, hc⟩
        rw [List.drop_length] at hc
        unfold compLoop at hc
        obtain ⟨rfl, rfl⟩ : ds = dsF ∧ γt.env = eF := by cases hc; exact ⟨rfl, rfl⟩
        obtain ⟨γ', b1, b2, b3, b4, b5, b6⟩ := turn_end tn f2 hpl'
        obtain ⟨γ3, c1, c2, c3, c4, c5, c6⟩ := unlocks_reach lk b2 b3
        obtain ⟨acc, hacc, hpair⟩ := tn.acc
        obtain ⟨fps, t1, t2⟩ := lay1 (H := Hh) (show Paired (Rep κ γ3.F) ds acc by rw [c4, b4]; exact hpair)
        have hDP : D ∉ γ3.P := fun z => tn.out.1 (b5 D (by rw [← c6]; exact z))
        have held : Held κ γ3 σ Hh [⟨.o (.l .f), .lst ds⟩] [.ref D] [[D]] := Held.mk1 ⟨D, acc, fps, rfl, hacc, t1, by rw [t2]⟩ (by simp) (by simpa using hDP) c2 (by
          intro a ha
          have ea : a = D := by simpa using ha
          subst ea
          exact ⟨by rw [c4, b4]; exact tn.out.2.1, by rw [c5, b6]; exact tn.out.2.2, by rw [hacc]; intro z; cases z⟩)
        have rr : Reach false γ.P γ H γ3 Hh := (r1.trans c3 (by rw [lP]; exact r1.newP) fun z => by cases z).weak fun z => by cases z
        refine c γ3 Hh [.ref D] [[D]] (by rw [c1, b1]) c2 rr held ⟨fun a ha => .inr ?_, fun hp a ha => ?_⟩ _ rfl
        · have ea : a = D := by simpa using ha
          subst ea
          exact r1.mono a hD
        · have ea : a = D := by simpa using ha
          subst ea
          exact fun z => (ft.fr a z).2.2 (r1.mono a hD)
end
end Py

set_option Elab.async false
set_option linter.all false
set_option maxRecDepth 100000
set_option maxHeartbeats 1000000
/-! PyT: places within own data, and what is done there. -/
namespace Py
open PySem L2
inductive Stp where
  | it (j : Nat) | fd (j : Nat)
  deriving DecidableEq
def Sh.nth : Sh → Nat → Option Sh
  | .c s _, 0 => some s
  | .c _ r, j + 1 => r.nth j
  | _, _ => none
def Sh.putN : Sh → Nat → Sh → Sh
  | .c _ r, 0, t => .c t r
  | .c s r, j + 1, t => .c s (r.putN j t)
  | r, _, _ => r
def pathD : List Stp → D → Option D
  | [], d => some d
  | .it j :: π, .lst ds => ds[j]?.bind (pathD π)
  | .fd j :: π, .obj _ ds => ds[j]?.bind (pathD π)
  | _, _ => none
def pathS : List Stp → Sh → Option Sh
  | [], s => some s
  | .it _ :: π, .l s => pathS π s
  | .fd j :: π, .n r => (r.nth j).bind (pathS π)
  | _, _ => none
def putD : List Stp → D → D → D
  | [], d', _ => d'
  | .it j :: π, d', .lst ds => (match ds[j]? with
    | some e => .lst (ds.set j (putD π d' e))
    | none => .lst ds)
  | .fd j :: π, d', .obj c ds => (match ds[j]? with
    | some e => .obj c (ds.set j (putD π d' e))
    | none => .obj c ds)
  | _, _, d => d
def putS : List Stp → Sh → Sh → Option Sh
  | [], s', _ => some s'
  | .it _ :: π, s', .l s => (match putS π s' s with
    | some t => if t = s then some (.l s) else none
    | none => none)
  | .fd j :: π, s', .n r => (match r.nth j with
    | some s => (match putS π s' s with
      | some t => some (.n (r.putN j t))
      | none => none)
    | none => none)
  | _, _, _ => none
def pathV (H : Hp) : List Stp → V → Option V
  | [], x => some x
  | .it j :: π, .ref a => (match H a with
    | some (.lst vs) => (match vs[j]? with
      | some y => pathV H π y
      | none => none)
    | _ => none)
  | .fd j :: π, .ref a => (match H a with
    | some (.ins _ _ fs) => (match fs[j]? with
      | some p => pathV H π p.2
      | none => none)
    | _ => none)
  | _, _ => none
theorem pathV_mono {H H' : Hp} (h : Le H H') : ∀ {π : List Stp} {x y : V}, pathV H π x = some y → pathV H' π x = some y
  | [], x, y, e => e
  | .it j :: π, .ref a, y, e => by
    unfold pathV at e ⊢
    cases ha : H a with
    | none => rw [ha] at e; cases e
    | some o =>
      rw [h _ _ ha]
      rw [ha] at e
      cases o with
      | lst vs =>
        dsimp only at e ⊢
        cases hv : vs[j]? with
        | none => rw [hv] at e; cases e
        | some z => rw [hv] at e; exact pathV_mono h e
      | _ => cases e
  | .fd j :: π, .ref a, y, e => by
    unfold pathV at e ⊢
    cases ha : H a with
    | none => rw [ha] at e; cases e
    | some o =>
      rw [h _ _ ha]
      rw [ha] at e
      cases o with
      | ins C dx fs =>
        dsimp only at e ⊢
        cases hv : fs[j]? with
        | none => rw [hv] at e; cases e
        | some z => rw [hv] at e; exact pathV_mono h e
      | _ => cases e
  | .it j :: π, .non, y, e => by cases e
  | .it j :: π, .bl _, y, e => by cases e
  | .it j :: π, .int _, y, e => by cases e
  | .it j :: π, .str _, y, e => by cases e
  | .fd j :: π, .non, y, e => by cases e
  | .fd j :: π, .bl _, y, e => by cases e
  | .fd j :: π, .int _, y, e => by cases e
  | .fd j :: π, .str _, y, e => by cases e
theorem pathV_app {H : Hp} {p2 : List Stp} : ∀ {π : List Stp} {x y : V}, pathV H π x = some y → pathV H (π ++ p2) x = pathV H p2 y
  | [], x, y, e => by cases e; rfl
  | .it j :: π, .ref a, y, e => by
    have ih := fun z (e : pathV H π z = some y) => pathV_app (p2 := p2) e
    generalize pathV H p2 y = R at ih ⊢
    rw [List.cons_append]
    unfold pathV at e ⊢
    cases ha : H a with
    | none => rw [ha] at e; cases e
    | some o =>
      rw [ha] at e
      cases o with
      | lst vs =>
        dsimp only at e ⊢
        cases hv : vs[j]? with
        | none => rw [hv] at e; cases e
        | some z => rw [hv] at e; exact ih _ e
      | _ => cases e
  | .fd j :: π, .ref a, y, e => by
    have ih := fun z (e : pathV H π z = some y) => pathV_app (p2 := p2) e
    generalize pathV H p2 y = R at ih ⊢
    rw [List.cons_append]
    unfold pathV at e ⊢
    cases ha : H a with
    | none => rw [ha] at e; cases e
    | some o =>
      rw [ha] at e
      cases o with
      | ins C dx fs =>
        dsimp only at e ⊢
        cases hv : fs[j]? with
        | none => rw [hv] at e; cases e
        | some z => rw [hv] at e; exact ih _ e
      | _ => cases e
  | .it j :: π, .non, y, e => by cases e
  | .it j :: π, .bl _, y, e => by cases e
  | .it j :: π, .int _, y, e => by cases e
  | .it j :: π, .str _, y, e => by cases e
  | .fd j :: π, .non, y, e => by cases e
  | .fd j :: π, .bl _, y, e => by cases e
  | .fd j :: π, .int _, y, e => by cases e
  | .fd j :: π, .str _, y, e => by cases e
theorem tri_put {α β γ : Type} {R R' : α → β → γ → Prop} {as : List α} {bs : List β} {cs : List γ} (t : Tri R as bs cs) : ∀ {j : Nat} {a' : α} {b : β} {c' : γ}, (∀ (i : Nat) a b c, i ≠ j → cs[i]? = some c → R a b c → R' a b c) → bs[j]? = some b → R' a' b c' → Tri R' (as.set j a') bs (cs.set j c') := by
  induction t with
  | nil => intro j a' b c' _ hb; simp at hb
  | cons r t ih =>
    intro j a' b c' h hb hr
    cases j with
    | zero =>
      simp at hb
      subst hb
      exact .cons hr (tri_len t.len1 t.len2 fun i a b c e1 e2 e3 => h (i + 1) a b c (by omega) (by simpa using e3) (by
        obtain ⟨b', c'', f1, f2, f3⟩ := t.get e1
        rw [e2] at f1; rw [e3] at f2; cases f1; cases f2; exact f3))
    | succ j => exact .cons (h 0 _ _ _ (by omega) rfl r) (ih (fun i a b c hi e => h (i + 1) a b c (by omega) (by simpa using e)) (by simpa using hb) hr)
section
variable {κ : Kx} {XT : Nat → Option (Value × List Str)} {p q : Bool} {A B : List Addr} {γ γ0 γ1 γ2 γ3 : Gst} {σ σ1 σ2 : St} {F F' G H H1 H2 : Hp} {W : WX} {Ds : Ends} {X : Cx} {v : Val} {x : V} {fp : List Addr}
theorem layFs_get : ∀ {r : Sh} {ds : List D} {vs : List V} {fps : List (List Addr)} {j : Nat} {s : Sh} {d : D}, LayFs κ F H r ds vs fps → r.nth j = some s → ds[j]? = some d → ∃ v f, vs[j]? = some v ∧ fps[j]? = some f ∧ Lay κ F H s d v f
  | .c s0 r, d0 :: ds, v0 :: vs, f0 :: fps, 0, s, d, h, hs, hd => by
    cases hs
    simp at hd
    subst hd
    exact ⟨v0, f0, rfl, rfl, (layFsC.mp h).1⟩
  | .c s0 r, d0 :: ds, v0 :: vs, f0 :: fps, j + 1, s, d, h, hs, hd => by
    simpa using layFs_get (layFsC.mp h).2 hs (by simpa using hd)
  | .f, _, _, _, _, _, _, _, hs, _ => by cases hs
  | .l _, _, _, _, _, _, _, _, hs, _ => by cases hs
  | .n _, _, _, _, _, _, _, _, hs, _ => by cases hs
  | .c _ _, [], _, _, _, _, _, _, _, hd => by simp at hd
  | .c _ _, _ :: _, [], _, _, _, _, h, _, _ => by simp only [LayFs] at h
  | .c _ _, _ :: _, _ :: _, [], _, _, _, h, _, _ => by simp only [LayFs] at h
theorem layFs_set {H' : Hp} : ∀ {r : Sh} {ds : List D} {vs : List V} {fps : List (List Addr)} {j : Nat} {t : Sh} {d' : D} {v : V} {f' : List Addr}, LayFs κ F H r ds vs fps → (∀ (i : Nat) f, i ≠ j → fps[i]? = some f → ∀ b ∈ f, ∀ o, H b = some o → H' b = some o) → vs[j]? = some v → Lay κ F H' t d' v f' →
    LayFs κ F H' (r.putN j t) (ds.set j d') vs (fps.set j f')
  | .c s0 r, d0 :: ds, v0 :: vs, f0 :: fps, 0, t, d', v, f', h, hm, hv, hl => by
    simp at hv
    subst hv
    refine layFsC.mpr ⟨hl, LayFs.mono (Le.refl _) r ds vs fps (fun a ha o e => ?_) (layFsC.mp h).2⟩
    obtain ⟨g, hg, hag⟩ := List.mem_flatten.mp ha
    obtain ⟨i, hi⟩ := List.getElem?_of_mem hg
    exact hm (i + 1) g (by omega) (by simpa using hi) a hag o e
  | .c s0 r, d0 :: ds, v0 :: vs, f0 :: fps, j + 1, t, d', v, f', h, hm, hv, hl => by
    refine layFsC.mpr ⟨Lay.mono (Le.refl _) s0 d0 v0 f0 (fun a ha o e => hm 0 f0 (by omega) rfl a ha o e) (layFsC.mp h).1, ?_⟩
    exact layFs_set (layFsC.mp h).2 (fun i f hi e => hm (i + 1) f (by omega) (by simpa using e)) (by simpa using hv) hl
  | .c _ _, [], [], [], _, _, _, _, _, _, _, hv, _ => by simp at hv
  | .f, [], [], [], _, _, _, _, _, _, _, hv, _ => by simp at hv
  | .l _, [], [], [], _, _, _, _, _, _, _, hv, _ => by simp at hv
  | .n _, [], [], [], _, _, _, _, _, _, _, hv, _ => by simp at hv
  | r, [], _ :: _, _, _, _, _, _, _, h, _, _, _ => by cases r <;> simp only [LayFs] at h
  | r, [], [], _ :: _, _, _, _, _, _, h, _, _, _ => by cases r <;> simp only [LayFs] at h
  | r, _ :: _, [], _, _, _, _, _, _, h, _, _, _ => by cases r <;> simp only [LayFs] at h
  | r, _ :: _, _ :: _, [], _, _, _, _, _, h, _, _, _ => by cases r <;> simp only [LayFs] at h
  | .f, _ :: _, _ :: _, _ :: _, _, _, _, _, _, h, _, _, _ => by simp only [LayFs] at h
  | .l _, _ :: _, _ :: _, _ :: _, _, _, _, _, _, h, _, _, _ => by simp only [LayFs] at h
  | .n _, _ :: _, _ :: _, _ :: _, _, _, _, _, _, h, _, _, _ => by simp only [LayFs] at h
theorem layFs_len {r : Sh} {ds : List D} {vs : List V} {fps : List (List Addr)} (h : LayFs κ F H r ds vs fps) : ds.length = vs.length ∧ fps.length = vs.length := ⟨(layFs_tri h).len1, (layFs_tri h).len2⟩
theorem zip_get_snd {α β : Type} : ∀ {as : List α} {bs : List β} {j : Nat} {b : β}, as.length = bs.length → bs[j]? = some b → ∃ a, (as.zip bs)[j]? = some (a, b) ∧ as[j]? = some a
  | [], [], j, b, _, h => by simp at h
  | a :: as, c :: bs, 0, b, _, h => by simp at h; subst h; exact ⟨a, rfl, rfl⟩
  | a :: as, c :: bs, j + 1, b, hl, h => by simpa using zip_get_snd (by simpa using hl) (by simpa using h)
  | [], _ :: _, _, _, hl, _ => by cases hl
  | _ :: _, [], _, _, hl, _ => by cases hl
/-- from own data to a place within, and back -/
theorem lay_put : ∀ (π : List Stp) {s : Sh} {d : D} {x : V} {fp : List Addr} {s' : Sh} {d' : D}, Lay κ F H s d x fp → fp.Nodup → pathS π s = some s' → pathD π d = some d' →
    ∃ y f, pathV H π x = some y ∧ Lay κ F H s' d' y f ∧ (∀ b ∈ f, b ∈ fp) ∧ f.Nodup ∧
      ∀ (H' : Hp) (s'' : Sh) (d'' : D) (f'' : List Addr), (∀ b o, b ∉ f → H b = some o → H' b = some o) → Lay κ F H' s'' d'' y f'' → f''.Nodup → (∀ b ∈ f'', b ∈ f ∨ b ∉ fp) → ∀ sN, putS π s'' s = some sN →
        ∃ fN, Lay κ F H' sN (putD π d'' d) x fN ∧ fN.Nodup ∧ ∀ b ∈ fN, b ∈ fp ∨ b ∈ f''
  | [], s, d, x, fp, s', d', h, nd, hs, hd => by
    cases hs
    cases hd
    refine ⟨x, fp, rfl, h, fun _ z => z, nd, fun H' s'' d'' f'' _ hl hn _ sN e => ?_⟩
    cases e
    exact ⟨f'', hl, hn, fun b hb => .inr hb⟩
  | .it j :: π, .l s, .lst ds, x, fp, s', d', h, nd, hs, hd => by
    obtain ⟨a, vs, fps, rfl, e2, e3, rfl⟩ := layL.mp h
    simp only [pathD] at hd
    cases hj : ds[j]? with
    | none => rw [hj] at hd; cases hd
    | some dj =>
      rw [hj] at hd
      obtain ⟨vj, fj, h1, h2, h3⟩ := e3.get hj
      obtain ⟨nd1, nd2⟩ := List.nodup_cons.mp nd
      have ndj : fj.Nodup := flat_nodup nd2 h2
      obtain ⟨y, f, q1, q2, q3, q4, q5⟩ := lay_put π h3 ndj hs hd
      have fin : ∀ b ∈ fj, b ∈ fps.flatten := fun b hb => mem_flat (List.mem_of_getElem? h2) hb
      refine ⟨y, f, ?_, q2, fun b hb => List.mem_cons_of_mem _ (fin b (q3 b hb)), q4, fun H' s'' d'' f'' hH hl hn hf sN hp => ?_⟩
      · unfold pathV
        rw [e2]
        simp only [h1]
        exact q1
      · simp only [putS] at hp
        cases ht : putS π s'' s with
        | none => rw [ht] at hp; cases hp
        | some t =>
          rw [ht] at hp
          dsimp only at hp
          split at hp
          · rename_i et
            cases hp
            subst et
            obtain ⟨fjN, w1, w2, w3⟩ := q5 H' s'' d'' f'' hH hl hn (fun b hb => (hf b hb).imp id fun z y => z (List.mem_cons_of_mem _ (fin b y))) t ht
            have haf : a ∉ f := fun z => nd1 (fin a (q3 a z))
            have haf2 : a ∉ f'' := fun z => (hf a z).elim haf fun y => y List.mem_cons_self
            have oth : ∀ (i : Nat) g, i ≠ j → fps[i]? = some g → ∀ b ∈ g, b ∉ f := fun i g hi e b hb hbf => hi (nodup_flat_ne nd2 e h2 hb (q3 b hbf))
            have e1 : putD (.it j :: π) d'' (.lst ds) = .lst (ds.set j (putD π d'' dj)) := by simp only [putD, hj]
            have mem : ∀ b ∈ (fps.set j fjN).flatten, b ∈ fps.flatten ∨ b ∈ f'' := fun b hb => by
              rcases mem_set hb with z | ⟨i, g, _, e, z⟩
              · exact (w3 b z).imp (fin b) id
              · exact .inl (mem_flat (List.mem_of_getElem? e) z)
            refine ⟨a :: (fps.set j fjN).flatten, ?_, ?_, fun b hb => ?_⟩
            · rw [e1]
              exact layL.mpr ⟨a, vs, fps.set j fjN, rfl, hH a _ haf e2, tri_put e3 (fun i d v g hi e z => Lay.mono (Le.refl _) t d v g (fun b hb o e' => hH b o (oth i g hi e b hb) e') z) h1 w1, rfl⟩
            · refine List.nodup_cons.mpr ⟨fun z => (mem a z).elim nd1 haf2, nodup_flat_set nd2 w2 fun b hb i g hi e hg => ?_⟩
              rcases w3 b hb with z | z
              · exact hi (nodup_flat_ne nd2 e h2 hg z)
              · rcases hf b z with y | y
                · exact oth i g hi e b hg y
                · exact y (List.mem_cons_of_mem _ (mem_flat (List.mem_of_getElem? e) hg))
            · rcases List.mem_cons.mp hb with z | z
              · exact .inl (by rw [z]; exact List.mem_cons_self)
              · exact (mem b z).imp (List.mem_cons_of_mem _) id
          · cases hp
  | .fd j :: π, .n r, .obj c ds, x, fp, s', d', h, nd, hs, hd => by
    obtain ⟨a, C, dx, names, vs, fps, rfl, ec, e2, el, e3, rfl⟩ := layN.mp h
    simp only [pathD] at hd
    simp only [pathS] at hs
    cases hj : ds[j]? with
    | none => rw [hj] at hd; cases hd
    | some dj =>
      rw [hj] at hd
      cases hr : r.nth j with
      | none => rw [hr] at hs; cases hs
      | some sj =>
        rw [hr] at hs
        obtain ⟨vj, fj, h1, h2, h3⟩ := layFs_get e3 hr hj
        obtain ⟨nd1, nd2⟩ := List.nodup_cons.mp nd
        have ndj : fj.Nodup := flat_nodup nd2 h2
        obtain ⟨y, f, q1, q2, q3, q4, q5⟩ := lay_put π h3 ndj hs hd
        have fin : ∀ b ∈ fj, b ∈ fps.flatten := fun b hb => mem_flat (List.mem_of_getElem? h2) hb
        have hlen : (names.take ds.length).length = vs.length := by rw [List.length_take, ← (layFs_len e3).1]; omega
        refine ⟨y, f, ?_, q2, fun b hb => List.mem_cons_of_mem _ (fin b (q3 b hb)), q4, fun H' s'' d'' f'' hH hl hn hf sN hp => ?_⟩
        · unfold pathV
          rw [e2]
          obtain ⟨nm, hz, _⟩ := zip_get_snd hlen h1
          simp only [Flds, hz]
          exact q1
        · simp only [putS, hr] at hp
          cases ht : putS π s'' sj with
          | none => rw [ht] at hp; cases hp
          | some t =>
            rw [ht] at hp
            cases hp
            obtain ⟨fjN, w1, w2, w3⟩ := q5 H' s'' d'' f'' hH hl hn (fun b hb => (hf b hb).imp id fun z y => z (List.mem_cons_of_mem _ (fin b y))) t ht
            have haf : a ∉ f := fun z => nd1 (fin a (q3 a z))
            have haf2 : a ∉ f'' := fun z => (hf a z).elim haf fun y => y List.mem_cons_self
            have oth : ∀ (i : Nat) g, i ≠ j → fps[i]? = some g → ∀ b ∈ g, b ∉ f := fun i g hi e b hb hbf => hi (nodup_flat_ne nd2 e h2 hb (q3 b hbf))
            have e1 : putD (.fd j :: π) d'' (.obj c ds) = .obj c (ds.set j (putD π d'' dj)) := by simp only [putD, hj]
            have mem : ∀ b ∈ (fps.set j fjN).flatten, b ∈ fps.flatten ∨ b ∈ f'' := fun b hb => by
              rcases mem_set hb with z | ⟨i, g, _, e, z⟩
              · exact (w3 b z).imp (fin b) id
              · exact .inl (mem_flat (List.mem_of_getElem? e) z)
            refine ⟨a :: (fps.set j fjN).flatten, ?_, ?_, fun b hb => ?_⟩
            · rw [e1]
              exact layN.mpr ⟨a, C, dx, names, vs, fps.set j fjN, rfl, ec, by rw [List.length_set]; exact hH a _ haf e2, by rw [List.length_set]; exact el, layFs_set e3 (fun i g hi e b hb o e' => hH b o (oth i g hi e b hb) e') h1 w1, rfl⟩
            · refine List.nodup_cons.mpr ⟨fun z => (mem a z).elim nd1 haf2, nodup_flat_set nd2 w2 fun b hb i g hi e hg => ?_⟩
              rcases w3 b hb with z | z
              · exact hi (nodup_flat_ne nd2 e h2 hg z)
              · rcases hf b z with y | y
                · exact oth i g hi e b hg y
                · exact y (List.mem_cons_of_mem _ (mem_flat (List.mem_of_getElem? e) hg))
            · rcases List.mem_cons.mp hb with z | z
              · exact .inl (by rw [z]; exact List.mem_cons_self)
              · exact (mem b z).imp (List.mem_cons_of_mem _) id
  | .it _ :: _, .f, _, _, _, _, _, _, _, hs, _ => by cases hs
  | .it _ :: _, .n _, _, _, _, _, _, _, _, hs, _ => by cases hs
  | .it _ :: _, .c _ _, _, _, _, _, _, _, _, hs, _ => by cases hs
  | .fd _ :: _, .f, _, _, _, _, _, _, _, hs, _ => by cases hs
  | .fd _ :: _, .l _, _, _, _, _, _, _, _, hs, _ => by cases hs
  | .fd _ :: _, .c _ _, _, _, _, _, _, _, _, hs, _ => by cases hs
  | .it _ :: _, .l _, .non, _, _, _, _, _, _, _, hd => by cases hd
  | .it _ :: _, .l _, .bl _, _, _, _, _, _, _, _, hd => by cases hd
  | .it _ :: _, .l _, .int _, _, _, _, _, _, _, _, hd => by cases hd
  | .it _ :: _, .l _, .str _, _, _, _, _, _, _, _, hd => by cases hd
  | .it _ :: _, .l _, .tup _, _, _, _, _, _, _, _, hd => by cases hd
  | .it _ :: _, .l _, .dic _ _, _, _, _, _, _, _, _, hd => by cases hd
  | .it _ :: _, .l _, .obj _ _, _, _, _, _, _, _, _, hd => by cases hd
  | .fd _ :: _, .n _, .non, _, _, _, _, _, _, _, hd => by cases hd
  | .fd _ :: _, .n _, .bl _, _, _, _, _, _, _, _, hd => by cases hd
  | .fd _ :: _, .n _, .int _, _, _, _, _, _, _, _, hd => by cases hd
  | .fd _ :: _, .n _, .str _, _, _, _, _, _, _, _, hd => by cases hd
  | .fd _ :: _, .n _, .tup _, _, _, _, _, _, _, _, hd => by cases hd
  | .fd _ :: _, .n _, .dic _ _, _, _, _, _, _, _, _, hd => by cases hd
  | .fd _ :: _, .n _, .lst _, _, _, _, _, _, _, _, hd => by cases hd
end
end Py

set_option Elab.async false
set_option linter.all false
set_option maxRecDepth 100000
set_option maxHeartbeats 1000000
/-! PyU: places in own slots; fields. -/
namespace Py
open PySem L2
def ownAt (i : Nat) (e : Env) : Option (Sh × D) := match e[i]? with
  | some (.ow s d) => some (s, d)
  | some (.mu s d) => some (s, d)
  | _ => none
def setOwn (i : Nat) (s : Sh) (d : D) (e : Env) : Env := match e[i]? with
  | some (.ow _ _) => e.set i (.ow s d)
  | some (.mu _ _) => e.set i (.mu s d)
  | _ => e
/-- the place (i, π) as it stands -/
def getAt (i : Nat) (π : List Stp) (e : Env) : Option (Sh × D) := match ownAt i e with
  | some (s, d) => (match pathS π s, pathD π d with
    | some s', some d' => some (s', d')
    | _, _ => none)
  | none => none
def putAt (i : Nat) (π : List Stp) (s' : Sh) (d' : D) (e : Env) : Option Env := match ownAt i e with
  | some (s, d) => (putS π s' s).map fun sN => setOwn i sN (putD π d' d) e
  | none => none
section
variable {κ : Kx} {XT : Nat → Option (Value × List Str)} {p q : Bool} {A B : List Addr} {γ γ0 γ1 γ2 γ3 : Gst} {σ σ1 σ2 : St} {F F' G H H1 H2 : Hp} {W : WX} {Ds : Ends} {X : Cx} {v : Val} {x : V} {fp : List Addr}
theorem SlotRep.keep {s : Slot} {b : Option V} {f : List Addr} {H' : Hp} (hm : ∀ a ∈ f, ∀ o, H a = some o → H' a = some o) (e : SlotRep κ F G H s b f) : SlotRep κ F G H' s b f := by
  cases s with
  | un => exact e
  | xn c fs => exact e
  | fz d => exact e
  | bo k d => exact e
  | ow k d => exact e.elim fun x z => ⟨x, z.1, Lay.mono (Le.refl _) k d x f hm z.2⟩
  | mu k d => exact e.elim fun x z => ⟨x, z.1, Lay.mono (Le.refl _) k d x f hm z.2⟩
  | lk k d => exact e.elim fun x z => ⟨x, z.1, Lay.mono (Le.refl _) k d x f hm z.2⟩
  | lm k d => exact e.elim fun x z => ⟨x, z.1, Lay.mono (Le.refl _) k d x f hm z.2⟩
/-- a place, and how it is changed: ex are new things that go in -/
theorem slot_put {i : Nat} {π : List Stp} {s' : Sh} {d' : D} {ex : List Addr} (ft : Fits κ γ σ H) (hg : getAt i π γ.env = some (s', d')) (hx1 : ex.Nodup) (hx2 : ∀ b ∈ ex, b ∉ γ.P) (hx3 : ∀ b ∈ ex, γ.F b = none ∧ γ.G b = none) :
    ∃ x0 y f, σ[i]? = some (some x0) ∧ pathV H π x0 = some y ∧ Lay κ γ.F H s' d' y f ∧ (∀ b ∈ f, b ∈ γ.P) ∧ f.Nodup ∧
      ∀ (H' : Hp) (s'' : Sh) (d'' : D) (f'' : List Addr) (e' : Env), (∀ b o, b ∉ f → H b = some o → H' b = some o) → (∀ b, H' b = none → H b = none) → (∀ b ∈ ex, H' b ≠ none) → Lay κ γ.F H' s'' d'' y f'' → f''.Nodup → (∀ b ∈ f'', b ∈ f ∨ b ∈ ex) → putAt i π s'' d'' γ.env = some e' →
        ∃ γ', γ'.env = e' ∧ Fits κ γ' σ H' ∧ Reach false (γ.P ++ ex) γ H γ' H' ∧ γ'.F = γ.F ∧ γ'.G = γ.G ∧ ∀ b ∈ γ'.P, b ∈ γ.P ∨ b ∈ ex := by
  unfold getAt at hg
  cases ho : ownAt i γ.env with
  | none => rw [ho] at hg; cases hg
  | some sd =>
    obtain ⟨s, d⟩ := sd
    rw [ho] at hg
    dsimp only at hg
    cases hs : pathS π s with
    | none => rw [hs] at hg; cases hg
    | some s1 =>
      cases hd : pathD π d with
      | none => rw [hs, hd] at hg; cases hg
      | some d1 =>
        rw [hs, hd] at hg
        cases hg
        -- the slot
        obtain ⟨sl, el, hk⟩ : ∃ sl, γ.env[i]? = some sl ∧ (sl = .ow s d ∨ sl = .mu s d) := by
          unfold ownAt at ho
          split at ho
          · rename_i e; cases ho; exact ⟨_, e, .inl rfl⟩
          · rename_i e; cases ho; exact ⟨_, e, .inr rfl⟩
          · cases ho
        obtain ⟨b, fi, e4, e5, e6⟩ := ft.slot el
        obtain ⟨x0, rfl, hl⟩ : ∃ x0, b = some x0 ∧ Lay κ γ.F H s d x0 fi := by rcases hk with z | z <;> subst z <;> exact e6
        have nd := flat_nodup ft.nd e5
        obtain ⟨y, f, q1, q2, q3, q4, q5⟩ := lay_put π hl nd hs hd
        have hP : ∀ b ∈ fi, b ∈ γ.P := fun b hb => fps_mem e5 hb
        refine ⟨x0, y, f, e4, q1, q2, fun b hb => hP b (q3 b hb), q4, fun H' s'' d'' f'' e' hH hmono hex hl'' hn hf hp => ?_⟩
        unfold putAt at hp
        rw [ho] at hp
        dsimp only at hp
        cases ht : putS π s'' s with
        | none => rw [ht] at hp; cases hp
        | some sN =>
          rw [ht] at hp
          cases hp
          obtain ⟨fN, w1, w2, w3⟩ := q5 H' s'' d'' f'' hH hl'' hn (fun b hb => (hf b hb).imp id fun z y => hx2 b z (hP b y)) sN ht
          have w3' : ∀ b ∈ fN, b ∈ fi ∨ b ∈ ex := fun b hb => (w3 b hb).elim .inl fun z => (hf b z).imp (q3 b) id
          obtain ⟨sl', hset, hrep⟩ : ∃ sl', setOwn i sN (putD π d'' d) γ.env = γ.env.set i sl' ∧ ((sl = .ow s d ∧ sl' = .ow sN (putD π d'' d)) ∨ (sl = .mu s d ∧ sl' = .mu sN (putD π d'' d))) := by
            unfold setOwn
            rw [el]
            rcases hk with z | z <;> subst z
            · exact ⟨_, rfl, .inl ⟨rfl, rfl⟩⟩
            · exact ⟨_, rfl, .inr ⟨rfl, rfl⟩⟩
          have hrep' : SlotRep κ γ.F γ.G H' sl' (some x0) fN := by rcases hrep with ⟨_, z⟩ | ⟨_, z⟩ <;> subst z <;> exact ⟨x0, rfl, w1⟩
          have oth : ∀ (j : Nat) g, j ≠ i → γ.fps[j]? = some g → ∀ b ∈ g, b ∉ f := fun j g hj e b hb hbf => hj (nodup_flat_ne ft.nd e e5 hb (q3 b hbf))
          have mem : ∀ b ∈ (γ.fps.set i fN).flatten, b ∈ γ.P ∨ b ∈ ex := fun b hb => by
            rcases mem_set hb with z | ⟨j, g, _, e, z⟩
            · exact (w3' b z).imp (hP b) id
            · exact .inl (fps_mem e z)
          refine ⟨{ γ with env := γ.env.set i sl', fps := γ.fps.set i fN }, hset.symm, ?_, ?_, rfl, rfl, mem⟩
          · exact {
              lf := fun b o e => hH b o (fun z => by have := (ft.fr b (hP b (q3 b z))).1; rw [e] at this; cases this) (ft.lf b o e)
              lg := fun b o e => hH b o (fun z => by have := (ft.fr b (hP b (q3 b z))).2.1; rw [e] at this; cases this) (ft.lg b o e)
              nd := nodup_flat_set ft.nd w2 fun b hb j g hj e hg => by
                rcases w3' b hb with z | z
                · exact hj (nodup_flat_ne ft.nd e e5 hg z)
                · exact hx2 b z (fps_mem e hg)
              fr := fun b hb => (mem b hb).elim (fun z => ⟨(ft.fr b z).1, (ft.fr b z).2.1, fun y => (ft.fr b z).2.2 (hmono b y)⟩) fun z => ⟨(hx3 b z).1, (hx3 b z).2, hex b z⟩
              sl := tri_put ft.sl (fun j s b g hj e z => z.keep fun a ha o e' => hH a o (oth j g hj e a ha) e') e4 hrep' }
          · exact {
              g := rfl
              f := Le.refl _
              keep := fun b o e h => hH b o (fun z => h (List.mem_append_left _ (hP b (q3 b z)))) e
              mono := hmono
              newF := fun b h => .inl h
              newP := fun b h => .inl ((mem b h).elim (List.mem_append_left _) (List.mem_append_right _))
              mus := fun j hj => by
                by_cases z : i = j
                · subst z
                  obtain ⟨k, d0, hj⟩ := hj
                  rw [el] at hj
                  rcases hrep with ⟨z1, z2⟩ | ⟨z1, z2⟩
                  · subst z1; rcases hj with y | y <;> cases y
                  · subst z2; exact Mu.put (List.getElem?_eq_some_iff.mp el).1
                · exact Mu.set hj z
              lks := fun j u hu hk' => Lk.set hu fun z => by
                subst z
                rw [el] at hu
                cases hu
                rcases hk with z | z <;> subst z <;> cases hk'
              pure := fun z => by cases z }
/-! ### places -/
abbrev MP := Env → Option (Nat × List Stp × Env)
def ContP (κ : Kx) (γ : Gst) (σ : St) (H : Hp) (Q : VK) : Option (Nat × List Stp × Env) → Prop
  | some (i, π, e') => ∀ γ' H' x0 x, γ'.env = e' → Fits κ γ' σ H' → Reach true γ.P γ H γ' H' → σ[i]? = some (some x0) → pathV H' π x0 = some x → Q x H'
  | none => False
def tP (κ : Kx) (m : MP) : TE := fun σ H Q => ∃ γ, Fits κ γ σ H ∧ ContP κ γ σ H Q (m γ.env)
def mpV (i : Nat) : MP := fun e => match ownAt i e with
  | some _ => some (i, [], e)
  | none => none
theorem own_slot {i : Nat} {s : Sh} {d : D} (ft : Fits κ γ σ H) (h : ownAt i γ.env = some (s, d)) : ∃ x f, σ[i]? = some (some x) ∧ γ.fps[i]? = some f ∧ Lay κ γ.F H s d x f := by
  unfold ownAt at h
  split at h
  · rename_i e
    cases h
    obtain ⟨b, f, e4, e5, x, rfl, e6⟩ := ft.slot e
    exact ⟨x, f, e4, e5, e6⟩
  · rename_i e
    cases h
    obtain ⟨b, f, e4, e5, x, rfl, e6⟩ := ft.slot e
    exact ⟨x, f, e4, e5, e6⟩
  · cases h
theorem tP_V {i : Nat} {Q : VK} (h : tP κ (mpV i) σ H Q) : tVar i σ H Q := by
  obtain ⟨γ, ft, c⟩ := h
  unfold mpV at c
  cases ho : ownAt i γ.env with
  | none => rw [ho] at c; exact c.elim
  | some sd =>
    rw [ho] at c
    obtain ⟨x, f, e1, _, _⟩ := own_slot ft (s := sd.1) (d := sd.2) ho
    exact ⟨x, e1, c γ H x x rfl ft (Reach.refl fun _ h => h) e1 rfl⟩
/-- at a place: the value is own data -/
theorem at_lay {i : Nat} {π : List Stp} {s' : Sh} {d' : D} {x0 : V} (ft : Fits κ γ σ H) (hg : getAt i π γ.env = some (s', d')) (h0 : σ[i]? = some (some x0)) (hx : pathV H π x0 = some x) : ∃ f, Lay κ γ.F H s' d' x f ∧ ∀ b ∈ f, b ∈ γ.P := by
  obtain ⟨x1, y, f, e1, e2, e3, e4, _⟩ := slot_put (ex := []) ft hg (by simp) (by simp) (by simp)
  rw [h0] at e1
  cases e1
  rw [hx] at e2
  cases e2
  exact ⟨f, e3, e4⟩
/-! ### fields -/
structure ClF (κ : Kx) (fx : Nat → List Str) : Prop where
  nm : ∀ c C names, κ.CT.ct c = some (C, names) → names = fx c
  cls : ∀ c C names, κ.CT.ct c = some (C, names) → Cls κ.K C
  na : ∀ c C names, κ.CT.ct c = some (C, names) → ∀ x ∈ names, NoAttr κ.K C x
def fIx (fx : Nat → List Str) (c : Nat) (x : Str) : Option Nat := (fx c).findIdx? (fun y => x == y)
theorem lookup_zip : ∀ {names : List Str} {vs : List V} {x : Str} {j n : Nat} {v : V}, names.findIdx? (fun y => x == y) = some j → j < n → vs[j]? = some v → ((names.take n).zip vs).lookup x = some v
  | [], vs, x, j, n, v, h, _, _ => by simp at h
  | nm :: names, [], x, j, n, v, _, _, hv => by simp at hv
  | nm :: names, w :: vs, x, j, 0, v, _, hn, _ => by omega
  | nm :: names, w :: vs, x, j, n + 1, v, h, hn, hv => by
    rw [List.findIdx?_cons] at h
    rw [List.take_succ_cons, List.zip_cons_cons, List.lookup_cons]
    cases hb : x == nm with
    | true =>
      rw [hb] at h
      simp at h
      subst h
      simp at hv
      rw [hv]
    | false =>
      rw [hb] at h
      simp at h
      obtain ⟨j', hj, rfl⟩ := h
      exact lookup_zip (n := n) hj (by omega) (by simpa using hv)
theorem fIx_mem {names : List Str} {x : Str} {j : Nat} (h : names.findIdx? (fun y => x == y) = some j) : x ∈ names := by
  obtain ⟨hj, h1, _⟩ := List.findIdx?_eq_some_iff_getElem.mp h
  have : x = names[j] := by simpa using h1
  rw [this]
  exact List.getElem_mem hj
def mpF (fx : Nat → List Str) (x : Str) (m : MP) : MP := fun e => match m e with
  | some (i, π, e1) => (match getAt i π e1 with
    | some (.n r, .obj c ds) => (match fIx fx c x with
      | some j => if j < ds.length then some (i, π ++ [.fd j], e1) else none
      | none => none)
    | _ => none)
  | none => none
theorem tP_F {fx : Nat → List Str} {f : Str} {m : MP} {Q : VK} (cf : ClF κ fx) (h : tP κ (mpF fx f m) σ H Q) : tFld κ.K (tP κ m) f σ H Q := by
  obtain ⟨γ, ft, c⟩ := h
  refine ⟨γ, ft, ?_⟩
  unfold mpF at c
  cases hm : m γ.env with
  | none => rw [hm] at c; exact c
  | some r =>
    obtain ⟨i, π, e1⟩ := r
    rw [hm] at c
    dsimp only at c
    intro γ1 H1 x0 x ee f1 r1 h0 hx
    subst ee
    split at c
    · rename_i rr cc ds hga
      split at c
      · rename_i j hj
        split at c
        · rename_i hlt
          obtain ⟨fq, hl, _⟩ := at_lay f1 hga h0 hx
          obtain ⟨a, C, dx, names, vs, fps, rfl, ec, e2, el, e3, _⟩ := layN.mp hl
          have en := cf.nm _ _ _ ec
          have hlen := (layFs_len e3).1
          obtain ⟨v, hv⟩ : ∃ v, vs[j]? = some v := ⟨vs[j], by simp [← hlen, hlt]⟩
          unfold fIx at hj
          rw [← en] at hj
          refine ⟨a, C, dx, _, v, rfl, e2, cf.cls _ _ _ ec, cf.na _ _ _ ec f (fIx_mem hj), lookup_zip hj hlt hv, ?_⟩
          refine c γ1 H1 x0 v rfl f1 r1 h0 ?_
          rw [pathV_app hx]
          unfold pathV
          rw [e2]
          obtain ⟨nm, hz, _⟩ := zip_get_snd (as := names.take ds.length) (by rw [List.length_take, ← hlen]; omega) hv
          simp only [Flds, hz]
          rfl
        · exact c.elim
      · exact c.elim
    · exact c.elim
/-- an item of a place -/
def mpI (m : MP) (ix : ME) : MP := fun e => match m e with
  | some (i, π, e1) => (match ix e1 with
    | .ok ⟨_, .int k⟩ e2 => (match getAt i π e2 with
      | some (.l s, .lst ds) => (match ixN ds.length k with
        | some j => some (i, π ++ [.it j], e2)
        | none => none)
      | _ => none)
    | _ => none)
  | none => none
theorem tP_I {m : MP} {ix : ME} {Q : VK} (h : tP κ (mpI m ix) σ H Q) : tOp (rIx κ.K) (tP κ m) (tM κ XT W true ix) σ H Q := by
  obtain ⟨γ, ft, c⟩ := h
  refine ⟨γ, ft, ?_⟩
  unfold mpI at c
  cases hm : m γ.env with
  | none => rw [hm] at c; exact c
  | some r =>
    obtain ⟨i, π, e1⟩ := r
    rw [hm] at c
    dsimp only at c
    intro γ1 H1 x0 x ee f1 r1 h0 hx
    subst ee
    refine ⟨γ1, f1, ?_⟩
    split at c
    · rename_i t k e2 hix
      rw [hix]
      intro γ2 H2 ys fps e2' f2 r2 hl hn y ey
      subst ey e2'
      obtain ⟨y', fq, e3, e4, hv⟩ := tri1 hl.tri
      cases e3
      have ey : y = .int k := hv.atom f2 rfl
      subst ey
      have le := r2.le rfl
      have hx2 := pathV_mono le hx
      split at c
      · rename_i s ds hga
        split at c
        · rename_i j hj
          obtain ⟨fq, hl2, _⟩ := at_lay f2 hga h0 hx2
          obtain ⟨a, vs, gs, rfl, e5, e6, _⟩ := layL.mp hl2
          have hlen := e6.len1
          have hjl := (ixN_seq hj).2.1
          obtain ⟨v, hv⟩ : ∃ v, vs[j]? = some v := ⟨vs[j], by simp [← hlen, hjl]⟩
          refine .inl ⟨a, vs, k, v, rfl, rfl, SqL.of e5, ?_, ?_⟩
          · unfold atI
            rw [← hlen, hj]
            exact hv
          · refine c γ2 H2 x0 v rfl f2 ((r1.trans r2 r1.newP fun _ a h => .inl h).weak fun z => by rfl) h0 ?_
            rw [pathV_app hx2]
            unfold pathV
            rw [e5]
            simp only [hv]
            rfl
        · exact c.elim
      · exact c.elim
    · exact c.elim
end
end Py

set_option Elab.async false
set_option linter.all false
set_option maxRecDepth 100000
set_option maxHeartbeats 1000000
/-! PyV: lists that are changed at a place; fields that are stored. -/
namespace Py
open PySem L2
/-- what a change at a place does: the frozen arguments, the node's data; the answer, the node's new data -/
abbrev NOp := List D → D → Option (D × D)
/-- o.m(..), o a place -/
def mMut (q : Bool) (ty : D → Bool) (m : MP) (ms : MA) (g : NOp) : ME := fun env => match m env with
  | none => .no
  | some (i, π, e1) => (match getAt i π e1 with
    | some (_, d0) => if ty d0 = true then (ms e1).bind (fun vs e2 => if (q || π.isEmpty) = true then (match frzAll vs e2 with
        | some (ds, e3) => (match getAt i π e3 with
          | some (.l .f, d) => (match g ds d with
            | some (r, d') => (match putAt i π (.l .f) d' e3 with
              | some e4 => .ok ⟨.f, r⟩ e4
              | none => .no)
            | none => .no)
          | _ => .no)
        | none => .no) else .no) else .no
    | none => .no)
section
variable {κ : Kx} {XT : Nat → Option (Value × List Str)} {p q : Bool} {A B : List Addr} {γ γ0 γ1 γ2 γ3 : Gst} {σ σ1 σ2 : St} {F F' G H H1 H2 : Hp} {W : WX} {Ds : Ends} {X : Cx} {v : Val} {x : V} {fp : List Addr}
/-- a flat own node -/
def Node (κ : Kx) (F H : Hp) (d : D) (a : Addr) : Prop := Lay κ F H (.l .f) d (.ref a) [a]
theorem node_lst {ds : List D} {a : Addr} : Node κ F H (.lst ds) a ↔ ∃ vs, H a = some (.lst vs) ∧ Paired (Rep κ F) ds vs := by
  constructor
  · intro h
    obtain ⟨b, vs, fps, e1, e2, e3, e4⟩ := layL.mp h
    cases e1
    exact ⟨vs, e2, tri_lay0 e3⟩
  · rintro ⟨vs, e2, e3⟩
    obtain ⟨fps, t1, t2⟩ := lay1 (H := H) e3
    exact layL.mpr ⟨a, vs, fps, rfl, e2, t1, by rw [t2]⟩
theorem tri_lay0' {X0 : Hp} {ds : List D} {vs : List V} {fps : List (List Addr)} (t : Tri (Lay κ F X0 .f) ds vs fps) : fps.flatten = [] := by
  induction t with
  | nil => rfl
  | cons a t ih => rw [List.flatten_cons, (layF.mp a).2, ih]; rfl
theorem tri_nil {α β : Type} {R : α → β → List Addr → Prop} {as : List α} {bs : List β} {fps : List (List Addr)} (t : Tri R as bs fps) (h : ∀ a b f, R a b f → f = []) : fps.flatten = [] := by
  induction t with
  | nil => rfl
  | cons a t ih => rw [List.flatten_cons, h _ _ _ a, ih]; rfl
/-- own data of one level that is no atom: one node -/
def isNode : D → Bool
  | .lst _ | .dic _ _ => true
  | _ => false
theorem node_of {d : D} {y : V} {f : List Addr} (h : Lay κ F H (.l .f) d y f) (hd : isNode d = true) : ∃ a, y = .ref a ∧ f = [a] ∧ Node κ F H d a := by
  cases d with
  | lst ds =>
    obtain ⟨b, vs, fps, e1, e2, e3, e4⟩ := layL.mp h
    have := tri_lay0' e3
    subst e1
    rw [this] at e4
    subst e4
    exact ⟨b, rfl, rfl, h⟩
  | dic t kvs =>
    have h0 := h
    simp only [Lay] at h
    obtain ⟨a, fps, e1, e4, e2⟩ := h
    have : fps.flatten = [] := by
      rcases e2 with ⟨_, es, _, e3⟩ | ⟨_, es, _, e3⟩
      · exact tri_nil e3 fun _ _ _ z => z.2.2
      · exact tri_nil e3 fun _ _ _ z => z.2.2
    subst e1
    rw [this] at e4
    subst e4
    exact ⟨a, rfl, rfl, h0⟩
  | _ => cases hd
/-- the rule of a change, by values -/
def NOpS (κ : Kx) (r : V → List V → Hp → VK → Prop) (g : NOp) : Prop :=
  ∀ (F H : Hp) (a : Addr) (d d' rd : D) (ds : List D) (xs : List V) (Q : VK), Le F H → F a = none → Node κ F H d a → Paired (Rep κ F) ds xs → g ds d = some (rd, d') →
    (∀ y o', Node κ F (upd H a o') d' a → Rep κ F rd y → Q y (upd H a o')) → r (.ref a) xs H Q
theorem tM_mut {ty : D → Bool} {T : String} {m : MP} {ms : MA} {g : NOp} {r : V → List V → Hp → VK → Prop} {Q : VK} (hn : ∀ ds d rd d', g ds d = some (rd, d') → isNode d = true)
    (hT : ∀ F H d s x f, ty d = true → Le F H → Lay κ F H s d x f → tyV κ.K T x H) (hg : NOpS κ r g) (h : tM κ XT W false (mMut q ty m ms g) σ H Q) : tBM κ.K T r (tP κ m) (tA κ XT W q ms) σ H Q := by
  obtain ⟨γ, ft, c⟩ := h
  refine ⟨γ, ft, ?_⟩
  unfold mMut at c
  cases hm : m γ.env with
  | none => rw [hm] at c; exact c
  | some rr =>
    obtain ⟨i, π, e1⟩ := rr
    rw [hm] at c
    dsimp only at c
    intro γ1 H1 x0 x ee f1 r1 h0 hx
    subst ee
    cases hg0 : getAt i π γ1.env with
    | none => rw [hg0] at c; exact c.elim
    | some sd =>
      obtain ⟨s0, d0⟩ := sd
      rw [hg0] at c
      dsimp only at c
      by_cases ht : ty d0 = true
      · rw [if_pos ht] at c
        obtain ⟨fq, hl0, _⟩ := at_lay f1 hg0 h0 hx
        refine ⟨hT _ _ _ _ _ _ ht f1.lf hl0, γ1, f1, ?_⟩
        cases hms : ms γ1.env with
        | no => rw [hms] at c; exact c
        | ex cc fs e =>
          simp only [hms, R.bind, R.map] at c
          exact fun γ2 H2 cls d e2 f2 r2 xr => c γ2 H2 cls d e2 f2 ((r1.trans r2 r1.newP fun _ a h => .inl h).weak fun z => by cases z) xr
        | ok vs e2 =>
          simp only [hms, R.bind] at c
          intro γ2 H2 xs fps e2' f2 r2 hl hnw
          subst e2'
          by_cases hq : (q || π.isEmpty) = true
          · rw [if_pos hq] at c
            have hx2 : pathV H2 π x0 = some x := by
              rcases Bool.or_eq_true_iff.mp hq with z | z
              · exact pathV_mono (r2.le z) hx
              · have : π = [] := by simpa using z
                subst this
                exact hx
            cases hz : frzAll vs γ2.env with
            | none => rw [hz] at c; exact c.elim
            | some de =>
              obtain ⟨ds, e3⟩ := de
              rw [hz] at c
              dsimp only at c
              obtain ⟨γ3, w1, w2, w3, w4, w5⟩ := hl.frz f2 hz
              subst w1
              split at c
              · rename_i d hga
                cases hgo : g ds d with
                | none => rw [hgo] at c; exact c.elim
                | some rd =>
                  obtain ⟨rr, d'⟩ := rd
                  rw [hgo] at c
                  dsimp only at c
                  cases hp : putAt i π (.l .f) d' γ3.env with
                  | none => rw [hp] at c; exact c.elim
                  | some e4 =>
                    rw [hp] at c
                    obtain ⟨x1, y, f, t1, t2, t3, t4, t5, t6⟩ := slot_put (ex := []) w2 hga (by simp) (by simp) (by simp)
                    rw [h0] at t1
                    cases t1
                    rw [hx2] at t2
                    cases t2
                    obtain ⟨a, rfl, rfl, nd⟩ := node_of t3 (hn _ _ _ _ hgo)
                    have aP := t4 a (by simp)
                    refine hg γ3.F H2 a d d' rr ds xs Q w2.lf (w2.fr a aP).1 nd w4 hgo fun y o' nd' hr => ?_
                    obtain ⟨γ4, u1, u2, u3, u4, u5, u6⟩ := t6 (upd H2 a o') (.l .f) d' [a] e4 (fun b o hb e => by rw [upd_ne fun z => hb (by simp [z])]; exact e) (fun b e => by
                      by_cases z : b = a
                      · subst z; rw [upd_same] at e; cases e
                      · rw [upd_ne z] at e; exact e) (by simp) nd' (by simp) (fun b hb => .inl hb) hp
                    have ra : Reach false γ.P γ H γ3 H2 := by
                      have s1 := (r1.trans r2 r1.newP fun _ a h => .inl h).weak (q := false) fun z => by cases z
                      refine (s1.trans w3 (fun b hb => ?_) fun z => by cases z).weak fun z => by cases z
                      rcases List.mem_append.mp hb with z | z
                      · exact s1.newP b z
                      · exact (hnw.1 b z).elim (r1.newP b) fun y => .inr (r1.mono b y)
                    refine c γ4 (upd H2 a o') [y] [[]] u1 u2 ((ra.trans u3 (fun b hb => ra.newP b (by simpa using hb)) fun z => by cases z).weak fun z => by cases z) (Held.mk1 ⟨by rw [u4]; exact hr, rfl⟩ (by simp) (by simp) u2 (by simp)) ⟨by simp, by simp⟩ y rfl
              · exact c.elim
          · rw [if_neg hq] at c; exact c.elim
      · rw [if_neg ht] at c; exact c.elim
/-! ### append, pop, .. -/
def tyL : D → Bool
  | .lst _ => true
  | _ => false
theorem tyL_ty {F H : Hp} {d : D} {s : Sh} {x : V} {f : List Addr} (h : tyL d = true) (le : Le F H) (hl : Lay κ F H s d x f) : tyV κ.K "list" x H := by
  cases d with
  | lst ds =>
    obtain ⟨a, vs, rfl, e, _⟩ := (Lay.rep le s _ _ f (fun _ _ _ z => z) hl).lst
    exact .inl ⟨rfl, vs, e⟩
  | _ => cases h
def gAppend : NOp := fun ds d => match ds, d with
  | [y], .lst l => if szOk l.length = true then some (.non, .lst (l ++ [y])) else none
  | _, _ => none
theorem gAppend_ok : NOpS κ rAppend gAppend := fun F H a d d' rd ds xs Q lf hF nd pr hg k => by
  unfold gAppend at hg
  split at hg
  · rename_i y l
    split at hg
    · rename_i hsz
      cases hg
      obtain ⟨vs, e, pv⟩ := node_lst.mp nd
      cases pr with
      | @cons _ w _ _ r t =>
        cases t
        refine ⟨a, vs, w, rfl, rfl, e, by rw [← Paired.length pv]; exact sz_lt hsz, k .non _ (node_lst.mpr ⟨_, upd_same, Paired.app pv (.cons r .nil)⟩) ((rep_atom rfl).mpr rfl)⟩
    · cases hg
  · cases hg
def gPop : NOp := fun ds d => match ds, d with
  | [], .lst l => (match l[l.length - 1]? with
    | some y => some (y, .lst l.dropLast)
    | none => none)
  | [.int i], .lst l => (match ixN l.length i with
    | some j => (match l[j]? with
      | some y => if decide (l.length < 1000000) = true then some (y, .lst (l.eraseIdx j)) else none
      | none => none)
    | none => none)
  | _, _ => none
def rPops : V → List V → Hp → VK → Prop := fun x vs H Q => rPop x vs H Q ∨ rPopAt x vs H Q
theorem mt_pops : MtM X "list.pop" rPops := fun pins s σ H x vs v us Q I rx rv h => h.elim (mt_pop pins s σ H x vs v us Q I rx rv) (mt_popAt pins s σ H x vs v us Q I rx rv)
theorem Paired.dropLast {α β : Type} {R : α → β → Prop} {as : List α} {bs : List β} (h : Paired R as bs) : Paired R as.dropLast bs.dropLast := by
  induction h with
  | nil => exact .nil
  | cons r t ih => cases t with
    | nil => exact .nil
    | cons r2 t2 => exact .cons r ih
theorem Paired.erase {α β : Type} {R : α → β → Prop} {as : List α} {bs : List β} (h : Paired R as bs) : ∀ j : Nat, Paired R (as.eraseIdx j) (bs.eraseIdx j) := by
  induction h with
  | nil => intro j; exact .nil
  | cons r t ih => intro j; cases j with
    | zero => exact t
    | succ j => exact .cons r (ih j)
theorem Paired.setA {α β : Type} {R : α → β → Prop} {as : List α} {bs : List β} (h : Paired R as bs) : ∀ {j : Nat} {a : α} {b : β}, R a b → Paired R (as.set j a) (bs.set j b) := by
  induction h with
  | nil => intro j a b _; exact .nil
  | cons r t ih => intro j a b hr; cases j with
    | zero => exact .cons hr t
    | succ j => exact .cons r (ih hr)
theorem gPop_ok : NOpS κ rPops gPop := fun F H a d d' rd ds xs Q lf hF nd pr hg k => by
  unfold gPop at hg
  split at hg
  · rename_i l
    cases pr
    obtain ⟨vs, e, pv⟩ := node_lst.mp nd
    split at hg
    · rename_i y hy
      cases hg
      obtain ⟨w, h1, h2⟩ := Paired.get pv hy
      refine .inl ⟨a, vs, w, rfl, rfl, e, by rw [← Paired.length pv]; exact h1, k w _ (node_lst.mpr ⟨_, upd_same, Paired.dropLast pv⟩) h2⟩
    · cases hg
  · rename_i i l
    obtain ⟨vs, e, pv⟩ := node_lst.mp nd
    cases pr with
    | @cons _ w _ _ r t =>
      cases t
      have ew : w = .int i := (rep_atom (d := .int i) rfl).mp r
      subst ew
      split at hg
      · rename_i j hj
        split at hg
        · rename_i y hy
          split at hg
          · rename_i hlt
            cases hg
            obtain ⟨w, h1, h2⟩ := Paired.get pv hy
            have hl := Paired.length pv
            have hlt := of_decide_eq_true hlt
            obtain ⟨s1, s2, s3, s4⟩ := ixN_seq hj
            refine .inr ⟨a, vs, i, j, w, rfl, rfl, e, by omega, by omega, by rw [← hl]; exact s1, h1, k w _ (node_lst.mpr ⟨_, upd_same, Paired.erase pv j⟩) h2⟩
          · cases hg
        · cases hg
      · cases hg
  · cases hg
end
end Py

set_option Elab.async false
set_option linter.all false
set_option maxRecDepth 100000
set_option maxHeartbeats 1000000
/-! PyW: x[i] = e, x.f = e. -/
namespace Py
open PySem L2
/-- x[k] = e at a place -/
def mSetI (q : Bool) (m : MP) (ix e : ME) (g : NOp) : MS := fun env => match e env with
  | .ok v e1 => (match frzV v e1 with
    | some (d, e2) => (match m e2 with
      | some (i, π, e3) => (match ix e3 with
        | .ok k e4 => if (q || π.isEmpty) = true then (match frzV k e4 with
          | some (kd, e5) => (match getAt i π e5 with
            | some (.l .f, nd) => (match g [kd, d] nd with
              | some (_, nd') => (match putAt i π (.l .f) nd' e5 with
                | some e6 => .nx e6
                | none => .no)
              | none => .no)
            | _ => .no)
          | none => .no) else .no
        | .ex c fs e => .ex c fs e
        | .no => .no)
      | none => .no)
    | none => .no)
  | .ex c fs e => .ex c fs e
  | .no => .no
/-- what is stored: own or frozen -/
def partV : Val → Env → Option (Sh × D × Env)
  | ⟨.f, d⟩, e => some (.f, d, e)
  | ⟨.o k, d⟩, e => some (k, d, e)
  | ⟨.s i k, d⟩, e => (frzV ⟨.s i k, d⟩ e).map fun r => (.f, r.1, r.2)
  | _, _ => none
def Sh.snoc : Sh → Nat → Sh → Sh
  | .c t r, m + 1, s => .c t (r.snoc m s)
  | _, _, s => .c s .f
/-- x.f = e -/
def putFld (fx : Nat → List Str) (x : Str) (s : Sh) (d : D) : Sh → D → Option (Sh × D)
  | .n r, .obj c ds => (match fIx fx c x with
    | some j => if j < ds.length then some (.n (r.putN j s), .obj c (ds.set j d)) else if j = ds.length then some (.n (r.snoc j s), .obj c (ds ++ [d])) else none
    | none => none)
  | _, _ => none
def mSetF (fx : Nat → List Str) (m : MP) (x : Str) (e : ME) : MS := fun env => match e env with
  | .ok v e1 => (match partV v e1 with
    | some (s, d, e2) => (match m e2 with
      | some (i, π, e3) => (match getAt i π e3 with
        | some (ns, nd) => (match putFld fx x s d ns nd with
          | some (ns', nd') => (match putAt i π ns' nd' e3 with
            | some e4 => .nx e4
            | none => .no)
          | none => .no)
        | none => .no)
      | none => .no)
    | none => .no)
  | .ex c fs e => .ex c fs e
  | .no => .no
section
variable {κ : Kx} {XT : Nat → Option (Value × List Str)} {p q : Bool} {A B : List Addr} {γ γ0 γ1 γ2 γ3 : Gst} {σ σ1 σ2 : St} {F F' G H H1 H2 : Hp} {W : WX} {Ds : Ends} {X : Cx} {v : Val} {x : V} {fp : List Addr}
def SetS (κ : Kx) (t : TSet) (g : NOp) : Prop :=
  ∀ (F H : Hp) (a : Addr) (d d' rd kd vd : D) (k v : V) (Q : Hp → Prop), Le F H → F a = none → Node κ F H d a → Rep κ F kd k → Rep κ F vd v → g [kd, vd] d = some (rd, d') → (∀ o', Node κ F (upd H a o') d' a → Q (upd H a o')) → t (.ref a) k v H Q
theorem Got.ofR (f1 : Fits κ γ1 σ H1) (r1 : Reach p A γ H γ1 H1) : Got κ A γ σ H γ1.env γ1 σ H1 := ⟨rfl, f1, r1.weak (fun z => by cases z), fun _ _ => rfl⟩
/-- freezing one value behind a step -/
theorem frz_step {d : D} {e' : Env} (f1 : Fits κ γ1 σ H1) (r1 : Reach p γ.P γ H γ1 H1) (hl : Held κ γ1 σ H1 [v] [x] [fp]) (hn : ∀ a ∈ fp, a ∈ γ.P ∨ H a = none) (hz : frzV v γ1.env = some (d, e')) : ∃ γ2, γ2.env = e' ∧ Fits κ γ2 σ H1 ∧ Reach false γ.P γ H γ2 H1 ∧ Rep κ γ2.F d x ∧ Le γ1.F γ2.F := by
  obtain ⟨γ2, q1, q2, q3, q4, q5⟩ := hl.frz f1 (frz_one hz)
  refine ⟨γ2, q1, q2, ?_, ?_, q3.f⟩
  · refine ((r1.weak (q := false) fun z => by cases z).trans q3 (fun a ha => ?_) fun z => by cases z).weak fun z => by cases z
    rcases List.mem_append.mp ha with z | z
    · exact r1.newP a z
    · exact hn a (by simpa using z)
  · cases q4 with | cons r _ => exact r
theorem upd_mono {H : Hp} {a : Addr} {o : HO} : ∀ b, upd H a o b = none → H b = none := fun b e => by
  by_cases z : b = a
  · subst z; rw [upd_same] at e; cases e
  · rw [upd_ne z] at e; exact e
theorem tS_setI {m : MP} {ix e : ME} {g : NOp} {t : TSet} (hn : ∀ ds d rd d', g ds d = some (rd, d') → isNode d = true) (hg : SetS κ t g) (h : tS κ XT W (mSetI q m ix e g) Ds σ H) : tAsg (tM κ XT W p e) (gSub (tP κ m) (tM κ XT W q ix) t) Ds σ H := by
  obtain ⟨γ, ft, c⟩ := h
  refine ⟨γ, ft, ?_⟩
  unfold mSetI at c
  cases he : e γ.env with
  | no => rw [he] at c; exact c
  | ex cc fs e2 =>
    rw [he] at c
    exact fun γ1 H1 cls d e1 f1 r1 xr => c γ1 σ H1 cls d ⟨e1, f1, r1, fun _ _ => rfl⟩ xr
  | ok v e1 =>
    rw [he] at c
    dsimp only at c
    intro γ1 H1 xs fps ee f1 r1 hl hnw x ex
    subst ex ee
    obtain ⟨x', fp, ex, ef, hv⟩ := tri1 hl.tri
    cases ex
    subst ef
    cases hz : frzV v γ1.env with
    | none => rw [hz] at c; exact c.elim
    | some de =>
      obtain ⟨d, e2⟩ := de
      rw [hz] at c
      dsimp only at c
      obtain ⟨γ2, w1, w2, w3, w4, w5⟩ := frz_step f1 r1 hl (fun a ha => hnw.1 a (by simpa using ha)) hz
      subst w1
      refine ⟨γ2, w2, ?_⟩
      cases hm : m γ2.env with
      | none => rw [hm] at c; exact c.elim
      | some rr =>
        obtain ⟨i, π, e3⟩ := rr
        rw [hm] at c
        dsimp only at c
        intro γ3 H3 x0 o e3' f3 r3 h0 hx
        subst e3'
        have s3 : Reach false γ.P γ H γ3 H3 := (w3.trans r3 w3.newP fun z => by cases z).weak fun z => by cases z
        refine ⟨γ3, f3, ?_⟩
        cases hix : ix γ3.env with
        | no => rw [hix] at c; exact c.elim
        | ex cc fs e4 =>
          rw [hix] at c
          exact fun γ4 H4 cls d e4' f4 r4 xr => c γ4 σ H4 cls d ⟨e4', f4, (s3.trans r4 s3.newP fun z => by cases z).weak (fun z => by cases z), fun _ _ => rfl⟩ xr
        | ok k e4 =>
          rw [hix] at c
          dsimp only at c
          intro γ4 H4 ks gps e4' f4 r4 hl4 hn4 k' ek
          subst ek e4'
          obtain ⟨k2, gp, ek, eg, hvk⟩ := tri1 hl4.tri
          cases ek
          subst eg
          by_cases hq : (q || π.isEmpty) = true
          · rw [if_pos hq] at c
            have hx4 : pathV H4 π x0 = some o := by
              rcases Bool.or_eq_true_iff.mp hq with z | z
              · exact pathV_mono (r4.le z) hx
              · have : π = [] := by simpa using z
                subst this
                exact hx
            have s4 : Reach false γ.P γ H γ4 H4 := (s3.trans r4 s3.newP fun z => by cases z).weak fun z => by cases z
            cases hz4 : frzV k γ4.env with
            | none => rw [hz4] at c; exact c.elim
            | some kde =>
              obtain ⟨kd, e5⟩ := kde
              rw [hz4] at c
              dsimp only at c
              obtain ⟨γ5, y1, y2, y3, y4, y5⟩ := frz_step f4 s4 hl4 (fun a ha => (hn4.1 a (by simpa using ha)).elim (s3.newP a) fun z => .inr (s3.mono a z)) hz4
              subst y1
              split at c
              · rename_i nd hga
                cases hgo : g [kd, d] nd with
                | none => rw [hgo] at c; exact c.elim
                | some rd =>
                  obtain ⟨rr, nd'⟩ := rd
                  rw [hgo] at c
                  dsimp only at c
                  cases hp : putAt i π (.l .f) nd' γ5.env with
                  | none => rw [hp] at c; exact c.elim
                  | some e6 =>
                    rw [hp] at c
                    obtain ⟨x1, y, f, t1, t2, t3, t4, t5, t6⟩ := slot_put (ex := []) y2 hga (by simp) (by simp) (by simp)
                    rw [h0] at t1
                    cases t1
                    rw [hx4] at t2
                    cases t2
                    obtain ⟨a, rfl, rfl, ndd⟩ := node_of t3 (hn _ _ _ _ hgo)
                    have aP := t4 a (by simp)
                    have rv : Rep κ γ5.F d x := w4.mono ((r3.f.trans r4.f).trans y5)
                    refine hg γ5.F H4 a nd nd' rr kd d k' x _ y2.lf (y2.fr a aP).1 ndd y4 rv hgo fun o' nd2 => ?_
                    obtain ⟨γ6, u1, u2, u3, u4, u5, u6⟩ := t6 (upd H4 a o') (.l .f) nd' [a] e6 (fun b o hb e => by rw [upd_ne fun z => hb (by simp [z])]; exact e) upd_mono (by simp) nd2 (by simp) (fun b hb => .inl hb) hp
                    exact c γ6 σ _ ⟨u1, u2, (y3.trans u3 (fun b hb => y3.newP b (by simpa using hb)) fun z => by cases z).weak (fun z => by cases z), fun _ _ => rfl⟩
              · exact c.elim
          · rw [if_neg hq] at c; exact c.elim
def gSetL : NOp := fun ds d => match ds, d with
  | [.int i, y], .lst l => (match ixN l.length i with
    | some j => some (.non, .lst (l.set j y))
    | none => none)
  | _, _ => none
theorem gSetL_ok : SetS κ rSetL gSetL := fun F H a d d' rd kd vd k v Q lf hF nd hk hv hg h => by
  unfold gSetL at hg
  split at hg
  · rename_i i y l e1
    cases e1
    obtain ⟨vs, e, pv⟩ := node_lst.mp nd
    have ek : k = .int i := (rep_atom (d := .int i) rfl).mp hk
    subst ek
    split at hg
    · rename_i j hj
      cases hg
      exact ⟨a, vs, i, j, rfl, rfl, e, by rw [← Paired.length pv]; exact hj, h _ (node_lst.mpr ⟨_, upd_same, Paired.setA pv hv⟩)⟩
    · cases hg
  · cases hg
/-! ### fields -/
theorem part_ok {s : Sh} {d : D} {e' : Env} (f1 : Fits κ γ1 σ H1) (hl : Held κ γ1 σ H1 [v] [x] [fp]) (hz : partV v γ1.env = some (s, d, e')) :
    ∃ γ2 f, γ2.env = e' ∧ Fits κ γ2 σ H1 ∧ Reach true (γ1.P ++ fp) γ1 H1 γ2 H1 ∧ Lay κ γ2.F H1 s d x f ∧ (∀ b ∈ f, b ∈ fp) ∧ f.Nodup ∧ ∀ b ∈ f, b ∉ γ2.P ∧ γ2.F b = none ∧ γ2.G b = none ∧ H1 b ≠ none := by
  obtain ⟨o1, o2, o3⟩ := hl.out
  have hA : ∀ a ∈ γ1.P, a ∈ γ1.P ++ fp := fun a h => List.mem_append_left _ h
  obtain ⟨t, dd⟩ := v
  cases t with
  | f => cases hz; exact ⟨γ1, [], rfl, f1, Reach.refl hA, layF.mpr ⟨hl.one.1, rfl⟩, by simp, by simp, by simp⟩
  | o k => cases hz; exact ⟨γ1, fp, rfl, f1, Reach.refl hA, hl.one, fun _ h => h, o1, fun b hb => ⟨o2 b hb, o3 b hb⟩⟩
  | g k => cases hz
  | b k => cases hz
  | s i k =>
    simp only [partV, Option.map_eq_some_iff] at hz
    obtain ⟨⟨d1, e1⟩, hz, ee⟩ := hz
    cases ee
    obtain ⟨γ2, q1, q2, q3, q4, q5⟩ := hl.frz f1 (frz_one hz)
    rw [show ([fp] : List (List Addr)).flatten = fp by simp] at q3
    cases q4 with
    | cons r _ => exact ⟨γ2, [], q1, q2, q3, layF.mpr ⟨r, rfl⟩, by simp, by simp, by simp⟩
theorem putF_set : ∀ {names : List Str} {vs : List V} {x : Str} {j n : Nat} {y : V}, names.findIdx? (fun z => x == z) = some j → j < n → n ≤ names.length → vs.length = n → putF x y ((names.take n).zip vs) = (names.take n).zip (vs.set j y)
  | [], vs, x, j, n, y, h, _, _, _ => by simp at h
  | nm :: names, [], x, j, n, y, _, hj, _, hl => by simp at hl; omega
  | nm :: names, w :: vs, x, j, 0, y, _, hn, _, _ => by omega
  | nm :: names, w :: vs, x, j, n + 1, y, h, hn, hle, hl => by
    rw [List.findIdx?_cons] at h
    rw [List.take_succ_cons, List.zip_cons_cons]
    unfold putF
    cases hb : x == nm with
    | true =>
      rw [hb] at h
      simp at h
      subst h
      have : nm = x := by simpa using (beq_iff_eq.mp hb).symm
      rw [if_pos this]
      rfl
    | false =>
      rw [hb] at h
      simp at h
      obtain ⟨j', hj, rfl⟩ := h
      have : ¬ nm = x := fun z => by simp [z] at hb
      rw [if_neg this, putF_set (n := n) hj (by omega) (by simpa using hle) (by simpa using hl)]
      rfl
theorem putF_snoc : ∀ {names : List Str} {vs : List V} {x : Str} {n : Nat} {y : V}, names.findIdx? (fun z => x == z) = some n → vs.length = n → putF x y ((names.take n).zip vs) = (names.take (n + 1)).zip (vs ++ [y])
  | [], vs, x, n, y, h, _ => by simp at h
  | nm :: names, [], x, n, y, h, hl => by
    simp at hl
    subst hl
    rw [List.findIdx?_cons] at h
    cases hb : x == nm with
    | true =>
      have : nm = x := by simpa using (beq_iff_eq.mp hb).symm
      simp [putF, this]
    | false =>
      rw [hb] at h
      simp at h
  | nm :: names, w :: vs, x, 0, y, _, hl => by simp at hl
  | nm :: names, w :: vs, x, n + 1, y, h, hl => by
    rw [List.findIdx?_cons] at h
    cases hb : x == nm with
    | true => rw [hb] at h; simp at h
    | false =>
      rw [hb] at h
      simp at h
      have : ¬ nm = x := fun z => by simp [z] at hb
      rw [List.take_succ_cons, List.zip_cons_cons]
      unfold putF
      rw [if_neg this, putF_snoc (n := n) h (by simpa using hl)]
      rfl
theorem layFs_snoc : ∀ {r : Sh} {ds : List D} {vs : List V} {fps : List (List Addr)} {s : Sh} {d : D} {v : V} {f : List Addr}, LayFs κ F H r ds vs fps → Lay κ F H s d v f → LayFs κ F H (r.snoc ds.length s) (ds ++ [d]) (vs ++ [v]) (fps ++ [f])
  | r, [], [], [], s, d, v, f, _, hl => by
    have : r.snoc 0 s = .c s .f := by cases r <;> rfl
    show LayFs κ F H (r.snoc 0 s) [d] [v] [f]
    rw [this]
    exact layFsC.mpr ⟨hl, by simp only [LayFs]⟩
  | .c s0 r, d0 :: ds, v0 :: vs, f0 :: fps, s, d, v, f, h, hl => layFsC.mpr ⟨(layFsC.mp h).1, layFs_snoc (layFsC.mp h).2 hl⟩
  | r, [], _ :: _, _, _, _, _, _, h, _ => by cases r <;> simp only [LayFs] at h
  | r, [], [], _ :: _, _, _, _, _, h, _ => by cases r <;> simp only [LayFs] at h
  | r, _ :: _, [], _, _, _, _, _, h, _ => by cases r <;> simp only [LayFs] at h
  | r, _ :: _, _ :: _, [], _, _, _, _, h, _ => by cases r <;> simp only [LayFs] at h
  | .f, _ :: _, _ :: _, _ :: _, _, _, _, _, h, _ => by simp only [LayFs] at h
  | .l _, _ :: _, _ :: _, _ :: _, _, _, _, _, h, _ => by simp only [LayFs] at h
  | .n _, _ :: _, _ :: _, _ :: _, _, _, _, _, h, _ => by simp only [LayFs] at h
theorem layFs_setV : ∀ {r : Sh} {ds : List D} {vs : List V} {fps : List (List Addr)} {j : Nat} {s : Sh} {d : D} {v : V} {f : List Addr}, LayFs κ F H r ds vs fps → Lay κ F H s d v f → j < vs.length → LayFs κ F H (r.putN j s) (ds.set j d) (vs.set j v) (fps.set j f)
  | .c s0 r, d0 :: ds, v0 :: vs, f0 :: fps, 0, s, d, v, f, h, hl, _ => layFsC.mpr ⟨hl, (layFsC.mp h).2⟩
  | .c s0 r, d0 :: ds, v0 :: vs, f0 :: fps, j + 1, s, d, v, f, h, hl, hj => layFsC.mpr ⟨(layFsC.mp h).1, layFs_setV (layFsC.mp h).2 hl (by simpa using hj)⟩
  | _, _, [], _, _, _, _, _, _, _, _, hj => by simp at hj
  | r, [], _ :: _, _, _, _, _, _, _, h, _, _ => by cases r <;> simp only [LayFs] at h
  | r, _ :: _, _ :: _, [], _, _, _, _, _, h, _, _ => by cases r <;> simp only [LayFs] at h
  | .f, _ :: _, _ :: _, _ :: _, _, _, _, _, _, h, _, _ => by simp only [LayFs] at h
  | .l _, _ :: _, _ :: _, _ :: _, _, _, _, _, _, h, _, _ => by simp only [LayFs] at h
  | .n _, _ :: _, _ :: _, _ :: _, _, _, _, _, _, h, _, _ => by simp only [LayFs] at h
theorem flat_app {fps : List (List Addr)} {f : List Addr} : (fps ++ [f]).flatten = fps.flatten ++ f := by simp
theorem tS_setF {fx : Nat → List Str} {m : MP} {f : Str} {e : ME} (cf : ClF κ fx) (h1000 : ∀ c, (fx c).length < 1000) (h : tS κ XT W (mSetF fx m f e) Ds σ H) : sFld κ.K (tP κ m) (tM κ XT W p e) f Ds σ H := by
  obtain ⟨γ, ft, c⟩ := h
  refine ⟨γ, ft, ?_⟩
  unfold mSetF at c
  cases he : e γ.env with
  | no => rw [he] at c; exact c
  | ex cc fs e2 =>
    rw [he] at c
    exact fun γ1 H1 cls d e1 f1 r1 xr => c γ1 σ H1 cls d ⟨e1, f1, r1, fun _ _ => rfl⟩ xr
  | ok v e1 =>
    rw [he] at c
    dsimp only at c
    intro γ1 H1 xs fps ee f1 r1 hl hnw x ex
    subst ex ee
    obtain ⟨x', fp, ex, ef, hv⟩ := tri1 hl.tri
    cases ex
    subst ef
    cases hz : partV v γ1.env with
    | none => rw [hz] at c; exact c.elim
    | some de =>
      obtain ⟨s, d, e2⟩ := de
      rw [hz] at c
      dsimp only at c
      obtain ⟨γ2, fo, w1, w2, w3, w4, w5, w6, w7⟩ := part_ok f1 hl hz
      subst w1
      refine ⟨γ2, w2, ?_⟩
      cases hm : m γ2.env with
      | none => rw [hm] at c; exact c.elim
      | some rr =>
        obtain ⟨i, π, e3⟩ := rr
        rw [hm] at c
        dsimp only at c
        intro γ3 H3 x0 o e3' f3 r3 h0 hx
        subst e3'
        cases hga : getAt i π γ3.env with
        | none => rw [hga] at c; exact c.elim
        | some nn =>
          obtain ⟨ns, nd⟩ := nn
          rw [hga] at c
          dsimp only at c
          cases hpf : putFld fx f s d ns nd with
          | none => rw [hpf] at c; exact c.elim
          | some nn' =>
            obtain ⟨ns', nd'⟩ := nn'
            rw [hpf] at c
            dsimp only at c
            cases hp : putAt i π ns' nd' γ3.env with
            | none => rw [hp] at c; exact c.elim
            | some e4 =>
              rw [hp] at c
              -- what is stored still stands
              have foP : ∀ b ∈ fo, b ∉ γ3.P := fun b hb hp => (r3.newP b hp).elim (w7 b hb).1 (w7 b hb).2.2.2
              have foF : ∀ b ∈ fo, γ3.F b = none ∧ γ3.G b = none := fun b hb => by
                refine ⟨?_, by rw [r3.g]; exact (w7 b hb).2.2.1⟩
                cases e : γ3.F b with
                | none => rfl
                | some o =>
                  rcases r3.newF b (by rw [e]; intro z; cases z) with z | z | z
                  · exact absurd (w7 b hb).2.1 z
                  · exact absurd z (w7 b hb).1
                  · exact absurd z (w7 b hb).2.2.2
              have hlay : Lay κ γ3.F H3 s d x fo := Lay.mono r3.f s d x fo (fun b hb o e => r3.keep b o e (w7 b hb).1) w4
              obtain ⟨x1, y, ff, t1, t2, t3, t4, t5, t6⟩ := slot_put (ex := fo) f3 hga w6 foP foF
              rw [h0] at t1
              cases t1
              rw [hx] at t2
              cases t2
              -- the node
              unfold putFld at hpf
              split at hpf
              · rename_i r cc ds
                obtain ⟨a, C, dx, names, vs, gps, rfl, ec, e2, el, e3, rfl⟩ := layN.mp t3
                have en := cf.nm _ _ _ ec
                have hlen := layFs_len e3
                cases hj : fIx fx cc f with
                | none => rw [hj] at hpf; cases hpf
                | some j =>
                  rw [hj] at hpf
                  dsimp only at hpf
                  have hj' : names.findIdx? (fun z => f == z) = some j := by rw [en]; exact hj
                  obtain ⟨nd1, nd2⟩ := List.nodup_cons.mp t5
                  have hfs : (Flds C dx (names.take ds.length) vs) = .ins C dx ((names.take ds.length).zip vs) := rfl
                  refine ⟨a, C, dx, (names.take ds.length).zip vs, rfl, e2, cf.cls _ _ _ ec, cf.na _ _ _ ec f (fIx_mem hj'), ?_, ?_⟩
                  · rw [List.length_zip, List.length_take]
                    have := h1000 cc
                    rw [← en] at this
                    omega
                  have s3 : Reach false γ.P γ H γ2 H1 := by
                    refine ((r1.weak (q := false) fun z => by cases z).trans w3 (fun b hb => ?_) fun z => by cases z).weak fun z => by cases z
                    rcases List.mem_append.mp hb with z | z
                    · exact r1.newP b z
                    · exact hnw.1 b (by simpa using z)
                  have s4 : Reach false γ.P γ H γ3 H3 := (s3.trans r3 s3.newP fun z => by cases z).weak fun z => by cases z
                  -- the end, once the new node is laid
                  have fin : ∀ fs', putF f x ((names.take ds.length).zip vs) = fs' → ∀ gN : List (List Addr), Lay κ γ3.F (upd H3 a (.ins C dx fs')) ns' nd' (.ref a) (a :: gN.flatten) → (a :: gN.flatten).Nodup → (∀ b ∈ gN.flatten, b ∈ gps.flatten ∨ b ∈ fo) → Ds.nx σ (upd H3 a (.ins C dx (putF f x ((names.take ds.length).zip vs)))) := by
                    intro fs' ef gN hlN ndN memN
                    rw [ef]
                    obtain ⟨γ4, u1, u2, u3, u4, u5, u6⟩ := t6 (upd H3 a (.ins C dx fs')) ns' nd' (a :: gN.flatten) e4 (fun b o hb e => by rw [upd_ne fun z => hb (by simp [z])]; exact e) upd_mono (fun b hb z => by
                      have := upd_mono b z
                      exact (w7 b hb).2.2.2 (r3.mono b this)) hlN ndN (fun b hb => by
                      rcases List.mem_cons.mp hb with z | z
                      · exact .inl (by simp [z])
                      · exact (memN b z).imp (List.mem_cons_of_mem _) id) hp
                    refine c γ4 σ _ ⟨u1, u2, (s4.trans u3 (fun b hb => ?_) fun z => by cases z).weak (fun z => by cases z), fun _ _ => rfl⟩
                    rcases List.mem_append.mp hb with z | z
                    · exact s4.newP b z
                    · exact hnw.1 b (by simpa using w5 b z)
                  have aF : a ∉ fo := fun z => foP a z (t4 a List.mem_cons_self)
                  have kids : LayFs κ γ3.F (upd H3 a (.ins C dx (putF f x ((names.take ds.length).zip vs)))) r ds vs gps := LayFs.mono (Le.refl _) r ds vs gps (fun b hb o e => by rw [upd_ne fun z => nd1 (by rw [← z]; exact hb)]; exact e) e3
                  have hnew : Lay κ γ3.F (upd H3 a (.ins C dx (putF f x ((names.take ds.length).zip vs)))) s d x fo := Lay.mono (Le.refl _) s d x fo (fun b hb o e => by rw [upd_ne fun z => aF (by rw [← z]; exact hb)]; exact e) hlay
                  have gf : ∀ (i : Nat) g, gps[i]? = some g → ∀ b ∈ g, b ∉ fo := fun i g e b hb hbo => foP b hbo (t4 b (List.mem_cons_of_mem _ (mem_flat (List.mem_of_getElem? e) hb)))
                  split at hpf
                  · rename_i hlt
                    cases hpf
                    have hpz := putF_set (y := x) hj' hlt el hlen.1.symm
                    obtain ⟨v0, hv0⟩ : ∃ v0, vs[j]? = some v0 := ⟨vs[j], by simp [← hlen.1, hlt]⟩
                    refine fin _ rfl (gps.set j fo) (layN.mpr ⟨a, C, dx, names, vs.set j x, gps.set j fo, rfl, ec, ?_, by rw [List.length_set]; exact el, ?_, rfl⟩) ?_ fun b hb => ?_
                    · rw [upd_same, List.length_set, hpz]; rfl
                    · exact layFs_setV kids hnew (by rw [← hlen.1]; exact hlt)
                    · refine List.nodup_cons.mpr ⟨fun z => ?_, nodup_flat_set nd2 w6 fun b hb i g _ e hg => gf i g e b hg hb⟩
                      rcases mem_set z with y | ⟨_, g, _, e, y⟩
                      · exact aF y
                      · exact nd1 (mem_flat (List.mem_of_getElem? e) y)
                    · rcases mem_set hb with y | ⟨_, g, _, e, y⟩
                      · exact .inr y
                      · exact .inl (mem_flat (List.mem_of_getElem? e) y)
                  · split at hpf
                    · rename_i hnl hej
                      cases hpf
                      subst hej
                      have hpz := putF_snoc (y := x) hj' hlen.1.symm
                      have hlt : ds.length < names.length := (List.findIdx?_eq_some_iff_getElem.mp hj').1
                      refine fin _ rfl (gps ++ [fo]) (layN.mpr ⟨a, C, dx, names, vs ++ [x], gps ++ [fo], rfl, ec, ?_, by rw [List.length_append]; exact hlt, layFs_snoc kids hnew, rfl⟩) ?_ fun b hb => ?_
                      · rw [upd_same, hpz, List.length_append]; rfl
                      · rw [flat_app]
                        refine List.nodup_cons.mpr ⟨fun z => ?_, nodup_app nd2 w6 fun b hb hbo => ?_⟩
                        · rcases List.mem_append.mp z with y | y
                          · exact nd1 y
                          · exact aF y
                        · exact foP b hbo (t4 b (List.mem_cons_of_mem _ hb))
                      · rw [flat_app] at hb
                        exact List.mem_append.mp hb
                    · cases hpf
              · cases hpf
end
end Py

set_option Elab.async false
set_option linter.all false
set_option maxRecDepth 100000
set_option maxHeartbeats 1000000
/-! PyX: fields that are read; calls with defaults and keywords; methods; instances that are made. -/
namespace Py
open PySem L2
def Sh.fsub : Sh → Nat → Sh
  | .n r, j => (r.nth j).getD .f
  | _, _ => .f
def T.fsub : T → Nat → Option T
  | .f, _ => some .f
  | .g k, j => some (mkT .g (k.fsub j))
  | .b k, j => some (mkT .b (k.fsub j))
  | .s _ k, j => some (mkT .b (k.fsub j))
  | .o _, _ => none
def opFld (fx : Nat → List Str) (x : Str) : Op := fun vs e => match vs with
  | [⟨t, .obj c ds⟩] => (match fIx fx c x with
    | some j => (match ds[j]?, t.fsub j with
      | some d, some t' => some (mkV t' d, e)
      | _, _ => none)
    | none => none)
  | _ => none
section
variable {κ : Kx} {XT : Nat → Option (Value × List Str)} {p q : Bool} {A B : List Addr} {γ γ0 γ1 γ2 γ3 : Gst} {σ σ1 σ2 : St} {F F' G H H1 H2 : Hp} {W : WX} {Ds : Ends} {X : Cx} {v : Val} {x : V} {fp : List Addr}
theorem Rep.obj {c : Nat} {ds : List D} (h : Rep κ F (.obj c ds) x) : ∃ a C dx names vs, x = .ref a ∧ κ.CT.ct c = some (C, names) ∧ F a = some (Flds C dx (names.take ds.length) vs) ∧ ds.length ≤ names.length ∧ Paired (Rep κ F) ds vs := by
  obtain ⟨n, h⟩ := h
  cases n with
  | zero => exact h.elim
  | succ n => obtain ⟨a, C, dx, names, vs, e1, e2, e3, e4, e5⟩ := h; exact ⟨a, C, dx, names, vs, e1, e2, e3, e4, L2.Paired.mapP e5 fun d v z => ⟨n, z⟩⟩
theorem layFs_nth : ∀ {r : Sh} {ds : List D} {vs : List V} {fps : List (List Addr)} {j : Nat} {d : D}, LayFs κ F H r ds vs fps → ds[j]? = some d → ∃ s, r.nth j = some s
  | .c s0 r, d0 :: ds, v0 :: vs, f0 :: fps, 0, d, h, _ => ⟨s0, rfl⟩
  | .c s0 r, d0 :: ds, v0 :: vs, f0 :: fps, j + 1, d, h, hd => by
    have := layFs_nth (j := j) (d := d) (layFsC.mp h).2 (by simpa using hd)
    exact this
  | _, [], _, _, _, _, _, hd => by simp at hd
  | r, _ :: _, [], _, _, _, h, _ => by cases r <;> simp only [LayFs] at h
  | r, _ :: _, _ :: _, [], _, _, h, _ => by cases r <;> simp only [LayFs] at h
  | .f, _ :: _, _ :: _, _ :: _, _, _, h, _ => by simp only [LayFs] at h
  | .l _, _ :: _, _ :: _, _ :: _, _, _, h, _ => by simp only [LayFs] at h
  | .n _, _ :: _, _ :: _, _ :: _, _, _, h, _ => by simp only [LayFs] at h
theorem obj_fields {t t' : T} {c j : Nat} {ds : List D} {d : D} (ft : Fits κ γ σ H) (h : VRep κ γ σ H ⟨t, .obj c ds⟩ x fp) (hj : ds[j]? = some d) (ht : t.fsub j = some t') :
    ∃ a C dx names vs y, x = .ref a ∧ κ.CT.ct c = some (C, names) ∧ H a = some (Flds C dx (names.take ds.length) vs) ∧ ds.length ≤ names.length ∧ vs.length = ds.length ∧ vs[j]? = some y ∧ VRep κ γ σ H (mkV t' d) y [] := by
  have ofRep : Rep κ γ.F (.obj c ds) x → ∃ a C dx names vs y, x = .ref a ∧ κ.CT.ct c = some (C, names) ∧ H a = some (Flds C dx (names.take ds.length) vs) ∧ ds.length ≤ names.length ∧ vs.length = ds.length ∧ vs[j]? = some y ∧ VRep κ γ σ H (mkV .f d) y [] := fun hr => by
    obtain ⟨a, C, dx, names, vs, e1, e2, e3, e4, e5⟩ := hr.obj
    obtain ⟨y, h1, h2⟩ := Paired.get e5 hj
    exact ⟨a, C, dx, names, vs, y, e1, e2, ft.lf _ _ e3, e4, (Paired.length e5).symm, h1, vrep_rep _ h2 (.inr rfl)⟩
  have ofLay : ∀ {Y0 : Hp} {k : Sh} {q : List Addr} (t' : Sh → T), (∀ a o, Y0 a = some o → H a = some o) → Lay κ γ.F Y0 k (.obj c ds) x q → (∀ s d y f, (∀ a ∈ f, a ∈ q) → Lay κ γ.F Y0 s d y f → solid d = false → VRep κ γ σ H ⟨t' s, d⟩ y []) →
      ∃ a C dx names vs y, x = .ref a ∧ κ.CT.ct c = some (C, names) ∧ H a = some (Flds C dx (names.take ds.length) vs) ∧ ds.length ≤ names.length ∧ vs.length = ds.length ∧ vs[j]? = some y ∧ VRep κ γ σ H (mkV (mkT t' (k.fsub j)) d) y [] := by
    intro Y0 k q t' hY hl mk
    cases k with
    | f => exact ofRep (layF.mp hl).1
    | l r => simp [Lay, isSol] at hl
    | c s r => simp [Lay, isSol] at hl
    | n r =>
      obtain ⟨a, C, dx, names, vs, gs, e1, e2, e3, e4, e5, rfl⟩ := layN.mp hl
      obtain ⟨y, f, h1, h2, s, h3⟩ := (layFs_tri e5).get hj
      have hs : ∃ s, r.nth j = some s := by
        clear mk ofRep h hl e2 e3 e4
        exact layFs_nth e5 hj
      obtain ⟨s, hs⟩ := hs
      obtain ⟨y', f', h1', h2', h3'⟩ := layFs_get e5 hs hj
      have ek : (Sh.n r).fsub j = s := by show (r.nth j).getD .f = s; rw [hs]; rfl
      rw [ek]
      exact ⟨a, C, dx, names, vs, y', e1, e2, hY _ _ e3, e4, (layFs_len e5).1.symm, h1', item_lay t' h3' fun hsd => mk s d y' f' (fun b hb => List.mem_cons_of_mem _ (mem_flat (List.mem_of_getElem? h2') hb)) h3' hsd⟩
  cases t with
  | f => cases ht; exact ofRep h.1
  | g k =>
    cases ht
    obtain ⟨⟨q, hq⟩, _⟩ := h
    exact ofLay .g ft.lg hq fun s d y f hf hl hs => ⟨⟨f, hl⟩, rfl⟩
  | b k =>
    cases ht
    obtain ⟨⟨q, hq, hp⟩, _⟩ := h
    exact ofLay .b (fun _ _ z => z) hq fun s d y f hf hl hs => ⟨⟨f, hl, fun a ha => hp a (hf a ha)⟩, rfl⟩
  | o k => cases ht
  | s i k =>
    cases ht
    obtain ⟨⟨sl, e1, e2, e3⟩, _⟩ := h
    obtain ⟨b, f, e4, e5, e6⟩ := ft.slot e1
    rw [e3] at e4
    cases e4
    dsimp only at e2
    have hl : Lay κ γ.F H k (.obj c ds) x f := by rcases own_of e2 with z | z | z | z <;> subst z <;> (obtain ⟨x', ex, e7⟩ := e6; cases ex; exact e7)
    exact ofLay .b (fun _ _ z => z) hl fun s d y f' hf hl hs => ⟨⟨f', hl, fun a ha => .inl (fps_mem e5 (hf a ha))⟩, rfl⟩
def rFld (K : PySem.W.Frag) (f : Str) : List V → Hp → VK → Prop := fun xs H Q => ∃ a C dx fs v, xs = [.ref a] ∧ H a = some (.ins C dx fs) ∧ Cls K C ∧ NoAttr K C f ∧ fs.lookup f = some v ∧ Q v H
theorem ops_fld {fx : Nat → List Str} {f : Str} (cf : ClF κ fx) : OpS κ (rFld κ.K f) (opFld fx f) := fun γ σ H vs xs fps v e' Q ft hl ho k => by
  unfold opFld at ho
  split at ho
  · rename_i t c ds
    split at ho
    · rename_i j hj
      split at ho
      · rename_i d t' hd ht
        cases ho
        obtain ⟨x, fp, rfl, rfl, hv⟩ := tri1 hl.tri
        obtain ⟨a, C, dx, names, vs, y, rfl, ec, e2, e3, e4, e5, e6⟩ := obj_fields ft hv hd ht
        have en := cf.nm _ _ _ ec
        have hj' : names.findIdx? (fun z => f == z) = some j := by rw [en]; exact hj
        have hlt : j < ds.length := (List.getElem?_eq_some_iff.mp hd).1
        exact ⟨a, C, dx, _, y, rfl, e2, cf.cls _ _ _ ec, cf.na _ _ _ ec f (fIx_mem hj'), lookup_zip hj' hlt e5, k γ H y [] rfl ft (Reach.refl fun a h => List.mem_append_left _ h) (Held.mk1 e6 (by simp) (by simp) ft (by simp)) (by simp)⟩
      · cases ho
    · cases ho
  · cases ho
end
end Py

set_option Elab.async false
set_option linter.all false
set_option maxRecDepth 100000
set_option maxHeartbeats 1000000
/-! PyY: calls with defaults; methods; instances that are made. -/
namespace Py
open PySem L2
/-- the rest of a list of values, once the first is there -/
def evTail (q : Bool) (ms : MA) (v : Val) (e1 : Env) : R (List Val) := if (!q && v.t.isB) = true then .no else (match ms e1 with
  | .ok vs e2 => (match refix e2 v with
    | some v' => .ok (v' :: vs) e2
    | none => .no)
  | .ex c fs e => .ex c fs e
  | .no => .no)
theorem evCons_tail {q : Bool} {m : ME} {ms : MA} {env : Env} : evCons q m ms env = (m env).bind (evTail q ms) := by
  unfold evCons evTail R.bind
  cases m env <;> rfl
/-- defaults behind the values -/
def fill (np : Nat) (ds : List D) (vs : List Val) (e : Env) : R (List Val) := if vs.length + ds.length = np then .ok (vs ++ ds.map fun d => ⟨.f, d⟩) e else .no
/-- one way to be called: how many are lent, the def, its parameters, its defaults -/
structure Cb where
  n : Nat
  fm : FM
  np : Nat
  ds : List D
def runC (c : Cb) (vs : List Val) (e : Env) : R Val := (fill c.np c.ds vs e).bind (callV c.n c.fm)
def mCallD (c : Cb) (ms : MA) : ME := fun env => (ms env).bind (runC c)
/-- o.m(..) by the class of o -/
def methV (mt : Nat → Option Cb) (pu q : Bool) (ms : MA) (v : Val) (e1 : Env) : R Val := match v.d with
  | .obj c _ => (match mt c with
    | some cb => if (!pu || cb.n == 0) = true then (evTail q ms v e1).bind (runC cb) else .no
    | none => .no)
  | _ => .no
def mMeth (mt : Nat → Option Cb) (pu q : Bool) (o : ME) (ms : MA) : ME := fun env => (o env).bind (methV mt pu q ms)
/-- C(..): fz: the instance is frozen at once -/
def newV (c : Nat) (fz : Bool) (fm : FM) (vs : List Val) (e : Env) : R Val := match argSlots 1 e vs with
  | some ss => (match fm (.mu (.n .f) (.obj c []) :: ss) with
    | .ok ⟨.f, .non⟩ (.mu s d :: _) => .ok ⟨if fz = true then .f else .o s, d⟩ e
    | .ex c fs (.mu _ _ :: _) => .ex c fs e
    | _ => .no)
  | none => .no
def runN (c : Nat) (fz : Bool) (cb : Cb) (vs : List Val) (e : Env) : R Val := if vs.length + 1 + cb.ds.length = cb.np then newV c fz cb.fm (vs ++ cb.ds.map fun d => ⟨.f, d⟩) e else .no
def mNew (c : Nat) (fz : Bool) (cb : Cb) (ms : MA) : ME := fun env => (ms env).bind (runN c fz cb)
section
variable {κ : Kx} {XT : Nat → Option (Value × List Str)} {p q : Bool} {A B : List Addr} {γ γ0 γ1 γ2 γ3 : Gst} {σ σ1 σ2 : St} {F F' G H H1 H2 : Hp} {W : WX} {Ds : Ends} {X : Cx} {v : Val} {x : V} {fp : List Addr}
/-- a first value is held while the others are found -/
theorem tail_step {ms : MA} {Q : List V → Hp → Prop} (ft : Fits κ γ σ H) (ft1 : Fits κ γ1 σ H1) (r1 : Reach p γ.P γ H γ1 H1) (hl : Held κ γ1 σ H1 [v] [x] [fp]) (hn : New p γ.P γ H fp) (c : Cont κ XT W (p && q) γ.P γ σ H (evTail q ms v γ1.env) Q) :
    tA κ XT W q ms σ H1 fun ys H2 => Q (x :: ys) H2 := by
  unfold evTail at c
  by_cases hq : (!q && v.t.isB) = true
  · rw [if_pos hq] at c; exact c.elim
  rw [if_neg hq] at c
  have hb : v.t.isB = true → q = true := fun z => by
    cases q
    · exact absurd (by rw [z]; rfl) hq
    · rfl
  obtain ⟨o1, o2, o3⟩ := hl.out
  refine ⟨γ1, ft1, ?_⟩
  cases hms : ms γ1.env with
  | no => rw [hms] at c; exact c
  | ex cc fs e =>
    rw [hms] at c
    exact fun γ2 H2 cls d e2 ft2 r2 xr => c γ2 H2 cls d e2 ft2 ((r1.trans r2 r1.newP fun _ a h => .inl h).weak fun z => by cases z) xr
  | ok vs e2 =>
    rw [hms] at c
    dsimp only at c
    intro γ2 H2 ys gps e2' ft2 r2 hl2 hn2
    subst e2'
    cases hr : refix γ2.env v with
    | none => rw [hr] at c; exact c.elim
    | some v' =>
      rw [hr] at c
      have hv2 := hl.one.move r2 ft2 hb o2 hr
      have f2 : ∀ a ∈ fp, γ2.F a = none ∧ γ2.G a = none ∧ H2 a ≠ none := fun a ha => by
        obtain ⟨h1, h2, h3⟩ := o3 a ha
        refine ⟨?_, by rw [r2.g]; exact h2, fun z => h3 (r2.mono a z)⟩
        cases e : γ2.F a with
        | none => rfl
        | some o =>
          rcases r2.newF a (by rw [e]; intro z; cases z) with z | z | z
          · exact absurd h1 z
          · exact absurd z (o2 a ha)
          · exact absurd z h3
      have notP2 : ∀ a ∈ fp, a ∉ γ2.P := fun a ha hp => (r2.newP a hp).elim (o2 a ha) (o3 a ha).2.2
      have notG : ∀ a ∈ fp, a ∉ gps.flatten := fun a ha hp => (hn2.1 a hp).elim (o2 a ha) (o3 a ha).2.2
      refine c γ2 H2 (x :: ys) (fp :: gps) rfl ft2 (r1.trans r2 r1.newP fun _ a h => .inl h) ⟨.cons hv2 hl2.tri, ?_, ?_⟩ ⟨?_, ?_⟩
      · have s2 := nodup_split hl2.nd
        rw [List.flatten_cons]
        refine nodup_app s2.1 (nodup_app o1 s2.2.1 notG) fun a ha hb => ?_
        rcases List.mem_append.mp hb with z | z
        · exact notP2 a z ha
        · exact s2.2.2 a ha z
      · intro a ha
        rw [List.flatten_cons] at ha
        rcases List.mem_append.mp ha with z | z
        · exact f2 a z
        · exact hl2.fr a z
      · intro a ha
        rw [List.flatten_cons] at ha
        rcases List.mem_append.mp ha with z | z
        · exact hn.1 a z
        · exact (hn2.1 a z).elim (fun y => r1.newP a y) fun y => .inr (r1.mono a y)
      · intro hpq a ha
        obtain ⟨hp, hq'⟩ := Bool.and_eq_true_iff.mp hpq
        rw [List.flatten_cons] at ha
        rcases List.mem_append.mp ha with z | z
        · exact hn.2 hp a z
        · intro y
          rcases hn2.1 a z with w | w
          · exact hn2.2 hq' a z w
          · exact (ft.fr a y).2.2 (r1.mono a w)
theorem held_app {vs : List Val} {xs : List V} {fps : List (List Addr)} {ds : List D} (ft : Fits κ γ σ H) (hl : Held κ γ σ H vs xs fps) (ha : ∀ d ∈ ds, isAtom d = true) :
    ∃ gps : List (List Addr), Held κ γ σ H (vs ++ ds.map fun d => ⟨.f, d⟩) (xs ++ ds.map atomV) (fps ++ gps) ∧ gps.flatten = [] := by
  have t : ∀ ds : List D, (∀ d ∈ ds, isAtom d = true) → ∃ gps : List (List Addr), Tri (VRep κ γ σ H) (ds.map fun d => ⟨.f, d⟩) (ds.map atomV) gps ∧ gps.flatten = [] := fun ds => by
    induction ds with
    | nil => intro _; exact ⟨[], .nil, rfl⟩
    | cons d r ih =>
      intro h
      obtain ⟨gps, t1, t2⟩ := ih fun e he => h e (List.mem_cons_of_mem _ he)
      exact ⟨[] :: gps, .cons (vrep_atom (h d List.mem_cons_self)) t1, by simpa using t2⟩
  obtain ⟨gps, t1, t2⟩ := t ds ha
  refine ⟨gps, ⟨hl.tri.app t1, by rw [List.flatten_append, t2, List.append_nil]; exact hl.nd, fun a h => hl.fr a (by rw [List.flatten_append, t2, List.append_nil] at h; exact h)⟩, t2⟩
/-- values are there: the def runs -/
theorem run_sp {c : Cb} {vs : List Val} {xs : List V} {fps : List (List Addr)} {Q : VK} (ha : ∀ d ∈ c.ds, isAtom d = true) (ft : Fits κ γ σ H) (ft1 : Fits κ γ1 σ H1) (r1 : Reach p γ.P γ H γ1 H1) (hl : Held κ γ1 σ H1 vs xs fps) (hn : New p γ.P γ H fps.flatten)
    (k : Cont κ XT W (p && c.n == 0) γ.P γ σ H ((runC c vs γ1.env).map fun v => [v]) (fun xs H' => ∀ x, xs = [x] → Q x H')) :
    spF κ XT c.np c.fm (xs ++ c.ds.map atomV) H1 Q fun cls d H' => W cls d σ H' := by
  unfold runC fill at k
  split at k
  · rename_i hnp
    simp only [R.bind] at k
    obtain ⟨gps, hl2, eg⟩ := held_app ft1 hl ha
    have hB : ∀ a ∈ γ1.P ++ (fps ++ gps).flatten, a ∈ γ.P ∨ H a = none := fun a ha => by
      rw [List.flatten_append, eg, List.append_nil] at ha
      exact (List.mem_append.mp ha).elim (r1.newP a) (hn.1 a)
    have hT : p = true → ∀ a ∈ γ1.P ++ (fps ++ gps).flatten, a ∈ γ1.P ∨ a ∉ γ.P := fun hp a ha => by
      rw [List.flatten_append, eg, List.append_nil] at ha
      exact (List.mem_append.mp ha).imp id (hn.2 hp a)
    have el : (xs ++ c.ds.map atomV).length = c.np := by rw [List.length_append, List.length_map, ← hl.tri.len1]; exact hnp
    rw [← el]
    refine call_sp (n := c.n) ft1 hl2 ?_
    cases hc : callV c.n c.fm (vs ++ c.ds.map fun d => ⟨.f, d⟩) γ1.env with
    | no => rw [hc] at k; exact k
    | ex cc fs e =>
      rw [hc] at k
      exact fun γ2 H2 cls d e2 ft2 r2 xr => k γ2 H2 cls d e2 ft2 (((r1.weak (q := false) fun z => by cases z).trans r2 hB fun z => by cases z).weak fun z => by cases z) xr
    | ok v e =>
      rw [hc] at k
      intro γ2 H2 x fp e2 ft2 r2 hl3 hn2
      refine k γ2 H2 [x] [fp] e2 ft2 (r1.trans r2 hB hT) hl3 ⟨fun a ha => ?_, fun hp a ha hP => ?_⟩ x rfl
      · exact (hn2.1 a (by simpa using ha)).elim (hB a) fun z => .inr (r1.mono a z)
      · obtain ⟨hp1, hp2⟩ := Bool.and_eq_true_iff.mp hp
        have ha' : a ∈ fp := by simpa using ha
        rcases hn2.1 a ha' with z | z
        · rcases hT hp1 a z with w | w
          · exact hn2.2 hp2 a ha' w
          · exact w hP
        · exact (ft.fr a hP).2.2 (r1.mono a z)
  · exact k.elim
theorem tM_callD {c : Cb} {ms : MA} {Q : VK} (ha : ∀ d ∈ c.ds, isAtom d = true) (h : tM κ XT W (p && c.n == 0) (mCallD c ms) σ H Q) : tA κ XT W p ms σ H fun xs H1 => spF κ XT c.np c.fm (xs ++ c.ds.map atomV) H1 Q fun cls d H' => W cls d σ H' := by
  obtain ⟨γ, ft, k⟩ := h
  refine ⟨γ, ft, ?_⟩
  unfold mCallD at k
  cases hm : ms γ.env with
  | no => simp only [hm, R.bind, R.map] at k; exact k
  | ex cc fs e => simp only [hm, R.bind, R.map] at k; exact k
  | ok vs e1 =>
    intro γ1 H1 xs fps ee ft1 r1 hl hn
    subst ee
    simp only [hm, R.bind] at k
    exact run_sp ha ft ft1 r1 hl hn k
/-! ### methods -/
/-- o.m(..): what o is tells the def -/
def tMethD (κ : Kx) (XT : Nat → Option (Value × List Str)) (mt : Nat → Option Cb) (m : Str) (E : St → XK) (ta : TE) (t : TA) : TE := fun σ H Q => ta σ H fun x H1 => ∃ a c C names dx fs cb, x = .ref a ∧ κ.CT.ct c = some (C, names) ∧ mt c = some cb ∧ H1 a = some (.ins C dx fs) ∧ (∀ y, y ∈ fs.map (·.1) → y ∈ names) ∧
  t σ H1 fun vs H2 => spF κ XT cb.np cb.fm (.ref a :: (vs ++ cb.ds.map atomV)) H2 Q (E σ)
theorem VRep.obj {c : Nat} {ds : List D} {t : T} (ft : Fits κ γ σ H) (h : VRep κ γ σ H ⟨t, .obj c ds⟩ x fp) : ∃ a C dx names vs, x = .ref a ∧ κ.CT.ct c = some (C, names) ∧ H a = some (Flds C dx (names.take ds.length) vs) := by
  obtain ⟨a, C, dx, names, vs, e1, e2, e3, _⟩ := (h.rep ft).obj
  exact ⟨a, C, dx, names, vs, e1, e2, e3⟩
theorem tM_meth {mt : Nat → Option Cb} {pu : Bool} {m : Str} {o : ME} {ms : MA} {Q : VK} (ha : ∀ c cb, mt c = some cb → ∀ d ∈ cb.ds, isAtom d = true) (h : tM κ XT W (p && q && pu) (mMeth mt pu q o ms) σ H Q) : tMethD κ XT mt m (WE W) (tM κ XT W p o) (tA κ XT W q ms) σ H Q := by
  obtain ⟨γ, ft, k⟩ := h
  refine ⟨γ, ft, ?_⟩
  unfold mMeth at k
  cases hm : o γ.env with
  | no => simp only [hm, R.bind, R.map] at k; exact k
  | ex cc fs e => simp only [hm, R.bind, R.map] at k; exact k
  | ok v e1 =>
    intro γ1 H1 xs fps ee ft1 r1 hl hn x ex
    subst ee ex
    obtain ⟨x', fp, ex, ef, hv⟩ := tri1 hl.tri
    cases ex
    subst ef
    simp only [hm, R.bind] at k
    obtain ⟨t, d⟩ := v
    unfold methV at k
    cases d with
    | obj c ds =>
      dsimp only at k
      cases hc : mt c with
      | none => rw [hc] at k; exact k.elim
      | some cb =>
        rw [hc] at k
        dsimp only at k
        by_cases hpu : (!pu || cb.n == 0) = true
        · rw [if_pos hpu] at k
          obtain ⟨a, C, dx, names, vs, rfl, e2, e3⟩ := hv.obj ft1
          refine ⟨a, c, C, names, dx, _, cb, rfl, e2, hc, e3, fun y hy => ?_, ?_⟩
          · obtain ⟨pq, h1, rfl⟩ := List.mem_map.mp hy
            exact List.mem_of_mem_take (List.of_mem_zip h1).1
          · -- the others, then the def
            have key : Cont κ XT W (p && q) γ.P γ σ H (evTail q ms ⟨t, .obj c ds⟩ γ1.env) fun zs H2 => spF κ XT cb.np cb.fm (zs ++ cb.ds.map atomV) H2 Q (WE W σ) := by
              cases he : evTail q ms ⟨t, .obj c ds⟩ γ1.env with
              | no => rw [he] at k; exact k
              | ex cc fs e => rw [he] at k; exact k
              | ok vs e =>
                intro γ2 H2 zs gps e2' ft2 r2 hl2 hn2
                subst e2'
                rw [he] at k
                simp only [R.bind] at k
                refine run_sp (ha c cb hc) ft ft2 r2 hl2 hn2 ?_
                cases hrc : runC cb vs γ2.env with
                | no => rw [hrc] at k; exact k
                | ex cc fs e => rw [hrc] at k; exact k
                | ok v e =>
                  rw [hrc] at k
                  intro γ3 H3 ys hps e3' ft3 r3 hl3 hn3
                  have imp : (p && q && pu) = true → (p && q && cb.n == 0) = true := fun z => by
                    obtain ⟨z1, z2⟩ := Bool.and_eq_true_iff.mp z
                    rw [z1]
                    rw [z2] at hpu
                    simpa using hpu
                  exact k γ3 H3 ys hps e3' ft3 (r3.weak imp) hl3 ⟨hn3.1, fun z => hn3.2 (imp z)⟩
            exact (tail_step ft ft1 r1 hl (by simpa using hn) key).mono fun ys H2 z => by simpa using z
        · rw [if_neg hpu] at k; exact k.elim
    | _ => exact k.elim
end
end Py

set_option Elab.async false
set_option linter.all false
set_option maxRecDepth 100000
set_option maxHeartbeats 1000000
/-! PyZ: an instance is made. -/
namespace Py
open PySem L2
theorem argSlots_ext {n : Nat} {e : Env} : ∀ vs : List Val, argSlots n (e ++ [.un]) vs = argSlots n e vs
  | [] => rfl
  | v :: vs => by
    unfold argSlots
    rw [argSlots_ext vs]
    have : argSlot n (e ++ [.un]) v = argSlot n e v := by
      obtain ⟨t, d⟩ := v
      cases t with
      | s i k =>
        unfold argSlot
        dsimp only
        by_cases h : i < e.length
        · rw [List.getElem?_append_left h]
        · by_cases h2 : i = e.length
          · subst h2
            rw [List.getElem?_append_right (Nat.le_refl _), List.getElem?_eq_none (l := e) (Nat.le_refl _)]
            simp
          · rw [List.getElem?_eq_none (by simp; omega), List.getElem?_eq_none (l := e) (by omega)]
      | _ => rfl
    rw [this]
theorem tri_unsnoc {α β γ : Type} {R : α → β → γ → Prop} : ∀ {as : List α} {bs : List β} {cs : List γ} {a : α} {b : β}, as.length = bs.length → Tri R (as ++ [a]) (bs ++ [b]) cs → ∃ cs' c, cs = cs' ++ [c] ∧ Tri R as bs cs' ∧ R a b c
  | [], [], _, _, _, _, .cons r .nil => ⟨[], _, rfl, .nil, r⟩
  | _ :: _, _ :: _, _, _, _, hl, .cons r t => by
    obtain ⟨cs', c, rfl, t1, r1⟩ := tri_unsnoc (by simpa using hl) t
    exact ⟨_ :: cs', c, rfl, .cons r t1, r1⟩
  | [], _ :: _, _, _, _, hl, _ => by cases hl
  | _ :: _, [], _, _, _, hl, _ => by cases hl
section
variable {κ : Kx} {XT : Nat → Option (Value × List Str)} {p q : Bool} {A B : List Addr} {γ γ0 γ1 γ2 γ3 : Gst} {σ σ1 σ2 : St} {F F' G H H1 H2 : Hp} {W : WX} {Ds : Ends} {X : Cx} {v : Val} {x : V} {fp : List Addr}
/-- one slot more -/
def Gst.more (γ : Gst) (s : Slot) (f : List Addr) : Gst := { γ with env := γ.env ++ [s], fps := γ.fps ++ [f] }
theorem Gst.more_P (γ : Gst) (s : Slot) (f : List Addr) : (γ.more s f).P = γ.P ++ f := by show (γ.fps ++ [f]).flatten = _; rw [flat_app]; rfl
theorem VRep.more {s : Slot} {f : List Addr} {o : Option V} (h : VRep κ γ σ H v x fp) (hl : γ.env.length = σ.length) (le : Le H H1) : VRep κ (γ.more s f) (σ ++ [o]) H1 v x fp := by
  obtain ⟨t, d⟩ := v
  cases t with
  | f => exact h
  | g k => exact h
  | b k =>
    obtain ⟨⟨q, hq, hp⟩, h2⟩ := h
    exact ⟨⟨q, Lay.mono (Le.refl _) k d x q (fun a _ o e => le a o e) hq, fun a ha => (hp a ha).imp (fun z => by rw [Gst.more_P]; exact List.mem_append_left _ z) id⟩, h2⟩
  | o k => exact Lay.mono (Le.refl _) k d x fp (fun a _ o e => le a o e) h
  | s i k =>
    obtain ⟨⟨sl, e1, e2, e3⟩, h2⟩ := h
    have il : i < γ.env.length := (List.getElem?_eq_some_iff.mp e1).1
    refine ⟨⟨sl, ?_, e2, ?_⟩, h2⟩
    · show (γ.env ++ [s])[i]? = _
      rw [List.getElem?_append_left il]
      exact e1
    · rw [List.getElem?_append_left (by omega)]
      exact e3
def tMakeD (κ : Kx) (XT : Nat → Option (Value × List Str)) (C : Addr) (cb : Cb) (E : St → XK) (t : TA) : TE := fun σ H Q => t σ H fun vs H1 => ∀ x dx, H1 x = none → H1 dx = none → dx ≠ x →
  spF κ XT cb.np cb.fm (.ref x :: (vs ++ cb.ds.map atomV)) (upd (upd H1 dx (.own x)) x (.ins C dx [])) (fun v H2 => v = .non ∧ Q (.ref x) H2) (E σ)
theorem tM_new {c : Nat} {C : Addr} {names : List Str} {fz : Bool} {cb : Cb} {ms : MA} {Q : VK} (hC : κ.CT.ct c = some (C, names)) (ha : ∀ d ∈ cb.ds, isAtom d = true) (h : tM κ XT W false (mNew c fz cb ms) σ H Q) : tMakeD κ XT C cb (WE W) (tA κ XT W p ms) σ H Q := by
  obtain ⟨γ, ft, k⟩ := h
  refine ⟨γ, ft, ?_⟩
  unfold mNew at k
  cases hm : ms γ.env with
  | no => simp only [hm, R.bind, R.map] at k; exact k
  | ex cc fs e => simp only [hm, R.bind, R.map] at k; exact k
  | ok vs e1 =>
    intro γ1 H1 xs fps ee ft1 r1 hl0 hn x dx hx hdx hne
    subst ee
    simp only [hm, R.bind] at k
    unfold runN at k
    by_cases hnp : vs.length + 1 + cb.ds.length = cb.np
    case neg => rw [if_neg hnp] at k; exact k.elim
    rw [if_pos hnp] at k
    obtain ⟨gps, hl, eg⟩ := held_app ft1 hl0 ha
    have efl : (fps ++ gps).flatten = fps.flatten := by rw [List.flatten_append, eg, List.append_nil]
    have hlen : γ1.env.length = σ.length := ft1.sl.len1
    have le1 : Le H1 (upd (upd H1 dx (.own x)) x (.ins C dx [])) := fun b o e => by
      have z1 : b ≠ x := fun z => by rw [z, hx] at e; cases e
      have z2 : b ≠ dx := fun z => by rw [z, hdx] at e; cases e
      rw [upd_ne z1, upd_ne z2]
      exact e
    have mono1 : ∀ b, upd (upd H1 dx (.own x)) x (.ins C dx []) b = none → H1 b = none := fun b e => upd_mono b (upd_mono b e)
    obtain ⟨n1, n2, n3⟩ := fresh_notin ft1 hx
    have fx : x ∉ fps.flatten := fun z => (hl0.fr x z).2.2 hx
    have ftP : Fits κ (γ1.more (.ow (.n .f) (.obj c [])) [x]) (σ ++ [some (.ref x)]) (upd (upd H1 dx (.own x)) x (.ins C dx [])) := {
      lf := ft1.lf.trans le1
      lg := ft1.lg.trans le1
      nd := by rw [Gst.more_P]; exact nodup_app ft1.nd (by simp) fun a ha hb => by
                 have : a = x := by simpa using hb
                 exact n1 (by rw [← this]; exact ha)
      fr := fun a ha => by
        rw [Gst.more_P] at ha
        rcases List.mem_append.mp ha with z | z
        · exact ⟨(ft1.fr a z).1, (ft1.fr a z).2.1, fun y => (ft1.fr a z).2.2 (mono1 a y)⟩
        · have : a = x := by simpa using z
          subst this
          exact ⟨n2, n3, by rw [upd_same]; intro y; cases y⟩
      sl := (ft1.heap le1).sl.app (.cons ⟨_, rfl, layN.mpr ⟨x, C, dx, names, [], [], rfl, hC, by rw [upd_same]; simp [Flds], by simp, by simp only [LayFs], rfl⟩⟩ .nil) }
    have hlP : Held κ (γ1.more (.ow (.n .f) (.obj c [])) [x]) (σ ++ [some (.ref x)]) (upd (upd H1 dx (.own x)) x (.ins C dx [])) (⟨.s γ1.env.length (.n .f), .obj c []⟩ :: (vs ++ cb.ds.map fun d => ⟨.f, d⟩)) (.ref x :: (xs ++ cb.ds.map atomV)) ([] :: (fps ++ gps)) := {
      tri := .cons ⟨⟨.ow (.n .f) (.obj c []), by show (γ1.env ++ _)[_]? = _; simp, rfl, by rw [hlen]; simp⟩, rfl⟩ (hl.tri.imp fun v x f _ z => z.more hlen le1)
      nd := by
        rw [Gst.more_P, List.flatten_cons, List.nil_append]
        obtain ⟨s1, s2, s3⟩ := nodup_split hl.nd
        refine nodup_app (nodup_app s1 (by simp) fun a ha hb => ?_) s2 fun a ha hb => ?_
        · have : a = x := by simpa using hb
          exact n1 (by rw [← this]; exact ha)
        · rcases List.mem_append.mp ha with z | z
          · exact s3 a z hb
          · have : a = x := by simpa using z
            subst this
            rw [efl] at hb
            exact fx hb
      fr := fun a ha => by
        rw [List.flatten_cons, List.nil_append] at ha
        exact ⟨(hl.fr a ha).1, (hl.fr a ha).2.1, fun y => (hl.fr a ha).2.2 (mono1 a y)⟩ }
    have el : (V.ref x :: (xs ++ cb.ds.map atomV)).length = cb.np := by
      rw [List.length_cons, List.length_append, List.length_map, ← hl0.tri.len1]
      omega
    rw [← el]
    refine call_sp (n := 1) ftP hlP ?_
    have eL : (γ1.env ++ [Slot.ow (.n .f) (.obj c [])])[γ1.env.length]? = some (.ow (.n .f) (.obj c [])) := by simp
    have eset : ∀ s, (γ1.env ++ [Slot.ow (.n .f) (.obj c [])]).set γ1.env.length s = γ1.env ++ [s] := fun s => by simp
    have eset2 : ∀ s, (γ1.env ++ [Slot.un]).set γ1.env.length s = γ1.env ++ [s] := fun s => by simp
    show CallC κ XT false _ _ _ _ _ _ (callV 1 cb.fm _ (γ1.env ++ [Slot.ow (.n .f) (.obj c [])]))
    unfold callV
    simp only [takes, eL, eset, argSlots_ext]
    unfold newV at k
    cases hs : argSlots 1 γ1.env (vs ++ cb.ds.map fun d => ⟨.f, d⟩) with
    | none => rw [hs] at k; exact k.elim
    | some ss =>
      rw [hs] at k
      simp only [List.map_cons, List.map_nil, List.cons_append, List.nil_append]
      simp only at k
      -- what the end leaves
      have back : ∀ {s : Sh} {d : D} {γ' : Gst} {H' : Hp}, γ'.env = γ1.env ++ [.ow s d] → Fits κ γ' (σ ++ [some (.ref x)]) H' → Reach false ((γ1.more (.ow (.n .f) (.obj c [])) [x]).P ++ ([] :: (fps ++ gps)).flatten) (γ1.more (.ow (.n .f) (.obj c [])) [x]) (upd (upd H1 dx (.own x)) x (.ins C dx [])) γ' H' →
          ∃ γ2 f, γ2.env = γ1.env ∧ Fits κ γ2 σ H' ∧ Reach false γ.P γ H γ2 H' ∧ γ2.F = γ'.F ∧ Lay κ γ2.F H' s d (.ref x) f ∧ f.Nodup ∧ (∀ a ∈ f, a ∉ γ2.P) ∧ (∀ a ∈ f, γ2.F a = none ∧ γ2.G a = none ∧ H' a ≠ none) ∧ ∀ a ∈ f, a ∈ γ.P ∨ H a = none := by
        intro s d γ' H' ee f' r'
        have sl := f'.sl
        rw [ee] at sl
        obtain ⟨cs, fL, ec, t1, x1, ex1, t2⟩ := tri_unsnoc hlen sl
        cases ex1
        have hP : γ'.P = cs.flatten ++ fL := by show γ'.fps.flatten = _; rw [ec, flat_app]
        obtain ⟨m1, m2, m3⟩ := nodup_split (show (cs.flatten ++ fL).Nodup by rw [← hP]; exact f'.nd)
        have inA : ∀ a, a ∈ (γ1.more (.ow (.n .f) (.obj c [])) [x]).P ++ ([] :: (fps ++ gps)).flatten ∨ upd (upd H1 dx (.own x)) x (.ins C dx []) a = none → a ∈ γ.P ∨ H a = none := fun a hh => by
          rcases hh with z | z
          · rw [Gst.more_P, List.flatten_cons, List.nil_append, efl] at z
            rcases List.mem_append.mp z with y | y
            · rcases List.mem_append.mp y with w | w
              · exact r1.newP a w
              · have : a = x := by simpa using w
                subst this
                exact .inr (r1.mono a hx)
            · exact hn.1 a y
          · exact .inr (r1.mono a (mono1 a z))
        refine ⟨⟨γ'.F, γ'.G, γ1.env, cs⟩, fL, rfl, ⟨f'.lf, f'.lg, m1, fun a ha => f'.fr a (by rw [hP]; exact List.mem_append_left _ ha), t1⟩, ?_, rfl, t2, m2, fun a ha hp => m3 a hp ha, fun a ha => f'.fr a (by rw [hP]; exact List.mem_append_right _ ha), fun a ha => inA a (r'.newP a (by rw [hP]; exact List.mem_append_right _ ha))⟩
        exact {
          g := r'.g.trans r1.g
          f := r1.f.trans r'.f
          keep := fun a o e h => r'.keep a o (le1 a o (r1.keep a o e h)) fun z => (inA a (.inl z)).elim h fun y => by rw [e] at y; cases y
          mono := fun a e => r1.mono a (mono1 a (r'.mono a e))
          newF := fun a e => (r'.newF a e).elim (fun z => r1.newF a z) fun z => .inr (inA a z)
          newP := fun a e => inA a (r'.newP a (by rw [hP]; exact List.mem_append_left _ e))
          mus := r1.mus
          lks := r1.lks
          pure := fun z => by cases z }
      cases hf : cb.fm (.mu (.n .f) (.obj c []) :: ss) with
      | no => rw [hf] at k; exact k.elim
      | ok vr us =>
        rw [hf] at k
        split at k
        · rename_i s d us' e1
          cases e1
          simp only [backs, eL, eset2, outT, if_true]
          intro γ' H' y fq ee f' r' hh hnw
          obtain ⟨γ2, f, b1, b2, b3, b4, b5, b6, b7, b8, b9⟩ := back ee f' r'
          refine ⟨hh.one.atom f' rfl, ?_⟩
          have held : Held κ γ2 σ H' [⟨.o s, d⟩] [.ref x] [f] := Held.mk1 b5 b6 b7 b2 b8
          cases fz with
          | false =>
            simp only [Bool.false_eq_true, if_false, R.map] at k
            exact k γ2 H' [.ref x] [f] b1 b2 b3 held ⟨fun a ha => b9 a (by simpa using ha), fun z => by cases z⟩ _ rfl
          | true =>
            simp only [if_true, R.map] at k
            obtain ⟨γ3, w1, w2, w3, w4, w5⟩ := held.frz b2 (ds := [d]) (e' := γ2.env) (by simp only [frzAll, frzV])
            have rr : Reach false γ.P γ H γ3 H' := (b3.trans w3 (fun a ha => by
              rcases List.mem_append.mp ha with z | z
              · exact b3.newP a z
              · exact b9 a (by simpa using z)) fun z => by cases z).weak fun z => by cases z
            cases w4 with
            | cons r _ => exact k γ3 H' [.ref x] [[]] (w1.trans b1) w2 rr (Held.mk1 ⟨r, rfl⟩ (by simp) (by simp) w2 (by simp)) ⟨by simp, by simp⟩ _ rfl
        · rename_i e1; cases e1
        · exact k.elim
      | ex cc fs us =>
        rw [hf] at k
        split at k
        · rename_i e1; cases e1
        · rename_i cc' fs' s d us' e1
          cases e1
          simp only [backs, eL, eset2]
          intro γ' H' cls dd ee f' r' xr
          obtain ⟨γ2, f, b1, b2, b3, b4, b5, b6, b7, b8, b9⟩ := back ee f' r'
          exact k γ2 H' cls dd b1 b2 b3 (by rw [b4]; exact xr)
        · exact k.elim
end
end Py

set_option Elab.async false
set_option linter.all false
set_option maxRecDepth 100000
set_option maxHeartbeats 1000000
/-! PyZa: the rules by syntax for calls, methods, instances, fields, places. -/
namespace Py
open PySem L2
def notStar : Expr → Bool
  | .Starred _ _ => false
  | _ => true
def okBase : Expr → Bool
  | .Call (.Name _ _) [] [] _ => false
  | _ => true
theorem star_cons {e : Expr} {es : List Expr} {env : PySem.Env} (h : notStar e = true) : starEach (e :: es) env = (false, eval e env) :: starEach es env := by
  cases e <;> first | rfl | (cases h; done)
theorem star_any {env : PySem.Env} {pos : Pos} : ∀ {es : List Expr}, es.all notStar = true → (backTo pos (starEach es env)).any (·.1) = false
  | [], _ => rfl
  | e :: es, h => by
    obtain ⟨h1, h2⟩ := Bool.and_eq_true_iff.mp h
    rw [star_cons h1]
    have ih := star_any (env := env) (pos := pos) h2
    show (false || (backTo pos (starEach es env)).any (·.1)) = false
    rw [ih]
    rfl
theorem star_all {env : PySem.Env} {pos : Pos} : ∀ {es : List Expr}, es.all notStar = true → (backTo pos (starEach es env)).all (fun z => !z.1) = true
  | [], _ => rfl
  | e :: es, h => by
    obtain ⟨h1, h2⟩ := Bool.and_eq_true_iff.mp h
    rw [star_cons h1]
    exact star_all (env := env) (pos := pos) h2
theorem base_ok {e : Expr} {f : Str} {env : PySem.Env} {w : Sem Value} (h : okBase e = true) : attributeBase e f env w = w := by
  cases e with
  | Call fn args kws pos =>
    cases fn with
    | Name id p =>
      cases args with
      | cons a r => rfl
      | nil => cases kws with
        | cons a r => rfl
        | nil => cases h
    | _ => rfl
  | _ => rfl
theorem meth_shape {o : Expr} {m : Str} {apos pos : Pos} {args : List Expr} {env : PySem.Env} (hb : okBase o = true) (hs : args.all notStar = true) (hn : args.length < 30) (hl : (apos.endLine == pos.line) = true) :
    eval (.Call (.Attribute o m apos) args [] pos) env = (do
      let ov ← eval o env
      standAt apos.atName
      let (f, first) ← holding [ov] (getMethod ov m (plainOf o env))
      callWith pos f first (backTo pos (starEach args env)) (backToKw pos (keywordEach [] env))) := by
  rw [arm_eval_Call, base_ok hb]
  have hf : methodCallForm (args.length + ([] : List Keyword).length) (backTo pos (starEach args env)) (backToKw pos (keywordEach [] env)) = true := by
    unfold methodCallForm
    rw [star_all hs]
    simp [keywordEach, backToKw, hn]
  have e1 : ∀ ov, methodCall o m apos pos env ov (args.length + ([] : List Keyword).length) (backTo pos (starEach args env)) (backToKw pos (keywordEach [] env)) = (do
      let (f, first) ← holding [ov] (getMethod ov m (plainOf o env))
      callWith pos f first (backTo pos (starEach args env)) (backToKw pos (keywordEach [] env))) := fun ov => mcall_line hf hl
  simp only [e1]
/-- a def, and a way to call it -/
structure CbOk (P : Program) (w : World) (K : PySem.W.Frag) (mg : Str → Option Value) (base : Heap) (CT : Cts) (XT : Nat → Option (Value × List Str)) (k : Nat) (f : Addr) (cb : Cb) : Prop where
  ex : ∃ fd ps ds, FnOk P w K mg base (L2.CX P w) k f fd ps (spF ⟨K, CT⟩ XT cb.np cb.fm) ∧ Vals (cb.ds.map atomV) ds ∧ Binds K fd ps ds
  at_ : ∀ d ∈ cb.ds, isAtom d = true
  kp : PySem.W.keepIn K (.ref f) = true
structure CbKw (P : Program) (w : World) (K : PySem.W.Frag) (mg : Str → Option Value) (base : Heap) (CT : Cts) (XT : Nat → Option (Value × List Str)) (k : Nat) (f : Addr) (ks : List Str) (cb : Cb) : Prop where
  ex : ∃ fd ps, FnOk P w K mg base (L2.CX P w) k f fd ps (spF ⟨K, CT⟩ XT cb.np cb.fm) ∧ KBinds K fd ps ks (fun us ws => us ++ ws) (fun vs zs => vs ++ zs)
  nd : cb.ds = []
  kp : PySem.W.keepIn K (.ref f) = true
section
variable {X : Cx} {CT : Cts} {XT : Nat → Option (Value × List Str)} {W : WX} {p q : Bool} {a b e o : Expr} {es : List Expr} {ma mb m : ME} {ms : MA} {pos p0 apos : Pos} {k : Nat} {x : Str} {t : TA}
theorem PA.imp {t t' : TA} (h : PA X es t) (k : ∀ σ H Q, t' σ H Q → t σ H Q) : PA X es t' := ⟨fun pos pins s σ H Q I z => h.run pos pins s σ H Q I (k σ H Q z)⟩
theorem e_callD {f : Addr} {cb : Cb} (F : CbOk X.prog X.w X.K X.mg X.base CT XT k f cb) (hr : Room k X.A) (hg : Gl X x) (hm : X.mg x = some (.ref f)) (tk : Takes X W) (ha : PA X (e :: es) (tA (kx X CT) XT W p ms)) (hdb : (x == ("__debug__" : Str)) = false) (hs : (e :: es).all notStar = true) :
    PE X (.Call (.Name x p0) (e :: es) [] pos) (tM (kx X CT) XT W (p && cb.n == 0) (mCallD cb ms)) := by
  obtain ⟨fd, ps, ds, F1, F2, F3⟩ := F.ex
  obtain ⟨h1, h2⟩ := Bool.and_eq_true_iff.mp hs
  exact PE.imp (pe_callSD (E := WE W) F1 hr hg hm F.kp F3 F2 (fun σ => passAt tk σ) ha hdb (star_cons h1) (star_any h2)) fun σ H Q h => tM_callD (κ := kx X CT) F.at_ h
/-- f() -/
theorem e_callD0 {f : Addr} {cb : Cb} (F : CbOk X.prog X.w X.K X.mg X.base CT XT k f cb) (hr : Room k X.A) (hg : Gl X x) (hm : X.mg x = some (.ref f)) (tk : Takes X W) (hdb : (x == ("__debug__" : Str)) = false) :
    PE X (.Call (.Name x p0) [] [] pos) (tM (kx X CT) XT W (cb.n == 0) (mCallD cb evNil)) := by
  obtain ⟨fd, ps, ds, F1, F2, F3⟩ := F.ex
  refine ⟨fun pins s σ H Q I h => ?_⟩
  refine wpAny_Call_Name_kw (ld_glob I hg hm ?_ hdb)
  refine PySem.W.callWith_K0 I.kIn F.kp (run_fnSD (E := WE W) (us := []) (vs := []) F1 hr F3 F2 (passAt tk σ) I .nil ?_)
  have h' : tM (kx X CT) XT W (true && cb.n == 0) (mCallD cb evNil) σ H Q := by rw [Bool.true_and]; exact h
  exact tA_nil (tM_callD (κ := kx X CT) F.at_ h')
/-- f(.., k = v) -/
theorem run_kw {pins : List (Addr × Obj)} {σ : St} {H : Hp} {s : Shared} {Q : VK} {us ws : List Value} {vs zs : List V} {f : Addr} {fd : FuncData} {ps ks : List Str} {sp : Sp} {E : St → XK} (F : FnOk X.prog X.w X.K X.mg X.base (L2.CX X.prog X.w) k f fd ps sp) (hr : Room k X.A)
    (hb : KBinds X.K fd ps ks (fun us ws => us ++ ws) (fun vs zs => vs ++ zs)) (hx : PassesAt (L2.CX X.prog X.w) X σ (E σ)) (I : Inv X pins σ H s) (r : Vals vs us) (rz : Vals zs ws) (h : sp (vs ++ zs) H Q (E σ)) : wpAny (model X.prog X.w) X.A (call (.ref f) us (ks.zip ws)) (EP X pins σ Q) X.xe s := by
  have both := hb.rel r rz
  have len : (us ++ ws).length = ps.length := by
    have e1 := F.len _ _ _ _ h
    have e2 := both.length
    rw [e1] at e2
    exact e2.symm
  refine wpAny_call (codeAny_mono (F.run X.A X.stack s H ⟨us, ks.zip ws⟩ (us ++ ws) (vs ++ zs) Q (E σ) hr I.env0 (hb.to s us ws I.kIn len) both h) fun out s' done => ?_)
  match out, done with
  | .error z, done => exact hx pins H s z s' I done
  | .ok (.ret u), done => exact I.after done
  | .ok .next, done => exact done.elim
  | .ok .brk, done => exact done.elim
  | .ok .cont, done => exact done.elim
theorem kw_len {kws : List Keyword} {env : PySem.Env} {pos : Pos} : ∀ {kws : List Keyword}, kws.all (·.arg.isSome) = true → (backToKw pos (keywordEach kws env)).all (·.1.isSome) = true ∧ (backToKw pos (keywordEach kws env)).filterMap (·.1) = kws.filterMap (·.arg) ∧ (backToKw pos (keywordEach kws env)).any (·.1.isNone) = false
  | [], _ => ⟨rfl, rfl, rfl⟩
  | ⟨nm, v, p⟩ :: r, h => by
    obtain ⟨h1, h2⟩ := Bool.and_eq_true_iff.mp h
    obtain ⟨a, b, c⟩ := kw_len (kws := kws) (env := env) (pos := pos) h2
    cases nm with
    | none => cases h1
    | some z => exact ⟨a, by show z :: _ = z :: _; rw [← b]; rfl, c⟩
theorem e_callK {f : Addr} {cb : Cb} {kws : List Keyword} {ks : List Str} {tk1 : TA} (F : CbKw X.prog X.w X.K X.mg X.base CT XT k f ks cb) (hr : Room k X.A) (hg : Gl X x) (hm : X.mg x = some (.ref f)) (tk : Takes X W) (ha : PA X (e :: es) t) (hk : PK X kws tk1) (hks : kws.filterMap (·.arg) = ks) (hall : kws.all (·.arg.isSome) = true)
    (hdb : (x == ("__debug__" : Str)) = false) (hs : (e :: es).all notStar = true) (hq : ∀ σ H Q, tA (kx X CT) XT W p ms σ H Q → t σ H fun xs H1 => tk1 σ H1 fun ys H2 => Q (xs ++ ys) H2) :
    PE X (.Call (.Name x p0) (e :: es) kws pos) (tM (kx X CT) XT W (p && cb.n == 0) (mCallD cb ms)) := by
  obtain ⟨fd, ps, F1, F3⟩ := F.ex
  obtain ⟨h1, h2⟩ := Bool.and_eq_true_iff.mp hs
  obtain ⟨k1, k2, k3⟩ := kw_len (kws := kws) (env := X.env) (pos := pos) hall
  refine ⟨fun pins s σ H Q I h => ?_⟩
  have h3 := hq σ H _ (tM_callD (κ := kx X CT) (by rw [F.nd]; simp) h)
  refine wpAny_Call_Name_kw (ld_glob I hg hm ?_ hdb)
  refine PySem.W.callWith_KW (h₀ := X.base) I.ok.mod.kin F.kp k1 (thn (ha.run pos pins s σ H _ I h3) fun us s1 ⟨vs, H1, I1, r, q⟩ => ?_) (by rw [star_any hs, k3]; rfl) (star_cons h1)
  refine thn (hk.run pos pins s1 σ H1 _ I1 q) fun ws s2 ⟨zs, H2, I2, rz, q2⟩ => ⟨I2.kIn, ?_⟩
  rw [k2, hks]
  refine run_kw (E := WE W) F1 hr F3 (passAt tk σ) I2 r rz ?_
  rw [F.nd] at q2
  simpa using q2
/-! methods -/
/-- what a method's table must tell -/
def MtOk (P : Program) (w : World) (K : PySem.W.Frag) (mg : Str → Option Value) (base : Heap) (CT : Cts) (XT : Nat → Option (Value × List Str)) (k : Nat) (m : Str) (mt : Nat → Option Cb) : Prop :=
  ∀ c cb C names, mt c = some cb → CT.ct c = some (C, names) → Cls K C ∧ m ∉ names ∧ ∃ f, Meth K C m f ∧ CbOk P w K mg base CT XT k f cb
theorem lookup_none {α : Type} {m : Str} : ∀ {fs : List (Str × α)}, (∀ y, y ∈ fs.map (·.1) → y ≠ m) → fs.lookup m = none
  | [], _ => rfl
  | (y, v) :: r, h => by
    rw [List.lookup_cons]
    have : (m == y) = false := beq_eq_false_iff_ne.mpr (Ne.symm (h y (by simp)))
    rw [this]
    exact lookup_none fun z hz => h z (by simp at hz ⊢; exact .inr hz)
theorem e_meth {mt : Nat → Option Cb} {mn : Str} {pu : Bool} {mo : ME} (M : MtOk X.prog X.w X.K X.mg X.base CT XT k mn mt) (hr : Room k X.A) (tk : Takes X W) (ho : PE X o (tM (kx X CT) XT W p mo)) (ha : PA X (e :: es) (tA (kx X CT) XT W q ms)) (hat : ∀ c cb, mt c = some cb → ∀ d ∈ cb.ds, isAtom d = true)
    (hb : okBase o = true) (hs : (e :: es).all notStar = true) (hn : (e :: es).length < 30) (hl : (apos.endLine == pos.line) = true) : PE X (.Call (.Attribute o mn apos) (e :: es) [] pos) (tM (kx X CT) XT W (p && q && pu) (mMeth mt pu q mo ms)) := by
  obtain ⟨h1, h2⟩ := Bool.and_eq_true_iff.mp hs
  refine ⟨fun pins s σ H Q I h => ?_⟩
  refine PySem.W.methodCall_KW (thn (ho.run pins s σ H _ I (tM_meth (m := mn) hat h)) fun u s1 ⟨x, H1, I1, rx, a, c, C, names, dx, fs, cb, ex, ec, em, ea, l, q1⟩ => ?_) (meth_shape hb hs hn hl)
  subst ex
  obtain rfl : u = Value.ref a := rx
  obtain ⟨cl, mn', f, me, F⟩ := M c cb C names em ec
  obtain ⟨fd, ps, ds, F1, F2, F3⟩ := F.ex
  refine getmeth_ok I1 ea cl me (lookup_none fun y hy z => mn' (by rw [← z]; exact l y hy)) ?_
  refine PySem.W.callWith_K (first := [.ref a]) (h₀ := X.base) I.ok.mod.kin me.kp (thn (ha.run pos pins s1 σ H1 _ I1 q1) fun us s2 ⟨vs, H2, I2, r, q2⟩ => ⟨I2.kIn, ?_⟩) (star_cons h1) (star_any h2)
  exact run_fnSD (E := WE W) (us := .ref a :: us) (vs := .ref a :: vs) F1 hr F3 F2 (passAt tk σ) I2 (.cons rfl r) q2
theorem e_meth0 {mt : Nat → Option Cb} {mn : Str} {pu : Bool} {mo : ME} (M : MtOk X.prog X.w X.K X.mg X.base CT XT k mn mt) (hr : Room k X.A) (tk : Takes X W) (ho : PE X o (tM (kx X CT) XT W p mo)) (hat : ∀ c cb, mt c = some cb → ∀ d ∈ cb.ds, isAtom d = true)
    (hb : okBase o = true) (hl : (apos.endLine == pos.line) = true) : PE X (.Call (.Attribute o mn apos) [] [] pos) (tM (kx X CT) XT W (p && true && pu) (mMeth mt pu true mo evNil)) := by
  refine ⟨fun pins s σ H Q I h => ?_⟩
  refine PySem.W.methodCall_KW (thn (ho.run pins s σ H _ I (tM_meth (m := mn) hat h)) fun u s1 ⟨x, H1, I1, rx, a, c, C, names, dx, fs, cb, ex, ec, em, ea, l, q1⟩ => ?_) (meth_shape hb rfl (by decide) hl)
  subst ex
  obtain rfl : u = Value.ref a := rx
  obtain ⟨cl, mn', f, me, F⟩ := M c cb C names em ec
  obtain ⟨fd, ps, ds, F1, F2, F3⟩ := F.ex
  refine getmeth_ok I1 ea cl me (lookup_none fun y hy z => mn' (by rw [← z]; exact l y hy)) ?_
  exact PySem.W.callWith_K0 (first := [.ref a]) I1.kIn me.kp (run_fnSD (E := WE W) (us := [.ref a]) (vs := [.ref a]) F1 hr F3 F2 (passAt tk σ) I1 (.cons rfl .nil) (tA_nil q1))
/-! instances -/
theorem run_makeS {pins : List (Addr × Obj)} {σ : St} {H : Hp} {s : Shared} {Q : VK} {us : List Value} {vs : List V} {C f : Addr} {fd : FuncData} {ps : List Str} {sp : Sp} {ds : List Value} {dvs : List V} {E : St → XK} (M : Mk X.K C f) (F : FnOk X.prog X.w X.K X.mg X.base (L2.CX X.prog X.w) k f fd ps sp) (hr : Room (k + 1) X.A) (hb : Binds X.K fd ps ds) (hd : Vals dvs ds)
    (hx : PassesAt (L2.CX X.prog X.w) X σ (E σ)) (I : Inv X pins σ H s) (r : Vals vs us) (h : ∀ x dx, H x = none → H dx = none → dx ≠ x → sp (.ref x :: (vs ++ dvs)) (upd (upd H dx (.own x)) x (.ins C dx [])) (fun v H2 => v = .non ∧ Q (.ref x) H2) (E σ)) :
    wpAny (model X.prog X.w) X.A (call (.ref C) us) (EP X pins σ Q) X.xe s := by
  have go := h (s.heap.objs.size + 1) s.heap.objs.size (I.hok.fresh (Nat.le_succ _)) (I.hok.fresh (Nat.le_refl _)) (Nat.ne_of_lt (Nat.lt_succ_self _))
  have J := Inv.made (C := C) I
  have rel : Vals (V.ref (s.heap.objs.size + 1) :: (vs ++ dvs)) (Value.ref (s.heap.objs.size + 1) :: (us ++ ds)) := .cons rfl (r.append hd)
  have len : (Value.ref (s.heap.objs.size + 1) :: us ++ ds).length = ps.length := by
    have e1 := F.len _ _ _ _ go
    have e2 := rel.length
    rw [e1] at e2
    exact e2.symm
  refine wpAny_call (make_map (f := f) I.kIn M.makes M.init (beq_iff_eq.mp M.fn) (codeAny_mono (F.run _ X.stack _ _ ⟨Value.ref (s.heap.objs.size + 1) :: us, []⟩ (Value.ref (s.heap.objs.size + 1) :: (us ++ ds)) _ _ (E σ) (hr.make C us []) (J.env0.make C us [])
    (hb _ (Value.ref (s.heap.objs.size + 1) :: us) J.kIn len) rel go) fun out s' done => ?_))
  match out, done with
  | .error z, done => exact hx pins _ _ z s' J done
  | .ok (.ret u), done =>
    obtain ⟨v, H', I3, rv, ev, q3⟩ := J.after done
    subst ev
    exact ⟨rv, V.ref (s.heap.objs.size + 1), H', I3, rfl, q3⟩
  | .ok .next, done => exact done.elim
  | .ok .brk, done => exact done.elim
  | .ok .cont, done => exact done.elim
theorem e_new {c : Nat} {C f : Addr} {names : List Str} {fz : Bool} {cb : Cb} (hC : CT.ct c = some (C, names)) (M : Mk X.K C f) (F : CbOk X.prog X.w X.K X.mg X.base CT XT k f cb) (hr : Room (k + 1) X.A) (hg : Gl X x) (hm : X.mg x = some (.ref C)) (tk : Takes X W) (ha : PA X (e :: es) (tA (kx X CT) XT W p ms)) (hdb : (x == ("__debug__" : Str)) = false) (hs : (e :: es).all notStar = true) :
    PE X (.Call (.Name x p0) (e :: es) [] pos) (tM (kx X CT) XT W false (mNew c fz cb ms)) := by
  obtain ⟨fd, ps, ds, F1, F2, F3⟩ := F.ex
  obtain ⟨h1, h2⟩ := Bool.and_eq_true_iff.mp hs
  refine ⟨fun pins s σ H Q I h => ?_⟩
  have h3 := tM_new (κ := kx X CT) (p := p) hC F.at_ h
  refine wpAny_Call_Name_kw (ld_glob I hg hm ?_ hdb)
  refine PySem.W.callWith_K (h₀ := X.base) I.ok.mod.kin M.kp (thn (ha.run pos pins s σ H _ I h3) fun us s1 ⟨vs, H1, I1, r, q⟩ => ⟨I1.kIn, ?_⟩) (star_cons h1) (star_any h2)
  exact run_makeS (E := WE W) M F1 hr F3 F2 (passAt tk σ) I1 r q
/-! fields, places -/
theorem e_fld {fx : Nat → List Str} {f : Str} (cf : ClF (kx X CT) fx) (ho : PE X o (tM (kx X CT) XT W p m)) (hb : okBase o = true) : PE X (.Attribute o f pos) (tM (kx X CT) XT W p (mOp (ev1 m) (opFld fx f))) :=
  PE.imp (pe_fld ho (base_ok hb)) fun σ H Q h => tM.mono (fun x H1 ⟨a, C, dx, fs, v, ex, z⟩ => by
    cases ex
    exact ⟨a, C, dx, fs, v, rfl, z⟩) (tA_one (tM_op (ops_fld cf) h))
theorem p_var {i : Nat} (hN : X.N[i]? = some x) (hv : Vis X.env.scope x) (hd : (x == ("__debug__" : Str)) = false) (hcd : (x == ("__classdict__" : Str)) = false) : PE X (.Name x pos) (tP (kx X CT) (mpV i)) := PE.imp (pe_var hN hv hd hcd) fun σ H Q h => tP_V h
theorem p_fld {fx : Nat → List Str} {f : Str} {mp : MP} (cf : ClF (kx X CT) fx) (ho : PE X o (tP (kx X CT) mp)) (hb : okBase o = true) : PE X (.Attribute o f pos) (tP (kx X CT) (mpF fx f mp)) := PE.imp (pe_fld ho (base_ok hb)) fun σ H Q h => tP_F cf h
theorem p_ix {mp : MP} (ha : PE X a (tP (kx X CT) mp)) (hb : PE X b (tM (kx X CT) XT W true mb)) (hs : PlainIx b) : PE X (.Subscript a b pos) (tP (kx X CT) (mpI mp mb)) := PE.imp (pe_ix ix_seq ha hb hs) fun σ H Q h => tP_I h
end
end Py

set_option Elab.async false
set_option linter.all false
set_option maxRecDepth 100000
set_option maxHeartbeats 1000000
/-! PyZaa: isinstance; a < b < c of ints. -/
namespace Py
open PySem L2
inductive Ty where
  | int | bool | str | list | tuple | dict
  deriving DecidableEq, Repr
def Ty.nm : Ty → String
  | .int => "int" | .bool => "bool" | .str => "str" | .list => "list" | .tuple => "tuple" | .dict => "dict"
def tyNm : D → String
  | .non => "NoneType" | .bl _ => "bool" | .int _ => "int" | .str _ => "str" | .lst _ => "list" | .tup _ => "tuple" | .dic _ _ => "dict" | .obj _ _ => ""
def isD (t : Ty) : D → Bool
  | .non => false
  | .bl _ => t == .bool || t == .int
  | .int _ => t == .int
  | .str _ => t == .str
  | .lst _ => t == .list
  | .tup _ => t == .tuple
  | .dic _ _ => t == .dict
  | .obj _ _ => false
def isC (c : Nat) : D → Bool
  | .obj c' _ => c' == c
  | _ => false
/-- what the text's classes are among the types -/
structure IsF (κ : Kx) : Prop where
  cls : ∀ c C names, κ.CT.ct c = some (C, names) → Cls κ.K C
  ha : ∀ c C names, κ.CT.ct c = some (C, names) → PySem.W.findIn κ.K (.ref C) "__class__" = some (some (.builtin "object.__class__"))
  hn : PySem.W.specialIn κ.K (.builtin "object.__class__") "__get__" = some (some (.builtin "getset_descriptor.__get__"))
  htk : PySem.W.takesIn κ.K (.builtin "object.__class__") = some true
  hm : ∀ c C names, κ.CT.ct c = some (C, names) → PySem.W.mroIn κ.K C (.type "object") = some true
  ownT : ∀ c C names, κ.CT.ct c = some (C, names) → ∀ t : Ty, PySem.W.kitOne κ.K (.ref C) (.type t.nm) = some false
  ownC : ∀ c C names c' C' names', κ.CT.ct c = some (C, names) → κ.CT.ct c' = some (C', names') → PySem.W.kitOne κ.K (.ref C) (.ref C') = some (c == c')
  tyC : ∀ c C names, κ.CT.ct c = some (C, names) → ∀ s ∈ (["NoneType", "bool", "int", "str", "list", "tuple", "dict"] : List String), PySem.W.kitOne κ.K (.type s) (.ref C) = some false
section
variable {κ : Kx} {XT : Nat → Option (Value × List Str)} {p q r : Bool} {A B : List Addr} {γ γ0 γ1 γ2 γ3 : Gst} {σ σ1 σ2 : St} {F F' G H H1 H2 : Hp} {W : WX} {Ds : Ends} {X : Cx} {v : Val} {x : V} {fp : List Addr}
theorem Rep.dic {t : Bool} {kvs : List (D × D)} (h : Rep κ F (.dic t kvs) x) : ∃ a, x = .ref a ∧ ((∃ es, F a = some (.dT es)) ∨ ∃ es, F a = some (.dK es)) := by
  obtain ⟨n, h⟩ := h
  cases n with
  | zero => exact h.elim
  | succ n =>
    obtain ⟨a, e1, e2⟩ := h
    exact ⟨a, e1, e2.imp (fun ⟨_, es, z, _⟩ => ⟨es, z⟩) fun ⟨_, es, z, _⟩ => ⟨es, z⟩⟩
theorem ty_of {d : D} (f : IsF κ) (h : Rep κ H d x) : (∀ c ds, d ≠ .obj c ds) ∧ TyX κ.K H x (.type (tyNm d)) ∨ ∃ c ds C names, d = .obj c ds ∧ κ.CT.ct c = some (C, names) ∧ TyX κ.K H x (.ref C) := by
  cases d with
  | non => rw [rep_atom rfl] at h; subst h; exact .inl ⟨(fun _ _ z => by cases z), .base .non⟩
  | bl b => rw [rep_atom rfl] at h; subst h; exact .inl ⟨(fun _ _ z => by cases z), .base (.bl b)⟩
  | int i => rw [rep_atom rfl] at h; subst h; exact .inl ⟨(fun _ _ z => by cases z), .base (.int i)⟩
  | str s => rw [rep_atom rfl] at h; subst h; exact .inl ⟨(fun _ _ z => by cases z), .base (.str s)⟩
  | lst ds =>
    obtain ⟨a, vs, rfl, e, _⟩ := h.lst
    refine .inl ⟨(fun _ _ z => by cases z), ?_⟩
    rcases e with (e | ⟨o, e⟩) | ⟨o, its, n, e, hc, _⟩
    · exact .base (.lst e)
    · exact .base (.frz e)
    · exact .kList e hc
  | tup ds =>
    obtain ⟨a, vs, rfl, e, _⟩ := h.tup
    refine .inl ⟨(fun _ _ z => by cases z), ?_⟩
    rcases e with (e | ⟨o, e⟩) | ⟨o, its, n, e, hc, _⟩
    · exact .base (.tup e)
    · exact .fTuple e
    · exact .kTuple e hc
  | dic t kvs =>
    obtain ⟨a, rfl, e⟩ := h.dic
    refine .inl ⟨(fun _ _ z => by cases z), ?_⟩
    rcases e with ⟨es, e⟩ | ⟨es, e⟩
    · exact .base (.dT e)
    · exact .base (.dK e)
  | obj c ds =>
    obtain ⟨a, C, dx, names, vs, rfl, ec, e, _⟩ := h.obj
    exact .inr ⟨c, ds, C, names, rfl, ec, .base (.ins e (f.cls _ _ _ ec) (f.ha _ _ _ ec) f.hn f.htk (f.hm _ _ _ ec))⟩
theorem kitB_non : ∀ t : Ty, kitB "NoneType" t.nm = some false := fun t => by cases t <;> decide +kernel
theorem kitB_bl : ∀ t : Ty, kitB "bool" t.nm = some (t == .bool || t == .int) := fun t => by cases t <;> decide +kernel
theorem kitB_int : ∀ t : Ty, kitB "int" t.nm = some (t == .int) := fun t => by cases t <;> decide +kernel
theorem kitB_str : ∀ t : Ty, kitB "str" t.nm = some (t == .str) := fun t => by cases t <;> decide +kernel
theorem kitB_list : ∀ t : Ty, kitB "list" t.nm = some (t == .list) := fun t => by cases t <;> decide +kernel
theorem kitB_tuple : ∀ t : Ty, kitB "tuple" t.nm = some (t == .tuple) := fun t => by cases t <;> decide +kernel
theorem kitB_dict : ∀ t : Ty, kitB "dict" t.nm = some (t == .dict) := fun t => by cases t <;> decide +kernel
theorem kitB_ok {d : D} {t : Ty} (h : ∀ c ds, d ≠ .obj c ds) : kitB (tyNm d) t.nm = some (isD t d) := by
  cases d with
  | obj c ds => exact absurd rfl (h c ds)
  | non => exact kitB_non t
  | bl b => exact kitB_bl t
  | int i => exact kitB_int t
  | str s => exact kitB_str t
  | lst l => exact kitB_list t
  | tup l => exact kitB_tuple t
  | dic _ l => exact kitB_dict t
def opIsT (t : Ty) : Op := opA fun vs => match vs with
  | [v] => some (.bl (isD t v.d))
  | _ => none
def opIsC (c : Nat) : Op := opA fun vs => match vs with
  | [v] => some (.bl (isC c v.d))
  | _ => none
def rIs1 (K : PySem.W.Frag) (u : Value) : List V → Hp → VK → Prop := fun xs H Q => ∃ x t b, xs = [x] ∧ TyX K H x t ∧ PySem.W.kitOne K t u = some b ∧ Q (.bl b) H
theorem ops_isT {t : Ty} (f : IsF κ) : OpS κ (rIs1 κ.K (.type t.nm)) (opIsT t) := by
  refine OpS.atom fun γ σ H vs xs fps d Q ft tr ho => ?_
  split at ho
  · rename_i v
    cases ho
    obtain ⟨x, f1, rfl, rfl, h1⟩ := tri1 tr
    refine ⟨rfl, fun q => ?_⟩
    obtain ⟨tg, dd⟩ := v
    rcases ty_of f (h1.rep ft) with ⟨hno, ty⟩ | ⟨c, ds, C, names, e, ec, ty⟩
    · refine ⟨x, _, isD t dd, rfl, ty, kit_ty ?_, q⟩
      exact kitB_ok hno
    · dsimp only at e
      subst e
      exact ⟨x, _, false, rfl, ty, f.ownT _ _ _ ec t, q⟩
  · cases ho
theorem tyNm_mem {d : D} (h : ∀ c ds, d ≠ .obj c ds) : tyNm d ∈ (["NoneType", "bool", "int", "str", "list", "tuple", "dict"] : List String) := by
  cases d with
  | obj c ds => exact absurd rfl (h c ds)
  | _ => simp [tyNm]
theorem ops_isC {c : Nat} {C : Addr} {names : List Str} (f : IsF κ) (hC : κ.CT.ct c = some (C, names)) : OpS κ (rIs1 κ.K (.ref C)) (opIsC c) := by
  refine OpS.atom fun γ σ H vs xs fps d Q ft tr ho => ?_
  split at ho
  · rename_i v
    cases ho
    obtain ⟨x, f1, rfl, rfl, h1⟩ := tri1 tr
    refine ⟨rfl, fun q => ?_⟩
    obtain ⟨tg, dd⟩ := v
    rcases ty_of f (h1.rep ft) with ⟨hno, ty⟩ | ⟨c', ds, C', names', e, ec, ty⟩
    · refine ⟨x, _, isC c dd, rfl, ty, ?_, q⟩
      have e0 : isC c dd = false := by
        cases dd with
        | obj c ds => exact absurd rfl (hno c ds)
        | _ => rfl
      rw [e0]
      exact f.tyC _ _ _ hC _ (tyNm_mem hno)
    · dsimp only at e
      subst e
      exact ⟨x, _, c' == c, rfl, ty, f.ownC _ _ _ _ _ _ ec hC, q⟩
  · cases ho
/-! ### chains -/
def mLast (g : Int → Int → Bool) (j : Int) (mc : ME) : ME := fun e => (mc e).bind fun vc e3 => match vc.d with
  | .int l => .ok ⟨.f, .bl (g j l)⟩ e3
  | _ => .no
def mMid (f g : Int → Int → Bool) (i : Int) (mb mc : ME) : ME := fun e => (mb e).bind fun vb e2 => match vb.d with
  | .int j => if f i j = true then mLast g j mc e2 else .ok ⟨.f, .bl false⟩ e2
  | _ => .no
def mChn (f g : Int → Int → Bool) (ma mb mc : ME) : ME := fun env => (ma env).bind fun va e1 => match va.d with
  | .int i => mMid f g i mb mc e1
  | _ => .no
theorem tM_chain {f g : Int → Int → Bool} {ma mb mc : ME} {Q : VK} (h : tM κ XT W (p && (q && r)) (mChn f g ma mb mc) σ H Q) :
    tChain (rI0 fun i j => .bl (f i j)) (rI0 fun i j => .bl (g i j)) (tM κ XT W p ma) (tM κ XT W q mb) (tM κ XT W r mc) σ H Q := by
  refine tM_bind h fun γ H γ1 H1 v x fp ft f1 r1 hl hn k => ?_
  obtain ⟨t, d⟩ := v
  cases d with
  | int i =>
    have ex : x = .int i := hl.one.atom f1 rfl
    subst ex
    have k2 : tM κ XT W (q && r) (mMid f g i mb mc) σ H1 Q := Cont.run ft f1 r1 k
    refine tM_bind k2 fun γ H γ1 H1 v y fp ft f1 r1 hl hn k => ?_
    obtain ⟨t, d⟩ := v
    cases d with
    | int j =>
      have ey : y = .int j := hl.one.atom f1 rfl
      subst ey
      refine ⟨i, j, rfl, rfl, f i j, rfl, ?_⟩
      dsimp only at k
      by_cases hf : f i j = true
      · rw [if_pos hf] at k
        rw [if_pos hf]
        have k3 : tM κ XT W r (mLast g j mc) σ H1 Q := Cont.run ft f1 r1 k
        refine tM_bind (q := true) (by rw [Bool.and_true]; exact k3) fun γ H γ1 H1 v z fp ft f1 r1 hl hn k => ?_
        obtain ⟨t, d⟩ := v
        cases d with
        | int l =>
          have ez : z = .int l := hl.one.atom f1 rfl
          subst ez
          rw [Bool.and_true] at k
          exact ⟨j, l, rfl, rfl, Cont.fin (d := .bl (g j l)) rfl f1 r1 k⟩
        | _ => exact k.elim
      · rw [if_neg hf] at k
        rw [if_neg hf]
        have r1' : Reach (q && r) γ.P γ H γ1 H1 := r1.weak fun z => (Bool.and_eq_true_iff.mp z).1
        exact Cont.fin (d := .bl false) rfl f1 r1' k
    | _ => exact k.elim
  | _ => exact k.elim
end
end Py

set_option Elab.async false
set_option linter.all false
set_option maxRecDepth 100000
set_option maxHeartbeats 1000000
/-! PyOa: an own class's != by its ==. -/
namespace PySem.W
open PySem PySem.Calls PyProof.Rows Builtin
section
variable {prog : Program} {w : World} {A : Around} {E : Value → Shared → Prop} {s : Shared} {K : Frag} {x C L f : Addr} {h₀ : Heap} {m : Str → Option Value} {ox : Obj} {od : Option Obj} {b tb : Value}
theorem objNe_K {Q : Fin → Shared → Prop} (X : K.In s.heap) (I : InstAt s.heap x ox C od) (hu : A.units < cLine) (hs : findIn K (.ref C) "__eq__" = some (some (.ref f))) (hf : isFn K (.ref f) = true)
    (h : wpAny (model prog w) A (call (.ref f) [.ref x, b]) (fun v s' => ∃ c, v = .bool c ∧ Q (.done (.ret (.bool (!c)))) s') E s) : wpAny (model prog w) A (Builtin.«object.__ne__» ⟨[.ref x, b], []⟩) Q E s := by
  unfold Builtin.«object.__ne__»
  refine wpAny_bind (m := slotArgs "__ne__" 1 _) (wpAny_pure ?_)
  refine wpAny_bind (wpAny_cRoomFor hu ?_)
  refine wpAny_bind (ifBound_K X I hs hf (wpAny_mono h (fun v s' hv => ?_) fun _ _ e => e))
  obtain ⟨c, rfl, hq⟩ := hv
  exact wpAny_bind (wpAny_truthy_bool (wpAny_pure hq))
theorem ifBoundNe_K {Q : Option Value → Shared → Prop} (X : K.In s.heap) (I : InstAt s.heap x ox C od) (hu : A.units + 1 < cLine) (hne : findIn K (.ref C) "__ne__" = some (some (.builtin "object.__ne__"))) (hob : subIn K (.ref C) (.type "object") = some true)
    (hs : findIn K (.ref C) "__eq__" = some (some (.ref f))) (hf : isFn K (.ref f) = true)
    (h : wpAny (model prog w) A.in1 (call (.ref f) [.ref x, b]) (fun v s' => ∃ c, v = .bool c ∧ Q (some (.bool (!c))) s') E s) : wpAny (model prog w) A (callSpecialIfBound? (.ref x) "__ne__" [b]) Q E s := by
  have FB := PySem.F.cmp_object
  have hcall : wpAny (model prog w) A (call (.builtin "object.__ne__") [.ref x, b]) (fun v => Q (some v)) E s :=
    wpAny_call (codeAny_call_builtin FB.ne.plain PySem.F.cmpEntry_ne (check_slot PySem.F.cmpKind_ne PySem.F.cmpSplit_ne (I.type.andThen (looks_subIn X hob)) (PySem.F.cmpArgs_ne _ _)
      (objNe_K (A := A.in1) X I hu hs hf (wpAny_mono h (fun v s' hv => by
        obtain ⟨c, rfl, hq⟩ := hv
        exact ⟨c, rfl, hq⟩) fun _ _ e => e))))
  simp only [callSpecialIfBound?, bindSpecialIfBound?]
  refine wpAny_holding (wpAny_bind (wpAny_bind (wpAny_bind (I.type.here ((looks_findIn X hne).here ?_)))))
  refine wpAny_bind (wpAny_askSetting (wpAny_ite ?_))
  have fin : wpAny (model prog w) A (call (.builtin "object.__ne__") ([.ref x] ++ [b]) >>= fun v => pure (some v)) Q E s := wpAny_bind (wpAny_mono hcall (fun v s' h' => wpAny_pure h') fun _ _ h' => h')
  simp only [FB.ne.bind]
  split
  · exact wpAny_bind (wpAny_pure (wpAny_pure (by exact fin)))
  · exact wpAny_tryCatch (wpAny_bind (wpAny_pure (wpAny_pure (by exact fin))))
theorem ne_K {Q : Value → Shared → Prop} (hu : A.units + 1 < cLine) (F : Fr h₀ L s.heap m) (X₀ : K.In h₀) (I : InstAt s.heap x ox C od) (hb : Looks (model prog w) s.heap (typeOf b) tb) (hn : notFirst K C tb = true)
    (hne : findIn K (.ref C) "__ne__" = some (some (.builtin "object.__ne__"))) (hob : subIn K (.ref C) (.type "object") = some true) (hs : findIn K (.ref C) "__eq__" = some (some (.ref f))) (hf : isFn K (.ref f) = true)
    (h : wpAny (model prog w) A.in1 (call (.ref f) [.ref x, b]) (fun v s' => ∃ c, v = .bool c ∧ Q (.bool (!c)) s') E s) : wpAny (model prog w) A (richCompare .NotEq (.ref x) b) Q E s := by
  have X := X₀.keeps F.keep
  have one : wpAny (model prog w) A (tryCompare (.ref x) (cmpInfo .NotEq).2.1 b) (fun r s' => ∃ v, r = some v ∧ Q v s') E s := by
    unfold tryCompare
    refine wpAny_bind (ifBoundNe_K X I hu hne hob hs hf (wpAny_mono h (fun v s' hv => ?_) fun _ _ e => e))
    obtain ⟨c, rfl, hq⟩ := hv
    exact ⟨c, rfl, wpAny_pure ⟨_, rfl, hq⟩⟩
  unfold richCompare
  simp only [oneThing_ref]
  refine wpAny_holding (wpAny_bind (wpAny_cRoomFor (by omega) ?_))
  refine wpAny_bind (I.type.here (wpAny_bind (hb.here ?_)))
  split
  · rename_i q
    have e : subIn K tb (.ref C) = some false := by
      rcases Bool.or_eq_true_iff.mp hn with e | e
      · rw [beq_iff_eq.mp e] at q; simp at q
      · exact beq_iff_eq.mp e
    refine wpAny_bind ((looks_subIn X e).here ?_)
    simp only [Bool.false_eq_true, if_false]
    refine wpAny_bind (wpAny_mono one (fun r s' z => ?_) fun _ _ e => e)
    obtain ⟨v, rfl, hq⟩ := z
    exact wpAny_pure hq
  · refine wpAny_bind (wpAny_pure ?_)
    simp only [Bool.false_eq_true, if_false]
    refine wpAny_bind (wpAny_mono one (fun r s' z => ?_) fun _ _ e => e)
    obtain ⟨v, rfl, hq⟩ := z
    exact wpAny_pure hq
end
end PySem.W

set_option Elab.async false
set_option linter.all false
set_option maxRecDepth 100000
set_option maxHeartbeats 1000000
/-! PyZab: operators by the methods of an own class. -/
namespace Py
open PySem L2
structure Own where
  cb : Cb
  sw : Bool
  post : Option (D → Option D)
def sw2 {α : Type} : List α → List α
  | [a, b] => [b, a]
  | l => l
def swp {α : Type} (b : Bool) (l : List α) : List α := if b = true then sw2 l else l
def applyPost (g : Option (D → Option D)) (v : Val) (e : Env) : R Val := match g with
  | none => .ok v e
  | some g => if isAtom v.d = true then (match g v.d with
    | some d => if isAtom d = true then .ok ⟨.f, d⟩ e else .no
    | none => .no) else .no
def ownRun (o : Own) (vs : List Val) (e : Env) : R Val := if (o.cb.n == 0) = true then (runC o.cb (swp o.sw vs) e).bind (applyPost o.post) else .no
def mOpO (own : List Val → Option Own) (ms : MA) (op : Op) : ME := fun env => (ms env).bind fun vs e => match own vs with
  | some o => ownRun o vs e
  | none => (match op vs e with
    | some (v, e') => .ok v e'
    | none => .no)
/-- the i-th of n values is an instance: its class's method -/
def ownR (i n : Nat) (sw : Bool) (post : Option (D → Option D)) (mt : Nat → Option Cb) : List Val → Option Own := fun vs => if vs.length = n then (match vs[i]? with
  | some ⟨_, .obj c _⟩ => (mt c).map fun cb => ⟨cb, sw, post⟩
  | _ => none) else none
def ownNo : List Val → Option Own := fun _ => none
def RecvV (κ : Kx) (c : Nat) (x : V) (H : Hp) : Prop := ∃ a C names dx fs, x = .ref a ∧ κ.CT.ct c = some (C, names) ∧ H a = some (.ins C dx fs)
def TyV (κ : Kx) (y : V) (H : Hp) : Prop := (∃ s ∈ (["NoneType", "bool", "int", "str", "list", "tuple", "dict"] : List String), TyX κ.K H y (.type s)) ∨ ∃ c C names, κ.CT.ct c = some (C, names) ∧ TyX κ.K H y (.ref C)
def postQ (g : Option (D → Option D)) (Q : VK) : VK := fun x H => match g with
  | none => Q x H
  | some g => ∃ d d', isAtom d = true ∧ x = atomV d ∧ g d = some d' ∧ isAtom d' = true ∧ Q (atomV d') H
def rOwn (κ : Kx) (XT : Nat → Option (Value × List Str)) (E : XK) (o : Own) (xs : List V) (H : Hp) (Q : VK) : Prop := spF κ XT o.cb.np o.cb.fm (swp o.sw xs ++ o.cb.ds.map atomV) H (postQ o.post Q) E
/-- what is known where a method is called -/
structure OwnV (κ : Kx) (mt : Nat → Option Cb) (i n : Nat) (c : Nat) (cb : Cb) (xs : List V) (H : Hp) : Prop where
  len : xs.length = n
  mt : mt c = some cb
  n0 : cb.n = 0
  rc : ∀ x, xs[i]? = some x → RecvV κ c x H
  ty : ∀ y ∈ xs, TyV κ y H
section
variable {κ : Kx} {XT : Nat → Option (Value × List Str)} {p q r : Bool} {A B : List Addr} {γ γ0 γ1 γ2 γ3 : Gst} {σ σ1 σ2 : St} {F F' G H H1 H2 : Hp} {W : WX} {Ds : Ends} {X : Cx} {v : Val} {x : V} {fp : List Addr} {ms : MA}
theorem tyV_of {d : D} (f : IsF κ) (h : Rep κ H d x) : TyV κ x H := by
  rcases ty_of f h with ⟨hno, ty⟩ | ⟨c, ds, C, names, e, ec, ty⟩
  · exact .inl ⟨_, tyNm_mem hno, ty⟩
  · exact .inr ⟨c, C, names, ec, ty⟩
theorem tri_mem2 {α β γ : Type} {R : α → β → γ → Prop} {as : List α} {bs : List β} {cs : List γ} (t : Tri R as bs cs) : ∀ b ∈ bs, ∃ a c, R a b c := by
  induction t with
  | nil => intro b hb; simp at hb
  | cons r t ih =>
    intro b hb
    rcases List.mem_cons.mp hb with rfl | hb
    · exact ⟨_, _, r⟩
    · exact ih b hb
theorem Held.sw {vs : List Val} {xs : List V} {fps : List (List Addr)} (b : Bool) (h : Held κ γ σ H vs xs fps) : ∃ gps, Held κ γ σ H (swp b vs) (swp b xs) gps ∧ ∀ a, a ∈ gps.flatten ↔ a ∈ fps.flatten := by
  cases b with
  | false => exact ⟨fps, h, fun _ => Iff.rfl⟩
  | true =>
    obtain ⟨t, nd, fr⟩ := h
    cases t with
    | nil => exact ⟨[], ⟨.nil, nd, fr⟩, fun _ => Iff.rfl⟩
    | cons r1 t =>
      cases t with
      | nil => exact ⟨_, ⟨.cons r1 .nil, nd, fr⟩, fun _ => Iff.rfl⟩
      | cons r2 t =>
        cases t with
        | nil =>
          rename_i v1 x1 f1 v2 x2 f2
          have hm : ∀ a, a ∈ [f2, f1].flatten ↔ a ∈ [f1, f2].flatten := fun a => by simp [or_comm]
          refine ⟨[f2, f1], ⟨.cons r2 (.cons r1 .nil), ?_, fun a ha => fr a ((hm a).mp ha)⟩, hm⟩
          have s1 := nodup_split nd
          have s2 : (f1 ++ f2).Nodup := by simpa using s1.2.1
          have s3 := nodup_split s2
          refine nodup_app s1.1 ?_ fun a ha hb => s1.2.2 a ha ((hm a).mp hb)
          simpa using nodup_app s3.2.1 s3.1 fun a ha hb => s3.2.2 a hb ha
        | cons r3 t => exact ⟨_, ⟨.cons r1 (.cons r2 (.cons r3 t)), nd, fr⟩, fun _ => Iff.rfl⟩
theorem tM_opO {rr : List V → Hp → VK → Prop} {op : Op} {Q : VK} {i n : Nat} {sw : Bool} {post : Option (D → Option D)} {mt : Nat → Option Cb} (isf : IsF κ) (hat : ∀ c cb, mt c = some cb → ∀ d ∈ cb.ds, isAtom d = true) (hr : OpS κ rr op)
    (h : tM κ XT W p (mOpO (ownR i n sw post mt) ms op) σ H Q) :
    tA κ XT W p ms σ H fun xs H1 => rr xs H1 Q ∨ ∃ c cb, OwnV κ mt i n c cb xs H1 ∧ rOwn κ XT (WE W σ) ⟨cb, sw, post⟩ xs H1 Q := by
  obtain ⟨γ, ft, c⟩ := h
  cases hm : ms γ.env with
  | no => exact ⟨γ, ft, by simp only [mOpO, hm, R.bind, R.map] at c; rw [hm]; exact c⟩
  | ex cc fs e => exact ⟨γ, ft, by simp only [mOpO, hm, R.bind, R.map] at c; rw [hm]; exact c⟩
  | ok vs e1 =>
    simp only [mOpO, hm, R.bind] at c
    cases ho : ownR i n sw post mt vs with
    | none =>
      rw [ho] at c
      have h2 : tM κ XT W p (mOp (fun _ => ms γ.env) op) σ H Q := ⟨γ, ft, by simp only [mOp, hm, R.bind]; exact c⟩
      have h3 := tM_op hr h2
      refine ⟨γ, ft, ?_⟩
      obtain ⟨γ', ft', c'⟩ := h2
      rw [hm]
      intro γ1 H1 xs fps ee ft1 r1 hl hn
      left
      subst ee
      cases hop : op vs γ1.env with
      | none => simp only [hop, R.map] at c; exact c.elim
      | some ve =>
        obtain ⟨v, e'⟩ := ve
        simp only [hop, R.map] at c
        refine hr γ1 σ H1 vs xs fps v e' Q ft1 hl hop fun γ2 H2 x fp e2 ft2 r2 hl2 hn2 => ?_
        have hB : ∀ a ∈ γ1.P ++ fps.flatten, a ∈ γ.P ∨ H a = none := fun a ha => (List.mem_append.mp ha).elim (r1.newP a) (hn.1 a)
        refine c γ2 H2 [x] [fp] e2 ft2 ((r1.trans r2 hB fun hp a ha => (List.mem_append.mp ha).imp id (hn.2 hp a)).weak fun z => by rw [z]; rfl) hl2 ⟨fun a ha => ?_, fun hp a ha hP => ?_⟩ x rfl
        · exact (hn2 a (by simpa using ha)).elim (hn.1 a) fun z => .inr (r1.mono a z)
        · rcases hn2 a (by simpa using ha) with z | z
          · exact hn.2 hp a z hP
          · exact (ft.fr a hP).2.2 (r1.mono a z)
    | some o =>
      rw [ho] at c
      refine ⟨γ, ft, ?_⟩
      rw [hm]
      intro γ1 H1 xs fps ee ft1 r1 hl hn
      right
      subst ee
      unfold ownR at ho
      split at ho
      · rename_i hlen
        split at ho
        · rename_i t cc ds hv
          obtain ⟨cb, hcb, rfl⟩ := Option.map_eq_some_iff.mp ho
          dsimp only at c
          unfold ownRun at c
          by_cases h0 : (cb.n == 0) = true
          · rw [if_pos h0] at c
            dsimp only at c
            refine ⟨cc, cb, ⟨by rw [← hl.tri.len1]; exact hlen, hcb, by simpa using h0, fun x hx => ?_, fun y hy => ?_⟩, ?_⟩
            · obtain ⟨b, f, hb, _, hr'⟩ := hl.tri.get hv
              rw [hb] at hx
              cases hx
              obtain ⟨a, C, dx, names, vs', e1, e2, e3⟩ := hr'.obj ft1
              exact ⟨a, C, names, dx, _, e1, e2, e3⟩
            · obtain ⟨a, f, hr'⟩ := tri_mem2 hl.tri y hy
              exact tyV_of isf (hr'.rep ft1)
            · obtain ⟨gps, hl2, hgp⟩ := hl.sw sw
              have hn2 : New p γ.P γ H gps.flatten := ⟨fun a ha => hn.1 a ((hgp a).mp ha), fun z a ha => hn.2 z a ((hgp a).mp ha)⟩
              refine run_sp (W := W) (Q := postQ post Q) (hat cc cb hcb) ft ft1 r1 hl2 hn2 ?_
              cases hrc : runC cb (swp sw vs) γ1.env with
              | no => rw [hrc] at c; exact c
              | ex c' fs e => rw [hrc] at c; exact c
              | ok v e =>
                rw [hrc] at c
                simp only [R.bind] at c
                have hw : (p && cb.n == 0) = p := by rw [h0, Bool.and_true]
                rw [hw]
                cases post with
                | none => exact c
                | some g =>
                  unfold applyPost at c
                  dsimp only at c
                  by_cases ha : isAtom v.d = true
                  · rw [if_pos ha] at c
                    cases hg : g v.d with
                    | none => rw [hg] at c; exact c.elim
                    | some d' =>
                      rw [hg] at c
                      dsimp only at c
                      by_cases ha' : isAtom d' = true
                      · rw [if_pos ha'] at c
                        intro γ2 H2 ys hps e2 ft2 r2 hl3 hn3 y ey
                        subst ey
                        obtain ⟨y', f', e3, e4, hv'⟩ := tri1 hl3.tri
                        cases e3
                        have ex := hv'.atom ft2 ha
                        exact ⟨v.d, d', ha, ex, hg, ha', c γ2 H2 [atomV d'] [[]] e2 ft2 r2 (held_atom ft2 ha') ⟨by simp, by simp⟩ _ rfl⟩
                      · rw [if_neg ha'] at c; exact c.elim
                  · rw [if_neg ha] at c; exact c.elim
          · rw [if_neg h0] at c; exact c.elim
        · cases ho
      · cases ho
end
end Py

set_option Elab.async false
set_option linter.all false
set_option maxRecDepth 100000
set_option maxHeartbeats 1000000
/-! PyZac: rules for operators by an own class's methods. -/
namespace Py
open PySem L2
/-- what the text's classes are among the types, for operators -/
structure OwF (κ : Kx) : Prop where
  nt : ∀ c C names, κ.CT.ct c = some (C, names) → ∀ s ∈ (["NoneType", "bool", "int", "str", "list", "tuple", "dict"] : List String), PySem.W.subIn κ.K (.type s) (.ref C) = some false
  nc : ∀ c C names c' C' names', κ.CT.ct c = some (C, names) → κ.CT.ct c' = some (C', names') → C' = C ∨ PySem.W.subIn κ.K (.ref C') (.ref C) = some false
  ne : ∀ c C names, κ.CT.ct c = some (C, names) → PySem.W.findIn κ.K (.ref C) "__ne__" = some (some (.builtin "object.__ne__"))
  fi : ∀ c C names f, κ.CT.ct c = some (C, names) → Meth κ.K C "__getitem__" f → PySem.W.fnIn κ.K f = true
def OpRS (X : Cx) (f : Value → Value → Sem Value) (r : St → R2) : Prop :=
  ∀ (pins : List (Addr × Obj)) (s : Shared) (σ : St) (H : Hp) (x y : V) (v u : Value) (Q : VK), Inv X pins σ H s → RelV x v → RelV y u → r σ x y H Q →
    wpAny (model X.prog X.w) X.A (f v u) (EP X pins σ Q) X.xe s
def CallRS (X : Cx) (f : Value) (r : St → List V → Hp → VK → Prop) : Prop :=
  ∀ (pins : List (Addr × Obj)) (s : Shared) (σ : St) (H : Hp) (xs : List V) (us : List Value) (Q : VK), Inv X pins σ H s → Vals xs us → r σ xs H Q →
    wpAny (model X.prog X.w) X.A (call f us) (EP X pins σ Q) X.xe s
def tOpS (r : St → R2) (ta tb : TE) : TE := fun σ H Q => ta σ H fun x H1 => tb σ H1 fun y H2 => r σ x y H2 Q
def tCBS (r : St → List V → Hp → VK → Prop) (t : TA) : TE := fun σ H Q => t σ H fun xs H1 => r σ xs H1 Q
section
variable {X : Cx} {CT : Cts} {XT : Nat → Option (Value × List Str)} {W : WX} {k : Nat} {pins : List (Addr × Obj)} {σ : St} {H : Hp} {s : Shared} {a b e : Expr} {es : List Expr} {ta tb : TE} {t : TA} {pos p0 : Pos} {mt : Nat → Option Cb} {mn : Str}
theorem pe_cmpS {op : CmpOp} {r : St → R2} (ho : OpRS X (compareOp op) r) (ha : PE X a ta) (hb : PE X b tb) (hm : behindInMarks op b = false) : PE X (.Compare a [op] [b] pos) (tOpS r ta tb) := by
  refine ⟨fun pins s σ H Q I h => ?_⟩
  exact wpAny_Compare1 (binT (R := fun x y H2 => r σ x y H2 Q) ha hb I h fun v u s2 x y H2 I2 rx ry q => ho pins s2 σ H2 x y v u Q I2 rx ry q) hm
theorem pt_cmpS {op : CmpOp} {r : St → R2} (ho : OpRS X (compareOp op) r) (ha : PE X a ta) (hb : PE X b tb) (hm : behindInMarks op b = false) : PT X (.Compare a [op] [b] pos) (tTest (tOpS r ta tb)) := by
  refine ⟨fun pins s σ H Q I h => ?_⟩
  refine wpAny_isTrue_Compare1 (thn (ha.run pins s σ H _ I h) fun v s1 ⟨x, H1, I1, r1, q1⟩ => thn (hb.run pins s1 σ H1 _ I1 q1) fun u s2 ⟨y, H2, I2, r2, q2⟩ =>
    thn (ho pins s2 σ H2 x y v u _ I2 r1 r2 q2) fun c s3 ⟨z, H3, I3, r3, k, e, q3⟩ => ?_) hm
  subst e
  cases r3
  exact wpAny_truthy_bool ⟨H3, I3, q3⟩
theorem pe_opS {op : Operator} {r : St → R2} (ho : OpRS X (binaryOp op) r) (ha : PE X a ta) (hb : PE X b tb) : PE X (.BinOp a op b pos) (tOpS r ta tb) := by
  refine ⟨fun pins s σ H Q I h => ?_⟩
  exact wpAny_BinOp (binT (R := fun x y H2 => r σ x y H2 Q) ha hb I h fun v u s2 x y H2 I2 rx ry q => ho pins s2 σ H2 x y v u Q I2 rx ry q)
theorem pe_callBS {x : Str} {id : String} {r : St → List V → Hp → VK → Prop} (hc : CallRS X (.builtin id) r) (hg : Gl X x) (hm : X.mg x = none) (hv : bootBuiltins x = some (.builtin id)) (ha : PA X (e :: es) t) (hn : x ≠ "__name__") (hdb : (x == ("__debug__" : Str)) = false)
    (he : starEach (e :: es) X.env = (false, eval e X.env) :: starEach es X.env) (hpl : (backTo pos (starEach es X.env)).any (·.1) = false) : PE X (.Call (.Name x p0) (e :: es) [] pos) (tCBS r t) := by
  refine ⟨fun pins s σ H Q I h => ?_⟩
  refine wpAny_Call_Name_kw (ld_blt I hg hm hv ?_ hn hdb)
  exact PyProof.Rows.callWith_builtin1 (thn (ha.run pos pins s σ H _ I h) fun us s1 ⟨vs, H1, I1, r1, q1⟩ => hc pins s1 σ H1 vs us Q I1 r1 q1) he hpl
/-- a method's def runs -/
theorem own_run {f : Addr} {cb : Cb} {vs : List V} {us : List Value} {Q : VK} (F : CbOk X.prog X.w X.K X.mg X.base CT XT k f cb) (hr : Room k X.A) (tk : Takes X W) (I : Inv X pins σ H s) (r : Vals vs us) (h : spF (kx X CT) XT cb.np cb.fm (vs ++ cb.ds.map atomV) H Q (WE W σ)) :
    wpAny (model X.prog X.w) X.A (call (.ref f) us) (EP X pins σ Q) X.xe s := by
  obtain ⟨fd, ps, ds, F1, F2, F3⟩ := F.ex
  exact run_fnSD (E := WE W) F1 hr F3 F2 (passAt tk σ) I r h
theorem own_run1 {f : Addr} {cb : Cb} {vs : List V} {us : List Value} {Q : VK} (F : CbOk X.prog X.w X.K X.mg X.base CT XT k f cb) (hr : Room (k + 1) X.A) (tk : Takes X W) (I : Inv X pins σ H s) (r : Vals vs us) (h : spF (kx X CT) XT cb.np cb.fm (vs ++ cb.ds.map atomV) H Q (WE W σ)) :
    wpAny (model X.prog X.w) X.A.in1 (call (.ref f) us) (EP X pins σ Q) X.xe s := by
  obtain ⟨fd, ps, ds, F1, F2, F3⟩ := F.ex
  have r2 : Vals (vs ++ cb.ds.map atomV) (us ++ ds) := r.append F2
  have hl : (us ++ ds).length = ps.length := by rw [← r2.length]; exact F1.len _ _ _ _ h
  refine wpAny_call (codeAny_mono (F1.run X.A.in1 X.stack s H ⟨us, []⟩ (us ++ ds) (vs ++ cb.ds.map atomV) Q (WE W σ) hr.in1 I.env0.in1 (F3 s us I.kIn hl) r2 h) fun r s' hq => ?_)
  cases r with
  | error e => exact passAt tk σ pins H s e s' I hq
  | ok fl =>
    cases fl with
    | ret u => exact I.after hq
    | next => exact False.elim hq
    | brk => exact False.elim hq
    | cont => exact False.elim hq
theorem cmpback {P : Value → Shared → Prop} {z : V} {v : Value} {s' : Shared} (r : RelV z v) (h : P v s') : PySem.W.CmpBack P v s' := by
  cases z with
  | non => cases (show v = Value.none from r); exact h
  | bl b => cases (show v = Value.bool b from r); exact h
  | int i => obtain ⟨t, e⟩ := (show ∃ t, v = Value.int i t from r); cases e; exact h
  | str x => obtain ⟨t, e⟩ := (show ∃ t, v = Value.str x t from r); cases e; exact h
  | byt b => obtain ⟨t, e⟩ := (show ∃ t, v = Value.bytes b t from r); cases e; exact h
  | flt b => obtain ⟨t, e⟩ := (show ∃ t, v = Value.float b t from r); cases e; exact h
  | ref a => cases (show v = Value.ref a from r); exact h
  | ty n => cases (show v = Value.type n from r); exact h
theorem inst_of {a C dx : Addr} {fs : List (Str × V)} (I : Inv X pins σ H s) (e : H a = some (.ins C dx fs)) : ∃ ox od, PySem.W.InstAt s.heap a ox C od ∧ ox.data = .plain := by
  obtain ⟨mA, J, _⟩ := ins_get I.hok e
  obtain ⟨od, J, _⟩ := J.look
  exact ⟨_, _, J, rfl⟩
theorem ty_look {c : Nat} {C : Addr} {names : List Str} {y : V} {u : Value} (f : OwF (kx X CT)) (hC : CT.ct c = some (C, names)) (I : Inv X pins σ H s) (ry : RelV y u) (h : TyV (kx X CT) y H) : ∃ tb, PySem.W.Looks (model X.prog X.w) s.heap (typeOf u) tb ∧ PySem.W.notFirst X.K C tb = true := by
  rcases h with ⟨n, hn, ty⟩ | ⟨c', C', names', hC', ty⟩
  · obtain ⟨P, kx, hP, _⟩ := kit_of I ry ty
    refine ⟨_, kx.ty _ _ I.kIn hP, ?_⟩
    unfold PySem.W.notFirst
    rw [f.nt c C names hC n hn]
    simp
  · obtain ⟨P, kx, hP, _⟩ := kit_of I ry ty
    refine ⟨_, kx.ty _ _ I.kIn hP, ?_⟩
    unfold PySem.W.notFirst
    rcases f.nc c C names c' C' names' hC hC' with e | e
    · subst e; simp
    · rw [e]; simp
abbrev MtA (X : Cx) (CT : Cts) (XT : Nat → Option (Value × List Str)) (k : Nat) (mn : Str) (mt : Nat → Option Cb) : Prop := MtOk X.prog X.w X.K X.mg X.base CT XT k mn mt
/-- x op y -/
theorem op_cmpO {op : CmpOp} {r2 : R2} (hop : ∀ a b, compareOp op a b = richCompare op a b) (hmn : (cmpInfo op).2.1 = mn) (f : OwF (kx X CT)) (M : MtA X CT XT k mn mt) (hr : Room k X.A) (tk : Takes X W) (ho : OpR X (compareOp op) r2) :
    OpRS X (compareOp op) fun σ x y H Q => r2 x y H Q ∨ ∃ c cb, OwnV (kx X CT) mt 0 2 c cb [x, y] H ∧ rOwn (kx X CT) XT (WE W σ) ⟨cb, false, none⟩ [x, y] H Q := by
  intro pins s σ H x y v u Q I rx ry h
  rcases h with h | ⟨c, cb, ov, q⟩
  · exact ho pins s σ H x y v u Q I rx ry h
  · obtain ⟨a, C, names, dx, fs, rfl, hC, ha⟩ := ov.rc x rfl
    cases (show v = Value.ref a from rx)
    obtain ⟨ox, od, J, _⟩ := inst_of I ha
    obtain ⟨tb, hb, hn⟩ := ty_look f hC I ry (ov.ty y (by simp))
    obtain ⟨cl, mn', g, me, F⟩ := M c cb C names ov.mt hC
    obtain ⟨m, hF⟩ := I.fr
    rw [hop]
    subst hmn
    refine PySem.W.cmp_K (op := op) hr.units0 hF I.ok.mod.kin J hb hn me.at_ me.fn ?_
    exact wpAny_mono (own_run (us := [.ref a, u]) (vs := [.ref a, y]) F hr tk I (.cons rfl (.cons ry .nil)) q) (fun w s' ⟨z', H', I', rz, qz⟩ => cmpback rz ⟨z', H', I', rz, qz⟩) fun _ _ x => x
def gBool : D → Option D
  | .bl b => some (.bl b)
  | _ => none
def gNotB : D → Option D
  | .bl b => some (.bl (!b))
  | _ => none
def gLenI : D → Option D
  | .int n => if (decide (0 ≤ n) && Nat.ble n.toNat 9223372036854775807) = true then some (.int n) else none
  | _ => none
/-- x != y by == -/
theorem op_neO {r2 : R2} (f : OwF (kx X CT)) (isf : IsF (kx X CT)) (M : MtA X CT XT k "__eq__" mt) (hr : Room (k + 1) X.A) (tk : Takes X W) (ho : OpR X (compareOp .NotEq) r2) :
    OpRS X (compareOp .NotEq) fun σ x y H Q => r2 x y H Q ∨ ∃ c cb, OwnV (kx X CT) mt 0 2 c cb [x, y] H ∧ rOwn (kx X CT) XT (WE W σ) ⟨cb, false, some gNotB⟩ [x, y] H Q := by
  intro pins s σ H x y v u Q I rx ry h
  rcases h with h | ⟨c, cb, ov, q⟩
  · exact ho pins s σ H x y v u Q I rx ry h
  · obtain ⟨a, C, names, dx, fs, rfl, hC, ha⟩ := ov.rc x rfl
    cases (show v = Value.ref a from rx)
    obtain ⟨ox, od, J, _⟩ := inst_of I ha
    obtain ⟨tb, hb, hn⟩ := ty_look f hC I ry (ov.ty y (by simp))
    obtain ⟨cl, mn', g, me, F⟩ := M c cb C names ov.mt hC
    obtain ⟨m, hF⟩ := I.fr
    show wpAny _ _ (richCompare .NotEq _ _) _ _ _
    refine PySem.W.ne_K (by have := hr.units; omega) hF I.ok.mod.kin J hb hn (f.ne c C names hC) (isf.hm c C names hC) me.at_ me.fn ?_
    refine wpAny_mono (own_run1 (us := [.ref a, u]) (vs := [.ref a, y]) F hr tk I (.cons rfl (.cons ry .nil)) q) (fun w s' ⟨z', H', I', rz, qz⟩ => ?_) fun _ _ x => x
    obtain ⟨d, d', h1, rfl, h3, h4, h5⟩ := qz
    cases d with
    | bl b0 =>
      cases h3
      cases (show w = Value.bool b0 from rz)
      exact ⟨b0, rfl, .bl (!b0), H', I', rfl, h5⟩
    | _ => cases h3
/-- x in y -/
theorem op_inO {r2 : R2} {neg : Bool} {op : CmpOp} (hop : op = if neg = true then .NotIn else .In) (M : MtA X CT XT k "__contains__" mt) (hr : Room k X.A) (tk : Takes X W) (ho : OpR X (compareOp op) r2) :
    OpRS X (compareOp op) fun σ x y H Q => r2 x y H Q ∨ ∃ c cb, OwnV (kx X CT) mt 1 2 c cb [x, y] H ∧ rOwn (kx X CT) XT (WE W σ) ⟨cb, true, some (if neg = true then gNotB else gBool)⟩ [x, y] H Q := by
  intro pins s σ H x y v u Q I rx ry h
  rcases h with h | ⟨c, cb, ov, q⟩
  · exact ho pins s σ H x y v u Q I rx ry h
  · obtain ⟨a, C, names, dx, fs, rfl, hC, ha⟩ := ov.rc y rfl
    cases (show u = Value.ref a from ry)
    obtain ⟨ox, od, J, _⟩ := inst_of I ha
    obtain ⟨cl, mn', g, me, F⟩ := M c cb C names ov.mt hC
    obtain ⟨m, hF⟩ := I.fr
    have run := own_run (us := [.ref a, v]) (vs := [.ref a, x]) F hr tk I (.cons rfl (.cons rx .nil)) q
    cases neg with
    | false =>
      subst hop
      refine PySem.W.in_K hF I.ok.mod.kin J me.at_ me.fn (wpAny_mono run (fun w s' ⟨z', H', I', rz, qz⟩ => ?_) fun _ _ x => x)
      obtain ⟨d, d', h1, rfl, h3, h4, h5⟩ := qz
      cases d with
      | bl b0 =>
        cases h3
        cases (show w = Value.bool b0 from rz)
        exact wpAny_truthy_bool ⟨.bl b0, H', I', rfl, h5⟩
      | _ => cases h3
    | true =>
      subst hop
      refine PySem.W.notIn_K hF I.ok.mod.kin J me.at_ me.fn (wpAny_mono run (fun w s' ⟨z', H', I', rz, qz⟩ => ?_) fun _ _ x => x)
      obtain ⟨d, d', h1, rfl, h3, h4, h5⟩ := qz
      cases d with
      | bl b0 =>
        cases h3
        cases (show w = Value.bool b0 from rz)
        exact wpAny_truthy_bool ⟨.bl (!b0), H', I', rfl, h5⟩
      | _ => cases h3
end
end Py

set_option Elab.async false
set_option linter.all false
set_option maxRecDepth 100000
set_option maxHeartbeats 1000000
/-! PyZad: len and items by an own class's methods; the rules by syntax. -/
namespace Py
open PySem L2
open PyProof.Rows (subscriptTail Subscript_)
def IxRS (X : Cx) (r : St → R2) : Prop :=
  ∀ (value slice : Expr) (pins : List (Addr × Obj)) (s : Shared) (σ : St) (H : Hp) (x y : V) (v u : Value) (Q : VK), Inv X pins σ H s → RelV x v → RelV y u → r σ x y H Q →
    (∀ o i, subscripted slice false o i = operate [o, i] (getItem o i)) → (∀ o i, subscripted slice true o i = runValue (.builtin "lifetime.subscript" ⟨[o, i], []⟩)) → wpAny (model X.prog X.w) X.A (subscriptTail value slice v u) (EP X pins σ Q) X.xe s
section
variable {X : Cx} {CT : Cts} {XT : Nat → Option (Value × List Str)} {W : WX} {k : Nat} {pins : List (Addr × Obj)} {σ : St} {H : Hp} {s : Shared} {a b e : Expr} {es : List Expr} {ta tb : TE} {t : TA} {pos p0 : Pos} {mt : Nat → Option Cb} {mn : Str} {p q : Bool} {ma mb : ME} {ms : MA}
theorem call_lenO {r : List V → Hp → VK → Prop} (M : MtA X CT XT k "__len__" mt) (hr : Room (k + 1) X.A) (tk : Takes X W) (ho : CallR X (.builtin "len") r) :
    CallRS X (.builtin "len") fun σ xs H Q => r xs H Q ∨ ∃ c cb, OwnV (kx X CT) mt 0 1 c cb xs H ∧ rOwn (kx X CT) XT (WE W σ) ⟨cb, false, some gLenI⟩ xs H Q := by
  intro pins s σ H xs us Q I rx h
  rcases h with h | ⟨c, cb, ov, q⟩
  · exact ho pins s σ H xs us Q I rx h
  · match xs, ov.len with
    | [x], _ =>
      obtain ⟨u, rfl, ru⟩ := rx.one
      obtain ⟨a, C, names, dx, fs, rfl, hC, ha⟩ := ov.rc x rfl
      cases (show u = Value.ref a from ru)
      obtain ⟨ox, od, J, _⟩ := inst_of I ha
      obtain ⟨cl, mn', g, me, F⟩ := M c cb C names ov.mt hC
      obtain ⟨m, hF⟩ := I.fr
      refine PySem.W.len_K hF I.ok.mod.kin J me.at_ me.fn (wpAny_mono (own_run1 (us := [.ref a]) (vs := [.ref a]) F hr tk I (.cons rfl .nil) q) (fun w s' ⟨z', H', I', rz, qz⟩ => ?_) fun _ _ x => x)
      obtain ⟨d, d', h1, rfl, h3, h4, h5⟩ := qz
      cases d with
      | int n =>
        have h3' : (if (decide (0 ≤ n) && Nat.ble n.toNat 9223372036854775807) = true then some (D.int n) else none) = some d' := h3
        by_cases hn : (decide (0 ≤ n) && Nat.ble n.toNat 9223372036854775807) = true
        · rw [if_pos hn] at h3'
          cases h3'
          obtain ⟨hn1, hn2⟩ := Bool.and_eq_true_iff.mp hn
          have hn1 := of_decide_eq_true hn1
          have hn2 := Nat.le_of_ble_eq_true hn2
          have hn : 0 ≤ n ∧ n < 9223372036854775808 := ⟨hn1, by omega⟩
          obtain ⟨t', e⟩ := (show ∃ t, w = Value.int n t from rz)
          cases e
          exact ⟨⟨hn.1, hn.2⟩, .int n, H', I'.tok _, ⟨_, rfl⟩, h5⟩
        · rw [if_neg hn] at h3'
          cases h3'
      | _ => cases h3
def notSliceE : Expr → Bool
  | .Slice _ _ _ _ => false
  | _ => true
theorem pe_ixS {r : St → R2} (hr : IxRS X r) (ha : PE X a ta) (hb : PE X b tb) (hs : notSliceE b = true) : PE X (.Subscript a b pos) (tOpS r ta tb) := by
  refine ⟨fun pins s σ H Q I h => ?_⟩
  exact Subscript_ (binT (R := fun x y H2 => r σ x y H2 Q) ha hb I h fun v u s2 x y H2 I2 rx ry q => hr a b pins s2 σ H2 x y v u Q I2 rx ry q (fun o i => by cases b <;> first | rfl | (cases hs; done)) (fun o i => by cases b <;> first | with_unfolding_all rfl | (cases hs; done)))
theorem ix_own {r2 : R2} (f : OwF (kx X CT)) (M : MtA X CT XT k "__getitem__" mt) (hr : Room (k + 1) X.A) (tk : Takes X W) (ho : IxR X r2) :
    IxRS X fun σ x y H Q => r2 x y H Q ∨ ∃ c cb, OwnV (kx X CT) mt 0 2 c cb [x, y] H ∧ rOwn (kx X CT) XT (WE W σ) ⟨cb, false, none⟩ [x, y] H Q := by
  intro value slice pins s σ H x y v u Q I rx ry h hs1 hs2
  rcases h with h | ⟨c, cb, ov, q⟩
  · exact ho value slice pins s σ H x y v u Q I rx ry h (hs1 _ _)
  · obtain ⟨a, C, names, dx, fs, rfl, hC, ha⟩ := ov.rc x rfl
    cases (show v = Value.ref a from rx)
    obtain ⟨ox, od, J, _⟩ := inst_of I ha
    obtain ⟨cl, mn', g, me, F⟩ := M c cb C names ov.mt hC
    obtain ⟨m, hF⟩ := I.fr
    exact PySem.W.sub_K hF I.ok.mod.kin J me.at_ (f.fi c C names g hC me) me.fn (own_run1 (us := [.ref a, u]) (vs := [.ref a, y]) F hr tk I (.cons rfl (.cons ry .nil)) q) (hs2 _ _)
/-- two values, then an operation that may be a method -/
theorem two_opO {r2 : R2} {op : Op} {i : Nat} {sw : Bool} {post : Option (D → Option D)} {Q : VK} (isf : IsF (kx X CT)) (hat : ∀ c cb, mt c = some cb → ∀ d ∈ cb.ds, isAtom d = true) (hs : OpS (kx X CT) (rOf r2) op)
    (h : tM (kx X CT) XT W (p && q) (mOpO (ownR i 2 sw post mt) (ev2 q ma mb) op) σ H Q) :
    tOpS (fun σ x y H Q => r2 x y H Q ∨ ∃ c cb, OwnV (kx X CT) mt i 2 c cb [x, y] H ∧ rOwn (kx X CT) XT (WE W σ) ⟨cb, sw, post⟩ [x, y] H Q) (tM (kx X CT) XT W p ma) (tM (kx X CT) XT W q mb) σ H Q := by
  refine tM.mono (fun x H1 z => tM.mono (fun y H2 w => ?_) z) (tA_two (tM_opO isf hat hs h))
  rcases w with ⟨x', y', e, w⟩ | w
  · cases e; exact .inl w
  · exact .inr w
theorem e_cmpO {op : CmpOp} {r2 : R2} {o : Op} {i : Nat} {sw : Bool} {post : Option (D → Option D)} (isf : IsF (kx X CT)) (hat : ∀ c cb, mt c = some cb → ∀ d ∈ cb.ds, isAtom d = true) (hs : OpS (kx X CT) (rOf r2) o)
    (ho : OpRS X (compareOp op) fun σ x y H Q => r2 x y H Q ∨ ∃ c cb, OwnV (kx X CT) mt i 2 c cb [x, y] H ∧ rOwn (kx X CT) XT (WE W σ) ⟨cb, sw, post⟩ [x, y] H Q)
    (ha : PE X a (tM (kx X CT) XT W p ma)) (hb : PE X b (tM (kx X CT) XT W q mb)) (hm : behindInMarks op b = false) : PE X (.Compare a [op] [b] pos) (tM (kx X CT) XT W (p && q) (mOpO (ownR i 2 sw post mt) (ev2 q ma mb) o)) :=
  PE.imp (pe_cmpS ho ha hb hm) fun σ H Q h => two_opO isf hat hs h
theorem t_cmpO {op : CmpOp} {r2 : R2} {o : Op} {i : Nat} {sw : Bool} {post : Option (D → Option D)} (isf : IsF (kx X CT)) (hat : ∀ c cb, mt c = some cb → ∀ d ∈ cb.ds, isAtom d = true) (hs : OpS (kx X CT) (rOf r2) o)
    (ho : OpRS X (compareOp op) fun σ x y H Q => r2 x y H Q ∨ ∃ c cb, OwnV (kx X CT) mt i 2 c cb [x, y] H ∧ rOwn (kx X CT) XT (WE W σ) ⟨cb, sw, post⟩ [x, y] H Q)
    (ha : PE X a (tM (kx X CT) XT W p ma)) (hb : PE X b (tM (kx X CT) XT W q mb)) (hm : behindInMarks op b = false) : PT X (.Compare a [op] [b] pos) (tT (kx X CT) XT W (p && q) (mOpO (ownR i 2 sw post mt) (ev2 q ma mb) o)) :=
  PT.imp (pt_cmpS ho ha hb hm) fun σ H Q h => two_opO isf hat hs h
theorem e_ixO {r2 : R2} {o : Op} (isf : IsF (kx X CT)) (hat : ∀ c cb, mt c = some cb → ∀ d ∈ cb.ds, isAtom d = true) (hs : OpS (kx X CT) (rOf r2) o)
    (ho : IxRS X fun σ x y H Q => r2 x y H Q ∨ ∃ c cb, OwnV (kx X CT) mt 0 2 c cb [x, y] H ∧ rOwn (kx X CT) XT (WE W σ) ⟨cb, false, none⟩ [x, y] H Q)
    (ha : PE X a (tM (kx X CT) XT W p ma)) (hb : PE X b (tM (kx X CT) XT W q mb)) (hm : notSliceE b = true) : PE X (.Subscript a b pos) (tM (kx X CT) XT W (p && q) (mOpO (ownR 0 2 false none mt) (ev2 q ma mb) o)) :=
  PE.imp (pe_ixS ho ha hb hm) fun σ H Q h => two_opO isf hat hs h
theorem e_lenO {x : Str} {r : List V → Hp → VK → Prop} {o : Op} {n : Nat} {post : Option (D → Option D)} {id : String} (isf : IsF (kx X CT)) (hat : ∀ c cb, mt c = some cb → ∀ d ∈ cb.ds, isAtom d = true) (hs : OpS (kx X CT) r o)
    (hc : CallRS X (.builtin id) fun σ xs H Q => r xs H Q ∨ ∃ c cb, OwnV (kx X CT) mt 0 n c cb xs H ∧ rOwn (kx X CT) XT (WE W σ) ⟨cb, false, post⟩ xs H Q)
    (hg : Gl X x) (hm : X.mg x = none) (hv : bootBuiltins x = some (.builtin id)) (ha : PA X (e :: es) (tA (kx X CT) XT W p ms)) (hn : x ≠ "__name__") (hdb : (x == ("__debug__" : Str)) = false)
    (he : starEach (e :: es) X.env = (false, eval e X.env) :: starEach es X.env) (hpl : (backTo pos (starEach es X.env)).any (·.1) = false) : PE X (.Call (.Name x p0) (e :: es) [] pos) (tM (kx X CT) XT W p (mOpO (ownR 0 n false post mt) ms o)) :=
  PE.imp (pe_callBS hc hg hm hv ha hn hdb he hpl) fun σ H Q h => tM_opO isf hat hs h
end
end Py

set_option Elab.async false
set_option linter.all false
set_option maxRecDepth 100000
set_option maxHeartbeats 4000000
/-! PyXa: own exception classes over ArithmeticError whose __init__ is a def of the text. -/
namespace Py
namespace XA
open PySem L2 PySem.W PySem.Calls PyProof.Rows PySem.HandSPX Builtin Builtin.ObjectAttr
abbrev aeTail : List Value := [.type "ArithmeticError", .type "Exception", .type "BaseException", .type "object"]
def refsAE : List Value → Bool
  | .ref _ :: r => refsAE r
  | l => l == aeTail
theorem ae_cases (l : List Value) (e : refsAE l = true) : (∃ c r, l = .ref c :: r ∧ refsAE r = true) ∨ l = aeTail := by
  match l, e with
  | [], e => exact .inr (beq_iff_eq.mp e)
  | v :: r, e =>
    cases v with
    | ref c => exact .inl ⟨c, r, rfl, e⟩
    | _ => exact .inr (beq_iff_eq.mp e)
theorem ae_pass (me : Value) : ∀ l : List Value, refsAE l = true → refuseLoop me "__setattr__" l = pure ()
  | [], e => absurd e (by decide)
  | a :: r, e => by
    rcases ae_cases (a :: r) e with ⟨c, r2, q, hr⟩ | q
    · cases q
      rw [refuseLoop_ref]
      exact ae_pass me _ hr
    · rw [q]
      exact F.store_ArithmeticError.passes me
theorem ae_has (Y : String) : ∀ l : List Value, refsAE l = true → l.contains (.type Y) = aeTail.contains (.type Y)
  | [], e => absurd e (by decide)
  | a :: r, e => by
    rcases ae_cases (a :: r) e with ⟨c, r2, q, hr⟩ | q
    · cases q
      rw [List.contains_cons, ae_has Y _ hr]
      rfl
    · rw [q]
theorem ae_ne {l : List Value} (e : refsAE l = true) : l.isEmpty = false := by
  cases l
  · exact absurd e (by decide)
  · rfl
section
variable {prog : Program} {w : World} {A : Around} {R : Result → Shared → Prop} {hp : Heap} {g : Array GenState} {dr : Drawn} {t : Nat} {os : OsState} {K : W.Frag} {nm : Str} {tk : Tok} {v : Value} {x C : Addr} {fv : Array Value} {cd : ClassData}
/-- the first field: the dict is made -/
theorem osa1 (hK : K.In hp) (hx : hp.get? x = some { cls := .ref C, data := .fields fv }) (hcd : W.clsIn K C = some cd) (hmr : refsAE cd.mro = true) (hdt : cd.hasDict = true) (hno : W.findIn K (.ref C) nm = some none)
    (hq : ∀ h2 tk2 dx, (∀ b o, b ≠ x → hp.get? b = some o → h2.get? b = some o) → hp.objs.size ≤ dx → dx ≠ x → h2.get? x = some { cls := .ref C, dict := some dx, data := .fields fv } →
      h2.Ns1 dx (fun y => if y = nm then some v else none) → R (.ok (.ret .none)) ⟨h2, g, dr, tk2, os⟩) :
    codeAny (model prog w) A (.call (.builtin "object.__setattr__") ⟨[.ref x, .str nm tk, v], []⟩) R ⟨hp, g, dr, t, os⟩ := by
  have J : W.InstAt hp x { cls := .ref C, data := .fields fv } C none := ⟨hx, rfl, rfl, trivial⟩
  have S0 := F.store_object
  have hnn := ae_ne hmr
  have hobj : cd.mro.contains (.type "object") = true := (ae_has "object" _ hmr).trans (by decide +kernel)
  have hxn : x ≠ hp.objs.size := Nat.ne_of_lt (Heap.lt_size hx)
  have isO : W.Looks (model prog w) hp (isInstance (.ref x) (.type "object")) true := J.type.andThen (W.looks_mroIn hK (by unfold W.mroIn; rw [hcd, Option.bind_some, if_neg (by rw [hnn]; decide), hobj]))
  refine codeAny_call_builtin S0.slot.plain S0.entry (@W.check_slot (model prog w) _ _ ⟨hp, g, dr, t, os⟩ "object.__setattr__" "object" "__setattr__" (.ref x) [.str nm tk, v] [] _ S0.kind S0.split isO (S0.args (.ref x) (.str nm tk) v) ?_)
  have lm : W.Looks (model prog w) hp (mroOf (.ref C)) cd.mro := (W.looks_clsIn hK hcd).andThen .now
  have ln : W.Looks (model prog w) hp (storeTaker? none) none := .now
  have lc : W.Looks (model prog w) hp (classData C) cd := W.looks_clsIn hK hcd
  rw [W.osa_eq, refuse_eq]
  refine wpAny_bind (wpAny_bind (J.type.at (wpAny_bind (lm.at ?_))))
  rw [ae_pass _ _ hmr]
  refine wpAny_pure (wpAny_bind (J.type.at (wpAny_bind ((W.looks_findIn hK hno).at (wpAny_bind (ln.at ?_))))))
  show wpAny _ _ (storeInOwnDict (.ref x) (.ref C) (.str nm tk) nm v false) _ _ _
  obtain ⟨_, _, _, _, _, hd, _, _, _, _, _⟩ := cd
  dsimp only at hdt
  subst hdt
  unfold storeInOwnDict ownDictForStores
  repeat (first | with_reducible refine store_in_new ?_ ?_ | with_reducible refine wpAny_loadPart_at hx ?_ | with_reducible refine lc.at ?_ | wp_step)
  · exact ⟨_, #[], _, (Heap.get?_update_ne _ _ _ _ hxn.symm).trans (Heap.get?_push_at rfl rfl), rfl, fun e he => absurd he (by simp), fun _ => rfl⟩
  · intro h2 tk2 hn2 hs
    have hx1 : (hp.push { cls := .type "dict", data := .dict #[] }).get? x = some { cls := .ref C, data := .fields fv } := Heap.get?_push_of_some _ hx
    refine hq h2 tk2 hp.objs.size (fun b o hb ho => ?_) (Nat.le_refl _) hxn.symm ?_ hn2
    · exact (hs.2 b (Nat.ne_of_lt (Heap.lt_size ho))).trans ((Heap.get?_update_ne _ _ _ _ hb).trans (Heap.get?_push_of_some _ ho))
    · exact (hs.2 x hxn).trans (Heap.get?_update_self _ hx1 rfl)
/-- a further field -/
theorem osa2 {dx : Addr} {m0 : Str → Option Value} {nl : List Str} (hK : K.In hp) (hx : hp.get? x = some { cls := .ref C, dict := some dx, data := .fields fv }) (hns : hp.Ns1 dx m0) (hw : Within m0 nl) (hz : nl.length ≤ 1000) (hcd : W.clsIn K C = some cd) (hmr : refsAE cd.mro = true) (hdt : cd.hasDict = true)
    (hno : W.findIn K (.ref C) nm = some none)
    (hq : ∀ h2 tk2, (∀ b o, b ≠ dx → hp.get? b = some o → h2.get? b = some o) → h2.Ns1 dx (fun y => if y = nm then some v else m0 y) → R (.ok (.ret .none)) ⟨h2, g, dr, tk2, os⟩) :
    codeAny (model prog w) A (.call (.builtin "object.__setattr__") ⟨[.ref x, .str nm tk, v], []⟩) R ⟨hp, g, dr, t, os⟩ := by
  obtain ⟨oD, _, _, hoD, _, _⟩ := hns.count hw
  have J : W.InstAt hp x { cls := .ref C, dict := some dx, data := .fields fv } C (some oD) := ⟨hx, rfl, rfl, hoD⟩
  have S0 := F.store_object
  have hnn := ae_ne hmr
  have hobj : cd.mro.contains (.type "object") = true := (ae_has "object" _ hmr).trans (by decide +kernel)
  have isO : W.Looks (model prog w) hp (isInstance (.ref x) (.type "object")) true := J.type.andThen (W.looks_mroIn hK (by unfold W.mroIn; rw [hcd, Option.bind_some, if_neg (by rw [hnn]; decide), hobj]))
  refine codeAny_call_builtin S0.slot.plain S0.entry (@W.check_slot (model prog w) _ _ ⟨hp, g, dr, t, os⟩ "object.__setattr__" "object" "__setattr__" (.ref x) [.str nm tk, v] [] _ S0.kind S0.split isO (S0.args (.ref x) (.str nm tk) v) ?_)
  have lm : W.Looks (model prog w) hp (mroOf (.ref C)) cd.mro := (W.looks_clsIn hK hcd).andThen .now
  have ln : W.Looks (model prog w) hp (storeTaker? none) none := .now
  have lc : W.Looks (model prog w) hp (classData C) cd := W.looks_clsIn hK hcd
  rw [W.osa_eq, refuse_eq]
  refine wpAny_bind (wpAny_bind (J.type.at (wpAny_bind (lm.at ?_))))
  rw [ae_pass _ _ hmr]
  refine wpAny_pure (wpAny_bind (J.type.at (wpAny_bind ((W.looks_findIn hK hno).at (wpAny_bind (ln.at ?_))))))
  show wpAny _ _ (storeInOwnDict (.ref x) (.ref C) (.str nm tk) nm v false) _ _ _
  obtain ⟨_, _, _, _, _, hd, _, _, _, _, _⟩ := cd
  dsimp only at hdt
  subst hdt
  unfold storeInOwnDict ownDictForStores
  repeat (first | with_reducible refine PySem.OEX.store_in_old hns hw hz ?_ | with_reducible refine wpAny_loadPart_at hx ?_ | with_reducible refine lc.at ?_ | wp_step)
  intro h2 tk2 hn2 hs
  exact hq h2 tk2 (fun b o hb ho => (hs.2 b hb).trans ho) hn2
end
/-- what the written part says of such a class -/
structure OexA (K : PySem.W.Frag) (C : Addr) : Prop where
  cls : ∃ nm q N bs bm sn sub ab col dd k0 k1 k2 k3 k5, K.lookup C = some (excClassObj nm q C N bs bm true sn sub ab col dd k0 k1 k2 k3 k5 "ArithmeticError.__new__") ∧ refsAE bm = true
  sa : PySem.W.findIn K (.ref C) "__setattr__" = some (some (.builtin "object.__setattr__"))
  exC : PySem.W.subIn K (.ref C) (.type "BaseException") = some true
  tyC : PySem.W.typeIn K (.ref C) = some (.type "type")
  kC : PySem.W.keepIn K (.ref C) = true
section
variable {X : Cx} {pins : List (Addr × Obj)} {σ : L2.St} {H : Hp} {s : Shared} {a C dx : Addr} {f : Str} {y : V} {u : Value} {fs : List (Str × V)} {Q : Unit → Shared → Prop} {E : Value → Shared → Prop} {A : Around}
theorem st1 (T : OexA X.K C) (I : Inv X pins σ H s) (e : H a = some (exo a C none)) (hno : PySem.W.findIn X.K (.ref C) f = some none) (ry : RelV y u)
    (h : ∀ dx s', H dx = none → dx ≠ a → Inv X pins σ (upd (upd H dx (exd dx [(f, y)])) a (exo a C (some dx))) s' → Q () s') : wpAny (model X.prog X.w) A (setAttr (.ref a) f u) Q E s := by
  obtain ⟨nm, q, N, bs, bm, sn, sub, ab, col, dd, k0, k1, k2, k3, k5, hC, hbm⟩ := T.cls
  have hcl : PySem.W.clsIn X.K C = some { name := nm, bases := bs, mro := .ref C :: bm, ns := N, qualname := q, hasDict := true, slotNames := sn, subclasses := sub, abstract := ab, collection := col, hasDel := false } := by unfold PySem.W.clsIn; rw [hC] <;> rfl
  obtain ⟨t1, ho⟩ := exo_at I.hok e
  obtain ⟨hp, g, d, t, os⟩ := s
  refine PySem.W.set_plain I.kIn (ox := { cls := .ref C, dict := none, data := .fields #[.ref t1, .none, .none, .none, .bool false, .none] }) (od := none) ⟨ho, rfl, rfl, trivial⟩ T.sa ?_
  refine osa1 I.kIn ho hcl (show refsAE (.ref C :: bm) = true from hbm) rfl hno (fun h2 tk2 dx k dn dne hx hn => ?_)
  have hnd : H dx = none := I.hok.fresh dn
  have nd : ∀ {b : Addr} {o : Obj}, hp.get? b = some o → b ≠ dx := fun {b o} q => Nat.ne_of_lt (Nat.lt_of_lt_of_le (Heap.lt_size q) dn)
  have na : ∀ {b : Addr}, H b = none → b ≠ a := fun {b} n z => by
    rw [z, e] at n
    cases n
  have U1 : Un X.fs [] H (upd (upd H dx (exd dx [(f, y)])) a (exo a C (some dx))) hp h2 := {
    keep := fun b o q n _ _ => k b o (na n) q
    slot := fun b o q n _ _ => ⟨o.slots, k b o (na n) q⟩
    free := fun b o q n _ => by rw [upd_ne (na n), upd_ne (nd q)]; exact n
    there := fun b o q _ => by
      by_cases hb : b = a
      · exact ⟨_, by rw [hb]; exact hx⟩
      · exact ⟨o, k b o hb q⟩
    tups := fun b xs q => by rw [upd_ne (at_ne e q exo_tup), upd_ne (ne_of_none q hnd)]; exact q
    frzs := fun b o v q => by rw [upd_ne (at_ne e q exo_frz), upd_ne (ne_of_none q hnd)]; exact q
    tbls := fun b ps q => ⟨#[], by rw [upd_ne (at_ne e q exo_tbl), upd_ne (ne_of_none q hnd), q]; simp⟩ }
  refine h dx _ hnd dne (I.un (t' := tk2) U1 fun b o q => ?_)
  by_cases hb : b = a
  · subst hb
    rw [upd_same] at q
    cases q
    exact exo_ok hx
  · rw [upd_ne hb] at q
    by_cases hd : b = dx
    · subst hd
      rw [upd_same] at q
      cases q
      exact exd_ok hn (relO_put (fs := []) ry fun g => True.intro)
    · rw [upd_ne hd] at q
      refine (I.hok b o q).stay (fun c v hc z => k c v ?_ z) (fun c hc => ?_) (fun c xs hc => ?_)
      · rcases hc with hc | hc
        · rw [hc]; exact hb
        · exact at_ne e hc exo_own
      · rw [upd_ne (at_ne e hc exo_own), upd_ne (ne_of_none hc hnd)]; exact hc
      · rw [upd_ne (at_ne e hc exo_tup), upd_ne (ne_of_none hc hnd)]; exact hc
theorem st2 (T : OexA X.K C) (I : Inv X pins σ H s) (e : H a = some (exo a C (some dx))) (ed : H dx = some (exd dx fs)) (hl : fs.length ≤ 900) (hno : PySem.W.findIn X.K (.ref C) f = some none) (ry : RelV y u)
    (h : ∀ s', Inv X pins σ (upd H dx (exd dx ((f, y) :: fs))) s' → Q () s') : wpAny (model X.prog X.w) A (setAttr (.ref a) f u) Q E s := by
  obtain ⟨nm, q, N, bs, bm, sn, sub, ab, col, dd, k0, k1, k2, k3, k5, hC, hbm⟩ := T.cls
  have hcl : PySem.W.clsIn X.K C = some { name := nm, bases := bs, mro := .ref C :: bm, ns := N, qualname := q, hasDict := true, slotNames := sn, subclasses := sub, abstract := ab, collection := col, hasDel := false } := by unfold PySem.W.clsIn; rw [hC] <;> rfl
  obtain ⟨t1, ho⟩ := exo_at I.hok e
  obtain ⟨mA, hns, rel⟩ := exd_at I.hok ed
  have hw := within_of rel
  obtain ⟨hp, g, d, t, os⟩ := s
  obtain ⟨oD, _, _, hoD, _, _⟩ := hns.count hw
  refine PySem.W.set_plain I.kIn (ox := { cls := .ref C, dict := some dx, data := .fields #[.ref t1, .none, .none, .none, .bool false, .none] }) (od := some oD) ⟨ho, rfl, rfl, hoD⟩ T.sa ?_
  refine osa2 I.kIn ho hns hw (by rw [List.length_map]; omega) hcl (show refsAE (.ref C :: bm) = true from hbm) rfl hno (fun h2 tk2 k hn => ?_)
  have hd : ∃ o, h2.get? dx = some o := by
    obtain ⟨o, _, _, e', _⟩ := hn
    exact ⟨o, e'⟩
  exact h _ (I.write (t' := tk2) (x := dx) (e := dx) (o := exd dx ((f, y) :: fs)) (by rw [ed]; exact True.intro) (.inl rfl) k hd (exd_ok hn (relO_put ry rel)))
end
/-- self.f = e, self an exception that is being made -/
def tOsA (K : PySem.W.Frag) (f : Str) (to te : TE) : TS := fun D σ H => te σ H fun y H1 => to σ H1 fun x H2 => ∃ a C : Addr, x = .ref a ∧ OexA K C ∧ PySem.W.findIn K (.ref C) f = some none ∧
  ((H2 a = some (exo a C none) ∧ ∀ dx, H2 dx = none → dx ≠ a → D.nx σ (upd (upd H2 dx (exd dx [(f, y)])) a (exo a C (some dx)))) ∨
    ∃ (dx : Addr) (fs : List (Str × V)), H2 a = some (exo a C (some dx)) ∧ H2 dx = some (exd dx fs) ∧ fs.length ≤ 900 ∧ D.nx σ (upd H2 dx (exd dx ((f, y) :: fs))))
section
variable {X : Cx} {o e : Expr} {es : List Expr} {to te : TE} {ta : TA} {f : Str} {p p' pos : Pos}
theorem ps_osA (ho : PE X o to) (he : PE X e te) (hs : swapsWith e (some (.Attribute o f p')) pos.line X.env = pure false) : PS X (.Assign [.Attribute o f p'] e pos) (tOsA X.K f to te) := by
  refine ⟨fun pins s σ H D I h => ?_⟩
  refine plainObj_wpAny_Assign_Attribute (thn (he.run pins s σ H _ I h) fun v s1 hh => ?_) hs
  obtain ⟨y, H1, I1, r1, q1⟩ := hh
  refine thn (ho.run pins s1 σ H1 _ I1 q1) fun u s2 hh => ?_
  obtain ⟨x, H2, I2, r2, a, C, ex, T, hno, q⟩ := hh
  subst ex
  obtain rfl : u = Value.ref a := r2
  rcases q with ⟨ea, q⟩ | ⟨dx, fs, ea, ed, hl, q⟩
  · exact st1 T I2 ea hno r1 fun dx s' n ne J => ⟨σ, _, J, q dx n ne⟩
  · exact st2 T I2 ea ed hl hno r1 fun s' J => ⟨σ, _, J, q⟩
/-- C(e, ..) of such a class -/
theorem pmkA {CX : CXT} {x : Str} {C fI : Addr} {k : Nat} {fd : FuncData} {ps : List Str} {sp : Sp} {W : WX} (T : OexA X.K C) (iC : PySem.W.findIn X.K (.ref C) "__init__" = some (some (.ref fI))) (tI : PySem.W.typeIn X.K (.ref fI) = some (.type "function"))
    (F1 : FnOk X.prog X.w X.K X.mg X.base CX k fI fd ps sp) (hr : Room (k + 1) X.A) (hb : Binds X.K fd ps []) (hx : Passes CX X (fun _ _ _ => False)) (hg : Gl X x) (hm : X.mg x = some (.ref C)) (ha : PA X (e :: es) ta)
    (hdb : (x == ("__debug__" : Str)) = false) (he : starEach (e :: es) X.env = (false, eval e X.env) :: starEach es X.env) (hpl : (backTo pos (starEach es X.env)).any (·.1) = false) :
    PMk X (.Call (.Name x p) (e :: es) [] pos) (tMkO C sp [] ta) := by
  intro pins s σ H Q I h
  obtain ⟨nm, q, N, bs, bm, sn, sub, ab, col, dd, k0, k1, k2, k3, k5, hC, hbm⟩ := T.cls
  refine wpAny_Call_Name_kw (ld_glob I hg hm ?_ hdb)
  refine PySem.W.callWith_K (h₀ := X.base) I.ok.mod.kin T.kC (thn (ha.run pos pins s σ H _ I h) fun us s1 hh => ⟨hh.elim fun _ z => z.elim fun _ z => z.1.kIn, ?_⟩) he hpl
  obtain ⟨vs, H1, I1, r1, hz, q1⟩ := hh
  show wpAny _ _ (call (.ref C) us) _ _ _
  obtain ⟨hp, g, dr, tk, os⟩ := s1
  have hsz : hp.objs.size ≤ hp.objs.size + 1 := Nat.le_succ _
  have hn : H1 (hp.objs.size + 1) = none := I1.hok.fresh hsz
  have hq := q1 (hp.objs.size + 1) hn
  rw [List.append_nil] at hq
  have kk : ∀ b o, hp.get? b = some o → ((hp.push (PySem.W.kdv_tup us)).push (PySem.HandSPX.excO C hp.objs.size)).get? b = some o := fun b o z => Heap.get?_push_of_some _ (Heap.get?_push_of_some _ z)
  have hget : ((hp.push (PySem.W.kdv_tup us)).push (PySem.HandSPX.excO C hp.objs.size)).get? (hp.objs.size + 1) = some (PySem.HandSPX.excO C hp.objs.size) := by heap_get
  have I2 : Inv X pins σ (upd H1 (hp.objs.size + 1) (exo (hp.objs.size + 1) C none)) ⟨(hp.push (PySem.W.kdv_tup us)).push (PySem.HandSPX.excO C hp.objs.size), g, dr, tk, os⟩ :=
    I1.laid (t' := tk) (a := hp.objs.size + 1) (o := exo (hp.objs.size + 1) C none) (h' := (hp.push (PySem.W.kdv_tup us)).push (PySem.HandSPX.excO C hp.objs.size)) kk hsz (exo_ok hget)
  have r2 : Vals (V.ref (hp.objs.size + 1) :: vs) (Value.ref (hp.objs.size + 1) :: us) := .cons rfl r1
  have hl : (Value.ref (hp.objs.size + 1) :: us ++ []).length = ps.length := by
    have z := r2.length
    rw [F1.len _ _ _ _ hq] at z
    rw [List.append_nil]
    exact z.symm
  have hus : us.length ≤ sizeLine := by
    rw [← Paired.length r1, sizeLine_eq]
    omega
  have hbb := hb _ (Value.ref (hp.objs.size + 1) :: us) I2.kIn hl
  rw [List.append_nil] at hbb
  refine wpAny_call (PySem.HandSPX.call_own F.excBase_ArithmeticError (fun Y => ae_has Y bm hbm) (I1.kIn _ _ hC) (PySem.W.looks_findIn I1.kIn iC) (fun self => PySem.W.bind_fn I1.kIn self tI) hus
    (codeAny_mono (F1.run _ X.stack _ _ ⟨Value.ref (hp.objs.size + 1) :: us, []⟩ (Value.ref (hp.objs.size + 1) :: us) _ _ (fun _ _ _ => False) (hr.make C us []) (I2.env0.make C us []) hbb r2 hq) fun r s' hq' => ?_))
  cases r with
  | error er => exact hx pins σ _ _ er s' I2 hq'
  | ok fl =>
    cases fl with
    | ret u =>
      obtain ⟨v, H2, os2, bare2, un2, hok2, rv, ev, d, fs, ea, ed, hd1, q2⟩ := hq'
      subst ev
      obtain ⟨h2, g2, d2, t2, os'⟩ := s'
      exact ⟨rv, mk_end (raises_own T.exC T.tyC) I1 hsz kk un2 hok2 os2 bare2 ea ed hd1 q2⟩
    | next => exact False.elim hq'
    | brk => exact False.elim hq'
    | cont => exact False.elim hq'
end
end XA
end Py

set_option Elab.async false
set_option linter.all false
set_option maxRecDepth 100000
set_option maxHeartbeats 4000000
/-! PyXb: an exception is made: its fields, one after the other. -/
namespace Py
open PySem L2 XA
/-- the fields of an exception, one after the other, frozen -/
def initR : List (Str × ME) → Env → R (List D)
  | [], e => .ok [] e
  | (_, m) :: r, e => (match m e with
    | .ok v e1 => (match frzV v e1 with
      | some (d, e2) => (initR r e2).map (d :: ·)
      | none => .no)
    | _ => .no)
/-- C(..), raised -/
def raiseF (c : Nat) (fl : List (Str × ME)) : FM := fun pe => match initR fl (.un :: pe) with
  | .ok ds _ => .ex c ds (pe.map fun _ => .un)
  | _ => .no
def er (Z : List Addr) (H : Hp) : Hp := fun b => if b ∈ Z then none else H b
theorem er_in {Z : List Addr} {H : Hp} {b : Addr} (h : b ∈ Z) : er Z H b = none := if_pos h
theorem er_out {Z : List Addr} {H : Hp} {b : Addr} (h : b ∉ Z) : er Z H b = H b := if_neg h
section
variable {κ : Kx} {XT : Nat → Option (Value × List Str)} {p q : Bool} {A B : List Addr} {γ γ0 γ1 γ2 : Gst} {σ σ1 σ2 : L2.St} {F F' G H H0 H1 H2 : Hp} {W : WX} {Ds : Ends} {X : Cx} {v : Val} {x : V} {fp Z : List Addr}
theorem SlotRep.off {s : Slot} {b : Option V} {f : List Addr} (h : ∀ a ∈ f, ∀ o, H a = some o → H1 a = some o) (e : SlotRep κ F G H s b f) : SlotRep κ F G H1 s b f := by
  cases s with
  | un => exact e
  | fz d => exact e
  | bo k d => exact e
  | xn c fs => exact e
  | ow k d => obtain ⟨x, e1, e2⟩ := e; exact ⟨x, e1, Lay.mono (Le.refl _) k d x f h e2⟩
  | mu k d => obtain ⟨x, e1, e2⟩ := e; exact ⟨x, e1, Lay.mono (Le.refl _) k d x f h e2⟩
  | lk k d => obtain ⟨x, e1, e2⟩ := e; exact ⟨x, e1, Lay.mono (Le.refl _) k d x f h e2⟩
  | lm k d => obtain ⟨x, e1, e2⟩ := e; exact ⟨x, e1, Lay.mono (Le.refl _) k d x f h e2⟩
/-- a heap that parts from this one where nothing of ours stands -/
theorem Fits.off (ft : Fits κ γ σ H) (h : ∀ b, b ∉ Z → H1 b = H b) (hz : ∀ b ∈ Z, γ.F b = none ∧ γ.G b = none ∧ b ∉ γ.P) : Fits κ γ σ H1 where
  lf := fun a o e => by
    have : a ∉ Z := fun z => by rw [(hz a z).1] at e; cases e
    rw [h a this]; exact ft.lf a o e
  lg := fun a o e => by
    have : a ∉ Z := fun z => by rw [(hz a z).2.1] at e; cases e
    rw [h a this]; exact ft.lg a o e
  nd := ft.nd
  fr := fun a ha => ⟨(ft.fr a ha).1, (ft.fr a ha).2.1, by
    have : a ∉ Z := fun z => (hz a z).2.2 ha
    rw [h a this]; exact (ft.fr a ha).2.2⟩
  sl := ft.sl.imp fun s b f hf e => e.off fun a ha o z => by
    have : a ∉ Z := fun y => (hz a y).2.2 (List.mem_flatten.mpr ⟨f, hf, ha⟩)
    rw [h a this]; exact z
theorem Reach.er (r : Reach p A γ H γ1 H1) (hz : ∀ b ∈ Z, b ∉ A) : Reach false A γ (er Z H) γ1 (er Z H1) where
  g := r.g
  f := r.f
  keep := fun a o e hA => by
    have : a ∉ Z := fun z => by rw [er_in z] at e; cases e
    rw [er_out this] at e ⊢
    exact r.keep a o e hA
  mono := fun a e => by
    by_cases z : a ∈ Z
    · exact er_in z
    · rw [er_out z] at e ⊢
      exact r.mono a e
  newF := fun a e => (r.newF a e).imp id fun y => y.imp id fun w => by
    by_cases z : a ∈ Z
    · exact er_in z
    · rw [er_out z]; exact w
  newP := fun a e => (r.newP a e).imp id fun w => by
    by_cases z : a ∈ Z
    · exact er_in z
    · rw [er_out z]; exact w
  mus := r.mus
  lks := r.lks
  pure := fun z => by cases z
/-- an exception under way: at a, its dict -/
structure Mid (κ : Kx) (C a : Addr) (γ0 : Gst) (H0 : Hp) (γ : Gst) (H : Hp) (st : Option Addr) (es : List (Str × V)) : Prop where
  at_ : H a = some (exo a C st)
  dct : ∀ d, st = some d → H d = some (exd d es) ∧ H0 d = none ∧ d ≠ a
  no : st = none → es = []
  off : ∀ b ∈ a :: st.toList, γ.F b = none ∧ γ.G b = none ∧ b ∉ γ.P
  rc : Reach false γ0.P γ0 H0 γ (er (a :: st.toList) H)
/-- the reading of the fields' stores -/
def tInit (κ : Kx) (XT : Nat → Option (Value × List Str)) (W : WX) : List (Str × ME) → TS
  | [] => tNext
  | (f, m) :: r => tSeq (tOsA κ.K f (tVar 0) (tM κ XT W false m)) (tInit κ XT W r)
theorem init_ok {C a : Addr} (T : OexA κ.K C) (hσ : σ[0]? = some (some (.ref a))) : ∀ {fl : List (Str × ME)} {γ : Gst} {H : Hp} {st : Option Addr} {es : List (Str × V)} {ns : List Str} {ds0 ds : List D} {vs0 : List V} {e' : Env},
    Fits κ γ σ H → Mid κ C a γ0 H0 γ H st es → (∀ q ∈ fl, PySem.W.findIn κ.K (.ref C) q.1 = some none) → initR fl γ.env = .ok ds e' → es.length + fl.length ≤ 900 → (ns ++ fl.map (·.1)).Nodup →
    Paired (Rep κ γ.F) ds0 vs0 → (∀ (i : Nat) n v, ns[i]? = some n → vs0[i]? = some v → es.lookup n = some v) → ns.length = vs0.length →
    (∀ γ' H' st' es' vs, γ'.env = e' → Fits κ γ' σ H' → Mid κ C a γ0 H0 γ' H' st' es' → Paired (Rep κ γ'.F) (ds0 ++ ds) vs → (∀ (i : Nat) n v, (ns ++ fl.map (·.1))[i]? = some n → vs[i]? = some v → es'.lookup n = some v) → ((st' = none) → st = none ∧ fl = []) → Ds.nx σ H') →
    tInit κ XT W fl Ds σ H
  | [], γ, H, st, es, ns, ds0, ds, vs0, e', ft, md, hno, hi, hl, nd, pr, lk, ln, k => by
    cases hi
    refine k γ H st es vs0 rfl ft md (by simpa using pr) (fun i n v h1 h2 => lk i n v (by simpa using h1) h2) fun z => ⟨z, rfl⟩
  | (f, m) :: r, γ, H, st, es, ns, ds0, ds, vs0, e', ft, md, hno, hi, hl, nd, pr, lk, ln, k => by
    unfold initR at hi
    cases hm : m γ.env with
    | no => rw [hm] at hi; cases hi
    | ex c fs e => rw [hm] at hi; cases hi
    | ok v e1 =>
      rw [hm] at hi
      dsimp only at hi
      cases hz : frzV v e1 with
      | none => rw [hz] at hi; cases hi
      | some dd =>
        obtain ⟨d, e2⟩ := dd
        rw [hz] at hi
        dsimp only at hi
        cases hr : initR r e2 with
        | no => rw [hr] at hi; cases hi
        | ex c fs e => rw [hr] at hi; cases hi
        | ok ds1 e3 =>
          rw [hr] at hi
          cases hi
          show tM κ XT W false m σ H _
          refine ⟨γ, ft, ?_⟩
          rw [hm]
          intro γ1 H1 xs fps ee ft1 r1 hl1 hn x ex
          subst ee
          subst ex
          obtain ⟨fp, rfl⟩ : ∃ fp, fps = [fp] := by
            have := hl1.tri.len2
            match fps, this with
            | [fp], _ => exact ⟨fp, rfl⟩
          have hza : frzAll [v] γ1.env = some ([d], e2) := by unfold frzAll; rw [hz]; rfl
          obtain ⟨γ2, eγ, ft2, r2, pr2, hP2⟩ := hl1.frz ft1 hza
          have r3 : Reach false γ.P γ H γ2 H1 := (r1.trans r2 (fun b hb => (List.mem_append.mp hb).elim (r1.newP b) fun z => hn.1 b z) (fun z => by cases z)).weak fun z => by cases z
          have hH : ∀ b ∈ a :: st.toList, H b ≠ none := by
            intro b hb
            rcases List.mem_cons.mp hb with rfl | hb
            · rw [md.at_]; simp
            · have : st = some b := by cases st <;> simp at hb; rw [hb]
              rw [(md.dct b this).1]; simp
          have hoff : ∀ b ∈ a :: st.toList, γ2.F b = none ∧ γ2.G b = none ∧ b ∉ γ2.P := by
            intro b hb
            obtain ⟨o1, o2, o3⟩ := md.off b hb
            refine ⟨?_, by rw [r3.g]; exact o2, fun z => (r3.newP b z).elim o3 (hH b hb)⟩
            cases hf : γ2.F b with
            | none => rfl
            | some o =>
              rcases r3.newF b (by rw [hf]; simp) with z | z | z
              · exact absurd o1 z
              · exact absurd z o3
              · exact absurd z (hH b hb)
          have hkeep : ∀ b ∈ a :: st.toList, H1 b = H b := by
            intro b hb
            cases hhb : H b with
            | none => exact absurd hhb (hH b hb)
            | some o => exact r3.keep b o hhb (md.off b hb).2.2
          have rc2 : Reach false γ0.P γ0 H0 γ2 (er (a :: st.toList) H1) := (md.rc.trans (r3.er fun b hb => (md.off b hb).2.2) (fun b hb => md.rc.newP b hb) (fun z => by cases z)).weak fun z => by cases z
          have pr3 : Paired (Rep κ γ2.F) (ds0 ++ [d]) (vs0 ++ [x]) := Paired.app (L2.Paired.mapP pr fun d v z => z.mono r3.f) pr2
          refine ⟨.ref a, hσ, a, C, rfl, T, hno _ List.mem_cons_self, ?_⟩
          have hnf : f ∉ ns := fun z => by
            have := (List.nodup_append.mp nd).2.2 f z f (by simp)
            exact this rfl
          have nd2 : ((ns ++ [f]) ++ r.map (·.1)).Nodup := by simpa using nd
          have lkn : ∀ (i : Nat) n w, (ns ++ [f])[i]? = some n → (vs0 ++ [x])[i]? = some w → ((f, x) :: es).lookup n = some w := by
            intro i n w h1 h2
            rw [lookup_put]
            by_cases hi : i < ns.length
            · rw [List.getElem?_append_left hi] at h1
              rw [List.getElem?_append_left (by omega)] at h2
              have hne : n ≠ f := fun z => hnf (z ▸ List.mem_of_getElem? h1)
              rw [if_neg hne]
              exact lk i n w h1 h2
            · rw [List.getElem?_append_right (by omega)] at h1
              rw [List.getElem?_append_right (by omega)] at h2
              have : i - ns.length = 0 := by
                have := (List.getElem?_eq_some_iff.mp h1).1
                simp at this; omega
              rw [this] at h1
              rw [← ln, this] at h2
              simp at h1 h2
              subst h1 h2
              simp
          have assoc : ds0 ++ d :: ds1 = (ds0 ++ [d]) ++ ds1 := by simp
          have assoc2 : ns ++ (f :: r.map (·.1)) = (ns ++ [f]) ++ r.map (·.1) := by simp
          cases st with
          | none =>
            have hes := md.no rfl
            subst hes
            left
            have ha1 : H1 a = some (exo a C none) := by rw [hkeep a (by simp)]; exact md.at_
            refine ⟨ha1, fun dx hdx hne => ?_⟩
            have hf3 : γ2.F dx = none := by
              cases hq : γ2.F dx with
              | none => rfl
              | some o => rw [ft2.lf dx o hq] at hdx; cases hdx
            have hg3 : γ2.G dx = none := by
              cases hq : γ2.G dx with
              | none => rfl
              | some o => rw [ft2.lg dx o hq] at hdx; cases hdx
            have hp3 : dx ∉ γ2.P := fun z => (ft2.fr dx z).2.2 hdx
            have off3 : ∀ b ∈ a :: (some dx).toList, γ2.F b = none ∧ γ2.G b = none ∧ b ∉ γ2.P := by
              intro b hb
              simp at hb
              rcases hb with rfl | rfl
              · exact hoff b (by simp)
              · exact ⟨hf3, hg3, hp3⟩
            have agree : ∀ b, b ∉ a :: (some dx).toList → upd (upd H1 dx (exd dx [(f, x)])) a (exo a C (some dx)) b = H1 b := fun b hb => by
              simp at hb
              rw [upd_ne hb.1, upd_ne hb.2]
            have hH0 : H0 dx = none := by
              have := rc2.mono dx (by rw [er_out (by simp [hne])]; exact hdx)
              exact this
            have erq : er (a :: (some dx).toList) (upd (upd H1 dx (exd dx [(f, x)])) a (exo a C (some dx))) = er (a :: (none : Option Addr).toList) H1 := by
              funext b
              by_cases hb : b ∈ a :: (some dx).toList
              · rw [er_in hb]
                simp at hb
                rcases hb with rfl | rfl
                · rw [er_in (by simp)]
                · rw [er_out (by simp [hne])]; exact hdx.symm
              · rw [er_out hb, agree b hb, er_out (by simp at hb ⊢; exact hb.1)]
            have md3 : Mid κ C a γ0 H0 γ2 (upd (upd H1 dx (exd dx [(f, x)])) a (exo a C (some dx))) (some dx) [(f, x)] :=
              ⟨upd_same, fun d' hd' => by cases hd'; exact ⟨by rw [upd_ne hne, upd_same], hH0, hne⟩, (fun z => by cases z), off3, by rw [erq]; exact rc2⟩
            have ft3 := ft2.off agree off3
            refine init_ok T hσ ft3 md3 (fun q hq => hno q (List.mem_cons_of_mem _ hq)) (by rw [eγ]; exact hr) (by simp at hl ⊢; omega) nd2 pr3 lkn (by simp [ln]) fun γ' H' st' es' vs h1 h2 h3 h4 h5 h6 => ?_
            exact k γ' H' st' es' vs h1 h2 h3 (by rw [assoc]; exact h4) (by rw [List.map_cons, assoc2]; exact h5) fun z => by cases (h6 z).1
          | some dx =>
            right
            obtain ⟨d1, d2, d3⟩ := md.dct dx rfl
            have ha1 : H1 a = some (exo a C (some dx)) := by rw [hkeep a (by simp)]; exact md.at_
            have hd1 : H1 dx = some (exd dx es) := by rw [hkeep dx (by simp)]; exact d1
            refine ⟨dx, es, ha1, hd1, by simp at hl; omega, ?_⟩
            have agree : ∀ b, b ∉ a :: (some dx).toList → upd H1 dx (exd dx ((f, x) :: es)) b = H1 b := fun b hb => by
              simp at hb
              rw [upd_ne hb.2]
            have erq : er (a :: (some dx).toList) (upd H1 dx (exd dx ((f, x) :: es))) = er (a :: (some dx).toList) H1 := by
              funext b
              by_cases hb : b ∈ a :: (some dx).toList
              · rw [er_in hb, er_in hb]
              · rw [er_out hb, agree b hb, er_out hb]
            have md3 : Mid κ C a γ0 H0 γ2 (upd H1 dx (exd dx ((f, x) :: es))) (some dx) ((f, x) :: es) :=
              ⟨by rw [upd_ne (Ne.symm d3)]; exact ha1, fun d' hd' => by cases hd'; exact ⟨upd_same, d2, d3⟩, (fun z => by cases z), hoff, by rw [erq]; exact rc2⟩
            have ft3 := ft2.off agree hoff
            refine init_ok T hσ ft3 md3 (fun q hq => hno q (List.mem_cons_of_mem _ hq)) (by rw [eγ]; exact hr) (by simp at hl ⊢; omega) nd2 pr3 lkn (by simp [ln]) fun γ' H' st' es' vs h1 h2 h3 h4 h5 h6 => ?_
            exact k γ' H' st' es' vs h1 h2 h3 (by rw [assoc]; exact h4) (by rw [List.map_cons, assoc2]; exact h5) fun z => by cases (h6 z).1
end
end Py

set_option Elab.async false
set_option linter.all false
set_option maxRecDepth 100000
set_option maxHeartbeats 4000000
/-! PyXc: the promise of an exception's __init__; raise. -/
namespace Py
open PySem L2 XA
theorem initR_len : ∀ {fl : List (Str × ME)} {e e' : Env} {ds : List D}, initR fl e = .ok ds e' → ds.length = fl.length
  | [], e, e', ds, h => by cases h; rfl
  | (f, m) :: r, e, e', ds, h => by
    unfold initR at h
    split at h
    · split at h
      · rename_i d e2 hz
        cases hr : initR r e2 with
        | ok ds1 e3 =>
          rw [hr] at h
          cases h
          simp [initR_len hr]
        | no => rw [hr] at h; cases h
        | ex c fs e => rw [hr] at h; cases h
      · cases h
    · cases h
/-- the promise of the __init__ of the exceptions' class at C -/
def spI (κ : Kx) (XT : Nat → Option (Value × List Str)) (C : Addr) (np : Nat) (fm : FM) : Sp := fun vs H Q _ => ∃ (a : Addr) (ws : List V) (H0 : Hp) (E : XK), vs = .ref a :: ws ∧ H0 a = none ∧ H = upd H0 a (exo a C none) ∧ spF κ XT np fm ws H0 (fun _ _ => False) E ∧
  ∀ (H2 : Hp) (d : Addr) (es : List (Str × V)), H2 a = some (exo a C (some d)) → H2 d = some (exd d es) → H0 d = none → E (.ref C) (some d) (upd (del H2 a) d (.xd es)) → Q .non H2
section
variable {κ : Kx} {XT : Nat → Option (Value × List Str)} {p q : Bool} {A B : List Addr} {γ γ0 γ1 γ2 : Gst} {σ σ1 σ2 : L2.St} {F F' G H H0 H1 H2 : Hp} {W : WX} {Ds : Ends} {X : Cx} {v : Val} {x : V} {fp Z : List Addr}
theorem tri_un (env : Env) (σ : L2.St) (h : env.length = σ.length) : Tri (SlotRep κ F G H) (env.map fun _ => Slot.un) σ (env.map fun _ => []) := by
  induction env generalizing σ with
  | nil => cases σ with
    | nil => exact .nil
    | cons _ _ => cases h
  | cons s r ih => cases σ with
    | nil => cases h
    | cons b σ => exact .cons rfl (ih σ (by simpa using h))
theorem flat_un (env : Env) : (env.map fun _ => ([] : List Addr)).flatten = [] := by
  induction env with
  | nil => rfl
  | cons s r ih => simpa using ih
theorem init_start {C a : Addr} {ws : List V} {c : Nat} {fl : List (Str × ME)} {E : XK} {names : List Str} (T : OexA κ.K C) (hX : XT c = some (.ref C, names)) (hn : names = fl.map (·.1)) (nd : names.Nodup) (hno : ∀ q ∈ fl, PySem.W.findIn κ.K (.ref C) q.1 = some none) (hne : fl ≠ []) (hlen : fl.length ≤ 900)
    (ha : H0 a = none) (hs : spF κ XT ws.length (raiseF c fl) ws H0 (fun _ _ => False) E) (k : ∀ (H2 : Hp) (d : Addr) (es : List (Str × V)), H2 a = some (exo a C (some d)) → H2 d = some (exd d es) → H0 d = none → E (.ref C) (some d) (upd (del H2 a) d (.xd es)) → Ds.nx (some (.ref a) :: ws.map some) H2) :
    tInit κ XT W fl Ds (some (.ref a) :: ws.map some) (upd H0 a (exo a C none)) := by
  obtain ⟨_, γ, ft, cf⟩ := hs
  unfold raiseF at cf
  have hF : γ.F a = none := by
    cases hq : γ.F a with
    | none => rfl
    | some o => rw [ft.lf a o hq] at ha; cases ha
  have hG : γ.G a = none := by
    cases hq : γ.G a with
    | none => rfl
    | some o => rw [ft.lg a o hq] at ha; cases ha
  have hP : a ∉ γ.P := fun z => (ft.fr a z).2.2 ha
  obtain ⟨γ1, rfl⟩ : ∃ γ1 : Gst, γ1 = ⟨γ.F, γ.G, .un :: γ.env, [] :: γ.fps⟩ := ⟨_, rfl⟩
  have eP : (⟨γ.F, γ.G, .un :: γ.env, [] :: γ.fps⟩ : Gst).P = γ.P := rfl
  have ft0 : Fits κ ⟨γ.F, γ.G, .un :: γ.env, [] :: γ.fps⟩ (some (.ref a) :: ws.map some) H0 := ⟨ft.lf, ft.lg, by rw [eP]; exact ft.nd, fun b hb => ft.fr b hb, .cons rfl ft.sl⟩
  have ft1 := ft0.heap (Le.upd (o := exo a C none) ha)
  have ere : er (a :: (none : Option Addr).toList) (upd H0 a (exo a C none)) = H0 := by
    funext b
    by_cases hb : b = a
    · subst hb; rw [er_in (by simp)]; exact ha.symm
    · rw [er_out (by simpa using hb), upd_ne hb]
  have md : Mid κ C a ⟨γ.F, γ.G, .un :: γ.env, [] :: γ.fps⟩ H0 ⟨γ.F, γ.G, .un :: γ.env, [] :: γ.fps⟩ (upd H0 a (exo a C none)) none [] := ⟨upd_same, (fun d z => by cases z), fun _ => rfl, fun b hb => by
      obtain rfl : b = a := by simpa using hb
      exact ⟨hF, hG, hP⟩, by rw [ere]; exact Reach.refl fun _ h => h⟩
  cases hi : initR fl (.un :: γ.env) with
  | no => rw [hi] at cf; exact cf.elim
  | ex c' fs e => rw [hi] at cf; exact cf.elim
  | ok ds e' =>
    rw [hi] at cf
    refine init_ok (ns := []) (ds0 := []) (vs0 := []) T rfl ft1 md hno hi (by simpa using hlen) (by rw [List.nil_append, ← hn]; exact nd) .nil (fun i n v h => by simp at h) rfl fun γ' H' st' es' vs h1 h2 h3 h4 h5 h6 => ?_
    cases st' with
    | none => exact absurd (h6 rfl).2 hne
    | some d =>
      obtain ⟨d1, d2, d3⟩ := h3.dct d rfl
      refine k H' d es' h3.at_ d1 d2 ?_
      have hout : ∀ b, b ∉ a :: (some d).toList → upd (del H' a) d (.xd es') b = H' b := fun b hb => by
        simp at hb
        rw [upd_ne hb.2, del_ne hb.1]
      refine cf ⟨γ'.F, γ'.G, γ.env.map fun _ => .un, γ.env.map fun _ => []⟩ _ (.ref C) (some d) rfl ?_ ?_ ?_
      · refine ⟨fun b o z => ?_, fun b o z => ?_, ?_, ?_, tri_un _ _ (by rw [ft.sl.len1])⟩
        · have hb : b ∉ a :: (some d).toList := fun y => by rw [(h3.off b y).1] at z; cases z
          rw [hout b hb]; exact h2.lf b o z
        · have hb : b ∉ a :: (some d).toList := fun y => by rw [(h3.off b y).2.1] at z; cases z
          rw [hout b hb]; exact h2.lg b o z
        · show (γ.env.map fun _ => ([] : List Addr)).flatten.Nodup
          rw [flat_un]; exact List.nodup_nil
        · intro b hb
          have : b ∈ (γ.env.map fun _ => ([] : List Addr)).flatten := hb
          rw [flat_un] at this
          cases this
      · refine ⟨h3.rc.f, fun b o z hA => ?_, fun b z => ?_, fun b z => h3.rc.newF b z, fun b hb => ?_⟩
        · have := h3.rc.keep b o z hA
          have hb : b ∉ a :: (some d).toList := fun y => by rw [er_in y] at this; cases this
          rw [hout b hb]
          rw [er_out hb] at this
          exact this
        · by_cases hb : b ∈ a :: (some d).toList
          · simp at hb
            rcases hb with rfl | rfl
            · exact ha
            · exact d2
          · rw [hout b hb] at z
            exact h3.rc.mono b (by rw [er_out hb]; exact z)
        · have : b ∈ (γ.env.map fun _ => ([] : List Addr)).flatten := hb
          rw [flat_un] at this
          cases this
      · refine ⟨names, vs, hX, by rw [hn, List.length_map, initR_len hi], by simpa using h4, .inr ⟨d, es', rfl, upd_same, fun i n w y1 y2 => h5 i n w (by rw [List.nil_append, ← hn]; exact y1) y2⟩⟩
/-- an exception's __init__ keeps its promise -/
theorem init_fn {P : Program} {w : World} {K : PySem.W.Frag} {mg : Str → Option Value} {base : Heap} {CT : Cts} {y qual : Str} {params : Arguments} {body : List Stmt} {scope : Scope} {dvs : List V} {kws : List (Str × V)} {f C : Addr} {fd : FuncData} {N ps names : List Str} {k c np : Nat} {fl : List (Str × ME)}
    (Fd : FunD K y qual params body scope dvs kws f fd) (S : FnScope N ps scope) (hN : N.length = ps.length) (hp : ps.length = np + 1) (T : OexA K C) (hX : XT c = some (.ref C, names)) (hn : names = fl.map (·.1)) (nd : names.Nodup) (hno : ∀ q ∈ fl, PySem.W.findIn K (.ref C) q.1 = some none) (hne : fl ≠ []) (hlen : fl.length ≤ 900)
    (hb : ∀ (cdv : Value) (A : Around) (outer : List PySem.Env) (s : Shared) (H : Hp) (E : XK), Room k (A.deeper (PyProof.Rows.envOfC qual scope s.heap.objs.size f cdv)) →
      PSs (cxOf (L2.CX P w) P w K mg base N qual scope f cdv A outer s H E) body (tInit ⟨K, CT⟩ XT (fun cls d _ H => E cls d H) fl)) :
    FnOk P w K mg base (L2.CX P w) (k + 1) f fd ps (spI ⟨K, CT⟩ XT C np (raiseF c fl)) :=
  Fd.ok S (fun vs H Q E h => by
      obtain ⟨a, ws, H0, E', rfl, h1, h2, h3, h4⟩ := h
      rw [List.length_cons, h3.1, hp]) fun cdv A outer s H vs Q E hr h => by
    obtain ⟨a, ws, H0, E', rfl, h1, rfl, h3, h4⟩ := h
    obtain rfl := h3.1
    refine ⟨_, hb cdv A outer s _ E hr, ?_⟩
    have e1 : L2.start N (.ref a :: ws) = some (.ref a) :: ws.map some := by
      unfold L2.start
      rw [hN, hp]
      simp
    rw [e1]
    exact init_start (κ := ⟨K, CT⟩) T hX hn nd hno hne hlen h1 h3 h4
/-- raise C(..) -/
def mRaise (fm : FM) (ms : MA) : MS := fun env => match (ms env).bind (callV 0 fm) with
  | .ex c fs e => .ex c fs e
  | _ => .no
theorem tS_raise {fm : FM} {ms : MA} (h : tS κ XT W (mRaise fm ms) Ds σ H) : tA κ XT W p ms σ H fun xs H1 => spF κ XT xs.length fm xs H1 (fun _ _ => False) fun cls d H' => W cls d σ H' := by
  have h2 : tM κ XT W (p && (0 : Nat) == 0) (mCall 0 fm ms) σ H (fun _ _ => False) := by
    obtain ⟨γ, ft, cc⟩ := h
    refine ⟨γ, ft, ?_⟩
    unfold mRaise at cc
    unfold mCall
    cases hm : (ms γ.env).bind (callV 0 fm) with
    | no => rw [hm] at cc; exact cc.elim
    | ok v e => rw [hm] at cc; exact cc.elim
    | ex c fs e =>
      rw [hm] at cc
      intro γ' H' cls d e1 f1 r1 xr
      exact cc γ' σ H' cls d ⟨e1, f1, r1, fun _ _ => rfl⟩ xr
  exact tM_call h2
theorem takes_no : Takes X (fun _ _ _ _ => False) := fun u s' h => by
  obtain ⟨_, _, _, _, _, _, _, _, _, _, _, _, _, _, _, _, w⟩ := h
  exact w.elim
theorem tA_len {ms : MA} {n : Nat} {Q : List V → Hp → Prop} (hl : ∀ env vs e', ms env = .ok vs e' → vs.length = n) (h : tA κ XT W p ms σ H Q) : tA κ XT W p ms σ H fun xs H1 => xs.length = n ∧ Q xs H1 := by
  obtain ⟨γ, ft, c⟩ := h
  refine ⟨γ, ft, ?_⟩
  cases hm : ms γ.env with
  | no => rw [hm] at c; exact c
  | ex cc fs e => rw [hm] at c; exact c
  | ok vs e =>
    rw [hm] at c
    intro γ1 H1 xs fps e1 f1 r1 h1 n1
    exact ⟨by rw [← h1.tri.len1]; exact hl _ _ _ hm, c γ1 H1 xs fps e1 f1 r1 h1 n1⟩
theorem ps_raiseA {fm : FM} {ms : MA} {x : Str} {C fI : Addr} {k : Nat} {fd : FuncData} {ps : List Str} {CT : Cts} {e : Expr} {es : List Expr} {p0 p1 pos : Pos} {np : Nat} (hc : X.calm = true) (tk : Takes X W) (T : OexA X.K C) (iC : PySem.W.findIn X.K (.ref C) "__init__" = some (some (.ref fI))) (tI : PySem.W.typeIn X.K (.ref fI) = some (.type "function"))
    (F1 : FnOk X.prog X.w X.K X.mg X.base (L2.CX X.prog X.w) k fI fd ps (spI (kx X CT) XT C np fm)) (hr : Room (k + 1) X.A) (hb : Binds X.K fd ps []) (hg : Gl X x) (hm : X.mg x = some (.ref C)) (ha : PA X (e :: es) (tA (kx X CT) XT W p ms)) (hl2 : np ≤ 1000) (hms : ∀ env vs e', ms env = .ok vs e' → vs.length = np)
    (hdb : (x == ("__debug__" : Str)) = false) (he : starEach (e :: es) X.env = (false, eval e X.env) :: starEach es X.env) (hpl : (backTo p1 (starEach es X.env)).any (·.1) = false) :
    PS X (.Raise (some (.Call (.Name x p0) (e :: es) [] p1)) none pos) (tS (kx X CT) XT W (mRaise fm ms)) := by
  refine PS.imp (ps_raise hc tk (pmkA (W := W) T iC tI F1 hr hb (passes_call takes_no fun _ _ _ _ z => z) hg hm ha hdb he hpl)) fun D σ H h => ?_
  refine tA.mono (fun xs H1 z => ?_) (tA_len hms (tS_raise (p := p) h))
  obtain ⟨hx, z⟩ := z
  refine ⟨by omega, fun a ha => ?_⟩
  rw [List.append_nil]
  refine ⟨a, xs, H1, fun cls d H' => W cls d σ H', rfl, ha, rfl, by rw [← hx]; exact z, fun H2 d es h1 h2 h3 h4 => ?_⟩
  exact ⟨rfl, d, es, h1, h2, h3, h4⟩
end
end Py

set_option Elab.async false
set_option linter.all false
set_option maxRecDepth 100000
set_option maxHeartbeats 4000000
/-! PyXd: try with several clauses, each with or without a name, and an else. -/
namespace Py
open PySem L2 PySem.Spec PyProof.Rows
abbrev Su := Addr → Value → Option Addr → TS
/-- the ends of a suite: its name is let go -/
def endO (o : Option Nat) (D : Ends) : Ends := match o with
  | none => D
  | some i => { nx := fun σ H => D.nx (σ.set i none) H, rt := D.rt, bk := fun σ H => D.bk (σ.set i none) H, ct := fun σ H => D.ct (σ.set i none) H }
def putO (o : Option Nat) (a : Addr) (σ : L2.St) : L2.St := match o with
  | none => σ
  | some i => σ.set i (some (.ref a))
/-- what the clauses wish, one after the other -/
def wHs (K : PySem.W.Frag) (Wo : WX) (D : Ends) : List (Value × Option Nat × Su) → WX
  | [] => Wo
  | (c, o, ts) :: r => fun cls d σ H => ∃ b, PySem.W.exmOne K cls c = some b ∧ (b = true → ∀ a, H a = none → ts a cls d (endO o D) (putO o a σ) H) ∧ (b = false → wHs K Wo D r cls d σ H)
/-- a clause's name and its slot -/
def SlOk (X : Cx) : Option Str → Option Nat → Prop
  | none, none => True
  | some n, some i => X.N[i]? = some n ∧ X.env.kindOf n = some .local
  | _, _ => False
inductive HsOk (X : Cx) : List ExceptHandler → List (Value × Option Nat × Su) → Prop
  | nil : HsOk X [] []
  | cons {x : Str} {c : Value} {n : Option Str} {o : Option Nat} {ts : Su} {b0 : Stmt} {su : List Stmt} {np hp : Pos} {hds : List ExceptHandler} {l : List (Value × Option Nat × Su)} (hc : Names X x c) (hs : SlOk X n o)
      (hb : ∀ (a : Addr) (oe : Obj) (cls : Value) (d : Option Addr) (pn : List (Addr × Obj)), Zc cls d oe → (∃ vs, oe.data = .fields vs) → PSs (X.suite a ((a, oe) :: pn)) (b0 :: su) (ts a cls d)) (r : HsOk X hds l) :
      HsOk X (.ExceptHandler (some (.Name x np)) n (b0 :: su) hp :: hds) ((c, o, ts) :: l)
section
variable {X : Cx} {body els : List Stmt} {h0 : ExceptHandler} {hds : List ExceptHandler} {l : List (Value × Option Nat × Su)} {pos : Pos} {tb : WX → TS} {te : TS} {Wo : WX}
theorem ps_tryA (ho : PSs X els te) (hN : X.N.Nodup) (hst : X.stack = X.env :: X.outer) (hf : X.env.frame = some X.env.locals) (tk : Takes X Wo)
    (hb : ∀ (W : WX) (pn : List (Addr × Obj)) (xe : Value → Shared → Prop), Takes (X.tr pn xe) W → PassesOwn (model X.prog X.w) X.A X.env xe → PSs (X.tr pn xe) body (tb W))
    (hh : HsOk X (h0 :: hds) l) : PS X (.Try body (h0 :: hds) els [] pos) (fun D σ H => tb (wHs X.K Wo D l) { D with nx := te D } σ H) := by
  refine ⟨fun pins s σ H D I h => ?_⟩
  have ok := I.ok
  have hfr : X.A.frames = some (X.env :: X.outer) := by rw [ok.frames, hst]
  refine wpAny_Try_except ?_
  refine wpAny_mono ((hb (wHs X.K Wo D l) (X.pn ++ pins) (fun e s1 => wpAny (model X.prog X.w) X.A (noteFrame e X.env) (fun _ s2 => wpAny (model X.prog X.w) X.A (setFlight e none) (fun _ s3 =>
    wpAny (model X.prog X.w) X.A (handleBy e X.env (h0 :: hds)) (SP X pins D) X.xe s3) X.xe s2) X.xe s1) (fun u s2 xx => ?_) PassesOwn.looking).run [] s σ H { D with nx := te D } (I.toTry _) h) (fun f s1 hsp => ?_) (fun e s1 he => he)
  · obtain ⟨a, B, sI, pins', σ1, H1, cls, d, rfl, J1, nb, up, sky, na, os, ag, w⟩ := xx
    have J : Inv X pins σ1 H1 sI := J1.ofTry ok
    have sk : Sky B (X.env :: X.outer) a (Zc cls d) X.env.locals s2.heap := by rw [← hst]; exact sky
    show wpAny (model X.prog X.w) X.A (noteFrame (.ref a) X.env) _ _ _
    refine Sky.land Zc.steady hfr hf sk fun h3 fl3 up3 => ?_
    have J3 : Inv X pins σ1 H1 { s2 with heap := h3 } := J.landed nb fl3.1 (up.trans up3) os ag
    obtain ⟨oe3, vs3, he3, hz3, hd3⟩ := fl3.there
    have nfr : a ∉ frs (X.env :: X.outer) := fun hm => by
      obtain ⟨_, o2, e2, hnf⟩ := fl3.2.2.1.mem hm
      rw [he3] at e2
      cases e2
      exact hnf _ hd3
    have nL : a ≠ X.env.locals := fun z => nfr (List.mem_filterMap.mpr ⟨X.env, List.mem_cons_self, by rw [hf, z]⟩)
    have nF : a ∉ X.fs := fun hm => by
      obtain ⟨e2, he, q⟩ := List.mem_filterMap.mp hm
      exact nfr (List.mem_filterMap.mpr ⟨e2, List.mem_cons_of_mem _ he, q⟩)
    have S3 := J3.suite he3 hd3 na nL nF
    have go : ∀ {hs2 : List ExceptHandler} {l2 : List (Value × Option Nat × Su)}, HsOk X hs2 l2 → wHs X.K Wo D l2 cls d σ1 H1 → wpAny (model X.prog X.w) X.A (handleBy (.ref a) X.env hs2) (SP X pins D) X.xe { s2 with heap := h3 } := by
      intro hs2 l2 hk
      induction hk with
      | nil =>
        intro w
        refine wpAny_handleBy_nil ?_
        obtain ⟨k1, k2, k3, oe, vs, T, oT, ts2, he, hz, hd, hv1, hr⟩ := id fl3
        unfold PySem.passOn
        refine wpAny_bind (wpAny_field he hd hv1 ?_)
        rw [if_neg (show ¬ ((Value.ref T == Value.none) = true) from by simp)]
        have fin : wpAny (model X.prog X.w) X.A (setFlight (.ref a) X.env.frame) (fun _ s4 => wpAny (model X.prog X.w) X.A (throw (.ref a) : Sem Flow) (SP X pins D) X.xe s4) X.xe { s2 with heap := h3 } := by
          rw [hf]
          refine HandSPX.setFlight_upZ fl3 fun h4 hh4 up4 => wpAny_throw (tk _ _ ?_)
          exact ⟨a, B, sI, pins, σ1, H1, cls, d, rfl, J, nb, (up.trans up3).trans up4, .inr (.inr (by rw [hst]; exact hh4)), na, os, ag, w⟩
        first
          | exact wpAny_bind (wpAny_pure (wpAny_bind fin))
          | exact wpAny_bind fin
      | @cons x c n o ts b0 su np hp hds2 l3 hc hso hbb r ih =>
        intro w
        obtain ⟨b, hb1, hyes, hno⟩ := w
        have LT : PySem.W.Looks (model X.prog X.w) h3 (typeOf (.ref a)) cls := fun A Q E s k q => wpAny_typeOf_ref (k _ _ he3) (by rw [hz3.1]; exact q)
        have LM := PySem.W.exm_one (M := model X.prog X.w) (J3.kIn) LT hb1
        have test : ∀ {Q : Value → Shared → Prop} {E : Value → Shared → Prop}, Q c { s2 with heap := h3 } → wpAny (model X.prog X.w) (X.A.mark (some (.ref a))) (eval (.Name x np) X.env) Q E { s2 with heap := h3 } := fun {Q E} q => by
          obtain ⟨hg, hdbg, hm | ⟨hm, hv, hnn⟩⟩ := hc
          · exact ld_glob (X := X.suite a ((a, oe3) :: (X.pn ++ pins))) S3 hg hm q hdbg
          · exact ld_blt (X := X.suite a ((a, oe3) :: (X.pn ++ pins))) S3 hg hm hv q hnn hdbg
        cases n with
        | none =>
          cases o with
          | some i => exact hso.elim
          | none =>
            refine wpAny_handleBy_cons (codeAny_handlers_test ?_) (by intro q; cases q)
            refine test (LM.here ?_)
            cases b with
            | false =>
              show wpAny _ X.A (handleBy (.ref a) X.env hds2) _ _ _
              exact ih (hno rfl)
            | true =>
              refine codeAny_handlers_suite ?_
              refine HandSPX.lands_againZ fl3 fun h4 fl4 up4 => ?_
              have J4 : Inv X pins σ1 H1 { s2 with heap := h4 } := J.landed nb fl4.1 ((up.trans up3).trans up4) os ag
              obtain ⟨oe4, vs4, he4, hz4, hd4⟩ := fl4.there
              have S4 := J4.suite he4 hd4 na nL nF
              refine wpAny_mono ((hbb a oe4 cls d (X.pn ++ pins) hz4 ⟨_, hd4⟩).run [] _ _ H1 _ S4 (hyes rfl a na)) (fun f s6 hsp => ?_) (fun _ _ z => False.elim z)
              cases f with
              | ret u =>
                obtain ⟨v6, σ6, H6, S6, r6, q6⟩ := hsp
                exact ⟨_, _, _, S6.unsuite ok, r6, q6⟩
              | _ =>
                obtain ⟨σ6, H6, S6, q6⟩ := hsp
                exact ⟨_, _, S6.unsuite ok, q6⟩
        | some n =>
          cases o with
          | none => exact hso.elim
          | some i =>
            obtain ⟨hi, hln⟩ := hso
            refine wpAny_handleBy_cons (codeAny_handlers_test ?_) (by intro q; cases q)
            refine test (LM.here ?_)
            cases b with
            | false =>
              show wpAny _ X.A (handleBy (.ref a) X.env hds2) _ _ _
              exact ih (hno rfl)
            | true =>
              refine codeAny_handlers_suite_as ?_
              refine HandSPX.lands_againZ fl3 fun h4 fl4 up4 => ?_
              have J4 : Inv X pins σ1 H1 { s2 with heap := h4 } := J.landed nb fl4.1 ((up.trans up3).trans up4) os ag
              obtain ⟨oe4, vs4, he4, hz4, hd4⟩ := fl4.there
              have S4 := J4.suite he4 hd4 na nL nF
              refine store_ok (X := X.suite a ((a, oe4) :: (X.pn ++ pins))) (v := .ref a) S4 hN hi (.inl hln) rfl (fun s5 S5 => ?_) (.inr hln)
              refine wpAny_mono ((hbb a oe4 cls d (X.pn ++ pins) hz4 ⟨_, hd4⟩).run [] s5 _ H1 _ S5 (hyes rfl a na)) (fun f s6 hsp => ?_) (fun _ _ z => False.elim z)
              have fin : ∀ {σ6 : L2.St} {H6 : Hp} {Q : Shared → Prop}, Inv (X.suite a ((a, oe4) :: (X.pn ++ pins))) [] σ6 H6 s6 → (∀ s7, Inv X pins (σ6.set i none) H6 s7 → Q s7) →
                  wpAny (model X.prog X.w) X.A (do bindName X.env n .none; unbindBehindTheSuite X.env n hp) (fun _ s7 => Q s7) X.xe s6 := fun {σ6 H6 Q} S6 hq => gone_ok (S6.unsuite ok) hN hi hln hq
              cases f with
              | ret u =>
                obtain ⟨v6, σ6, H6, S6, r6, q6⟩ := hsp
                exact fin S6 fun s7 J7 => ⟨_, _, _, J7, r6, q6⟩
              | _ =>
                obtain ⟨σ6, H6, S6, q6⟩ := hsp
                exact fin S6 fun s7 J7 => ⟨_, _, J7, q6⟩
    exact go hh w
  · cases f with
    | next =>
      obtain ⟨σ1, H1, J1, q⟩ := hsp
      exact ho.run pins s1 σ1 H1 D (J1.ofTry ok) q
    | ret u =>
      obtain ⟨v, σ1, H1, J1, r, q⟩ := hsp
      exact ⟨v, σ1, H1, J1.ofTry ok, r, q⟩
    | _ =>
      obtain ⟨σ1, H1, J1, q⟩ := hsp
      exact ⟨σ1, H1, J1.ofTry ok, q⟩
end
end Py

set_option Elab.async false
set_option linter.all false
set_option maxRecDepth 100000
set_option maxHeartbeats 4000000
/-! PyXe: what stands in an except suite. -/
namespace Py
open PySem L2
mutual
inductive Hx where
  | no | c (d : D) | fld (f : Str) | tup (l : Hxs)
inductive Hxs where
  | nil | cons (a : Hx) (r : Hxs)
end
abbrev HV := Nat → List D → Option D
def hAll : List HV → Nat → List D → Option (List D)
  | [], _, _ => some []
  | h :: r, c, fs => (match h c fs, hAll r c fs with
    | some d, some ds => some (d :: ds)
    | _, _ => none)
def hFld (XN : Nat → List Str) (f : Str) : HV := fun c fs => match (XN c).findIdx? (fun y => f == y) with
  | some i => fs[i]?
  | none => none
def hTup (l : List HV) : HV := fun c fs => if l.length ≤ 1000 then (hAll l c fs).map .tup else none
mutual
def hxV (XN : Nat → List Str) : Hx → HV
  | .no => fun _ _ => none
  | .c d => fun _ _ => some d
  | .fld f => hFld XN f
  | .tup l => hTup (hxVs XN l)
def hxVs (XN : Nat → List Str) : Hxs → List HV
  | .nil => []
  | .cons a r => hxV XN a :: hxVs XN r
end
section
variable {κ : Kx} {XT : Nat → Option (Value × List Str)} {p q : Bool} {A B : List Addr} {γ γ0 γ1 γ2 : Gst} {σ σ1 σ2 : L2.St} {F F' G H H0 H1 H2 : Hp} {W : WX} {Ds : Ends} {X : Cx} {v : Val} {x : V} {fp Z : List Addr}
/-- some frozen things more -/
structure More (κ : Kx) (σ : L2.St) (γ : Gst) (H : Hp) (γ' : Gst) (H' : Hp) : Prop where
  ft : Fits κ γ' σ H'
  env : γ'.env = γ.env
  g : γ'.G = γ.G
  fps : γ'.fps = γ.fps
  f : Le γ.F γ'.F
  h : Le H H'
  newF : ∀ a, γ'.F a ≠ none → γ.F a ≠ none ∨ H a = none
theorem More.refl (ft : Fits κ γ σ H) : More κ σ γ H γ H := ⟨ft, rfl, rfl, rfl, Le.refl _, Le.refl _, fun _ h => .inl h⟩
theorem none_le (h : Le H H1) {a : Addr} (e : H1 a = none) : H a = none := by
  cases hh : H a with
  | none => rfl
  | some o => rw [h a o hh] at e; cases e
theorem More.trans (m : More κ σ γ H γ1 H1) (n : More κ σ γ1 H1 γ2 H2) : More κ σ γ H γ2 H2 :=
  ⟨n.ft, n.env.trans m.env, n.g.trans m.g, n.fps.trans m.fps, m.f.trans n.f, m.h.trans n.h, fun a z => (n.newF a z).elim (m.newF a) fun y => .inr (none_le m.h y)⟩
theorem More.P (m : More κ σ γ H γ1 H1) : γ1.P = γ.P := by unfold Gst.P; rw [m.fps]
theorem More.reach (m : More κ σ γ H γ1 H1) (hA : ∀ a ∈ γ.P, a ∈ A) : Reach p A γ H γ1 H1 where
  g := m.g
  f := m.f
  keep := fun a o h _ => m.h a o h
  mono := fun a h => none_le m.h h
  newF := fun a h => (m.newF a h).imp id .inr
  newP := fun a h => by rw [m.P] at h; exact .inl (hA a h)
  mus := fun i h => by rw [m.env]; exact h
  lks := fun i s h _ => by rw [m.env]; exact h
  pure := fun _ => ⟨fun a o h _ => m.h a o h, fun a h => .inl (by rw [m.P]; exact h)⟩
theorem XRep.more {c : Nat} {fs : List D} {cls : Value} {d : Option Addr} (hF : Le F F') (hH : Le H H1) (x : XRep κ F H XT c fs cls d) : XRep κ F' H1 XT c fs cls d := by
  obtain ⟨names, vs, e1, e2, e3, e4⟩ := x.is
  refine ⟨names, vs, e1, e2, L2.Paired.mapP e3 fun d v z => z.mono hF, e4.imp id fun z => ?_⟩
  obtain ⟨dx, es, q1, q2, q3⟩ := z
  exact ⟨dx, es, q1, hH _ _ q2, q3⟩
/-- the reading of a value in a suite: slot i (if any) holds the exception -/
def tHx (κ : Kx) (XT : Nat → Option (Value × List Str)) (o : Option Nat) (a : Addr) (cls : Value) (d : Option Addr) (h : HV) : TE := fun σ H Q => ∃ γ c fs dv, Fits κ γ σ H ∧ (∀ i, o = some i → σ[i]? = some (some (.ref a))) ∧ XRep κ γ.F H XT c fs cls d ∧ h c fs = some dv ∧
  ∀ γ' H' x, More κ σ γ H γ' H' → Rep κ γ'.F dv x → Q x H'
def tHs (κ : Kx) (XT : Nat → Option (Value × List Str)) (o : Option Nat) (a : Addr) (cls : Value) (d : Option Addr) (l : List HV) : TA := fun σ H Q => ∃ γ c fs ds, Fits κ γ σ H ∧ (∀ i, o = some i → σ[i]? = some (some (.ref a))) ∧ XRep κ γ.F H XT c fs cls d ∧ hAll l c fs = some ds ∧
  ∀ γ' H' xs, More κ σ γ H γ' H' → Paired (Rep κ γ'.F) ds xs → Q xs H'
/-- the context of a suite -/
structure Hot (X : Cx) (XS : Cx) (a : Addr) (cls : Value) (d : Option Addr) : Prop where
  is : ∃ oe pn, XS = X.suite a ((a, oe) :: pn) ∧ Zc cls d oe ∧ ∃ vs, oe.data = .fields vs
variable {XS : Cx} {o : Option Nat} {a : Addr} {cls : Value} {d : Option Addr} {h : HV} {l : List HV} {e : Expr} {es : List Expr} {pos : Pos} {CT : Cts}
theorem hx_c {dd : D} (ha : isAtom dd = true) (he : PE XS e (tC (atomV dd))) : PE XS e (tHx κ XT o a cls d fun _ _ => some dd) := PE.imp he fun σ H Q z => by
  obtain ⟨γ, c, fs, dv, ft, _, _, e1, k⟩ := z
  cases e1
  exact k γ H _ (More.refl ft) ((rep_atom ha).mpr rfl)
theorem hx_fld {i : Nat} {f n : Str} {XN : Nat → List Str} {p1 : Pos} (hot : Hot X XS a cls d) (hxt : ∀ c v nms, XT c = some (v, nms) → XN c = nms ∧ ∃ C, v = .ref C ∧ XfC X.K C ∧ ∀ f ∈ nms, PySem.W.findIn X.K (.ref C) f = some none)
    (hi : X.N[i]? = some n) (hv : Vis X.env.scope n) (hd1 : (n == ("__debug__" : Str)) = false) (hd2 : (n == ("__classdict__" : Str)) = false) :
    PE XS (.Attribute (.Name n p1) f pos) (tHx (kx X CT) XT (some i) a cls d (hFld XN f)) := by
  obtain ⟨oe, pn, rfl, hz, hf⟩ := hot.is
  refine ⟨fun pins s σ H Q I z => ?_⟩
  obtain ⟨γ, c, fs, dv, ft, hs, xr, e1, k⟩ := z
  obtain ⟨names, vs, x1, x2, x3, x4⟩ := xr.is
  obtain ⟨y1, C, rfl, y2, y3⟩ := hxt _ _ _ x1
  unfold hFld at e1
  rw [y1] at e1
  cases hj : names.findIdx? (fun y => f == y) with
  | none => rw [hj] at e1; cases e1
  | some j =>
    rw [hj] at e1
    dsimp only at e1
    obtain ⟨j1, j2, _⟩ := List.findIdx?_eq_some_iff_getElem.mp hj
    have jn : names[j]? = some f := by
      have : f = names[j] := by simpa using j2
      rw [List.getElem?_eq_getElem j1, ← this]
    rcases x4 with z | ⟨dx, ee, rfl, q2, q3⟩
    · rw [z] at e1; simp at e1
    · obtain ⟨w, hw, rw_⟩ := Py.Paired.get x3 e1
      have he : PE (X.suite a ((a, oe) :: pn)) (.Name n p1) (tVar i) := pe_var (X := X.suite a ((a, oe) :: pn)) hi hv hd1 hd2
      refine (pe_xf (pos := pos) (n := f) y2 (y3 f (List.mem_of_getElem? jn)) hz hf he).run pins s σ H Q I ?_
      exact ⟨.ref a, hs i rfl, rfl, rfl, dx, ee, w, rfl, q2, q3 j f w jn hw, k γ H w (More.refl ft) rw_⟩
theorem hs_nil : PA XS [] (tHs κ XT o a cls d []) := ⟨fun pos pins s σ H Q I z => by
  obtain ⟨γ, c, fs, ds, ft, _, _, e1, k⟩ := z
  cases e1
  exact pa_nil.run pos pins s σ H Q I (k γ H [] (More.refl ft) .nil)⟩
theorem hs_cons (hs : notStar e = true) (he : PE XS e (tHx κ XT o a cls d h)) (hr : PA XS es (tHs κ XT o a cls d l)) : PA XS (e :: es) (tHs κ XT o a cls d (h :: l)) := by
  refine ⟨fun pos pins s σ H Q I z => ?_⟩
  refine (pa_cons he hr (star_cons hs)).run pos pins s σ H Q I ?_
  obtain ⟨γ, c, fs, ds, ft, h1, xr, e1, k⟩ := z
  unfold hAll at e1
  cases hh : h c fs with
  | none => simp only [hh] at e1; cases e1
  | some dv =>
    cases hl : hAll l c fs with
    | none => simp only [hh, hl] at e1; cases e1
    | some ds1 =>
      simp only [hh, hl] at e1
      cases e1
      refine ⟨γ, c, fs, dv, ft, h1, xr, hh, fun γ1 H1 x m1 r1 => ?_⟩
      refine ⟨γ1, c, fs, ds1, m1.ft, h1, xr.more m1.f m1.h, hl, fun γ2 H2 xs m2 r2 => ?_⟩
      exact k γ2 H2 (x :: xs) (m1.trans m2) (.cons (r1.mono m2.f) r2)
theorem hAll_len : ∀ {l : List HV} {c : Nat} {fs ds : List D}, hAll l c fs = some ds → ds.length = l.length
  | [], c, fs, ds, h => by cases h; rfl
  | h :: r, c, fs, ds, e => by
    unfold hAll at e
    cases hh : h c fs with
    | none => simp only [hh] at e; cases e
    | some dv =>
      cases hl : hAll r c fs with
      | none => simp only [hh, hl] at e; cases e
      | some ds1 => simp only [hh, hl] at e; cases e; simp [hAll_len hl]
theorem hx_tup {x1 : Nat} (hr : PA XS es (tHs κ XT o a cls d l)) : PE XS (.Tuple es x1 pos) (tHx κ XT o a cls d (hTup l)) := by
  refine ⟨fun pins s σ H Q I z => (pe_tup hr).run pins s σ H Q I ?_⟩
  obtain ⟨γ, c, fs, dv, ft, h1, xr, e1, k⟩ := z
  unfold hTup at e1
  split at e1
  · rename_i hl
    cases ha : hAll l c fs with
    | none => rw [ha] at e1; cases e1
    | some ds =>
      rw [ha] at e1
      cases e1
      refine ⟨γ, c, fs, ds, ft, h1, xr, ha, fun γ1 H1 xs m1 r1 => ?_⟩
      have hlen : xs.length ≤ 1000 := by rw [← PySem.Paired.length r1, hAll_len ha]; exact hl
      refine ⟨Nat.le_trans hlen (by decide), fun t ht => ?_⟩
      obtain ⟨w1, w2, w3⟩ := new_tup (A := γ1.P) m1.ft r1 ht fun b hb => hb
      refine k (γ1.add t (.tup xs)) _ (.ref t) (m1.trans ⟨w1, rfl, rfl, rfl, w2.f, Le.upd ht, fun b z => ?_⟩) w3.one.1
      by_cases hb : b = t
      · subst hb; exact .inr ht
      · refine .inl fun y => z ?_
        show upd γ1.F t (.tup xs) b = none
        rw [upd_ne hb]; exact y
  · cases e1
end
end Py

set_option Elab.async false
set_option linter.all false
set_option maxRecDepth 100000
set_option maxHeartbeats 4000000
/-! PyXf: try. -/
namespace Py
open PySem L2
/-- a suite: one statement -/
inductive Hs where
  | no | ret (h : HV) | set (j : Nat) (h : HV)
/-- a clause: which classes it takes, its name's slot, its suite -/
structure Hc where
  m : Nat → Bool
  o : Option Nat
  s : Hs
def clrO (o : Option Nat) (e : Env) : Env := match o with
  | none => e
  | some i => e.set i .un
def freeO (o : Option Nat) (e : Env) : Bool := match o with
  | none => true
  | some i => free e[i]?
def hsRun (o : Option Nat) (s : Hs) (c : Nat) (fs : List D) (e : Env) : Fl := match s with
  | .no => .no
  | .ret h => (match h c fs with
    | some d => .rt ⟨.f, d⟩ (clrO o e)
    | none => .no)
  | .set j h => (match h c fs with
    | some d => (match setSlot j ⟨.f, d⟩ (clrO o e) with
      | some e1 => .nx (clrO o e1)
      | none => .no)
    | none => .no)
def mHand : List Hc → Nat → List D → Env → Fl
  | [], c, fs, e => .ex c fs e
  | h :: r, c, fs, e => if h.m c = true then (if freeO h.o e = true then hsRun h.o h.s c fs e else .no) else mHand r c fs e
def mTry (b : MS) (hs : List Hc) (els : MS) : MS := fun env => match b env with
  | .nx e => els e
  | .ex c fs e => mHand hs c fs e
  | r => r
section
variable {κ : Kx} {XT : Nat → Option (Value × List Str)} {p q : Bool} {A B : List Addr} {γ γ0 γ1 γ2 : Gst} {σ σ1 σ2 : L2.St} {F F' G H H0 H1 H2 : Hp} {W : WX} {Ds : Ends} {X : Cx} {v : Val} {x : V} {fp Z : List Addr}
def tSu (κ : Kx) (XT : Nat → Option (Value × List Str)) (o : Option Nat) (s : Hs) : Su := fun a cls d => match s with
  | .no => fun _ _ _ => False
  | .ret h => tRet (tHx κ XT o a cls d h)
  | .set j h => tAsg (tHx κ XT o a cls d h) (gName j)
theorem set_len {α : Type} {l : List α} {i : Nat} {a b : α} (h : l[i]? = some a) : (l.set i b)[i]? = some b := by
  obtain ⟨h1, _⟩ := List.getElem?_eq_some_iff.mp h
  simp [h1]
/-- the name takes the exception -/
theorem hold_ok {o : Option Nat} {a : Addr} (ft : Fits κ γ σ H) (hA : ∀ b ∈ γ.P, b ∈ A) (hf : freeO o γ.env = true) : ∃ γ1, γ1.env = clrO o γ.env ∧ Fits κ γ1 (putO o a σ) H ∧ γ1.F = γ.F ∧ Reach false A γ H γ1 H ∧ (∀ b ∈ γ1.P, b ∈ γ.P) ∧ (∀ i, o = some i → (putO o a σ)[i]? = some (some (.ref a))) ∧
    ∀ j, Mu γ.env j ∨ Lk γ.env j → (putO o a σ)[j]? = σ[j]? := by
  cases o with
  | none => exact ⟨γ, rfl, ft, rfl, Reach.refl hA, fun _ h => h, (fun i z => by cases z), fun _ _ => rfl⟩
  | some i =>
    have hnm := free_not_mu hf
    have hnl := free_not_lk hf
    have hi : ∃ s, γ.env[i]? = some s := by
      cases h : γ.env[i]? with
      | none => simp only [freeO, h] at hf; cases hf
      | some s => exact ⟨s, rfl⟩
    obtain ⟨s, hs⟩ := hi
    obtain ⟨b, f, hb, _, _⟩ := ft.slot hs
    refine ⟨γ.put i .un [], rfl, ft.put (s := .un) (x := some (.ref a)) rfl List.nodup_nil (by simp) (by simp), rfl, Reach.put hA (by simp) hnm hnl, fun c hc => (γ.put_P hc).elim (fun z => by cases z) id, fun j z => ?_, fun j hj => ?_⟩
    · cases z
      exact set_len hb
    · have hne : i ≠ j := fun z => by subst z; exact hj.elim hnm hnl
      exact get_set_ne hne
def dropO (o : Option Nat) (σ : L2.St) : L2.St := match o with
  | none => σ
  | some i => σ.set i none
/-- the name is let go -/
theorem gone_fit {o : Option Nat} (ft : Fits κ γ σ H) (hA : ∀ b ∈ γ.P, b ∈ A) (hf : freeO o γ.env = true) : ∃ γ1, γ1.env = clrO o γ.env ∧ Fits κ γ1 (dropO o σ) H ∧ Reach false A γ H γ1 H ∧
    ∀ j, Mu γ.env j ∨ Lk γ.env j → (dropO o σ)[j]? = σ[j]? := by
  cases o with
  | none => exact ⟨γ, rfl, ft, Reach.refl hA, fun _ _ => rfl⟩
  | some i =>
    have hnm := free_not_mu hf
    have hnl := free_not_lk hf
    refine ⟨γ.put i .un [], rfl, ft.put (s := .un) (x := none) rfl List.nodup_nil (by simp) (by simp), Reach.put hA (by simp) hnm hnl, fun j hj => ?_⟩
    have hne : i ≠ j := fun z => by subst z; exact hj.elim hnm hnl
    exact get_set_ne hne
theorem free_set {e : Env} {i : Nat} (h : free e[i]? = true) : free (e.set i .un)[i]? = true := by
  have hi : ∃ s, e[i]? = some s := by
    cases h2 : e[i]? with
    | none => simp only [h2] at h; cases h
    | some s => exact ⟨s, rfl⟩
  obtain ⟨s, hs⟩ := hi
  rw [set_len hs]; rfl
theorem free_clr {o : Option Nat} {e : Env} (h : freeO o e = true) : freeO o (clrO o e) = true := by
  cases o with
  | none => rfl
  | some i => exact free_set h
theorem free_slot {j : Nat} {d : D} {e e1 : Env} {o : Option Nat} (h : setSlot j ⟨.f, d⟩ e = some e1) (hf : freeO o e = true) : freeO o e1 = true := by
  cases o with
  | none => rfl
  | some i =>
    simp only [setSlot, slotOf] at h
    split at h
    · rename_i hj
      cases h
      by_cases hij : j = i
      · subst hij
        have hi : ∃ s, e[j]? = some s := by
          cases h2 : e[j]? with
          | none => simp only [h2] at hj; cases hj
          | some s => exact ⟨s, rfl⟩
        obtain ⟨s, hs⟩ := hi
        simp only [freeO]
        rw [set_len hs]; rfl
      · simp only [freeO]
        rw [get_set_ne hij]; exact hf
    · cases h
theorem suite_ok {o : Option Nat} {s : Hs} {c : Nat} {fs : List D} {e : Env} {cls : Value} {d : Option Addr} {a : Addr} (g : Got κ A γ σ H e γ1 σ1 H1) (hA : ∀ b ∈ γ1.P, b ∈ A ∨ H b = none) (xr : XRep κ γ1.F H1 XT c fs cls d) (hf : freeO o e = true) (k : ContS κ XT W A γ σ H Ds (hsRun o s c fs e)) :
    tSu κ XT o s a cls d (endO o Ds) (putO o a σ1) H1 := by
  obtain ⟨rfl⟩ := g.env
  obtain ⟨γ2, e2, ft2, eF, r2, hP, ho, pin⟩ := hold_ok (a := a) (A := γ1.P) g.ft (fun _ h => h) hf
  have xr2 : XRep κ γ2.F H1 XT c fs cls d := by rw [eF]; exact xr
  have go2 : Got κ γ1.P γ1 σ1 H1 (clrO o γ1.env) γ2 (putO o a σ1) H1 := ⟨e2, ft2, r2, pin⟩
  unfold hsRun at k
  cases s with
  | no => exact k
  | ret h =>
    dsimp only at k
    cases hh : h c fs with
    | none => simp only [hh] at k; exact k.elim
    | some dv =>
      simp only [hh] at k
      refine ⟨γ2, c, fs, dv, ft2, ho, xr2, hh, fun γ3 H3 y m3 r3 => ?_⟩
      have go3 : Got κ γ2.P γ2 (putO o a σ1) H1 (clrO o γ1.env) γ3 (putO o a σ1) H3 := ⟨m3.env.trans e2, m3.ft, m3.reach fun _ h => h, fun _ _ => rfl⟩
      have := k γ3 (putO o a σ1) H3 y [] ((g.trans go2 g.rc.newP).trans go3 (fun b hb => g.rc.newP b (hP b hb))) (Held.mk1 (v := ⟨.f, dv⟩) ⟨r3, rfl⟩ List.nodup_nil (by simp) m3.ft (by simp)) (by simp)
      cases o <;> exact this
  | set j h =>
    dsimp only at k
    cases hh : h c fs with
    | none => simp only [hh] at k; exact k.elim
    | some dv =>
      simp only [hh] at k
      cases hs : setSlot j ⟨.f, dv⟩ (clrO o γ1.env) with
      | none => simp only [hs] at k; exact k.elim
      | some e4 =>
        simp only [hs] at k
        refine ⟨γ2, c, fs, dv, ft2, ho, xr2, hh, fun γ3 H3 y m3 r3 => ?_⟩
        have e3 : γ3.env = clrO o γ1.env := m3.env.trans e2
        have go3 : Got κ γ2.P γ2 (putO o a σ1) H1 (clrO o γ1.env) γ3 (putO o a σ1) H3 := ⟨e3, m3.ft, m3.reach fun _ h => h, fun _ _ => rfl⟩
        obtain ⟨γ4, e4', ft4, r4, pin4⟩ := set_ok (i := j) (A := γ3.P) m3.ft (Held.mk1 (v := ⟨.f, dv⟩) (fp := []) ⟨r3, rfl⟩ List.nodup_nil (by simp) m3.ft (by simp)) (fun _ h => h) (by simp) (by rw [e3]; exact hs)
        have go4 : Got κ γ3.P γ3 (putO o a σ1) H3 e4 γ4 ((putO o a σ1).set j (some y)) H3 := ⟨e4', ft4, r4, pin4⟩
        have hf4 : freeO o γ4.env = true := by rw [e4']; exact free_slot hs (free_clr hf)
        obtain ⟨γ5, e5, ft5, r5, pin5⟩ := gone_fit (A := γ4.P) ft4 (fun _ h => h) hf4
        have go5 : Got κ γ4.P γ4 ((putO o a σ1).set j (some y)) H3 (clrO o e4) γ5 (dropO o ((putO o a σ1).set j (some y))) H3 := ⟨by rw [e5, e4'], ft5, r5, pin5⟩
        have q1 := (g.trans go2 g.rc.newP)
        have q2 := q1.trans go3 q1.rc.newP
        have q3 := q2.trans go4 q2.rc.newP
        have q4 := q3.trans go5 q3.rc.newP
        have := k γ5 _ H3 q4
        show (endO o Ds).nx ((putO o a σ1).set j (some y)) H3
        cases o <;> exact this
/-- the clauses with the values of their classes -/
def hList (κ : Kx) (XT : Nat → Option (Value × List Str)) : List (Value × Hc) → List (Value × Option Nat × Su) := fun l => l.map fun q => (q.1, q.2.o, tSu κ XT q.2.o q.2.s)
theorem hand_ok {c : Nat} {fs : List D} {e : Env} {cls : Value} {d : Option Addr} (g : Got κ A γ σ H e γ1 σ1 H1) (hA : ∀ b ∈ γ1.P, b ∈ A ∨ H b = none) (xr : XRep κ γ1.F H1 XT c fs cls d) : ∀ {l : List (Value × Hc)}, (∀ q ∈ l, ∀ c cls nms, XT c = some (cls, nms) → PySem.W.exmOne κ.K cls q.1 = some (q.2.m c)) →
    ContS κ XT W A γ σ H Ds (mHand (l.map (·.2)) c fs e) → wHs κ.K W Ds (hList κ XT l) cls d σ1 H1
  | [], _, k => k γ1 σ1 H1 cls d g xr
  | (cv, h) :: l, hm, k => by
    obtain ⟨names, vs, x1, _⟩ := xr.is
    refine ⟨h.m c, hm _ List.mem_cons_self c cls names x1, fun hb a ha => ?_, fun hb => ?_⟩
    · simp only [List.map_cons, mHand, hb] at k
      by_cases hf : freeO h.o e = true
      · simp only [hf] at k
        exact suite_ok g hA xr hf k
      · simp only [hf] at k
        exact k.elim
    · simp only [List.map_cons, mHand, hb] at k
      exact hand_ok g hA xr (fun q hq => hm q (List.mem_cons_of_mem _ hq)) k
theorem tS_try {b els : MS} {l : List (Value × Hc)} (hm : ∀ q ∈ l, ∀ c cls nms, XT c = some (cls, nms) → PySem.W.exmOne κ.K cls q.1 = some (q.2.m c)) (h : tS κ XT W (mTry b (l.map (·.2)) els) Ds σ H) :
    tS κ XT (wHs κ.K W Ds (hList κ XT l)) b { Ds with nx := tS κ XT W els Ds } σ H := by
  obtain ⟨γ, ft, c⟩ := h
  refine ⟨γ, ft, ?_⟩
  unfold mTry at c
  cases hb : b γ.env with
  | no => simp only [hb] at c; exact c
  | nx e =>
    simp only [hb] at c
    intro γ1 σ1 H1 g
    exact tS.at g c
  | rt v e => simp only [hb] at c; exact c
  | bk e => simp only [hb] at c; exact c
  | ct e => simp only [hb] at c; exact c
  | ex cc fs e =>
    simp only [hb] at c
    intro γ1 σ1 H1 cls d g xr
    exact hand_ok g g.rc.newP xr hm c
end
end Py

set_option Elab.async false
set_option linter.all false
set_option maxRecDepth 100000
set_option maxHeartbeats 1000000
/-! PyDa: dicts: looked up, stored to. -/
namespace Py
open PySem L2
/-- a key of a dict: t: of tuples (that begin with an int) -/
def keyD : Bool → D → Option (List Key)
  | true, .tup (.int i :: r) => keyT (.int i :: r)
  | false, d => (key1 d).map fun k => [k]
  | _, _ => none
def dFind (t : Bool) (k : List Key) : List (D × D) → Option D
  | [] => none
  | (a, v) :: r => if keyD t a = some k then some v else dFind t k r
def dMem (t : Bool) (k : List Key) (kvs : List (D × D)) : Bool := (dFind t k kvs).isSome
def dSet (t : Bool) (k : List Key) (v : D) : List (D × D) → List (D × D)
  | [] => []
  | (a, w) :: r => (a, if keyD t a = some k then v else w) :: dSet t k v r
def dPut (t : Bool) (kd : D) (k : List Key) (v : D) (kvs : List (D × D)) : List (D × D) := if dMem t k kvs = true then dSet t k v kvs else kvs ++ [(kd, v)]
def dDrop (t : Bool) (k : List Key) (kvs : List (D × D)) : List (D × D) := kvs.filter fun p => !decide (keyD t p.1 = some k)
def keysOk (t : Bool) (kvs : List (D × D)) : Bool := kvs.all fun p => (keyD t p.1).isSome
section
variable {κ : Kx} {XT : Nat → Option (Value × List Str)} {p q r : Bool} {A B : List Addr} {γ γ0 γ1 γ2 γ3 : Gst} {σ σ1 σ2 : St} {F F' G H H1 H2 : Hp} {W : WX} {Ds : Ends} {X : Cx} {v : Val} {x : V} {fp : List Addr}
theorem key1_rep {d : D} {k : Key} (h : key1 d = some k) (hr : Rep κ H d x) : x = kV k := by
  cases d with
  | int i => cases h; exact (rep_atom rfl).mp hr
  | str s => cases h; exact (rep_atom rfl).mp hr
  | _ => cases h
theorem keyT_rep : ∀ {ds : List D} {ks : List Key} {vs : List V}, keyT ds = some ks → Paired (Rep κ H) ds vs → vs = ks.map kV
  | [], ks, _, h, .nil => by cases h; rfl
  | d :: ds, ks, _, h, .cons r t => by
    unfold keyT at h
    cases h1 : key1 d with
    | none => rw [h1] at h; cases h
    | some k =>
      cases h2 : keyT ds with
      | none => rw [h1, h2] at h; cases h
      | some ks' =>
        rw [h1, h2] at h
        cases h
        rw [keyT_rep h2 t, key1_rep h1 r]
        rfl
/-- a key as it stands in the heap -/
theorem key_rep {t : Bool} {d : D} {k : List Key} (h : keyD t d = some k) (hr : Rep κ H d x) : (t = true ∧ ∃ b, x = .ref b ∧ H b = some (.tup (k.map kV))) ∨ (t = false ∧ ∃ k1, k = [k1] ∧ x = kV k1) := by
  cases t with
  | true =>
    refine .inl ⟨rfl, ?_⟩
    cases d with
    | tup ds =>
      cases ds with
      | nil => cases h
      | cons d0 r =>
        cases d0 with
        | int i =>
          obtain ⟨n, hr⟩ := hr
          cases n with
          | zero => exact hr.elim
          | succ n =>
            obtain ⟨a, vs, rfl, e, pr⟩ := hr
            have h' : keyT (.int i :: r) = some k := h
            have := keyT_rep h' (L2.Paired.mapP pr fun _ _ z => ⟨n, z⟩)
            rcases e with e | ⟨e, _⟩
            · exact ⟨a, rfl, by rw [e, this]⟩
            · rw [κ.CT.ktI] at e; cases e
        | _ => cases h
    | _ => cases h
  | false =>
    refine .inr ⟨rfl, ?_⟩
    have h' : (key1 d).map (fun k => [k]) = some k := by cases d <;> first | exact h | (rename_i l; cases l <;> first | exact h | (rename_i a _; cases a <;> exact h))
    obtain ⟨k1, h1, rfl⟩ := Option.map_eq_some_iff.mp h'
    exact ⟨k1, rfl, key1_rep h1 hr⟩
theorem keyD_tup {ks : List D} {k : List Key} (h : keyD true (.tup ks) = some k) : keyT ks = some k := by
  cases ks with
  | nil => cases h
  | cons d r => cases d <;> first | exact h | (cases h; done)
theorem keyD_one {d : D} : keyD false d = (key1 d).map fun k => [k] := by cases d <;> first | rfl | (rename_i l; cases l <;> first | rfl | (rename_i a _; cases a <;> rfl))
/-- tuple keys -/
theorem find_T {R : D → V → Prop} {k : List Key} : ∀ {kvs : List (D × D)} {es : List (List Key × V)}, keysOk true kvs = true → Paired (fun (p : D × D) (q : List Key × V) => (∃ ks, p.1 = .tup ks ∧ keyT ks = some q.1) ∧ R p.2 q.2) kvs es →
    (∀ d, dFind true k kvs = some d → ∃ v, valV es k = some v ∧ R d v) ∧ (dFind true k kvs = none → valV es k = none)
  | [], [], _, .nil => ⟨(fun d h => by cases h), fun _ => rfl⟩
  | (a, w) :: kvs, (b, u) :: es, hk, .cons ⟨⟨ks, e1, e2⟩, e3⟩ t => by
    obtain ⟨k1, k2⟩ := Bool.and_eq_true_iff.mp (show (((keyD true a).isSome) && keysOk true kvs) = true from hk)
    obtain ⟨ih1, ih2⟩ := find_T (k := k) k2 t
    dsimp only at e1 e2 e3
    subst e1
    obtain ⟨kk, hkk⟩ := Option.isSome_iff_exists.mp k1
    have := keyD_tup hkk
    rw [e2] at this
    cases this
    unfold dFind
    by_cases h : b = k
    · subst h
      rw [if_pos hkk]
      exact ⟨fun d hd => by cases hd; exact ⟨u, valV_pos rfl, e3⟩, fun hd => by cases hd⟩
    · have h2 : ¬ keyD true (.tup ks) = some k := by rw [hkk]; intro z; exact h (Option.some.inj z)
      rw [if_neg h2]
      exact ⟨fun d hd => by rw [valV_neg (show ¬ (b, u).1 = k from h)]; exact ih1 d hd, fun hd => by rw [valV_neg (show ¬ (b, u).1 = k from h)]; exact ih2 hd⟩
theorem find_K {R : D → V → Prop} {k : Key} : ∀ {kvs : List (D × D)} {es : List (Key × V)}, Paired (fun (p : D × D) (q : Key × V) => key1 p.1 = some q.1 ∧ R p.2 q.2) kvs es →
    (∀ d, dFind false [k] kvs = some d → ∃ v, valV es k = some v ∧ R d v) ∧ (dFind false [k] kvs = none → valV es k = none)
  | [], [], .nil => ⟨(fun d h => by cases h), fun _ => rfl⟩
  | (a, w) :: kvs, (b, u) :: es, .cons ⟨e1, e3⟩ t => by
    obtain ⟨ih1, ih2⟩ := find_K (k := k) t
    dsimp only at e1 e3
    unfold dFind
    have hkk : keyD false a = some [b] := by rw [keyD_one, e1]; rfl
    by_cases h : b = k
    · subst h
      rw [if_pos hkk]
      exact ⟨fun d hd => by cases hd; exact ⟨u, valV_pos rfl, e3⟩, fun hd => by cases hd⟩
    · have h2 : ¬ keyD false a = some [k] := by rw [hkk]; intro z; cases z; exact h rfl
      rw [if_neg h2]
      exact ⟨fun d hd => by rw [valV_neg (show ¬ (b, u).1 = k from h)]; exact ih1 d hd, fun hd => by rw [valV_neg (show ¬ (b, u).1 = k from h)]; exact ih2 hd⟩
/-- what a dict holds -/
theorem dget_ok {t : Bool} {kvs : List (D × D)} {kd : D} {k : List Key} {y : V} (lf : Le F H) (hd : Rep κ F (.dic t kvs) x) (hk : keyD t kd = some k) (hr : Rep κ H kd y) (ho : keysOk t kvs = true) :
    ∃ a, x = .ref a ∧ (∀ d, dFind t k kvs = some d → ∃ v, DGet H a y (some v) ∧ Rep κ F d v) ∧ (dFind t k kvs = none → DGet H a y none) := by
  obtain ⟨n, hd⟩ := hd
  cases n with
  | zero => exact hd.elim
  | succ n =>
    obtain ⟨a, rfl, hd⟩ := hd
    refine ⟨a, rfl, ?_⟩
    rcases hd with ⟨rfl, es, e2, e3⟩ | ⟨rfl, es, e2, e3⟩
    · rcases key_rep hk hr with ⟨_, b, rfl, hb⟩ | ⟨z, _⟩
      · obtain ⟨f1, f2⟩ := find_T (k := k) ho e3
        exact ⟨fun d z => by
          obtain ⟨v, h1, h2⟩ := f1 d z
          exact ⟨v, .inr ⟨es, k, b, .inl (lf _ _ e2), rfl, hb, h1.symm⟩, n, h2⟩, fun z => .inr ⟨es, k, b, .inl (lf _ _ e2), rfl, hb, (f2 z).symm⟩⟩
      · cases z
    · rcases key_rep hk hr with ⟨z, _⟩ | ⟨_, k1, rfl, rfl⟩
      · cases z
      · obtain ⟨f1, f2⟩ := find_K (k := k1) e3
        exact ⟨fun d z => by
          obtain ⟨v, h1, h2⟩ := f1 d z
          exact ⟨v, .inl ⟨es, k1, .inl (lf _ _ e2), rfl, h1.symm⟩, n, h2⟩, fun z => .inl ⟨es, k1, .inl (lf _ _ e2), rfl, (f2 z).symm⟩⟩
end
end Py

set_option Elab.async false
set_option linter.all false
set_option maxRecDepth 100000
set_option maxHeartbeats 1000000
/-! PyDb: dicts: in, d[k], {}, d[k] = v. -/
namespace Py
open PySem L2
def opEither (o1 o2 : Op) : Op := fun vs e => match o1 vs e with
  | some r => some r
  | none => o2 vs e
def opInD (neg : Bool) : Op := opA fun vs => match vs with
  | [⟨_, k⟩, ⟨_, .dic t kvs⟩] => if keysOk t kvs = true then (keyD t k).map fun kk => .bl (if neg then !dMem t kk kvs else dMem t kk kvs) else none
  | _ => none
def rDIn (neg : Bool) : R2 := fun y x H Q => ∃ a o, x = .ref a ∧ DGet H a y o ∧ Q (.bl (if neg then !o.isSome else o.isSome)) H
def opIxD : Op := fun vs e => match vs with
  | [⟨tg, .dic t kvs⟩, ⟨_, k⟩] => if keysOk t kvs = true then (match keyD t k with
    | some kk => (match dFind t kk kvs with
      | some d => if (isAtom d || decide (tg = .f)) = true then some (⟨.f, d⟩, e) else none
      | none => none)
    | none => none) else none
  | _ => none
def rDIx : R2 := fun x y H Q => ∃ a v, x = .ref a ∧ DGet H a y (some v) ∧ Q v H
def opDNew (t : Bool) : Op := fun vs e => match vs with
  | [] => some (⟨.o (.l .f), .dic t []⟩, e)
  | _ => none
def gSetD : NOp := fun ds d => match ds, d with
  | [k, y], .dic t kvs => if (keysOk t kvs && decide (kvs.length < 1000000)) = true then (keyD t k).map fun kk => (.non, .dic t (dPut t k kk y kvs)) else none
  | _, _ => none
def gEither (g1 g2 : NOp) : NOp := fun ds d => match g1 ds d with
  | some r => some r
  | none => g2 ds d
def rSetD : TSet := fun o i v H Q => ∃ a H', o = .ref a ∧ DPut H a i v H' ∧ Q H'
section
variable {κ : Kx} {XT : Nat → Option (Value × List Str)} {p q r : Bool} {A B : List Addr} {γ γ0 γ1 γ2 γ3 : Gst} {σ σ1 σ2 : St} {F F' G H H1 H2 : Hp} {W : WX} {Ds : Ends} {X : Cx} {v : Val} {x : V} {fp : List Addr} {pos : Pos}
theorem ops_either {o1 o2 : Op} {r1 r2 : R2} (h1 : OpS κ (rOf r1) o1) (h2 : OpS κ (rOf r2) o2) : OpS κ (rOf (rOr r1 r2)) (opEither o1 o2) := fun γ σ H vs xs fps v e' Q ft hl ho k => by
  unfold opEither at ho
  split at ho
  · rename_i rr hr
    cases ho
    exact rOf_imp (fun _ _ _ _ z => .inl z) _ _ _ (h1 γ σ H vs xs fps v e' Q ft hl hr k)
  · exact rOf_imp (fun _ _ _ _ z => .inr z) _ _ _ (h2 γ σ H vs xs fps v e' Q ft hl ho k)
theorem isSome_find {t : Bool} {kk : List Key} {kvs : List (D × D)} {y : V} {a : Addr} (h1 : ∀ d, dFind t kk kvs = some d → ∃ v, DGet H a y (some v) ∧ Rep κ F d v) (h2 : dFind t kk kvs = none → DGet H a y none) : ∃ o, DGet H a y o ∧ o.isSome = dMem t kk kvs := by
  unfold dMem
  cases e : dFind t kk kvs with
  | none => exact ⟨none, h2 e, rfl⟩
  | some d => obtain ⟨v, z, _⟩ := h1 d e; exact ⟨some v, z, rfl⟩
theorem ops_inD {neg : Bool} : OpS κ (rOf (rDIn neg)) (opInD neg) := by
  refine OpS.atom fun γ σ H vs xs fps d Q ft tr ho => ?_
  split at ho
  · rename_i t0 k t1 t kvs
    split at ho
    · rename_i hk
      obtain ⟨kk, hkk, rfl⟩ := Option.map_eq_some_iff.mp ho
      obtain ⟨x, y, f1, f2, rfl, rfl, h1, h2⟩ := tri2 tr
      refine ⟨rfl, fun q => ⟨x, y, rfl, ?_⟩⟩
      obtain ⟨a, rfl, g1, g2⟩ := dget_ok (Le.refl _) (h2.rep ft) hkk (h1.rep ft) hk
      obtain ⟨o, g3, g4⟩ := isSome_find (κ := κ) g1 g2
      exact ⟨a, o, rfl, g3, by rw [g4]; exact q⟩
    · cases ho
  · cases ho
theorem op_inDk (hu : X.A.units + 1 < cLine) : OpR X (compareOp .In) (rDIn false) := fun pins s σ H x y v u Q I rx ry ⟨a, o, ex, g, q⟩ => by
  subst ex
  obtain rfl : u = Value.ref a := ry
  exact d_in hu I g rx fun s3 I3 => ⟨.bl o.isSome, H, I3, rfl, q⟩
theorem op_ninDk (hu : X.A.units + 1 < cLine) : OpR X (compareOp .NotIn) (rDIn true) := fun pins s σ H x y v u Q I rx ry ⟨a, o, ex, g, q⟩ => by
  subst ex
  obtain rfl : u = Value.ref a := ry
  exact d_notIn hu I g rx fun s3 I3 => ⟨.bl (!o.isSome), H, I3, rfl, q⟩
theorem ops_ixD : OpS κ (rOf rDIx) opIxD := fun γ σ H vs xs fps v e' Q ft hl ho k => by
  have hA : ∀ a ∈ γ.P, a ∈ γ.P ++ fps.flatten := fun a h => List.mem_append_left _ h
  unfold opIxD at ho
  split at ho
  · rename_i tg t kvs t1 kd
    split at ho
    · rename_i hk
      split at ho
      · rename_i kk hkk
        split at ho
        · rename_i d hd
          split at ho
          · rename_i hc
            cases ho
            obtain ⟨x, y, f1, f2, rfl, ef, h1, h2⟩ := tri2 hl.tri
            refine ⟨x, y, rfl, ?_⟩
            by_cases ha : isAtom d = true
            · obtain ⟨a, rfl, g1, g2⟩ := dget_ok (Le.refl _) (h1.rep ft) hkk (h2.rep ft) hk
              obtain ⟨w, g3, g4⟩ := g1 d hd
              have ew := (rep_atom ha).mp g4
              exact ⟨a, w, rfl, g3, k γ H w [] rfl ft (Reach.refl hA) (by rw [ew]; exact held_atom ft ha) (by simp)⟩
            · have htg : tg = .f := by
                rcases Bool.or_eq_true_iff.mp hc with z | z
                · exact absurd z ha
                · exact of_decide_eq_true z
              subst htg
              have h1' : Rep κ γ.F (.dic t kvs) x := h1.1
              obtain ⟨a, rfl, g1, g2⟩ := dget_ok ft.lf h1' hkk (h2.rep ft) hk
              obtain ⟨w, g3, g4⟩ := g1 d hd
              exact ⟨a, w, rfl, g3, k γ H w [] rfl ft (Reach.refl hA) (Held.mk1 ⟨g4, rfl⟩ (by simp) (by simp) ft (by simp)) (by simp)⟩
          · cases ho
        · cases ho
      · cases ho
    · cases ho
  · cases ho
theorem ix_dict (hu : X.A.units + 1 < cLine) : IxR X rDIx := by
  intro value slice pins s σ H x y v u Q I rx ry h hs
  obtain ⟨a, w, rfl, g, q⟩ := h
  obtain rfl : v = Value.ref a := rx
  have hT := dict_typeIs I g
  unfold PyProof.Rows.subscriptTail
  refine wpAny_bind ?_
  rw [getitemInPython_of_ne hT.not_modules]
  refine wpAny_bind (wpAny_specialOf hT PySem.F.slot_dict_getitem.lookup ?_)
  refine wpAny_pure ?_
  refine wpAny_bind ?_
  show wpAny _ _ (subscripted slice false _ _) _ _ _
  rw [hs]
  exact wpAny_operating (d_getItem hu I g ry fun w' s3 I3 rw' => wpAny_bind (wpAny_letTemporaryGo (wpAny_pure ⟨w, H, I3, rw', q⟩)))
theorem opDNew_ok {t : Bool} : OpS κ (fun xs H Q => xs = [] ∧ ∀ p, H p = none → Q (.ref p) (upd H p (if t = true then .dT [] else .dK []))) (opDNew t) := fun γ σ H vs xs fps v e' Q ft hl ho k => by
  unfold opDNew at ho
  split at ho
  · cases ho
    obtain ⟨tr, nd, fr⟩ := hl
    cases tr
    refine ⟨rfl, fun a ha => ?_⟩
    have le : Le H (upd H a (if t = true then HO.dT [] else .dK [])) := Le.upd ha
    obtain ⟨n1, n2, n3⟩ := fresh_notin ft ha
    have ft2 := ft.heap le
    refine k γ _ _ [a] rfl ft2 (Reach.heap le fun b hb => List.mem_append_left _ hb) (Held.mk1 ?_ (by simp) (by simpa using n1) ft2 (by simpa using ⟨n2, n3, by rw [upd_same]; simp⟩)) (by simpa using ha)
    show Lay κ γ.F _ (.l .f) (.dic t []) (.ref a) [a]
    simp only [Lay]
    refine ⟨a, [], rfl, rfl, ?_⟩
    cases t with
    | true => exact .inl ⟨rfl, [], upd_same, .nil⟩
    | false => exact .inr ⟨rfl, [], upd_same, .nil⟩
  · cases ho
end
end Py

set_option Elab.async false
set_option linter.all false
set_option maxRecDepth 100000
set_option maxHeartbeats 1000000
/-! PyDc: d[k] = v. -/
namespace Py
open PySem L2
section
variable {κ : Kx} {XT : Nat → Option (Value × List Str)} {p q r : Bool} {A B : List Addr} {γ γ0 γ1 γ2 γ3 : Gst} {σ σ1 σ2 : St} {F F' G H H1 H2 : Hp} {W : WX} {Ds : Ends} {X : Cx} {v : Val} {x : V} {fp : List Addr} {pos : Pos}
theorem tri_pair {α β : Type} {R : α → β → Prop} : ∀ {as : List α} {bs : List β} {cs : List (List Addr)}, Tri (fun a b c => R a b ∧ c = []) as bs cs → Paired R as bs ∧ cs.flatten = []
  | [], [], [], .nil => ⟨.nil, rfl⟩
  | _ :: _, _ :: _, _ :: _, .cons ⟨h, e⟩ t => by
    obtain ⟨h1, h2⟩ := tri_pair t
    subst e
    exact ⟨.cons h h1, by simpa using h2⟩
theorem pair_tri {α β : Type} {R : α → β → Prop} : ∀ {as : List α} {bs : List β}, Paired R as bs → ∃ cs : List (List Addr), Tri (fun a b c => R a b ∧ c = []) as bs cs ∧ cs.flatten = []
  | [], [], .nil => ⟨[], .nil, rfl⟩
  | _ :: _, _ :: _, .cons h t => by
    obtain ⟨cs, h1, h2⟩ := pair_tri t
    exact ⟨[] :: cs, .cons ⟨h, rfl⟩ h1, by simpa using h2⟩
def PrT (κ : Kx) (F : Hp) : D × D → List Key × V → Prop := fun p q => (∃ ks, p.1 = .tup ks ∧ keyT ks = some q.1) ∧ Rep κ F p.2 q.2
def PrK (κ : Kx) (F : Hp) : D × D → Key × V → Prop := fun p q => key1 p.1 = some q.1 ∧ Rep κ F p.2 q.2
theorem node_dic {t : Bool} {kvs : List (D × D)} {a : Addr} : Node κ F H (.dic t kvs) a ↔ (t = true ∧ ∃ es, H a = some (.dT es) ∧ Paired (PrT κ F) kvs es) ∨ (t = false ∧ ∃ es, H a = some (.dK es) ∧ Paired (PrK κ F) kvs es) := by
  constructor
  · intro h
    unfold Node at h
    simp only [Lay] at h
    obtain ⟨b, fps, e1, e4, e2⟩ := h
    cases e1
    rcases e2 with ⟨ht, es, e2, e3⟩ | ⟨ht, es, e2, e3⟩
    · exact .inl ⟨ht, es, e2, (tri_pair (e3.imp fun p q f _ z => ⟨⟨z.1, z.2.1⟩, z.2.2⟩)).1⟩
    · exact .inr ⟨ht, es, e2, (tri_pair (e3.imp fun p q f _ z => ⟨⟨z.1, z.2.1⟩, z.2.2⟩)).1⟩
  · intro h
    unfold Node
    simp only [Lay]
    rcases h with ⟨ht, es, e2, e3⟩ | ⟨ht, es, e2, e3⟩
    · obtain ⟨cs, c1, c2⟩ := pair_tri e3
      exact ⟨a, cs, rfl, by rw [c2], .inl ⟨ht, es, e2, c1.imp fun p q f _ z => ⟨z.1.1, z.1.2, z.2⟩⟩⟩
    · obtain ⟨cs, c1, c2⟩ := pair_tri e3
      exact ⟨a, cs, rfl, by rw [c2], .inr ⟨ht, es, e2, c1.imp fun p q f _ z => ⟨z.1.1, z.1.2, z.2⟩⟩⟩
theorem Paired.snoc {α β : Type} {R : α → β → Prop} {a : α} {b : β} (h : R a b) : ∀ {as : List α} {bs : List β}, Paired R as bs → Paired R (as ++ [a]) (bs ++ [b])
  | [], [], .nil => .cons h .nil
  | _ :: _, _ :: _, .cons r t => .cons r (Paired.snoc h t)
theorem set_T {k : List Key} {d : D} {u : V} (hd : Rep κ F d u) : ∀ {kvs : List (D × D)} {es : List (List Key × V)}, keysOk true kvs = true → Paired (PrT κ F) kvs es → Paired (PrT κ F) (dSet true k d kvs) (es.map fun kv => if kv.1 = k then (kv.1, u) else kv)
  | [], [], _, .nil => .nil
  | (a, w) :: kvs, (b, z) :: es, hk, .cons ⟨⟨ks, e1, e2⟩, e3⟩ t => by
    obtain ⟨k1, k2⟩ := Bool.and_eq_true_iff.mp (show (((keyD true a).isSome) && keysOk true kvs) = true from hk)
    dsimp only at e1 e2 e3
    subst e1
    obtain ⟨kk, hkk⟩ := Option.isSome_iff_exists.mp k1
    have := keyD_tup hkk
    rw [e2] at this
    cases this
    unfold dSet
    rw [List.map_cons]
    refine .cons ?_ (set_T hd k2 t)
    by_cases h : b = k
    · subst h
      rw [if_pos hkk, if_pos rfl]
      exact ⟨⟨ks, rfl, e2⟩, hd⟩
    · rw [if_neg (by rw [hkk]; intro z; exact h (Option.some.inj z)), if_neg h]
      exact ⟨⟨ks, rfl, e2⟩, e3⟩
theorem set_K {k : Key} {d : D} {u : V} (hd : Rep κ F d u) : ∀ {kvs : List (D × D)} {es : List (Key × V)}, Paired (PrK κ F) kvs es → Paired (PrK κ F) (dSet false [k] d kvs) (es.map fun kv => if kv.1 = k then (kv.1, u) else kv)
  | [], [], .nil => .nil
  | (a, w) :: kvs, (b, z) :: es, .cons ⟨e1, e3⟩ t => by
    dsimp only at e1 e3
    have hkk : keyD false a = some [b] := by rw [keyD_one, e1]; rfl
    unfold dSet
    rw [List.map_cons]
    refine .cons ?_ (set_K hd t)
    by_cases h : b = k
    · subst h
      rw [if_pos hkk, if_pos rfl]
      exact ⟨e1, hd⟩
    · rw [if_neg (by rw [hkk]; intro z; cases z; exact h rfl), if_neg h]
      exact ⟨e1, e3⟩
theorem put_T {k : List Key} {kd d : D} {u : V} {kvs : List (D × D)} {es : List (List Key × V)} (hk : keysOk true kvs = true) (hkd : keyD true kd = some k) (hd : Rep κ F d u) (h : Paired (PrT κ F) kvs es) : Paired (PrT κ F) (dPut true kd k d kvs) (putK es k u) := by
  have fd := find_T (R := Rep κ F) (k := k) hk h
  have e : dMem true k kvs = (es.any fun kv => decide (kv.1 = k)) := by
    rw [valV_any]
    unfold dMem
    cases q : dFind true k kvs with
    | none => rw [fd.2 q]; rfl
    | some d' => obtain ⟨v, z, _⟩ := fd.1 d' q; rw [z]; rfl
  unfold dPut putK
  rw [e]
  split
  · exact set_T hd hk h
  · refine Paired.snoc ⟨?_, hd⟩ h
    cases kd with
    | tup ks => exact ⟨ks, rfl, keyD_tup hkd⟩
    | _ => cases hkd
theorem put_K {k : Key} {kd d : D} {u : V} {kvs : List (D × D)} {es : List (Key × V)} (hkd : key1 kd = some k) (hd : Rep κ F d u) (h : Paired (PrK κ F) kvs es) : Paired (PrK κ F) (dPut false kd [k] d kvs) (putK es k u) := by
  have fd := find_K (R := Rep κ F) (k := k) h
  have e : dMem false [k] kvs = (es.any fun kv => decide (kv.1 = k)) := by
    rw [valV_any]
    unfold dMem
    cases q : dFind false [k] kvs with
    | none => rw [fd.2 q]; rfl
    | some d' => obtain ⟨v, z, _⟩ := fd.1 d' q; rw [z]; rfl
  unfold dPut putK
  rw [e]
  split
  · exact set_K hd h
  · exact Paired.snoc ⟨hkd, hd⟩ h
theorem gSetD_ok : SetS κ rSetD gSetD := fun F H a d d' rd kd vd k v Q lf hF nd hk hv hg h => by
  unfold gSetD at hg
  split at hg
  · rename_i k0 y t kvs e1
    cases e1
    split at hg
    · rename_i hc
      obtain ⟨hc, hlen⟩ := Bool.and_eq_true_iff.mp hc
      obtain ⟨kk, hkk, e⟩ := Option.map_eq_some_iff.mp hg
      cases e
      have hl : kvs.length < sizeLine := Nat.lt_of_lt_of_le (of_decide_eq_true hlen) (by decide)
      rcases node_dic.mp nd with ⟨rfl, es, e2, e3⟩ | ⟨rfl, es, e2, e3⟩
      · rcases key_rep hkk (hk.mono lf) with ⟨_, b, rfl, hb⟩ | ⟨z, _⟩
        · exact ⟨a, _, rfl, .inr ⟨es, kk, b, e2, rfl, hb, by rw [← Paired.length e3]; exact hl, rfl⟩, h _ (node_dic.mpr (.inl ⟨rfl, _, upd_same, put_T hc hkk hv e3⟩))⟩
        · cases z
      · rcases key_rep hkk (hk.mono lf) with ⟨z, _⟩ | ⟨_, k1, rfl, rfl⟩
        · cases z
        · have hk1 : key1 kd = some k1 := by
            rw [keyD_one] at hkk
            obtain ⟨k2, h1, h2⟩ := Option.map_eq_some_iff.mp hkk
            cases h2
            exact h1
          exact ⟨a, _, rfl, .inl ⟨es, k1, e2, rfl, by rw [← Paired.length e3]; exact hl, rfl⟩, h _ (node_dic.mpr (.inr ⟨rfl, _, upd_same, put_K hk1 hv e3⟩))⟩
    · cases hg
  · cases hg
theorem set_dict (hu : X.A.units + 1 < cLine) : PSet X rSetD := by
  intro pins s σ H o i v ov iv u Q I ro ri rv h
  obtain ⟨a, H', rfl, g, q⟩ := h
  obtain rfl : ov = Value.ref a := ro
  exact d_setItem hu I g ri rv fun s4 I4 => ⟨H', I4, q⟩
theorem set_either {t1 t2 : TSet} (h1 : PSet X t1) (h2 : PSet X t2) : PSet X fun o i v H Q => t1 o i v H Q ∨ t2 o i v H Q := by
  intro pins s σ H o i v ov iv u Q I ro ri rv h
  rcases h with h | h
  · exact h1 pins s σ H o i v ov iv u Q I ro ri rv h
  · exact h2 pins s σ H o i v ov iv u Q I ro ri rv h
theorem sets_either {t1 t2 : TSet} {g1 g2 : NOp} (h1 : SetS κ t1 g1) (h2 : SetS κ t2 g2) : SetS κ (fun o i v H Q => t1 o i v H Q ∨ t2 o i v H Q) (gEither g1 g2) := fun F H a d d' rd kd vd k v Q lf hF nd hk hv hg h => by
  unfold gEither at hg
  split at hg
  · rename_i rr hr
    cases hg
    exact .inl (h1 F H a d d' rd kd vd k v Q lf hF nd hk hv hr h)
  · exact .inr (h2 F H a d d' rd kd vd k v Q lf hF nd hk hv hg h)
end
end Py

set_option Elab.async false
set_option linter.all false
set_option maxRecDepth 100000
set_option maxHeartbeats 1000000
/-! PyDd: lists and tuples compared by <, <=, >, >=. -/
namespace Py
open PySem L2
inductive Co where | lt | le | gt | ge
  deriving DecidableEq
def Co.f : Co → PyData → PyData → Bool
  | .lt, a, b => PySem.W.dataLt a b
  | .le, a, b => !PySem.W.dataLt b a
  | .gt, a, b => PySem.W.dataLt b a
  | .ge, a, b => !PySem.W.dataLt a b
def Co.op : Co → CmpOp
  | .lt => .Lt | .le => .LtE | .gt => .Gt | .ge => .GtE
def opCmpD (c : Co) : Op := opA fun vs => match vs with
  | [⟨_, a⟩, ⟨_, b⟩] => if (shp a && shp b && PySem.W.alike (toP a) (toP b) && !isNone a) = true then some (.bl (c.f (toP a) (toP b))) else none
  | _ => none
def rCmpD (K : PySem.W.Frag) (c : Co) : R2 := fun x y H Q => ∃ d e, Dp K H x d ∧ Dp K H y e ∧ SeqAt.shaped d = true ∧ SeqAt.shaped e = true ∧ PySem.W.alike d e = true ∧ d ≠ .none ∧ Q (.bl (c.f d e)) H
section
variable {κ : Kx} {X : Cx}
theorem ops_cmpD {c : Co} : OpS κ (rOf (rCmpD κ.K c)) (opCmpD c) := by
  refine OpS.atom fun γ σ H vs xs fps d Q ft tr ho => ?_
  split at ho
  · rename_i t a u b
    split at ho
    · rename_i hc
      cases ho
      simp only [Bool.and_eq_true] at hc
      obtain ⟨⟨⟨c1, c2⟩, c3⟩, c4⟩ := hc
      obtain ⟨x, y, f1, f2, rfl, rfl, h1, h2⟩ := tri2 tr
      exact ⟨rfl, fun q => ⟨x, y, rfl, toP a, toP b, rep_dp (h1.rep ft) c1, rep_dp (h2.rep ft) c2, c1, c2, c3, fun z => by cases a <;> simp [toP, isNone] at z c4, q⟩⟩
    · cases ho
  · cases ho
theorem op_cmpD {c : Co} (hu : X.A.units + 64 < cLine) : OpR X (compareOp c.op) (rCmpD X.K c) := by
  intro pins s σ H x y v u Q I rx ry h
  obtain ⟨d, e, hd, he, sd, se, al, hn, q⟩ := h
  obtain ⟨as, r1⟩ := Dp.reads I d x v hd rx
  obtain ⟨bs, r2⟩ := Dp.reads I e y u he ry
  have hr := SeqAt.room_of_shaped (db := e) sd hu
  cases c with
  | lt => exact PySem.W.lt_data r1 r2 al hn hr ⟨.bl _, H, I, rfl, q⟩
  | le => exact PySem.W.le_data r1 r2 al hn hr ⟨.bl _, H, I, rfl, q⟩
  | gt => exact PySem.W.gt_data r1 r2 al hn hr ⟨.bl _, H, I, rfl, q⟩
  | ge => exact PySem.W.ge_data r1 r2 al hn hr ⟨.bl _, H, I, rfl, q⟩
end
end Py

set_option Elab.async false
set_option linter.all false
set_option maxRecDepth 100000
set_option maxHeartbeats 1000000
/-! PyZb: the tree that a def's text is turned to, and what it does. -/
namespace Py
open PySem L2
inductive Bo where
  | add | sub | mul | div | mod | pow | shl | band | lt | le | gt | ge | eq | ne | inn | nin | isN | notN | neg | ix
  | sl (a b : Bool) | lst | tup | len | list | tuple | int | abs | max2 | min2 | sum | maxl | minl | fld (x : Str) | isT (t : Ty) | isC (c : Nat) | dnew (t : Bool)
inductive Mo where
  | app | pop
inductive Tg where
  | nm (i : Nat) | tp (l : List Nat)
mutual
inductive Ex where
  | no | c (d : D) | v (i : Nat) | op (o : Bo) (a : Exs) | not (a : Ex) | and (a b : Ex) | or (a b : Ex) | ife (c a b : Ex) | chn (f g : Bo) (a b c : Ex)
  | call (f : Nat) (kw : Bool) (a : Exs) | meth (m : Str) (pu : Bool) (o : Ex) (a : Exs) | new (c : Nat) (a : Exs)
  | comp (s : Sr) (vs : List Nat) (t : Tg) (u e : Ex) | mut (o : Mo) (p : Pl) (a : Exs)
inductive Exs where
  | nil | cons (a : Ex) (r : Exs)
inductive Sr where
  | no | sq (a : Ex) | r1 (a : Exs) | r2 (a : Exs) | r3 (a : Exs) | en (a : Ex) | zip (a : Exs)
inductive Pl where
  | no | v (i : Nat) | fd (x : Str) (p : Pl) | it (p : Pl) (e : Ex)
end
inductive HsT where
  | no | ret (e : Hx) | set (j : Nat) (e : Hx)
/-- a clause: its class, its name's slot, its suite -/
structure HcT where
  h : Nat
  o : Option Nat
  s : HsT
mutual
inductive Sm where
  | no | pass | brk | cont | ret (e : Ex) | set (t : Tg) (e : Ex) | ex (e : Ex) | ite (c : Ex) (a b : Sms) | for_ (s : Sr) (t : Tg) (b : Sms) | while_ (c : Ex) (b : Sms)
  | seti (p : Pl) (k e : Ex) | setf (p : Pl) (x : Str) (e : Ex) | aug (i : Nat) (sub : Bool) (e : Ex) | rais (f : Nat) (a : Exs) | try_ (b : Sms) (hs : List HcT) (els : Sms)
inductive Sms where
  | nil | cons (a : Sm) (r : Sms)
end
/-- a def: its parameters, how many are lent, its defaults, keyword-only names, how many names, its body -/
structure Fi where
  np : Nat
  lent : Nat
  ds : List D
  kw : List Str
  nn : Nat
  body : Sms
  prim : Option ((Nat → FM) → (Nat → FM) → FM) := none
  xc : Option Nat := none
/-- a class: its fields in order, its methods, its __init__, frozen once made -/
structure Ci where
  fx : List Str
  mt : List (Str × Nat)
  ini : Option Nat
  fz : Bool
/-- an exceptions' class: its fields, the classes of the text above it -/
structure Xi where
  fx : List Str
  up : List Nat
structure Tab where
  fn : Nat → Option Fi
  cl : Nat → Option Ci
  xs : Nat → Option Xi
def Tab.xn (T : Tab) (c : Nat) : List Str := match T.xs c with
  | some i => i.fx
  | none => []
/-- a clause for h takes c -/
def Tab.xm (T : Tab) (h c : Nat) : Bool := c == h || (match T.xs c with
  | some i => i.up.contains h
  | none => false)
def Tab.lent (T : Tab) (f : Nat) : Nat := match T.fn f with
  | some i => i.lent
  | none => 1
def Tab.fx (T : Tab) (c : Nat) : List Str := match T.cl c with
  | some i => i.fx
  | none => []
def opNo : Op := fun _ _ => none
def opSz (n : Nat) (o : Op) : Op := fun vs e => if decide (vs.length ≤ n) = true then o vs e else none
def Bo.op (T : Tab) : Bo → Op
  | .add => opAdd | .sub => opI2 fSub | .mul => opI2 fMul | .div => opI2 fDiv | .mod => opI2 fMod | .pow => opI2 fPow | .shl => opI2 fShl | .band => opI2 fAnd
  | .lt => opEither (opI2 fLt) (opCmpD .lt) | .le => opEither (opI2 fLe) (opCmpD .le) | .gt => opEither (opI2 fGt) (opCmpD .gt) | .ge => opEither (opI2 fGe) (opCmpD .ge) | .eq => opEq false | .ne => opEq true | .inn => opEither (opIn false) (opInD false) | .nin => opEither (opIn true) (opInD true)
  | .isN => opIsN false | .notN => opIsN true | .neg => opNeg | .ix => opEither opIx opIxD | .sl a b => opSl a b | .lst => opSz 1000 opLst | .tup => opSz 1000 opTup
  | .len => opLen | .list => opList | .tuple => opTuple | .int => opInt | .abs => opAbs | .max2 => opMax | .min2 => opMin | .sum => opSum | .maxl => opMaxL | .minl => opMinL
  | .fld x => opFld T.fx x
  | .isT t => opIsT t
  | .isC c => opIsC c
  | .dnew t => opDNew t
/-- a comparison of ints -/
def Bo.ci : Bo → Option (Int → Int → Bool)
  | .lt => some fun i j => decide (i < j)
  | .le => some fun i j => decide (i ≤ j)
  | .gt => some fun i j => decide (j < i)
  | .ge => some fun i j => decide (j ≤ i)
  | _ => none
def Mo.g : Mo → NOp
  | .app => gAppend
  | .pop => gPop
mutual
def Ex.p (T : Tab) : Ex → Bool
  | .no => true | .c _ => true | .v _ => true | .op _ a => a.p T | .not a => a.p T | .and a b => a.p T && b.p T | .or a b => a.p T && b.p T
  | .ife c a b => c.p T && (a.p T && b.p T) | .chn _ _ a b c => a.p T && (b.p T && c.p T) | .call f _ a => a.p T && T.lent f == 0 | .meth _ pu o a => o.p T && a.p T && pu | .new _ _ => false | .comp _ _ _ _ _ => false | .mut _ _ _ => false
def Exs.p (T : Tab) : Exs → Bool
  | .nil => true
  | .cons a r => a.p T && r.p T
end
def Exs.len : Exs → Nat
  | .nil => 0
  | .cons _ r => r.len + 1
/-- the way to call def f with n values; kw: the keyword-only ones are named -/
def cbOf (T : Tab) (Φ : Nat → FM) (f n : Nat) (kw : Bool) : Option Cb := match T.fn f with
  | some i => if i.xc.isSome = true then none else if n = i.np then (if i.kw.isEmpty = !kw then some ⟨i.lent, Φ f, i.np, []⟩ else none) else (if (kw || i.ds.isEmpty) = true then none else some ⟨i.lent, Φ f, i.np, i.ds⟩)
  | none => none
def mtOf (T : Tab) (Φ : Nat → FM) (m : Str) (n : Nat) (c : Nat) : Option Cb := match T.cl c with
  | some i => (match i.mt.lookup m with
    | some f => cbOf T Φ f n false
    | none => none)
  | none => none
def Bo.own (T : Tab) (Φ Ψ : Nat → FM) : Bo → List Val → Option Own
  | .lt => ownR 0 2 false none (mtOf T Φ "__lt__" 2)
  | .le => ownR 0 2 false none (mtOf T Φ "__le__" 2)
  | .gt => ownR 0 2 false none (mtOf T Φ "__gt__" 2)
  | .ge => ownR 0 2 false none (mtOf T Φ "__ge__" 2)
  | .eq => ownR 0 2 false none (mtOf T Φ "__eq__" 2)
  | .ne => ownR 0 2 false (some gNotB) (mtOf T Ψ "__eq__" 2)
  | .inn => ownR 1 2 true (some gBool) (mtOf T Φ "__contains__" 2)
  | .nin => ownR 1 2 true (some gNotB) (mtOf T Φ "__contains__" 2)
  | .ix => ownR 0 2 false none (mtOf T Ψ "__getitem__" 2)
  | .len => ownR 0 1 false (some gLenI) (mtOf T Ψ "__len__" 1)
  | _ => ownNo
def asgT : Tg → As
  | .nm i => setSlot i
  | .tp l => aTp (l.foldr (fun i f => aCons (setSlot i) f) aNil)
def asgTs : Tg → Ass
  | .nm _ => fun _ _ => none
  | .tp l => l.foldr (fun i f => aCons (setSlot i) f) aNil
def asI (t : Tg) : Item → Env → Option Env := asItem (asgT t) (asgTs t)
mutual
def ev (T : Tab) (Φ Ψ : Nat → FM) : Ex → ME
  | .no => fun _ => .no
  | .c d => mC d
  | .v i => mV i
  | .op o a => mOpO (o.own T Φ Ψ) (evs T Φ Ψ a) (o.op T)
  | .not a => mNot (ev T Φ Ψ a)
  | .and a b => mAnd (ev T Φ Ψ a) (ev T Φ Ψ b)
  | .or a b => mOr (ev T Φ Ψ a) (ev T Φ Ψ b)
  | .ife c a b => mIfE (ev T Φ Ψ c) (ev T Φ Ψ a) (ev T Φ Ψ b)
  | .chn f g a b c => (match f.ci, g.ci with
    | some f, some g => mChn f g (ev T Φ Ψ a) (ev T Φ Ψ b) (ev T Φ Ψ c)
    | _, _ => fun _ => .no)
  | .call f kw a => (match cbOf T Φ f a.len kw with
    | some cb => mCallD cb (evs T Φ Ψ a)
    | none => fun _ => .no)
  | .meth m pu o a => mMeth (mtOf T Φ m (a.len + 1)) pu (a.p T) (ev T Φ Ψ o) (evs T Φ Ψ a)
  | .new c a => (match T.cl c with
    | some i => (match i.ini with
      | some f => (match cbOf T Ψ f (a.len + 1) false with
        | some cb => mNew c i.fz cb (evs T Φ Ψ a)
        | none => fun _ => .no)
      | none => fun _ => .no)
    | none => fun _ => .no)
  | .comp s vs t u e => mComp (evI T Φ Ψ s) vs (asI t) (ev T Φ Ψ u) (ev T Φ Ψ e)
  | .mut o p a => mMut (a.p T) tyL (evP T Φ Ψ p) (evs T Φ Ψ a) o.g
def evs (T : Tab) (Φ Ψ : Nat → FM) : Exs → MA
  | .nil => evNil
  | .cons a r => evCons (r.p T) (ev T Φ Ψ a) (evs T Φ Ψ r)
def evI (T : Tab) (Φ Ψ : Nat → FM) : Sr → MI
  | .no => fun _ => .no
  | .sq a => mSeqI (ev T Φ Ψ a)
  | .r1 a => mRng1 (evs T Φ Ψ a)
  | .r2 a => mRng2 (evs T Φ Ψ a)
  | .r3 a => mRng3 (evs T Φ Ψ a)
  | .en a => mEnum (ev T Φ Ψ a)
  | .zip a => mZip (evs T Φ Ψ a)
def evP (T : Tab) (Φ Ψ : Nat → FM) : Pl → MP
  | .no => fun _ => none
  | .v i => mpV i
  | .fd x p => mpF T.fx x (evP T Φ Ψ p)
  | .it p e => mpI (evP T Φ Ψ p) (ev T Φ Ψ e)
end
def HsT.v (T : Tab) : HsT → Hs
  | .no => .no
  | .ret e => .ret (hxV T.xn e)
  | .set j e => .set j (hxV T.xn e)
def HcT.v (T : Tab) (q : HcT) : Hc := ⟨T.xm q.h, q.o, q.s.v T⟩
def fAug (b : Bool) (i j : Int) : Option D := some (.int (if b = true then i - j else i + j))
mutual
noncomputable def run (T : Tab) (Φ Ψ : Nat → FM) : Sm → MS
  | .no => fun _ => .no
  | .pass => mPass
  | .brk => mBreak
  | .cont => mCont
  | .ret e => mRet (ev T Φ Ψ e)
  | .set t e => mThen (ev T Φ Ψ e) fun v env => match asgT t v env with
    | some e' => .nx e'
    | none => .no
  | .ex e => mDrop (ev T Φ Ψ e)
  | .ite c a b => mIf (ev T Φ Ψ c) (runs T Φ Ψ a) (runs T Φ Ψ b)
  | .for_ s t b => mForI (evI T Φ Ψ s) (asI t) (runs T Φ Ψ b)
  | .while_ c b => mWhile (ev T Φ Ψ c) (runs T Φ Ψ b)
  | .seti p k e => mSetI (k.p T) (evP T Φ Ψ p) (ev T Φ Ψ k) (ev T Φ Ψ e) (gEither gSetL gSetD)
  | .setf p x e => mSetF T.fx (evP T Φ Ψ p) x (ev T Φ Ψ e)
  | .rais f a => (match T.fn f with
    | some i => if (i.xc.isSome && decide (a.len + 1 = i.np) && decide (a.len ≤ 900)) = true then mRaise (Ψ f) (evs T Φ Ψ a) else fun _ => .no
    | none => fun _ => .no)
  | .try_ b hs els => mTry (runs T Φ Ψ b) (hs.map (HcT.v T)) (runs T Φ Ψ els)
  | .aug i b e => mSet i (mOp (ev2 (e.p T) (mV i) (ev T Φ Ψ e)) (opI2 (fAug b)))
noncomputable def runs (T : Tab) (Φ Ψ : Nat → FM) : Sms → MS
  | .nil => mPass
  | .cons a r => mSeq (run T Φ Ψ a) (runs T Φ Ψ r)
end
/-- the fields that an exception's __init__ sets -/
def xFl : Sms → Option (List (Str × Ex))
  | .nil => some []
  | .cons (.setf (.v 0) f e) r => (xFl r).map ((f, e) :: ·)
  | _ => none
def xInit (T : Tab) (Φ Ψ : Nat → FM) (c : Nat) (b : Sms) : FM := match xFl b with
  | some l => raiseF c (l.map fun q => (q.1, ev T Φ Ψ q.2))
  | none => fun _ => .no
/-- the defs at a depth, and one less -/
noncomputable def lv (T : Tab) : Nat → (Nat → FM) × (Nat → FM)
  | 0 => (fun _ _ => .no, fun _ _ => .no)
  | 1 => (fun _ _ => .no, fun _ _ => .no)
  | k + 2 => (fun f => match T.fn f with
    | some i => (match i.xc with
      | some c => xInit T (lv T (k + 1)).1 (lv T (k + 1)).2 c i.body
      | none => (match i.prim with
        | some m => m (lv T (k + 1)).1 (lv T (k + 1)).2
        | none => mkF i.nn (runs T (lv T (k + 1)).1 (lv T (k + 1)).2 i.body)))
    | none => fun _ => .no, (lv T (k + 1)).1)
noncomputable def Fn (T : Tab) (k f : Nat) : FM := (lv T k).1 f
end Py

set_option Elab.async false
set_option linter.all false
set_option maxRecDepth 100000
set_option maxHeartbeats 1000000
/-! PyZc: from a text's syntax to the tree. What is not known here becomes `no`. -/
namespace Py
open PySem L2
/-- what a global name is -/
inductive Gb where
  | at (d : D) | fn (f : Nat) | cl (c : Nat) | bi | xc (c : Nat) (f : Nat)
structure Gx where
  T : Tab
  gb : Str → Option Gb
  imp : List Str
  dk : List Nat
structure Sx where
  N : List Str
  sc : Scope
  fnl : Str → Bool
/-- within a comprehension's block -/
def Sx.blk (s : Sx) (scope : Scope) : Sx := ⟨s.N, relS scope s.sc, fun x => scope.names.lookup x == some .cell⟩
def Sx.slot (s : Sx) (x : Str) : Option Nat := s.N.findIdx? (fun y => x == y)
def plainName (x : Str) : Bool := !(x == ("__debug__" : Str)) && !(x == ("__classdict__" : Str))
def isVis (sc : Scope) (x : Str) : Bool := match sc.names.lookup x with
  | some .local | some .cell | some .free => true
  | _ => false
def isGl (sc : Scope) (x : Str) : Bool := match sc.names.lookup x with
  | some .globalImplicit => true
  | _ => false
/-- a name that is stored to -/
def isLoc (s : Sx) (x : Str) : Bool := match s.sc.names.lookup x with
  | some .local => true
  | some .cell => s.fnl x
  | _ => false
def binO : Operator → Option Bo
  | .Add => some .add | .Sub => some .sub | .Mult => some .mul | .FloorDiv => some .div | .Mod => some .mod | .Pow => some .pow | .LShift => some .shl | .BitAnd => some .band
  | _ => none
def cmpO : CmpOp → Option Bo
  | .Lt => some .lt | .LtE => some .le | .Gt => some .gt | .GtE => some .ge | .Eq => some .eq | .NotEq => some .ne | .In => some .inn | .NotIn => some .nin
  | _ => none
def biOf (x : Str) (n : Nat) : Option Bo :=
  if x == ("len" : Str) then some .len else if x == ("list" : Str) then some .list else if x == ("tuple" : Str) then some .tuple else if x == ("int" : Str) then some .int
  else if x == ("abs" : Str) then some .abs else if x == ("sum" : Str) then some .sum
  else if x == ("max" : Str) then (if n = 1 then some .maxl else some .max2) else if x == ("min" : Str) then (if n = 1 then some .minl else some .min2) else none
def moOf (m : Str) : Option Mo := if m == ("append" : Str) then some .app else if m == ("pop" : Str) then some .pop else none
def notSet : Expr → Bool
  | .Set _ _ _ => false
  | _ => true
def notSlice : Expr → Bool
  | .Slice _ _ _ _ => false
  | _ => true
def notComp : Expr → Bool
  | .ListComp _ _ _ _ | .SetComp _ _ _ _ | .DictComp _ _ _ _ _ => false
  | _ => true
def notTup : Expr → Bool
  | .Tuple _ _ _ => false
  | _ => true
def isTup : Expr → Bool
  | .Tuple _ _ _ => true
  | _ => false
def okTg : Sr → Tg → Bool
  | .en _, .tp [_, _] => true
  | .zip _, .tp [_, _] => true
  | .en _, _ => false
  | .zip _, _ => false
  | _, _ => true
/-- a test that is a plain value -/
def plainT : Expr → Bool
  | .UnaryOp _ _ _ | .BoolOp _ _ _ | .IfExp _ _ _ _ | .Compare _ _ _ _ => false
  | _ => true
def denTg (s : Sx) : Expr → Option Tg
  | .Name x _ => if isLoc s x = true then (s.slot x).map .nm else none
  | .Tuple es _ _ => (es.mapM fun (e : Expr) => match e with
    | .Name x _ => if isLoc s x = true then s.slot x else none
    | _ => none).map .tp
  | _ => none
def tyOf (x : Str) : Option Ty := if x == ("int" : Str) then some .int else if x == ("bool" : Str) then some .bool else if x == ("str" : Str) then some .str else if x == ("list" : Str) then some .list else if x == ("tuple" : Str) then some .tuple else if x == ("dict" : Str) then some .dict else none
/-- isinstance(a, r) -/
def denK (G : Gx) (s : Sx) (a : Ex) : List Expr → Ex
  | [.Name x _] => if (plainName x && isGl s.sc x) = true then (match G.gb x with
    | some .bi => (match tyOf x with
      | some t => .op (.isT t) (.cons a .nil)
      | none => .no)
    | some (.cl c) => .op (.isC c) (.cons a .nil)
    | _ => .no) else .no
  | _ => .no
/-- the own names of a comprehension's block, with their places -/
def blkOwn (N : List Str) : List (Str × NameKind) → List (Str × Nat)
  | [] => []
  | (y, k) :: r => (match k, N.findIdx? (fun z => y == z) with
    | .local, some i => (y, i) :: blkOwn N r
    | .cell, some i => (y, i) :: blkOwn N r
    | _, _ => blkOwn N r)
def blkChk (sc scope : Scope) : Bool := decide (scope.kind = .function) && (scope.names.all fun y => decide (scope.names.lookup y.1 = some y.2)) &&
  (scope.names.all fun y => match y.2 with
    | .free => decide (sc.names.lookup y.1 = some .cell) || decide (sc.names.lookup y.1 = some .free)
    | _ => true)
def Tg.slots : Tg → List Nat
  | .nm i => [i]
  | .tp l => l
mutual
def denE (G : Gx) : Nat → Sx → Expr → Ex
  | 0, _, _ => .no
  | n + 1, s, e => match e with
    | .Constant (.int i) _ _ => .c (.int i)
    | .Constant (.bool b) _ _ => .c (.bl b)
    | .Constant .none _ _ => .c .non
    | .Constant (.str x) _ _ => .c (.str x)
    | .Name x _ => if plainName x = true then (if isVis s.sc x = true then (match s.slot x with
          | some i => .v i
          | none => .no)
        else if isGl s.sc x = true then (match G.gb x with
          | some (.at d) => if isAtom d = true then .c d else .no
          | _ => .no) else .no) else .no
    | .BinOp a o b _ => (match binO o with
      | some o => .op o (.cons (denE G n s a) (.cons (denE G n s b) .nil))
      | none => .no)
    | .Compare a [.Is] [.Constant .none _ _] _ => .op .isN (.cons (denE G n s a) .nil)
    | .Compare a [.IsNot] [.Constant .none _ _] _ => .op .notN (.cons (denE G n s a) .nil)
    | .Compare a [o] [b] _ => (match cmpO o with
      | some o => if notSet b = true then .op o (.cons (denE G n s a) (.cons (denE G n s b) .nil)) else .no
      | none => .no)
    | .Compare a [o1, o2] [b, c] _ => (match cmpO o1, cmpO o2 with
      | some o1, some o2 => if notSet c = true then .chn o1 o2 (denE G n s a) (denE G n s b) (denE G n s c) else .no
      | _, _ => .no)
    | .UnaryOp .USub a _ => .op .neg (.cons (denE G n s a) .nil)
    | .UnaryOp .Not a _ => .not (denE G n s a)
    | .BoolOp _ [a] _ => denE G n s a
    | .BoolOp .And (a :: b :: r) p => .and (denE G n s a) (denE G n s (.BoolOp .And (b :: r) p))
    | .BoolOp .Or (a :: b :: r) p => .or (denE G n s a) (denE G n s (.BoolOp .Or (b :: r) p))
    | .IfExp c a b _ => .ife (denT G n s c) (denE G n s a) (denE G n s b)
    | .List es _ => if es.all notStar = true then .op .lst (denA G n s es) else .no
    | .Tuple es _ _ => if es.all notStar = true then .op .tup (denA G n s es) else .no
    | .Subscript a (.Slice none none none _) _ => .op (.sl false false) (.cons (denE G n s a) .nil)
    | .Subscript a (.Slice (some lo) none none _) _ => .op (.sl true false) (.cons (denE G n s a) (.cons (denE G n s lo) .nil))
    | .Subscript a (.Slice none (some hi) none _) _ => .op (.sl false true) (.cons (denE G n s a) (.cons (denE G n s hi) .nil))
    | .Subscript a b _ => if notSlice b = true then .op .ix (.cons (denE G n s a) (.cons (denE G n s b) .nil)) else .no
    | .Dict [] [] p => .op (.dnew (!G.dk.contains p.line)) .nil
    | .Attribute o f _ => if okBase o = true then .op (.fld f) (.cons (denE G n s o) .nil) else .no
    | .Call (.Name x _) (a :: r) [] _ => if (plainName x && isGl s.sc x && (a :: r).all notStar) = true then (match G.gb x with
        | some (.fn f) => .call f false (denA G n s (a :: r))
        | some (.cl c) => .new c (denA G n s (a :: r))
        | some .bi => if x == ("isinstance" : Str) then denK G s (denE G n s a) r else (match biOf x (a :: r).length with
          | some o => .op o (denA G n s (a :: r))
          | none => .no)
        | _ => .no) else .no
    | .Call (.Name x _) (a :: r) (kw :: kws) _ => if (plainName x && isGl s.sc x && (a :: r).all notStar && (kw :: kws).all (·.arg.isSome)) = true then (match G.gb x with
        | some (.fn f) => (match G.T.fn f with
          | some i => if i.kw = (kw :: kws).filterMap (·.arg) then .call f true (denA G n s ((a :: r) ++ (kw :: kws).map (·.value))) else .no
          | none => .no)
        | _ => .no) else .no
    | .Call (.Attribute o m ap) args [] p => if (okBase o && args.all notStar && decide (args.length < 30) && ap.endLine == p.line) = true then (match moOf m with
        | some mo => .mut mo (denP G n s o) (denA G n s args)
        | none => .meth m (!G.imp.contains m) (denE G n s o) (denA G n s args)) else .no
    | .ListComp elt [⟨tg, it, ifs, 0⟩] scope _ => (match denTg (s.blk scope) tg with
      | some t => if (blkChk s.sc scope && notSet it && okTg (denI G n s (isTup tg) it) t && t.slots.all (fun i => ((blkOwn s.N scope.names).map (·.2)).contains i)) = true then
          .comp (denI G n s (isTup tg) it) ((blkOwn s.N scope.names).map (·.2)) t (match ifs with
            | [] => .c (.bl true)
            | [c] => denT G n (s.blk scope) c
            | _ => .no) (denE G n (s.blk scope) elt) else .no
      | none => .no)
    | _ => .no
def denT (G : Gx) : Nat → Sx → Expr → Ex
  | 0, _, _ => .no
  | n + 1, s, e => match e with
    | .UnaryOp .Not a _ => .not (denT G n s a)
    | .BoolOp _ [a] _ => denT G n s a
    | .BoolOp .And (a :: b :: r) p => .and (denT G n s a) (denT G n s (.BoolOp .And (b :: r) p))
    | .BoolOp .Or (a :: b :: r) p => .or (denT G n s a) (denT G n s (.BoolOp .Or (b :: r) p))
    | .Compare a [.Is] [.Constant .none _ _] _ => .op .isN (.cons (denE G n s a) .nil)
    | .Compare a [.IsNot] [.Constant .none _ _] _ => .op .notN (.cons (denE G n s a) .nil)
    | .Compare a [o] [b] _ => (match cmpO o with
      | some o => if notSet b = true then .op o (.cons (denE G n s a) (.cons (denE G n s b) .nil)) else .no
      | none => .no)
    | .Compare a [o1, o2] [b, c] _ => (match cmpO o1, cmpO o2 with
      | some o1, some o2 => if notSet c = true then .chn o1 o2 (denE G n s a) (denE G n s b) (denE G n s c) else .no
      | _, _ => .no)
    | e => if plainT e = true then denE G n s e else .no
def denA (G : Gx) : Nat → Sx → List Expr → Exs
  | 0, _, [] => .nil
  | 0, _, _ => .cons .no .nil
  | _ + 1, _, [] => .nil
  | n + 1, s, e :: r => .cons (denE G n s e) (denA G n s r)
/-- a place -/
def denP (G : Gx) : Nat → Sx → Expr → Pl
  | 0, _, _ => .no
  | n + 1, s, e => match e with
    | .Name x _ => if (plainName x && isVis s.sc x) = true then (match s.slot x with
      | some i => .v i
      | none => .no) else .no
    | .Attribute o f _ => if okBase o = true then .fd f (denP G n s o) else .no
    | .Subscript o b _ => if (notSlice b && (denE G n s b).p G.T) = true then .it (denP G n s o) (denE G n s b) else .no
    | _ => .no
/-- what is walked; tup: the target is a tuple -/
def denI (G : Gx) : Nat → Sx → Bool → Expr → Sr
  | 0, _, _, _ => .no
  | n + 1, s, tup, e => match e with
    | .Call (.Name x _) [a] [] _ => if (isGl s.sc x && notStar a) = true then (match G.gb x with
        | some .bi => if x == ("range" : Str) then .r1 (denA G n s [a]) else if (x == ("enumerate" : Str) && tup) = true then .en (denE G n s a) else .sq (denE G n s e)
        | _ => .sq (denE G n s e)) else .no
    | .Call (.Name x _) [a, b] [] _ => if (isGl s.sc x && notStar a && notStar b) = true then (match G.gb x with
        | some .bi => if x == ("range" : Str) then .r2 (denA G n s [a, b]) else if (x == ("zip" : Str) && tup) = true then .zip (denA G n s [a, b]) else .no
        | _ => .sq (denE G n s e)) else .no
    | .Call (.Name x _) [a, b, c] [] _ => if (isGl s.sc x && notStar a && notStar b && notStar c) = true then (match G.gb x with
        | some .bi => if x == ("range" : Str) then .r3 (denA G n s [a, b, c]) else .no
        | _ => .sq (denE G n s e)) else .no
    | e => .sq (denE G n s e)
end
mutual
/-- a value in a suite; n: the exception's name -/
def denHx (n : Option Str) : Nat → Expr → Hx
  | 0, _ => .no
  | k + 1, e => match e with
    | .Constant (.int i) _ _ => .c (.int i)
    | .Constant (.bool b) _ _ => .c (.bl b)
    | .Constant .none _ _ => .c .non
    | .Constant (.str x) _ _ => .c (.str x)
    | .Attribute (.Name x _) f _ => if (plainName x && decide (n = some x)) = true then .fld f else .no
    | .Tuple es _ _ => if es.all notStar = true then .tup (denHxs n k es) else .no
    | _ => .no
def denHxs (n : Option Str) : Nat → List Expr → Hxs
  | 0, [] => .nil
  | 0, _ => .cons .no .nil
  | _ + 1, [] => .nil
  | k + 1, e :: r => .cons (denHx n k e) (denHxs n k r)
end
def isLocal (s : Sx) (x : Str) : Bool := decide (s.sc.names.lookup x = some .local)
def denHs (s : Sx) (n : Option Str) (k : Nat) : List Stmt → HsT
  | [.Return (some e) _] => .ret (denHx n k e)
  | [.Assign [.Name x _] e _] => if (isLocal s x && notComp e) = true then (match s.slot x with
    | some i => .set i (denHx n k e)
    | none => .no) else .no
  | _ => .no
/-- a clause -/
def denHc (G : Gx) (s : Sx) (k : Nat) : ExceptHandler → Option HcT
  | .ExceptHandler (some (.Name x _)) n (b :: su) _ => if (plainName x && isGl s.sc x) = true then (match G.gb x with
    | some (.xc c _) => (match n with
      | none => some ⟨c, none, denHs s none k (b :: su)⟩
      | some y => if isLocal s y = true then (match s.slot y with
        | some i => some ⟨c, some i, denHs s (some y) k (b :: su)⟩
        | none => none) else none)
    | _ => none) else none
  | _ => none
mutual
def denS (G : Gx) : Nat → Sx → Stmt → Sm
  | 0, _, _ => .no
  | n + 1, s, st => match st with
    | .Pass _ => .pass
    | .Break _ => .brk
    | .Continue _ => .cont
    | .Return none _ => .ret (.c .non)
    | .Return (some e) _ => .ret (denE G n s e)
    | .Expr e _ => if notComp e = true then .ex (denE G n s e) else .no
    | .Assign [.Name x _] e _ => if isLoc s x = true then (match s.slot x with
        | some i => .set (.nm i) (denE G n s e)
        | none => .no) else .no
    | .Assign [.Tuple es k p] e _ => if (notTup e && notComp e) = true then (match denTg s (.Tuple es k p) with
        | some t => .set t (denE G n s e)
        | none => .no) else .no
    | .Assign [.Subscript o i _] e _ => if notSlice i = true then .seti (denP G n s o) (denE G n s i) (denE G n s e) else .no
    | .Assign [.Attribute o f _] e _ => if okBase o = true then .setf (denP G n s o) f (denE G n s e) else .no
    | .AugAssign (.Name x _) op e _ => if isLoc s x = true then (match s.slot x, op with
        | some i, .Add => .aug i false (denE G n s e)
        | some i, .Sub => .aug i true (denE G n s e)
        | _, _ => .no) else .no
    | .If c a b _ => .ite (denT G n s c) (denSs G n s a) (denSs G n s b)
    | .For tg it body [] _ => (match denTg s tg with
      | some t => if (notSet it && okTg (denI G n s (isTup tg) it) t) = true then .for_ (denI G n s (isTup tg) it) t (denSs G n s body) else .no
      | none => .no)
    | .While c body [] _ => .while_ (denT G n s c) (denSs G n s body)
    | .Raise (some (.Call (.Name x _) (a :: r) [] _)) none _ => if (plainName x && isGl s.sc x && (a :: r).all notStar) = true then (match G.gb x with
        | some (.xc _ f) => .rais f (denA G n s (a :: r))
        | _ => .no) else .no
    | .Try body (h :: hs) els [] _ => (match (h :: hs).mapM (denHc G s n) with
      | some l => .try_ (denSs G n s body) l (denSs G n s els)
      | none => .no)
    | _ => .no
def denSs (G : Gx) : Nat → Sx → List Stmt → Sms
  | _, _, [] => .nil
  | 0, _, _ => .cons .no .nil
  | n + 1, s, st :: r => .cons (denS G n s st) (denSs G n s r)
end
end Py

set_option Elab.async false
set_option linter.all false
set_option maxRecDepth 100000
set_option maxHeartbeats 1000000
/-! PyZd: what the tree does is what the text does: expressions. -/
namespace Py
open PySem L2
theorem b0_len : bootBuiltins "len" = some (.builtin "len") := by kernel_rfl
theorem b0_list : bootBuiltins "list" = some (.type "list") := by kernel_rfl
theorem b0_tuple : bootBuiltins "tuple" = some (.type "tuple") := by kernel_rfl
theorem b0_int : bootBuiltins "int" = some (.type "int") := by kernel_rfl
theorem b0_abs : bootBuiltins "abs" = some (.builtin "abs") := by kernel_rfl
theorem b0_sum : bootBuiltins "sum" = some (.builtin "sum") := by kernel_rfl
theorem b0_max : bootBuiltins "max" = some (.builtin "max") := by kernel_rfl
theorem b0_min : bootBuiltins "min" = some (.builtin "min") := by kernel_rfl
theorem b0_bool : bootBuiltins "bool" = some (.type "bool") := by kernel_rfl
theorem b0_str : bootBuiltins "str" = some (.type "str") := by kernel_rfl
theorem b0_dict : bootBuiltins "dict" = some (.type "dict") := by kernel_rfl
theorem b0_isinstance : bootBuiltins "isinstance" = some (.builtin "isinstance") := by kernel_rfl
section
variable (P : Program) (w : World) (K : PySem.W.Frag) (mg : Str → Option Value) (base : Heap) (CT : Cts) (XT : Nat → Option (Value × List Str)) (G : Gx) (k : Nat) (Φ Ψ : Nat → FM)
/-- what stands of the text's globals -/
structure GlF : Prop where
  at_ : ∀ x d, G.gb x = some (.at d) → ∃ u, mg x = some u ∧ RelV (atomV d) u
  bi : ∀ x, G.gb x = some .bi → mg x = none
  fn : ∀ x f, G.gb x = some (.fn f) → ∃ a, mg x = some (.ref a) ∧ (∀ n cb, cbOf G.T Φ f n false = some cb → CbOk P w K mg base CT XT (k + 1) a cb) ∧ ∀ n cb i, G.T.fn f = some i → cbOf G.T Φ f n true = some cb → CbKw P w K mg base CT XT (k + 1) a i.kw cb
  cl : ∀ x c, G.gb x = some (.cl c) → ∃ C names, mg x = some (.ref C) ∧ CT.ct c = some (C, names) ∧ ∀ i f n cb, G.T.cl c = some i → i.ini = some f → cbOf G.T Ψ f n false = some cb → ∃ a, Mk K C a ∧ CbOk P w K mg base CT XT k a cb
  mt : ∀ m n, MtOk P w K mg base CT XT (k + 1) m (mtOf G.T Φ m n)
  mta : ∀ m n c cb, mtOf G.T Φ m n c = some cb → ∀ d ∈ cb.ds, isAtom d = true
  mt0 : ∀ m n, MtOk P w K mg base CT XT k m (mtOf G.T Ψ m n)
  mta0 : ∀ m n c cb, mtOf G.T Ψ m n c = some cb → ∀ d ∈ cb.ds, isAtom d = true
  owf : OwF ⟨K, CT⟩
  cf : ClF ⟨K, CT⟩ G.T.fx
  f1000 : ∀ c, (G.T.fx c).length < 1000
  isf : IsF ⟨K, CT⟩
  xc : ∀ x c f, G.gb x = some (.xc c f) → ∃ C nms, mg x = some (.ref C) ∧ XT c = some (.ref C, nms) ∧ ∀ i, G.T.fn f = some i → i.xc.isSome = true → ∃ (fI : Addr) (fd : FuncData) (ps : List Str), XA.OexA K C ∧ PySem.W.findIn K (.ref C) "__init__" = some (some (.ref fI)) ∧ PySem.W.typeIn K (.ref fI) = some (.type "function") ∧
    (∃ c', FnOk P w K mg base (L2.CX P w) k fI fd ps (spI ⟨K, CT⟩ XT c' (i.np - 1) (Ψ f)) ∧ c' = C) ∧ Binds K fd ps []
  xt : ∀ c v nms, XT c = some (v, nms) → G.T.xn c = nms ∧ ∃ C, v = .ref C ∧ XfC K C ∧ ∀ f ∈ nms, PySem.W.findIn K (.ref C) f = some none
  xm : ∀ h hv hn c cls nms, XT h = some (hv, hn) → XT c = some (cls, nms) → PySem.W.exmOne K cls hv = some (G.T.xm h c)
end
structure Has (CT : Cts) (XT : Nat → Option (Value × List Str)) (G : Gx) (k : Nat) (Φ Ψ : Nat → FM) (X : Cx) (W : WX) (s : Sx) : Prop where
  N : X.N = s.N
  nd : X.N.Nodup
  sc : X.env.scope = s.sc
  calm : X.calm = true
  fn : X.fn = s.fnl
  tk : Takes X W
  rm : Room (k + 1) X.A
  g : GlF X.prog X.w X.K X.mg X.base CT XT G k Φ Ψ
section
variable {CT : Cts} {XT : Nat → Option (Value × List Str)} {G : Gx} {k : Nat} {Φ Ψ : Nat → FM} {X : Cx} {W : WX} {s : Sx} {x : Str} {p q : Bool} {e a b : Expr} {pos : Pos}
theorem Has.at (h : Has CT XT G k Φ Ψ X W s) {i : Nat} (e : s.slot x = some i) : X.N[i]? = some x := by
  obtain ⟨hj, h1, _⟩ := List.findIdx?_eq_some_iff_getElem.mp e
  rw [h.N, List.getElem?_eq_getElem hj]
  have : x = s.N[i] := by simpa using h1
  rw [← this]
theorem Has.vis (h : Has CT XT G k Φ Ψ X W s) (e : isVis s.sc x = true) : Vis X.env.scope x := by
  unfold isVis at e
  unfold Vis
  rw [h.sc]
  split at e
  · rename_i z; exact .inl z
  · rename_i z; exact .inr (.inl z)
  · rename_i z; exact .inr (.inr z)
  · cases e
theorem Has.gl (h : Has CT XT G k Φ Ψ X W s) (e : isGl s.sc x = true) : Gl X x := by
  unfold isGl at e
  show X.env.scope.names.lookup x = _
  rw [h.sc]
  split at e
  · rename_i z; exact z
  · cases e
theorem Has.loc (h : Has CT XT G k Φ Ψ X W s) (e : isLoc s x = true) : L2.Loc X.env.scope x ∧ (X.fn x = true ∨ X.env.scope.names.lookup x = some .local) := by
  unfold isLoc at e
  unfold L2.Loc
  rw [h.sc, h.fn]
  split at e
  · rename_i z; exact ⟨.inl z, .inr z⟩
  · rename_i z; exact ⟨.inr z, .inl e⟩
  · cases e
theorem plain_db (h : plainName x = true) : (x == ("__debug__" : Str)) = false ∧ (x == ("__classdict__" : Str)) = false := by
  obtain ⟨h1, h2⟩ := Bool.and_eq_true_iff.mp h
  exact ⟨by simpa using h1, by simpa using h2⟩
theorem e_no : PE X e (tM (kx X CT) XT W p fun _ => .no) := ⟨fun pins s σ H Q I h => by obtain ⟨γ, _, z⟩ := h; exact z.elim⟩
theorem t_no : PT X e (tT (kx X CT) XT W p fun _ => .no) := ⟨fun pins s σ H Q I h => by obtain ⟨γ, _, z⟩ := h; exact z.elim⟩
theorem p_no : PE X e (tP (kx X CT) fun _ => none) := ⟨fun pins s σ H Q I h => by obtain ⟨γ, _, z⟩ := h; exact z.elim⟩
theorem t_of {m : ME} (h : PE X e (tM (kx X CT) XT W p m)) (he : ∀ whole, isTrue e X.env whole = (do let v ← whole; standAt e.pos; holding [v] (truthy v))) : PT X e (tT (kx X CT) XT W p m) := PT.imp (pt_val h he) fun σ H Q h => h
theorem plainT_ok (h : plainT e = true) : ∀ whole, isTrue e X.env whole = (do let v ← whole; standAt e.pos; holding [v] (truthy v)) := by
  intro whole
  cases e <;> first | rfl | (cases h; done)
theorem PE.weak {m : ME} (h : PE X e (tM (kx X CT) XT W p m)) (hq : q = true → p = true) : PE X e (tM (kx X CT) XT W q m) := PE.imp h fun σ H Q z => z.weak hq
theorem notSet_in {op : CmpOp} (h : notSet b = true) : behindInMarks op b = false := by cases b <;> first | rfl | (cases h; done)
theorem notSlice_ix (h : notSlice b = true) : PlainIx b := by
  intro o i
  cases b <;> first | rfl | (cases h; done)
theorem mOp_sz {n : Nat} {ms : MA} {o : Op} : mOp (szAll n ms) o = mOp ms (opSz n o) := by
  funext env
  unfold mOp szAll opSz R.bind
  cases hm : ms env with
  | no => rfl
  | ex c fs e => rfl
  | ok vs e =>
    dsimp only
    by_cases h : decide (vs.length ≤ n) = true
    · rw [if_pos h, if_pos h]
    · rw [if_neg h, if_neg h]
/-- operators -/
theorem bin_ok {o : Operator} {bo : Bo} {ma mb : ME} (h : binO o = some bo) (ha : PE X a (tM (kx X CT) XT W p ma)) (hb : PE X b (tM (kx X CT) XT W q mb)) : PE X (.BinOp a o b pos) (tM (kx X CT) XT W (p && q) (mOp (ev2 q ma mb) (bo.op G.T))) := by
  cases o with
  | Add => cases h; exact e_bin op_addU ops_add ha hb
  | Sub => cases h; exact e_bin op_sub ops_sub ha hb
  | Mult => cases h; exact e_bin op_mulA ops_mul ha hb
  | Mod => cases h; exact e_bin op_mod ops_mod ha hb
  | Pow => cases h; exact e_bin op_pow ops_pow ha hb
  | LShift => cases h; exact e_bin op_shl ops_shl ha hb
  | FloorDiv => cases h; exact e_bin op_fdivW ops_div ha hb
  | BitAnd => cases h; exact e_bin op_and ops_and ha hb
  | _ => cases h
theorem mOpO_no {ms : MA} {op : Op} : mOpO ownNo ms op = mOp ms op := rfl
theorem bin_own {o : Operator} {bo : Bo} (h : binO o = some bo) : bo.own G.T Φ Ψ = ownNo := by cases o <;> cases h <;> rfl
theorem cmp_op {o : CmpOp} {bo : Bo} (hr : Room (k + 1) X.A) (h : cmpO o = some bo) : ∃ r2, OpR X (compareOp o) r2 ∧ OpS (kx X CT) (rOf r2) (bo.op G.T) := by
  have hu := hr.un
  cases o with
  | Eq => cases h; exact ⟨_, op_eqD hr.units, ops_eq⟩
  | NotEq => cases h; exact ⟨_, op_neD hr.units, ops_ne⟩
  | Lt => cases h; exact ⟨_, opr_or op_lt (op_cmpD (c := .lt) hr.units), ops_either ops_lt ops_cmpD⟩
  | LtE => cases h; exact ⟨_, opr_or op_le (op_cmpD (c := .le) hr.units), ops_either ops_le ops_cmpD⟩
  | Gt => cases h; exact ⟨_, opr_or op_gt (op_cmpD (c := .gt) hr.units), ops_either ops_gt ops_cmpD⟩
  | GtE => cases h; exact ⟨_, opr_or op_ge (op_cmpD (c := .ge) hr.units), ops_either ops_ge ops_cmpD⟩
  | In => cases h; exact ⟨_, opr_or (op_inD (by omega)) (op_inDk (by have := hr.units; omega)), ops_either ops_in ops_inD⟩
  | NotIn => cases h; exact ⟨_, opr_or (op_notInD (by omega)) (op_ninDk (by have := hr.units; omega)), ops_either ops_notin ops_inD⟩
  | _ => cases h
theorem cmp_o (hs : Has CT XT G k Φ Ψ X W s) {o : CmpOp} {bo : Bo} (h : cmpO o = some bo) : ∃ i sw post mt r2, bo.own G.T Φ Ψ = ownR i 2 sw post mt ∧ (∀ c cb, mt c = some cb → ∀ d ∈ cb.ds, isAtom d = true) ∧ OpS (kx X CT) (rOf r2) (bo.op G.T) ∧
    OpRS X (compareOp o) fun σ x y H Q => r2 x y H Q ∨ ∃ c cb, OwnV (kx X CT) mt i 2 c cb [x, y] H ∧ rOwn (kx X CT) XT (WE W σ) ⟨cb, sw, post⟩ [x, y] H Q := by
  obtain ⟨r2, h1, h2⟩ := cmp_op (G := G) (CT := CT) hs.rm h
  cases o with
  | Eq => cases h; exact ⟨_, _, _, _, r2, rfl, hs.g.mta _ _, h2, op_cmpO (fun _ _ => rfl) rfl hs.g.owf (hs.g.mt _ _) hs.rm hs.tk h1⟩
  | NotEq => cases h; exact ⟨_, _, _, _, r2, rfl, hs.g.mta0 _ _, h2, op_neO hs.g.owf hs.g.isf (hs.g.mt0 _ _) hs.rm hs.tk h1⟩
  | Lt => cases h; exact ⟨_, _, _, _, r2, rfl, hs.g.mta _ _, h2, op_cmpO (fun _ _ => rfl) rfl hs.g.owf (hs.g.mt _ _) hs.rm hs.tk h1⟩
  | LtE => cases h; exact ⟨_, _, _, _, r2, rfl, hs.g.mta _ _, h2, op_cmpO (fun _ _ => rfl) rfl hs.g.owf (hs.g.mt _ _) hs.rm hs.tk h1⟩
  | Gt => cases h; exact ⟨_, _, _, _, r2, rfl, hs.g.mta _ _, h2, op_cmpO (fun _ _ => rfl) rfl hs.g.owf (hs.g.mt _ _) hs.rm hs.tk h1⟩
  | GtE => cases h; exact ⟨_, _, _, _, r2, rfl, hs.g.mta _ _, h2, op_cmpO (fun _ _ => rfl) rfl hs.g.owf (hs.g.mt _ _) hs.rm hs.tk h1⟩
  | In => cases h; exact ⟨_, _, _, _, r2, rfl, hs.g.mta _ _, h2, op_inO (neg := false) rfl (hs.g.mt _ _) hs.rm hs.tk h1⟩
  | NotIn => cases h; exact ⟨_, _, _, _, r2, rfl, hs.g.mta _ _, h2, op_inO (neg := true) rfl (hs.g.mt _ _) hs.rm hs.tk h1⟩
  | _ => cases h
theorem cmp_ci {o : CmpOp} {bo : Bo} {f : Int → Int → Bool} (h : cmpO o = some bo) (hf : bo.ci = some f) : OpR X (compareOp o) (rI0 fun i j => .bl (f i j)) := by
  cases o with
  | Lt => cases h; cases hf; exact op_lt
  | LtE => cases h; cases hf; exact op_le
  | Gt => cases h; cases hf; exact op_gt
  | GtE => cases h; cases hf; exact op_ge
  | Eq => cases h; cases hf
  | NotEq => cases h; cases hf
  | In => cases h; cases hf
  | NotIn => cases h; cases hf
  | _ => cases h
/-- built-in functions -/
theorem bi_ok {bo : Bo} {n : Nat} {es : List Expr} {ms : MA} {p0 : Pos} (hs : Has CT XT G k Φ Ψ X W s) (h : biOf x n = some bo) (hg : Gl X x) (hm : X.mg x = none) (ha : PA X (e :: es) (tA (kx X CT) XT W p ms)) (hst : (e :: es).all notStar = true) : PE X (.Call (.Name x p0) (e :: es) [] pos) (tM (kx X CT) XT W p (mOpO (bo.own G.T Φ Ψ) ms (bo.op G.T))) := by
  obtain ⟨h1, h2⟩ := Bool.and_eq_true_iff.mp hst
  have s1 := star_cons (es := es) (env := X.env) h1
  have s2 := star_any (env := X.env) (pos := pos) h2
  unfold biOf at h
  split at h
  · rename_i hx
    have : x = "len" := by simpa using hx
    subst this
    cases h
    exact e_lenO hs.g.isf (hs.g.mta0 _ _) ops_len (call_lenO (hs.g.mt0 _ _) hs.rm hs.tk call_len) hg hm b0_len ha (by decide) (by decide) s1 s2
  split at h
  · rename_i hx
    have : x = "list" := by simpa using hx
    subst this
    cases h
    exact e_callTy call_list_of ops_list hg hm b0_list ha (by decide) (by decide) s1 s2
  split at h
  · rename_i hx
    have : x = "tuple" := by simpa using hx
    subst this
    cases h
    exact e_callTy call_tuple_of ops_tuple hg hm b0_tuple ha (by decide) (by decide) s1 s2
  split at h
  · rename_i hx
    have : x = "int" := by simpa using hx
    subst this
    cases h
    exact e_callTy call_int1 ops_int hg hm b0_int ha (by decide) (by decide) s1 s2
  split at h
  · rename_i hx
    have : x = "abs" := by simpa using hx
    subst this
    cases h
    exact e_callB call_abs ops_abs hg hm b0_abs ha (by decide) (by decide) s1 s2
  split at h
  · rename_i hx
    have : x = "sum" := by simpa using hx
    subst this
    cases h
    exact e_callB (cr_sum hs.calm) ops_sum hg hm b0_sum ha (by decide) (by decide) s1 s2
  split at h
  · rename_i hx
    have : x = "max" := by simpa using hx
    subst this
    split at h <;> cases h
    · exact e_callB (cr_max hs.calm) ops_maxL hg hm b0_max ha (by decide) (by decide) s1 s2
    · exact e_callB (call_max2 hs.calm) ops_max hg hm b0_max ha (by decide) (by decide) s1 s2
  split at h
  · rename_i hx
    have : x = "min" := by simpa using hx
    subst this
    split at h <;> cases h
    · exact e_callB (cr_min hs.calm) ops_minL hg hm b0_min ha (by decide) (by decide) s1 s2
    · exact e_callB (call_min2 hs.calm) ops_min hg hm b0_min ha (by decide) (by decide) s1 s2
  · cases h
/-- isinstance -/
theorem isi_ok {u : V} {uv : Value} {o : Op} {m : ME} {c : Expr} {p0 : Pos} (hg : Gl X "isinstance") (hm : X.mg "isinstance" = none) (ha : PE X a (tM (kx X CT) XT W p m)) (hc : PE X c (tC u)) (hk : ClsV u uv) (ho : OpS (kx X CT) (rIs1 X.K uv) o) (h1 : notStar a = true) (h2 : notStar c = true) :
    PE X (.Call (.Name "isinstance" p0) [a, c] [] pos) (tM (kx X CT) XT W p (mOp (ev1 m) o)) := by
  refine PE.imp (pe_callB call_isi hg hm b0_isinstance (pa_cons ha (pa_cons hc pa_nil (star_cons h2)) (star_cons h1)) (by decide) (by decide) (star_cons h1) (star_any (by simp [h2]))) fun σ H Q h => ?_
  refine tM.mono (fun y H1 z => ?_) (tA_one (tM_op ho h))
  obtain ⟨y', t, b, e, ty, kt, q⟩ := z
  cases e
  exact ⟨y, u, t, uv, b, rfl, hk, ty, kt, q⟩
theorem ty_pe {t : Ty} {p0 : Pos} (h : tyOf x = some t) (hg : Gl X x) (hm : X.mg x = none) : PE X (.Name x p0) (tC (.ty t.nm)) := by
  have go : ∀ {x : Str}, bootBuiltins x = some (.type t.nm) → x ≠ "__name__" → (x == ("__debug__" : Str)) = false → Gl X x → X.mg x = none → PE X (.Name x p0) (tC (.ty t.nm)) := fun hb hn hd hg hm => ⟨fun pins s σ H Q I h => ld_blt I hg hm hb ⟨.ty t.nm, H, I, rfl, h⟩ hn hd⟩
  unfold tyOf at h
  split at h
  · rename_i hx; have : x = "int" := by simpa using hx
    subst this; cases h; exact go b0_int (by decide) (by decide) hg hm
  split at h
  · rename_i hx; have : x = "bool" := by simpa using hx
    subst this; cases h; exact go b0_bool (by decide) (by decide) hg hm
  split at h
  · rename_i hx; have : x = "str" := by simpa using hx
    subst this; cases h; exact go b0_str (by decide) (by decide) hg hm
  split at h
  · rename_i hx; have : x = "list" := by simpa using hx
    subst this; cases h; exact go b0_list (by decide) (by decide) hg hm
  split at h
  · rename_i hx; have : x = "tuple" := by simpa using hx
    subst this; cases h; exact go b0_tuple (by decide) (by decide) hg hm
  split at h
  · rename_i hx; have : x = "dict" := by simpa using hx
    subst this; cases h; exact go b0_dict (by decide) (by decide) hg hm
  · cases h
end
end Py

set_option Elab.async false
set_option linter.all false
set_option maxRecDepth 100000
set_option maxHeartbeats 1000000
/-! PyZe: soundness of the trees: expressions, sources, places. -/
namespace Py
open PySem L2
section
variable {CT : Cts} {XT : Nat → Option (Value × List Str)} {G : Gx} {k : Nat} {Φ Ψ : Nat → FM} {X : Cx} {W : WX} {s : Sx} {x : Str} {p q : Bool} {e a b : Expr} {pos : Pos}
theorem all1 {es : List Expr} (h : (e :: es).all notStar = true) : notStar e = true ∧ es.all notStar = true := Bool.and_eq_true_iff.mp h
theorem pr1 {a : Ex} : (Exs.cons a .nil).p G.T = a.p G.T := by simp only [Exs.p, Bool.and_true]
theorem pr2 {a b : Ex} : (Exs.cons a (.cons b .nil)).p G.T = (a.p G.T && b.p G.T) := by simp only [Exs.p, Bool.and_true]
theorem evs1 {a : Ex} : evs G.T Φ Ψ (.cons a .nil) = ev1 (ev G.T Φ Ψ a) := by simp only [evs, Exs.p]; rfl
theorem evs2 {a b : Ex} : evs G.T Φ Ψ (.cons a (.cons b .nil)) = ev2 (b.p G.T) (ev G.T Φ Ψ a) (ev G.T Φ Ψ b) := by simp only [evs, Exs.p, Bool.and_true]; rfl
/-- an operation on one, on two -/
theorem op1 {o : Bo} {t : Ex} (hno : o.own G.T Φ Ψ = ownNo) (h : PE X e (tM (kx X CT) XT W (t.p G.T) (mOp (ev1 (ev G.T Φ Ψ t)) (o.op G.T)))) : PE X e (tM (kx X CT) XT W ((Ex.op o (.cons t .nil)).p G.T) (ev G.T Φ Ψ (.op o (.cons t .nil)))) := by
  simp only [Ex.p, ev, evs1, pr1]
  rw [hno]
  exact h
theorem op2 {o : Bo} {t u : Ex} (hno : o.own G.T Φ Ψ = ownNo) (h : PE X e (tM (kx X CT) XT W (t.p G.T && u.p G.T) (mOp (ev2 (u.p G.T) (ev G.T Φ Ψ t) (ev G.T Φ Ψ u)) (o.op G.T)))) : PE X e (tM (kx X CT) XT W ((Ex.op o (.cons t (.cons u .nil))).p G.T) (ev G.T Φ Ψ (.op o (.cons t (.cons u .nil))))) := by
  simp only [Ex.p, ev, evs2, pr2]
  rw [hno]
  exact h
theorem op1t {o : Bo} {t : Ex} (hno : o.own G.T Φ Ψ = ownNo) (h : PT X e (tT (kx X CT) XT W (t.p G.T) (mOp (ev1 (ev G.T Φ Ψ t)) (o.op G.T)))) : PT X e (tT (kx X CT) XT W ((Ex.op o (.cons t .nil)).p G.T) (ev G.T Φ Ψ (.op o (.cons t .nil)))) := by
  simp only [Ex.p, ev, evs1, pr1]
  rw [hno]
  exact h
theorem op2t {o : Bo} {t u : Ex} (hno : o.own G.T Φ Ψ = ownNo) (h : PT X e (tT (kx X CT) XT W (t.p G.T && u.p G.T) (mOp (ev2 (u.p G.T) (ev G.T Φ Ψ t) (ev G.T Φ Ψ u)) (o.op G.T)))) : PT X e (tT (kx X CT) XT W ((Ex.op o (.cons t (.cons u .nil))).p G.T) (ev G.T Φ Ψ (.op o (.cons t (.cons u .nil))))) := by
  simp only [Ex.p, ev, evs2, pr2]
  rw [hno]
  exact h
/-- what is to be shown of a tree t for e -/
abbrev OkE (CT : Cts) (XT : Nat → Option (Value × List Str)) (G : Gx) (Φ Ψ : Nat → FM) (X : Cx) (W : WX) (e : Expr) (t : Ex) : Prop := PE X e (tM (kx X CT) XT W (t.p G.T) (ev G.T Φ Ψ t))
abbrev OkT (CT : Cts) (XT : Nat → Option (Value × List Str)) (G : Gx) (Φ Ψ : Nat → FM) (X : Cx) (W : WX) (e : Expr) (t : Ex) : Prop := PT X e (tT (kx X CT) XT W (t.p G.T) (ev G.T Φ Ψ t))
abbrev OkA (CT : Cts) (XT : Nat → Option (Value × List Str)) (G : Gx) (Φ Ψ : Nat → FM) (X : Cx) (W : WX) (es : List Expr) (t : Exs) : Prop := PA X es (tA (kx X CT) XT W (t.p G.T) (evs G.T Φ Ψ t))
theorem okE_no : OkE CT XT G Φ Ψ X W e .no := by simp only [OkE, Ex.p, ev]; exact e_no
theorem okT_no : OkT CT XT G Φ Ψ X W e .no := by simp only [OkT, Ex.p, ev]; exact t_no
theorem op2o {o : Bo} {t u : Ex} (h : PE X e (tM (kx X CT) XT W (t.p G.T && u.p G.T) (mOpO (o.own G.T Φ Ψ) (ev2 (u.p G.T) (ev G.T Φ Ψ t) (ev G.T Φ Ψ u)) (o.op G.T)))) : PE X e (tM (kx X CT) XT W ((Ex.op o (.cons t (.cons u .nil))).p G.T) (ev G.T Φ Ψ (.op o (.cons t (.cons u .nil))))) := by
  simp only [Ex.p, ev, evs2, pr2]
  exact h
theorem op2ot {o : Bo} {t u : Ex} (h : PT X e (tT (kx X CT) XT W (t.p G.T && u.p G.T) (mOpO (o.own G.T Φ Ψ) (ev2 (u.p G.T) (ev G.T Φ Ψ t) (ev G.T Φ Ψ u)) (o.op G.T)))) : PT X e (tT (kx X CT) XT W ((Ex.op o (.cons t (.cons u .nil))).p G.T) (ev G.T Φ Ψ (.op o (.cons t (.cons u .nil))))) := by
  simp only [Ex.p, ev, evs2, pr2]
  exact h
theorem ok_cmp {o : CmpOp} {bo : Bo} {t u : Ex} (hs : Has CT XT G k Φ Ψ X W s) (h : cmpO o = some bo) (hn : notSet b = true) (ha : OkE CT XT G Φ Ψ X W a t) (hb : OkE CT XT G Φ Ψ X W b u) : OkE CT XT G Φ Ψ X W (.Compare a [o] [b] pos) (.op bo (.cons t (.cons u .nil))) := by
  obtain ⟨i, sw, post, mt, r2, h1, h2, h3, h4⟩ := cmp_o hs h
  refine op2o ?_
  rw [h1]
  exact e_cmpO hs.g.isf h2 h3 h4 ha hb (notSet_in hn)
theorem ok_cmpT {o : CmpOp} {bo : Bo} {t u : Ex} (hs : Has CT XT G k Φ Ψ X W s) (h : cmpO o = some bo) (hn : notSet b = true) (ha : OkE CT XT G Φ Ψ X W a t) (hb : OkE CT XT G Φ Ψ X W b u) : OkT CT XT G Φ Ψ X W (.Compare a [o] [b] pos) (.op bo (.cons t (.cons u .nil))) := by
  obtain ⟨i, sw, post, mt, r2, h1, h2, h3, h4⟩ := cmp_o hs h
  refine op2ot ?_
  rw [h1]
  exact t_cmpO hs.g.isf h2 h3 h4 ha hb (notSet_in hn)
theorem last_marks {o1 o2 : CmpOp} {c : Expr} (hn : notSet c = true) : lastMarks [o1, o2] [b, c] = false := by
  show behindInMarks o2 c = false
  exact notSet_in hn
theorem ok_chn {c : Expr} {o1 o2 : CmpOp} {b1 b2 : Bo} {t u v : Ex} (h1 : cmpO o1 = some b1) (h2 : cmpO o2 = some b2) (hn : notSet c = true) (ha : OkE CT XT G Φ Ψ X W a t) (hb : OkE CT XT G Φ Ψ X W b u) (hc : OkE CT XT G Φ Ψ X W c v) : OkE CT XT G Φ Ψ X W (.Compare a [o1, o2] [b, c] pos) (.chn b1 b2 t u v) := by
  simp only [OkE, Ex.p, ev]
  cases e1 : b1.ci with
  | none => exact e_no
  | some f =>
    cases e2 : b2.ci with
    | none => exact e_no
    | some g => exact PE.imp (pe_chain (cmp_ci h1 e1) (cmp_ci h2 e2) ha hb hc (last_marks hn)) fun σ H Q h => tM_chain h
theorem ok_chnT {c : Expr} {o1 o2 : CmpOp} {b1 b2 : Bo} {t u v : Ex} (h1 : cmpO o1 = some b1) (h2 : cmpO o2 = some b2) (hn : notSet c = true) (ha : OkE CT XT G Φ Ψ X W a t) (hb : OkE CT XT G Φ Ψ X W b u) (hc : OkE CT XT G Φ Ψ X W c v) : OkT CT XT G Φ Ψ X W (.Compare a [o1, o2] [b, c] pos) (.chn b1 b2 t u v) := by
  simp only [OkT, Ex.p, ev]
  cases e1 : b1.ci with
  | none => exact t_no
  | some f =>
    cases e2 : b2.ci with
    | none => exact t_no
    | some g => exact PT.imp (pt_chain (cmp_ci h1 e1) (cmp_ci h2 e2) ha hb hc (last_marks hn)) fun σ H Q h => tM_chain h
theorem ok_nil : OkA CT XT G Φ Ψ X W [] .nil := by simp only [OkA, Exs.p, evs]; exact a_nil
theorem ok_cons {es : List Expr} {t : Ex} {u : Exs} (hs : notStar e = true) (ha : OkE CT XT G Φ Ψ X W e t) (hb : OkA CT XT G Φ Ψ X W es u) : OkA CT XT G Φ Ψ X W (e :: es) (.cons t u) := by
  simp only [OkA, Exs.p, evs]
  exact a_cons ha hb (star_cons hs)
theorem cb_lent {f n : Nat} {kw : Bool} {cb : Cb} (h : cbOf G.T Φ f n kw = some cb) : cb.n = G.T.lent f := by
  unfold cbOf at h
  unfold Tab.lent
  cases e : G.T.fn f with
  | none => rw [e] at h; cases h
  | some i =>
    rw [e] at h
    dsimp only at h ⊢
    split at h
    · cases h
    · split at h
      · split at h
        · cases h; rfl
        · cases h
      · split at h
        · cases h
        · cases h; rfl
theorem ok_call {f : Nat} {es : List Expr} {t : Exs} {p0 : Pos} (hs : Has CT XT G k Φ Ψ X W s) (hn : plainName x = true) (hg : isGl s.sc x = true) (hf : G.gb x = some (.fn f)) (hst : (e :: es).all notStar = true) (ha : OkA CT XT G Φ Ψ X W (e :: es) t) : OkE CT XT G Φ Ψ X W (.Call (.Name x p0) (e :: es) [] pos) (.call f false t) := by
  simp only [OkE, Ex.p, ev]
  cases hc : cbOf G.T Φ f t.len false with
  | none => exact e_no
  | some cb =>
    obtain ⟨a, hm, h1, _⟩ := hs.g.fn x f hf
    have := e_callD (p0 := p0) (pos := pos) (h1 _ cb hc) hs.rm (hs.gl hg) hm hs.tk ha (plain_db hn).1 hst
    rw [cb_lent hc] at this
    exact this
theorem ok_new {c : Nat} {es : List Expr} {t : Exs} {p0 : Pos} (hs : Has CT XT G k Φ Ψ X W s) (hn : plainName x = true) (hg : isGl s.sc x = true) (hf : G.gb x = some (.cl c)) (hst : (e :: es).all notStar = true) (ha : OkA CT XT G Φ Ψ X W (e :: es) t) : OkE CT XT G Φ Ψ X W (.Call (.Name x p0) (e :: es) [] pos) (.new c t) := by
  simp only [OkE, Ex.p, ev]
  obtain ⟨C, names, hm, hC, h1⟩ := hs.g.cl x c hf
  cases hi : G.T.cl c with
  | none => exact e_no
  | some i =>
    cases hf' : i.ini with
    | none => simp only [hf']; exact e_no
    | some f =>
      simp only [hf']
      cases hc : cbOf G.T Ψ f (t.len + 1) false with
      | none => exact e_no
      | some cb =>
        obtain ⟨a, M, F⟩ := h1 i f _ cb hi hf' hc
        exact e_new hC M F hs.rm (hs.gl hg) hm hs.tk ha (plain_db hn).1 hst
theorem ok_meth {m : Str} {es : List Expr} {t : Ex} {u : Exs} {pu : Bool} {apos : Pos} {o : Expr} (hs : Has CT XT G k Φ Ψ X W s) (hb : okBase o = true) (hst : es.all notStar = true) (hn : es.length < 30) (hl : (apos.endLine == pos.line) = true) (ho : OkE CT XT G Φ Ψ X W o t) (ha : OkA CT XT G Φ Ψ X W es u) (hu : es = [] → u = .nil) :
    OkE CT XT G Φ Ψ X W (.Call (.Attribute o m apos) es [] pos) (.meth m pu t u) := by
  simp only [OkE, Ex.p, ev]
  cases es with
  | nil =>
    have := hu rfl
    subst this
    simp only [Exs.p, evs]
    exact e_meth0 (hs.g.mt m _) hs.rm hs.tk ho (hs.g.mta m _) hb hl
  | cons e es => exact e_meth (hs.g.mt m _) hs.rm hs.tk ho ha (hs.g.mta m _) hb hst hn hl
end
end Py

set_option Elab.async false
set_option linter.all false
set_option maxRecDepth 100000
set_option maxHeartbeats 1000000
/-! PyZf: targets, sources, comprehensions, changes. -/
namespace Py
open PySem L2
def gsT : List Nat → TGs
  | [] => gNil
  | i :: l => gCons (gName i) (gsT l)
def gT (K : PySem.W.Frag) : Tg → TG
  | .nm i => gName i
  | .tp l => gTup K l.length (gsT l)
section
variable {CT : Cts} {XT : Nat → Option (Value × List Str)} {G : Gx} {k : Nat} {Φ Ψ : Nat → FM} {X : Cx} {W : WX} {s : Sx} {x : Str} {p q : Bool} {e a b : Expr} {pos : Pos} {κ : Kx}
theorem gsT_ok : ∀ l : List Nat, TgsS κ (gsT l) (l.foldr (fun i f => aCons (setSlot i) f) aNil) ∧ (∀ vs e e', l.foldr (fun i f => aCons (setSlot i) f) aNil vs e = some e' → vs.length = l.length)
  | [] => ⟨tgs_nil, aNil_len⟩
  | i :: l => ⟨tgs_cons tg_name (gsT_ok l).1, aCons_len (gsT_ok l).2⟩
theorem gT_ok (t : Tg) : TgS κ (gT κ.K t) (asgT t) := by
  cases t with
  | nm i => exact tg_name
  | tp l => exact tg_tup (gsT_ok l).1 (gsT_ok (κ := κ) l).2
/-- the second law of a walk's target -/
def gsO : Tg → TGs
  | .nm _ => gNil
  | .tp l => gsT l
theorem gT_s (t : Tg) : ∀ n, gT κ.K t = gTup κ.K n (gsO t) → TgsS κ (gsO t) (asgTs t) := by
  cases t with
  | nm i =>
    intro n _
    exact fun γ σ H vs xs fps e' A K ft tr hA hs k => by cases hs
  | tp l => exact fun n _ => (gsT_ok l).1
theorem gsT_w : ∀ l : List Nat, TgsW (gsT l) l
  | [] => tgsw_nil
  | i :: l => tgsw_cons (L := [i]) tgw_name (gsT_w l)
theorem gT_w (t : Tg) : TgW (gT κ.K t) t.slots := by
  cases t with
  | nm i => exact tgw_name
  | tp l => exact tgw_tup (gsT_w l)
theorem assign_len {env : PySem.Env} : ∀ {es : List Expr}, es.all notStar = true → (assignEach es env).length = es.length ∧ (assignEach es env).findIdx? (·.1) = none
  | [], _ => ⟨rfl, rfl⟩
  | e :: es, h => by
    obtain ⟨h1, h2⟩ := Bool.and_eq_true_iff.mp h
    obtain ⟨a, b⟩ := assign_len (env := env) h2
    have : assignEach (e :: es) env = (false, assign e env) :: assignEach es env := by cases e <;> first | rfl | (cases h1; done)
    rw [this]
    refine ⟨by simp [a], ?_⟩
    rw [List.findIdx?_cons]
    simp [b]
theorem tgs_pg (hs : Has CT XT G k Φ Ψ X W s) : ∀ {es : List Expr} {l : List Nat}, (es.mapM fun (e : Expr) => match e with
    | .Name x _ => if isLoc s x = true then s.slot x else none
    | _ => none) = some l → PGs X es (gsT l) ∧ es.length = l.length ∧ es.all notStar = true
  | [], l, h => by
    simp at h
    subst h
    exact ⟨pgs_nil, rfl, rfl⟩
  | e :: es, l, h => by
    rw [List.mapM_cons] at h
    cases e with
    | Name x p =>
      dsimp only at h
      by_cases hl : isLoc s x = true
      · rw [if_pos hl] at h
        cases hsl : s.slot x with
        | none => rw [hsl] at h; cases h
        | some i =>
          rw [hsl] at h
          cases hr : (es.mapM fun (e : Expr) => match e with
              | .Name x _ => if isLoc s x = true then s.slot x else none
              | _ => none) with
          | none => simp [hr] at h
          | some r =>
            have e1 : i :: r = l := by simpa [hr] using h
            subst e1
            obtain ⟨a, b, c⟩ := tgs_pg hs hr
            obtain ⟨l1, l2⟩ := hs.loc hl
            exact ⟨pgs_cons (pg_name hs.nd (hs.at hsl) l1 l2) a rfl, by simp [b], by simpa [notStar] using c⟩
      · rw [if_neg hl] at h; cases h
    | _ => cases h
theorem tg_pg {t : Tg} (hs : Has CT XT G k Φ Ψ X W s) (h : denTg s e = some t) : PG X e (gT X.K t) := by
  cases e with
  | Name x p =>
    simp only [denTg] at h
    split at h
    · rename_i hl
      obtain ⟨i, h1, h2⟩ := Option.map_eq_some_iff.mp h
      subst h2
      obtain ⟨l1, l2⟩ := hs.loc hl
      exact pg_name hs.nd (hs.at h1) l1 l2
    · cases h
  | Tuple es kk p =>
    simp only [denTg] at h
    obtain ⟨l, h1, h2⟩ := Option.map_eq_some_iff.mp h
    subst h2
    obtain ⟨a, b, c⟩ := tgs_pg hs h1
    obtain ⟨d1, d2⟩ := assign_len (env := X.env) c
    exact pg_tup hs.calm a (d1.trans b) d2
  | _ => cases h
/-! sources -/
abbrev OkI (CT : Cts) (XT : Nat → Option (Value × List Str)) (G : Gx) (Φ Ψ : Nat → FM) (X : Cx) (W : WX) (tg it : Expr) (t : Sr) : Prop := PI X tg it (tI (kx X CT) XT W false (evI G.T Φ Ψ t))
theorem PI.imp {tg it : Expr} {w1 w2 : TI} (h : PI X tg it w1) (k : ∀ σ H R, w2 σ H R → w1 σ H R) : PI X tg it w2 := ⟨fun pins s σ H R I z => h.run pins s σ H R I (k σ H R z)⟩
theorem okI_no {tg it : Expr} : OkI CT XT G Φ Ψ X W tg it .no := ⟨fun pins s σ H R I h => by obtain ⟨γ, _, z⟩ := h; simp only [evI] at z; exact z.elim⟩
theorem okI_sq {tg : Expr} {t : Ex} (ha : OkE CT XT G Φ Ψ X W a t) : OkI CT XT G Φ Ψ X W tg a (.sq t) := PI.imp (pi_seq ha) fun σ H R h => by
  simp only [evI] at h
  exact tI_seq (κ := kx X CT) (h.weak fun z => by cases z)
theorem ff {P : Prop} (z : false = true) : P := by cases z
theorem okI_r1 {tg : Expr} {t : Exs} {p0 : Pos} (hg : Gl X "range") (hm : X.mg "range" = none) (h1 : notStar a = true) (ha : OkA CT XT G Φ Ψ X W [a] t) : OkI CT XT G Φ Ψ X W tg (.Call (.Name "range" p0) [a] [] pos) (.r1 t) := PI.imp (pi_range1 hg hm ha (star_cons h1)) fun σ H R h => by
  simp only [evI] at h
  exact tI_rng1 (κ := kx X CT) (h.weak ff)
theorem okI_r2 {tg : Expr} {t : Exs} {p0 : Pos} (hg : Gl X "range") (hm : X.mg "range" = none) (h1 : notStar a = true) (h2 : notStar b = true) (ha : OkA CT XT G Φ Ψ X W [a, b] t) : OkI CT XT G Φ Ψ X W tg (.Call (.Name "range" p0) [a, b] [] pos) (.r2 t) :=
  PI.imp (pi_range2 hg hm ha (by rw [star_cons h1, star_cons h2]; rfl) (star_cons h2)) fun σ H R h => by
  simp only [evI] at h
  exact tI_rng2 (κ := kx X CT) (h.weak ff)
theorem okI_r3 {tg c : Expr} {t : Exs} {p0 : Pos} (hg : Gl X "range") (hm : X.mg "range" = none) (h1 : notStar a = true) (h2 : [b, c].all notStar = true) (ha : OkA CT XT G Φ Ψ X W [a, b, c] t) : OkI CT XT G Φ Ψ X W tg (.Call (.Name "range" p0) [a, b, c] [] pos) (.r3 t) :=
  PI.imp (pi_range3 hg hm ha (star_cons h1) (star_any h2)) fun σ H R h => by
  simp only [evI] at h
  exact tI_rng3 (κ := kx X CT) (h.weak ff)
theorem okI_en {es : List Expr} {kk : Nat} {tp : Pos} {t : Ex} {p0 : Pos} (hg : Gl X "enumerate") (hm : X.mg "enumerate" = none) (h1 : notStar a = true) (ha : OkE CT XT G Φ Ψ X W a t) : OkI CT XT G Φ Ψ X W (.Tuple es kk tp) (.Call (.Name "enumerate" p0) [a] [] pos) (.en t) :=
  PI.imp (pi_enum hg hm (a_cons ha a_nil (star_cons h1)) (star_cons h1)) fun σ H R h => by
  simp only [evI] at h
  exact tI_enum (κ := kx X CT) (h.weak ff)
theorem okI_zip {es : List Expr} {kk : Nat} {tp : Pos} {t : Exs} {p0 : Pos} (hg : Gl X "zip") (hm : X.mg "zip" = none) (h1 : notStar a = true) (h2 : notStar b = true) (ha : OkA CT XT G Φ Ψ X W [a, b] t) : OkI CT XT G Φ Ψ X W (.Tuple es kk tp) (.Call (.Name "zip" p0) [a, b] [] pos) (.zip t) :=
  PI.imp (pi_zip hg hm ha (star_cons h1) (star_any (by simp [h2]))) fun σ H R h => by
  simp only [evI] at h
  exact tI_zip (κ := kx X CT) (h.weak ff)
/-- items that are pairs have a target for them -/
theorem pairs_ok {sr : Sr} {t : Tg} (h : okTg sr t = true) : ∀ env its ls e, evI G.T Φ Ψ sr env = .ok (its, ls) e → ∀ it ∈ its, ∀ v w, it = .two v w → gT κ.K t = gTup κ.K 2 (gsO t) := by
  have tp2 : (∃ i j, t = .tp [i, j]) → ∀ env its ls e, evI G.T Φ Ψ sr env = .ok (its, ls) e → ∀ it ∈ its, ∀ v w, it = .two v w → gT κ.K t = gTup κ.K 2 (gsO t) := by
    rintro ⟨i, j, rfl⟩ env its ls e _ it _ v w _
    rfl
  have one : (∀ env its ls e, evI G.T Φ Ψ sr env = .ok (its, ls) e → ∀ it ∈ its, ∃ v, it = Item.one v) → ∀ env its ls e, evI G.T Φ Ψ sr env = .ok (its, ls) e → ∀ it ∈ its, ∀ v w, it = .two v w → gT κ.K t = gTup κ.K 2 (gsO t) := by
    intro h1 env its ls e he it hit v w ei
    obtain ⟨u, hu⟩ := h1 env its ls e he it hit
    rw [hu] at ei
    cases ei
  have rng : ∀ lo st n (it : Item), it ∈ rangeItems lo st n → ∃ v, it = Item.one v := by
    intro lo st n it hit
    unfold rangeItems at hit
    obtain ⟨z, _, hz⟩ := List.mem_map.mp hit
    exact ⟨_, hz.symm⟩
  cases sr with
  | no => exact one fun env its ls e he => by simp only [evI] at he; cases he
  | sq a =>
    refine one fun env its ls e he => ?_
    simp only [evI, mSeqI] at he
    cases hm : ev G.T Φ Ψ a env with
    | no => rw [hm] at he; cases he
    | ex c fs e2 => rw [hm] at he; cases he
    | ok v e2 =>
      rw [hm] at he
      simp only [R.bind, seqI] at he
      split at he
      · rename_i ds hd
        split at he
        · cases he
          intro it hit
          unfold itemsOf at hit
          obtain ⟨z, _, hz⟩ := List.mem_map.mp hit
          exact ⟨_, hz.symm⟩
        · cases he
      · cases he
        intro it hit
        obtain ⟨z, _, hz⟩ := List.mem_map.mp hit
        exact ⟨_, hz.symm⟩
      · cases he
  | r1 a =>
    refine one fun env its ls e he => ?_
    simp only [evI, mRng1] at he
    cases hm : evs G.T Φ Ψ a env with
    | no => rw [hm] at he; cases he
    | ex c fs e2 => rw [hm] at he; cases he
    | ok v e2 =>
      rw [hm] at he
      simp only [R.bind, rng1I] at he
      split at he
      · split at he
        · cases he; exact rng _ _ _
        · cases he
      · cases he
  | r2 a =>
    refine one fun env its ls e he => ?_
    simp only [evI, mRng2] at he
    cases hm : evs G.T Φ Ψ a env with
    | no => rw [hm] at he; cases he
    | ex c fs e2 => rw [hm] at he; cases he
    | ok v e2 =>
      rw [hm] at he
      simp only [R.bind, rng2I] at he
      split at he
      · split at he
        · cases he; exact rng _ _ _
        · cases he
      · cases he
  | r3 a =>
    refine one fun env its ls e he => ?_
    simp only [evI, mRng3] at he
    cases hm : evs G.T Φ Ψ a env with
    | no => rw [hm] at he; cases he
    | ex c fs e2 => rw [hm] at he; cases he
    | ok v e2 =>
      rw [hm] at he
      simp only [R.bind, rng3I] at he
      split at he
      · split at he
        · cases he; exact rng _ _ _
        · cases he
      · cases he
  | en a =>
    refine tp2 ?_
    unfold okTg at h
    split at h <;> first | (cases h; done) | exact ⟨_, _, rfl⟩ | (rename_i z _; cases z) | skip
    all_goals simp_all
  | zip a =>
    refine tp2 ?_
    unfold okTg at h
    split at h <;> first | (cases h; done) | exact ⟨_, _, rfl⟩ | skip
    all_goals simp_all
/-! changes -/
theorem tP_mono {m : MP} {σ : St} {H : Hp} {Q Q' : VK} (h : tP κ m σ H Q) (hq : ∀ x H, Q x H → Q' x H) : tP κ m σ H Q' := by
  obtain ⟨γ, ft, c⟩ := h
  refine ⟨γ, ft, ?_⟩
  cases hm : m γ.env with
  | none => rw [hm] at c; exact c
  | some r =>
    obtain ⟨i, π, e⟩ := r
    rw [hm] at c
    exact fun γ' H' x0 x a b c' d e' => hq _ _ (c γ' H' x0 x a b c' d e')
theorem mo_ok {m : Str} {mo : Mo} {es : List Expr} {t : Pl} {u : Exs} {apos : Pos} {o : Expr} (h : moOf m = some mo) (hb : okBase o = true) (hst : es.all notStar = true) (hn : es.length < 30) (hl : (apos.endLine == pos.line) = true) (ho : PE X o (tP (kx X CT) (evP G.T Φ Ψ t))) (ha : OkA CT XT G Φ Ψ X W es u) (hu : es = [] → u = .nil) :
    OkE CT XT G Φ Ψ X W (.Call (.Attribute o m apos) es [] pos) (.mut mo t u) := by
  simp only [OkE, Ex.p, ev]
  have nodeA : ∀ ds d rd d', gAppend ds d = some (rd, d') → isNode d = true := fun ds d rd d' hh => by
    unfold gAppend at hh
    split at hh
    · rfl
    · cases hh
  have nodeP : ∀ ds d rd d', gPop ds d = some (rd, d') → isNode d = true := fun ds d rd d' hh => by
    unfold gPop at hh
    split at hh
    · rfl
    · rfl
    · cases hh
  unfold moOf at h
  split at h
  · rename_i hm
    have : m = "append" := by simpa using hm
    subst this
    cases h
    cases es with
    | nil =>
      have := hu rfl
      subst this
      refine PE.imp (pe_bm0 PySem.F.plainAttrs_list PySem.F.slot_list_append PySem.F.type_list_append mt_append ho (base_ok hb) hl) fun σ H Q h => ?_
      simp only [Exs.p, evs] at h
      obtain z := tM_mut (T := "list") nodeA (fun F H d s x f a b c => tyL_ty a b c) gAppend_ok h
      exact tP_mono z fun x H1 ⟨a, b⟩ => ⟨a, tA_nil b⟩
    | cons e es =>
      refine PE.imp (pe_bm PySem.F.plainAttrs_list PySem.F.slot_list_append PySem.F.type_list_append mt_append ho ha (base_ok hb) ?_ hl (star_cons (all1 hst).1) (star_any (all1 hst).2)) fun σ H Q h => tM_mut (T := "list") nodeA (fun F H d s x f a b c => tyL_ty a b c) gAppend_ok h
      rw [star_all hst]
      simpa [keywordEach, backToKw] using hn
  · split at h
    · rename_i hm
      have : m = "pop" := by simpa using hm
      subst this
      cases h
      cases es with
      | nil =>
        have := hu rfl
        subst this
        refine PE.imp (pe_bm0 PySem.F.plainAttrs_list PySem.F.slot_list_pop PySem.F.type_list_pop mt_pops ho (base_ok hb) hl) fun σ H Q h => ?_
        simp only [Exs.p, evs] at h
        obtain z := tM_mut (T := "list") nodeP (fun F H d s x f a b c => tyL_ty a b c) gPop_ok h
        exact tP_mono z fun x H1 ⟨a, b⟩ => ⟨a, tA_nil b⟩
      | cons e es =>
        refine PE.imp (pe_bm PySem.F.plainAttrs_list PySem.F.slot_list_pop PySem.F.type_list_pop mt_pops ho ha (base_ok hb) ?_ hl (star_cons (all1 hst).1) (star_any (all1 hst).2)) fun σ H Q h => tM_mut (T := "list") nodeP (fun F H d s x f a b c => tyL_ty a b c) gPop_ok h
        rw [star_all hst]
        simpa [keywordEach, backToKw] using hn
    · cases h
end
end Py

set_option Elab.async false
set_option linter.all false
set_option maxRecDepth 100000
set_option maxHeartbeats 4000000
/-! PyZg: comprehensions; the induction for expressions. -/
namespace Py
open PySem L2
section
variable {CT : Cts} {XT : Nat → Option (Value × List Str)} {G : Gx} {k : Nat} {Φ Ψ : Nat → FM} {X : Cx} {W : WX} {s : Sx} {x : Str} {p q : Bool} {e a b : Expr} {pos : Pos} {κ : Kx}
abbrev W0 : WX := fun _ _ _ _ => False
theorem Has.blk {scope : Scope} (h : Has CT XT G k Φ Ψ X W s) (st : Shared) (H : Hp) (C : Addr) (cl : List (Str × Addr)) (fp : List Addr) : Has CT XT G k Φ Ψ (X.blk st H scope (compEnvC scope cl C X.env) fp) W0 (s.blk scope) where
  N := h.N
  nd := h.nd
  sc := by
    show relS scope X.env.scope = relS scope s.sc
    rw [h.sc]
  calm := h.calm
  fn := rfl
  tk := fun u s' ⟨a, B, sI, pins, σ, H, cls, d, e, I, nb, up, sky, na, os, ag, w⟩ => w.elim
  rm := h.rm
  g := h.g
theorem own_ix {N : List Str} : ∀ {l : List (Str × NameKind)}, ∀ p ∈ blkOwn N l, N[p.2]? = some p.1
  | [], p, h => by simp [blkOwn] at h
  | (y, kd) :: r, p, h => by
    unfold blkOwn at h
    have key : ∀ i, N.findIdx? (fun z => y == z) = some i → N[i]? = some y := fun i hi => by
      obtain ⟨hj, h1, _⟩ := List.findIdx?_eq_some_iff_getElem.mp hi
      rw [List.getElem?_eq_getElem hj]
      have : y = N[i] := by simpa using h1
      rw [← this]
    split at h
    · rename_i i hi
      rcases List.mem_cons.mp h with z | z
      · subst z; exact key _ hi
      · exact own_ix p z
    · rename_i i hi
      rcases List.mem_cons.mp h with z | z
      · subst z; exact key _ hi
      · exact own_ix p z
    · exact own_ix p h
theorem own_has {N : List Str} : ∀ {l : List (Str × NameKind)}, ∀ y ∈ l, y.2 = .local ∨ y.2 = .cell → y.1 ∈ (blkOwn N l).map (·.1) ∨ y.1 ∉ N
  | [], y, h, _ => by simp at h
  | (z, kd) :: r, y, h, hk => by
    rcases List.mem_cons.mp h with e | h
    · subst e
      unfold blkOwn
      cases hf : N.findIdx? (fun w => z == w) with
      | none =>
        refine .inr fun hm => ?_
        have := List.findIdx?_eq_none_iff.mp hf z hm
        simp at this
      | some i =>
        rcases hk with hk | hk <;> (dsimp only at hk; subst hk; exact .inl (by simp))
    · rcases own_has y h hk with w | w
      · left
        unfold blkOwn
        split
        · simp at w ⊢; exact .inr w
        · simp at w ⊢; exact .inr w
        · exact w
      · exact .inr w
theorem blk_ok {scope : Scope} (h : Has CT XT G k Φ Ψ X W s) (hc : blkChk s.sc scope = true) : BlkOk X.N X.env.scope scope (blkOwn s.N scope.names) := by
  obtain ⟨h1, h3⟩ := Bool.and_eq_true_iff.mp hc
  obtain ⟨h1, h2⟩ := Bool.and_eq_true_iff.mp h1
  refine ⟨of_decide_eq_true h1, fun y hy => of_decide_eq_true (List.all_eq_true.mp h2 y hy), fun p hp => by rw [h.N]; exact own_ix p hp, fun y hy hf => ?_, fun y hy hk => by rw [h.N]; exact own_has y hy hk⟩
  have z := List.all_eq_true.mp h3 y hy
  rw [hf] at z
  rw [h.sc]
  rcases Bool.or_eq_true_iff.mp z with w | w
  · exact .inl (of_decide_eq_true w)
  · exact .inr (of_decide_eq_true w)
theorem PTs.imp {ifs : List Expr} {t t' : TT} (h : PTs X ifs t) (k : ∀ σ H Q, t' σ H Q → t σ H Q) : PTs X ifs t' := ⟨fun pins s σ H Q I z => h.run pins s σ H Q I (k σ H Q z)⟩
theorem fold_ok (h : notSet e = true) : ∀ y, foldedSetIterable e X.env y = pure y := by
  intro y
  cases e <;> first | rfl | (cases h; done)
/-- what a comprehension's parts must be -/
structure LcOk (CT : Cts) (XT : Nat → Option (Value × List Str)) (G : Gx) (Φ Ψ : Nat → FM) (X : Cx) (W : WX) (s : Sx) (tg it elt : Expr) (ifs : List Expr) (scope : Scope) (sr : Sr) (t : Tg) (u v : Ex) : Prop where
  chk : blkChk s.sc scope = true
  ns : notSet it = true
  tgo : okTg sr t = true
  sl : ∀ i ∈ t.slots, i ∈ (blkOwn s.N scope.names).map (·.2)
  src : OkI CT XT G Φ Ψ X W tg it sr
  tg : ∀ st H C cl fp, PG (X.blk st H scope (compEnvC scope cl C X.env) fp) tg (gT X.K t)
  tst : ∀ st H C cl fp, PTs (X.blk st H scope (compEnvC scope cl C X.env) fp) ifs (tT (kx X CT) XT W0 (u.p G.T) (ev G.T Φ Ψ u))
  elt : ∀ st H C cl fp, PE (X.blk st H scope (compEnvC scope cl C X.env) fp) elt (tM (kx X CT) XT W0 (v.p G.T) (ev G.T Φ Ψ v))
theorem lc_read {tg it elt : Expr} {ifs : List Expr} {scope : Scope} {sr : Sr} {t : Tg} {u v : Ex} {σ : St} {H : Hp} {Q : VK} (o : LcOk CT XT G Φ Ψ X W s tg it elt ifs scope sr t u v)
    (h : tM (kx X CT) XT W false (ev G.T Φ Ψ (.comp sr ((blkOwn s.N scope.names).map (·.2)) t u v)) σ H Q) :
    tLc (tI (kx X CT) XT W false (evI G.T Φ Ψ sr)) (gT X.K t) (tT (kx X CT) XT W0 (u.p G.T) (ev G.T Φ Ψ u)) (tM (kx X CT) XT W0 (v.p G.T) (ev G.T Φ Ψ v)) ((blkOwn s.N scope.names).map (·.2)) σ H Q := by
  simp only [ev] at h
  exact tM_comp (κ := kx X CT) (t := gsO t) (fun σ H R z => z) (gT_ok (κ := kx X CT) t) ⟨gT_s (κ := kx X CT) t, pairs_ok (κ := kx X CT) o.tgo⟩ (gT_w (κ := kx X CT) t) o.sl h
theorem ok_comp {tg it elt : Expr} {ifs : List Expr} {scope : Scope} {sr : Sr} {t : Tg} {u v : Ex} (hs : Has CT XT G k Φ Ψ X W s) (o : LcOk CT XT G Φ Ψ X W s tg it elt ifs scope sr t u v) :
    OkE CT XT G Φ Ψ X W (.ListComp elt [⟨tg, it, ifs, 0⟩] scope pos) (.comp sr ((blkOwn s.N scope.names).map (·.2)) t u v) :=
  PE.imp (pe_lc hs.calm hs.nd o.src (blk_ok hs o.chk) o.tg o.tst o.elt (fold_ok o.ns)) fun σ H Q h => lc_read o h
/-- values one by one -/
inductive Each (CT : Cts) (XT : Nat → Option (Value × List Str)) (G : Gx) (Φ Ψ : Nat → FM) (X : Cx) (W : WX) : List Expr → Exs → Prop
  | nil : Each CT XT G Φ Ψ X W [] .nil
  | cons {e : Expr} {es : List Expr} {t : Ex} {u : Exs} : OkE CT XT G Φ Ψ X W e t → Each CT XT G Φ Ψ X W es u → Each CT XT G Φ Ψ X W (e :: es) (.cons t u)
  | bad {es : List Expr} : Each CT XT G Φ Ψ X W es (.cons .no .nil)
theorem tA_bad {σ : St} {H : Hp} {Q : List V → Hp → Prop} (h : tA κ XT W p (evs G.T Φ Ψ (.cons .no .nil)) σ H Q) : False := by
  obtain ⟨γ, _, z⟩ := h
  simp only [evs, ev] at z
  exact z
theorem Each.pa {es : List Expr} {t : Exs} (h : Each CT XT G Φ Ψ X W es t) (hs : es.all notStar = true) : OkA CT XT G Φ Ψ X W es t := by
  induction h with
  | nil => exact ok_nil
  | cons h1 h2 ih => exact ok_cons (all1 hs).1 h1 (ih (all1 hs).2)
  | bad => exact ⟨fun pos pins s σ H Q I z => (tA_bad z).elim⟩
theorem each_pk : ∀ {kws : List Keyword} {t : Exs}, Each CT XT G Φ Ψ X W (kws.map (·.value)) t → ∃ tk, PK X kws tk ∧ ∀ σ H Q, tA (kx X CT) XT W (t.p G.T) (evs G.T Φ Ψ t) σ H Q → tk σ H Q
  | [], _, .nil => ⟨_, pk_nil, fun σ H Q h => by simp only [evs] at h; exact tA_nil h⟩
  | _, _, .bad => ⟨fun _ _ _ => False, ⟨fun pos pins s σ H Q I z => z.elim⟩, fun σ H Q h => tA_bad h⟩
  | ⟨nm, v, kp⟩ :: kws, _, .cons h1 h2 => by
    obtain ⟨tk, p1, p2⟩ := each_pk h2
    refine ⟨_, pk_cons h1 p1, fun σ H Q h => ?_⟩
    simp only [Exs.p, evs] at h
    exact tM.mono (fun x H1 z => p2 _ _ _ z) (tA_cons h)
theorem each_kw {kws : List Keyword} : ∀ {es : List Expr} {t : Exs}, es.all notStar = true → Each CT XT G Φ Ψ X W (es ++ kws.map (·.value)) t → ∃ t1 tk, PA X es t1 ∧ PK X kws tk ∧ ∀ σ H Q, tA (kx X CT) XT W (t.p G.T) (evs G.T Φ Ψ t) σ H Q → t1 σ H fun xs H1 => tk σ H1 fun ys H2 => Q (xs ++ ys) H2
  | [], t, _, h => by
    obtain ⟨tk, p1, p2⟩ := each_pk h
    exact ⟨_, tk, pa_nil, p1, fun σ H Q z => p2 σ H _ z⟩
  | e :: es, t, hs, h => by
    cases h with
    | cons h1 h2 =>
      obtain ⟨t1, tk, a1, a2, a3⟩ := each_kw (all1 hs).2 h2
      refine ⟨_, tk, pa_cons h1 a1 (star_cons (all1 hs).1), a2, fun σ H Q z => ?_⟩
      simp only [Exs.p, evs] at z
      exact tM.mono (fun x H1 y => a3 _ _ _ y) (tA_cons z)
    | bad => exact ⟨fun _ _ _ => False, fun _ _ _ => False, ⟨fun pos pins s σ H Q I z => z.elim⟩, ⟨fun pos pins s σ H Q I z => z.elim⟩, fun σ H Q z => tA_bad z⟩
/-- all at one fuel -/
structure Sound (CT : Cts) (XT : Nat → Option (Value × List Str)) (G : Gx) (k : Nat) (Φ Ψ : Nat → FM) (n : Nat) : Prop where
  e : ∀ {X W s} (e : Expr), Has CT XT G k Φ Ψ X W s → OkE CT XT G Φ Ψ X W e (denE G n s e)
  t : ∀ {X W s} (e : Expr), Has CT XT G k Φ Ψ X W s → OkT CT XT G Φ Ψ X W e (denT G n s e)
  a : ∀ {X W s} (es : List Expr), Has CT XT G k Φ Ψ X W s → Each CT XT G Φ Ψ X W es (denA G n s es) ∧ (es = [] → denA G n s es = .nil)
  p : ∀ {X W s} (e : Expr), Has CT XT G k Φ Ψ X W s → PE X e (tP (kx X CT) (evP G.T Φ Ψ (denP G n s e)))
  i : ∀ {X W s} (tg it : Expr), Has CT XT G k Φ Ψ X W s → OkI CT XT G Φ Ψ X W tg it (denI G n s (isTup tg) it)
theorem tup_of {tg : Expr} (h : isTup tg = true) : ∃ es kk p, tg = .Tuple es kk p := by
  cases tg with
  | Tuple es kk p => exact ⟨es, kk, p, rfl⟩
  | _ => cases h
theorem sound_p {n : Nat} (ih : Sound CT XT G k Φ Ψ n) (e : Expr) (hs : Has CT XT G k Φ Ψ X W s) : PE X e (tP (kx X CT) (evP G.T Φ Ψ (denP G (n + 1) s e))) := by
  have no : PE X e (tP (kx X CT) (evP G.T Φ Ψ .no)) := by simp only [evP]; exact p_no
  cases e with
  | Name x p =>
    simp only [denP]
    split
    · rename_i h
      obtain ⟨h1, h2⟩ := Bool.and_eq_true_iff.mp h
      split
      · rename_i i hi
        simp only [evP]
        exact p_var (hs.at hi) (hs.vis h2) (plain_db h1).1 (plain_db h1).2
      · exact no
    · exact no
  | Attribute o f p =>
    simp only [denP]
    split
    · rename_i h
      simp only [evP]
      exact p_fld hs.g.cf (ih.p o hs) h
    · exact no
  | Subscript o b p =>
    simp only [denP]
    split
    · rename_i h
      obtain ⟨h1, h2⟩ := Bool.and_eq_true_iff.mp h
      simp only [evP]
      have hb := ih.e b hs
      simp only [OkE, h2] at hb
      exact p_ix (XT := XT) (W := W) (ih.p o hs) hb (notSlice_ix h1)
    · exact no
  | _ => simp only [denP]; exact no
theorem sound_i {n : Nat} (ih : Sound CT XT G k Φ Ψ n) (tg e : Expr) (hs : Has CT XT G k Φ Ψ X W s) : OkI CT XT G Φ Ψ X W tg e (denI G (n + 1) s (isTup tg) e) := by
  have sq : OkI CT XT G Φ Ψ X W tg e (.sq (denE G n s e)) := okI_sq (ih.e e hs)
  have no : OkI CT XT G Φ Ψ X W tg e .no := okI_no
  unfold denI
  split
  · rename_i x p0 a p1
    split
    · rename_i h
      obtain ⟨h1, h2⟩ := Bool.and_eq_true_iff.mp h
      split
      · rename_i hb
        have hm := hs.g.bi _ hb
        split
        · rename_i hx
          have : x = "range" := by simpa using hx
          subst this
          exact okI_r1 (hs.gl h1) hm h2 ((ih.a [a] hs).1.pa (by simp [h2]))
        · split
          · rename_i hx
            obtain ⟨hx, ht⟩ := Bool.and_eq_true_iff.mp hx
            have : x = "enumerate" := by simpa using hx
            subst this
            obtain ⟨es, kk, p, rfl⟩ := tup_of ht
            exact okI_en (hs.gl h1) hm h2 (ih.e a hs)
          · exact sq
      · exact sq
    · exact no
  · rename_i x p0 a b p1
    split
    · rename_i h
      obtain ⟨h, h3⟩ := Bool.and_eq_true_iff.mp h
      obtain ⟨h1, h2⟩ := Bool.and_eq_true_iff.mp h
      split
      · rename_i hb
        have hm := hs.g.bi _ hb
        split
        · rename_i hx
          have : x = "range" := by simpa using hx
          subst this
          exact okI_r2 (hs.gl h1) hm h2 h3 ((ih.a [a, b] hs).1.pa (by simp [h2, h3]))
        · split
          · rename_i hx
            obtain ⟨hx, ht⟩ := Bool.and_eq_true_iff.mp hx
            have : x = "zip" := by simpa using hx
            subst this
            obtain ⟨es, kk, p, rfl⟩ := tup_of ht
            exact okI_zip (hs.gl h1) hm h2 h3 ((ih.a [a, b] hs).1.pa (by simp [h2, h3]))
          · exact no
      · exact sq
    · exact no
  · rename_i x p0 a b c p1
    split
    · rename_i h
      obtain ⟨h, h4⟩ := Bool.and_eq_true_iff.mp h
      obtain ⟨h, h3⟩ := Bool.and_eq_true_iff.mp h
      obtain ⟨h1, h2⟩ := Bool.and_eq_true_iff.mp h
      split
      · rename_i hb
        have hm := hs.g.bi _ hb
        split
        · rename_i hx
          have : x = "range" := by simpa using hx
          subst this
          exact okI_r3 (hs.gl h1) hm h2 (by simp [h3, h4]) ((ih.a [a, b, c] hs).1.pa (by simp [h2, h3, h4]))
        · exact no
      · exact sq
    · exact no
  · exact sq
theorem sound_a {n : Nat} (ih : Sound CT XT G k Φ Ψ n) (es : List Expr) (hs : Has CT XT G k Φ Ψ X W s) : Each CT XT G Φ Ψ X W es (denA G (n + 1) s es) ∧ (es = [] → denA G (n + 1) s es = .nil) := by
  cases es with
  | nil => exact ⟨by simp only [denA]; exact .nil, fun _ => by simp only [denA]⟩
  | cons e r =>
    simp only [denA]
    exact ⟨.cons (ih.e e hs) (ih.a r hs).1, fun z => by cases z⟩
theorem ok_and {r : List Expr} {t u : Ex} (ha : OkE CT XT G Φ Ψ X W a t) (hb : OkE CT XT G Φ Ψ X W (.BoolOp .And (b :: r) pos) u) : OkE CT XT G Φ Ψ X W (.BoolOp .And (a :: b :: r) pos) (.and t u) := by
  simp only [OkE, Ex.p, ev]
  exact e_and ha hb
theorem ok_or {r : List Expr} {t u : Ex} (ha : OkE CT XT G Φ Ψ X W a t) (hb : OkE CT XT G Φ Ψ X W (.BoolOp .Or (b :: r) pos) u) : OkE CT XT G Φ Ψ X W (.BoolOp .Or (a :: b :: r) pos) (.or t u) := by
  simp only [OkE, Ex.p, ev]
  exact e_or ha hb
/-- a test of and, or as a whole -/
theorem pw_of {op : BoolOp} {es : List Expr} {t : TT} (h : PT X (.BoolOp op es pos) t) : PW X (.BoolOp op es pos) t := ⟨fun wh pins s σ H Q I z => h.run pins s σ H Q I z⟩
theorem okT_and {r : List Expr} {t u : Ex} (ha : OkT CT XT G Φ Ψ X W a t) (hb : OkT CT XT G Φ Ψ X W (.BoolOp .And (b :: r) pos) u) : OkT CT XT G Φ Ψ X W (.BoolOp .And (a :: b :: r) pos) (.and t u) := by
  simp only [OkT, Ex.p, ev]
  exact (w_and ha (pw_of hb)).pt
theorem okT_or {r : List Expr} {t u : Ex} (ha : OkT CT XT G Φ Ψ X W a t) (hb : OkT CT XT G Φ Ψ X W (.BoolOp .Or (b :: r) pos) u) : OkT CT XT G Φ Ψ X W (.BoolOp .Or (a :: b :: r) pos) (.or t u) := by
  simp only [OkT, Ex.p, ev]
  exact (w_or ha (pw_of hb)).pt
theorem okT_one {op : BoolOp} {t : Ex} (ha : OkT CT XT G Φ Ψ X W a t) : OkT CT XT G Φ Ψ X W (.BoolOp op [a] pos) t := by
  cases op
  · exact (pw_and1 ha).pt
  · exact (pw_or1 ha).pt
theorem sound_t {n : Nat} (ih : Sound CT XT G k Φ Ψ n) (e : Expr) (hs : Has CT XT G k Φ Ψ X W s) : OkT CT XT G Φ Ψ X W e (denT G (n + 1) s e) := by
  unfold denT
  split
  · rename_i a p
    simp only [OkT, Ex.p, ev]
    exact t_not (ih.t a hs)
  · exact okT_one (ih.t _ hs)
  · exact okT_and (ih.t _ hs) (ih.t _ hs)
  · exact okT_or (ih.t _ hs) (ih.t _ hs)
  · exact op1t rfl (t_isN (ih.e _ hs))
  · exact op1t rfl (t_notN (ih.e _ hs))
  · split
    · rename_i h
      split
      · rename_i hn
        exact ok_cmpT hs h hn (ih.e _ hs) (ih.e _ hs)
      · exact okT_no
    · exact okT_no
  · split
    · rename_i h1 h2
      split
      · rename_i hn
        exact ok_chnT h1 h2 hn (ih.e _ hs) (ih.e _ hs) (ih.e _ hs)
      · exact okT_no
    · exact okT_no
  · split
    · rename_i h
      exact t_of (ih.e _ hs) (plainT_ok h)
    · exact okT_no
end
end Py

set_option Elab.async false
set_option linter.all false
set_option maxRecDepth 100000
set_option maxHeartbeats 4000000
/-! PyZh: the induction for expressions. -/
namespace Py
open PySem L2
section
variable {CT : Cts} {XT : Nat → Option (Value × List Str)} {G : Gx} {k : Nat} {Φ Ψ : Nat → FM} {X : Cx} {W : WX} {s : Sx} {x : Str} {p q : Bool} {e a b : Expr} {pos : Pos} {κ : Kx}
theorem okE_c {d : D} (h : PE X e (tM (kx X CT) XT W true (mC d))) : OkE CT XT G Φ Ψ X W e (.c d) := by simp only [OkE, Ex.p, ev]; exact h
theorem slice_e (h : notSlice b = true) : notSliceE b = true := by cases b <;> first | rfl | (cases h; done)
theorem ok_seqA {t : Exs} {o : Bo} {o0 : Op} (hno : o.own G.T Φ Ψ = ownNo) (ho : o.op G.T = opSz 1000 o0) (h : PE X e (tM (kx X CT) XT W (t.p G.T) (mOp (szAll 1000 (evs G.T Φ Ψ t)) o0))) : OkE CT XT G Φ Ψ X W e (.op o t) := by
  simp only [OkE, Ex.p, ev, ho, hno, mOpO_no]
  rw [mOp_sz] at h
  exact h
theorem ok_isi {r : List Expr} {t : Ex} {p0 : Pos} (hs : Has CT XT G k Φ Ψ X W s) (hg : isGl s.sc "isinstance" = true) (hb : G.gb "isinstance" = some .bi) (hst : (a :: r).all notStar = true) (ha : OkE CT XT G Φ Ψ X W a t) : OkE CT XT G Φ Ψ X W (.Call (.Name "isinstance" p0) (a :: r) [] pos) (denK G s t r) := by
  obtain ⟨h1, h2⟩ := all1 hst
  have hm := hs.g.bi _ hb
  unfold denK
  split
  · rename_i x px
    split
    · rename_i h
      obtain ⟨h3, h4⟩ := Bool.and_eq_true_iff.mp h
      split
      · rename_i hx
        split
        · rename_i ty hty
          refine op1 rfl ?_
          exact isi_ok (hs.gl hg) hm ha (ty_pe hty (hs.gl h4) (hs.g.bi _ hx)) (.ty _) (ops_isT hs.g.isf) h1 rfl
        · exact okE_no
      · rename_i c hx
        obtain ⟨C, names, hmC, hC, _⟩ := hs.g.cl _ _ hx
        refine op1 rfl ?_
        exact isi_ok (hs.gl hg) hm ha (pe_glob (hs.gl h4) hmC (v := V.ref C) rfl (plain_db h3).1) (.own C) (ops_isC hs.g.isf hC) h1 rfl
      · exact okE_no
    · exact okE_no
  · exact okE_no
theorem ok_kw {f : Nat} {i : Fi} {r : List Expr} {kws : List Keyword} {t : Exs} {p0 : Pos} (hs : Has CT XT G k Φ Ψ X W s) (hn : plainName x = true) (hg : isGl s.sc x = true) (hf : G.gb x = some (.fn f)) (hi : G.T.fn f = some i) (hst : (a :: r).all notStar = true) (hall : kws.all (·.arg.isSome) = true) (hk : i.kw = kws.filterMap (·.arg))
    (ha : Each CT XT G Φ Ψ X W ((a :: r) ++ kws.map (·.value)) t) : OkE CT XT G Φ Ψ X W (.Call (.Name x p0) (a :: r) kws pos) (.call f true t) := by
  simp only [OkE, Ex.p, ev]
  cases hc : cbOf G.T Φ f t.len true with
  | none => exact e_no
  | some cb =>
    obtain ⟨ad, hm, _, h1⟩ := hs.g.fn x f hf
    obtain ⟨t1, tk, a1, a2, a3⟩ := each_kw hst ha
    have := e_callK (p0 := p0) (pos := pos) (h1 _ cb i hi hc) hs.rm (hs.gl hg) hm hs.tk a1 a2 hk.symm hall (plain_db hn).1 hst a3
    rw [cb_lent hc] at this
    exact this
theorem ok_dnew {t : Bool} : OkE CT XT G Φ Ψ X W (.Dict [] [] pos) (.op (.dnew t) .nil) := by
  simp only [OkE, Ex.p, Exs.p, ev, evs]
  have key : ∀ σ H Q, tM (kx X CT) XT W true (mOp evNil (opDNew t)) σ H Q → ∀ p, H p = none → Q (.ref p) (upd H p (if t = true then .dT [] else .dK [])) := fun σ H Q h => (tA_nil (tM_op opDNew_ok h)).2
  cases t with
  | true => exact PE.imp pe_dnewT fun σ H Q h => key σ H Q h
  | false => exact PE.imp pe_dnewK fun σ H Q h => key σ H Q h
theorem sound_e {n : Nat} (ih : Sound CT XT G k Φ Ψ n) (e : Expr) (hs : Has CT XT G k Φ Ψ X W s) : OkE CT XT G Φ Ψ X W e (denE G (n + 1) s e) := by
  unfold denE
  split
  · exact okE_c e_int
  · exact okE_c e_bl
  · exact okE_c e_non
  · exact okE_c e_str
  · rename_i x p
    split
    · rename_i hn
      split
      · rename_i hv
        split
        · rename_i i hi
          simp only [OkE, Ex.p, ev]
          exact e_var (hs.at hi) (hs.vis hv) (plain_db hn).1 (plain_db hn).2
        · exact okE_no
      · split
        · rename_i hg
          split
          · rename_i d hd
            split
            · rename_i hat
              obtain ⟨u, hm, r⟩ := hs.g.at_ _ _ hd
              exact okE_c (e_glob (hs.gl hg) hm hat r (plain_db hn).1)
            · exact okE_no
          · exact okE_no
        · exact okE_no
    · exact okE_no
  · split
    · rename_i h
      exact op2 (bin_own h) (bin_ok h (ih.e _ hs) (ih.e _ hs))
    · exact okE_no
  · exact op1 rfl (e_isN (ih.e _ hs))
  · exact op1 rfl (e_notN (ih.e _ hs))
  · split
    · rename_i h
      split
      · rename_i hn
        exact ok_cmp hs h hn (ih.e _ hs) (ih.e _ hs)
      · exact okE_no
    · exact okE_no
  · split
    · rename_i h1 h2
      split
      · rename_i hn
        exact ok_chn h1 h2 hn (ih.e _ hs) (ih.e _ hs) (ih.e _ hs)
      · exact okE_no
    · exact okE_no
  · exact op1 rfl (e_neg (ih.e _ hs))
  · simp only [OkE, Ex.p, ev]
    exact e_not (ih.e _ hs)
  · exact e_one (ih.e _ hs)
  · exact ok_and (ih.e _ hs) (ih.e _ hs)
  · exact ok_or (ih.e _ hs) (ih.e _ hs)
  · simp only [OkE, Ex.p, ev]
    exact e_if (ih.t _ hs) (PE.weak (ih.e _ hs) fun z => (Bool.and_eq_true_iff.mp z).1) (PE.weak (ih.e _ hs) fun z => (Bool.and_eq_true_iff.mp z).2)
  · split
    · rename_i h
      exact ok_seqA rfl rfl (e_lst ((ih.a _ hs).1.pa h))
    · exact okE_no
  · split
    · rename_i h
      exact ok_seqA rfl rfl (e_tup ((ih.a _ hs).1.pa h))
    · exact okE_no
  · exact op1 rfl (e_sl0 (ih.e _ hs))
  · exact op2 rfl (e_sl1 (ih.e _ hs) (ih.e _ hs))
  · exact op2 rfl (e_sl2 (ih.e _ hs) (ih.e _ hs))
  · split
    · rename_i h
      exact op2o (e_ixO hs.g.isf (hs.g.mta0 _ _) (ops_either ops_ix ops_ixD) (ix_own hs.g.owf (hs.g.mt0 _ _) hs.rm hs.tk (ix_seq.or (ix_dict (by have := hs.rm.units; omega)))) (ih.e _ hs) (ih.e _ hs) (slice_e h))
    · exact okE_no
  · exact ok_dnew
  · split
    · rename_i h
      exact op1 rfl (e_fld hs.g.cf (ih.e _ hs) h)
    · exact okE_no
  · rename_i x p0 a r p1
    split
    · rename_i h
      obtain ⟨h, h3⟩ := Bool.and_eq_true_iff.mp h
      obtain ⟨h1, h2⟩ := Bool.and_eq_true_iff.mp h
      split
      · rename_i f hf
        exact ok_call hs h1 h2 hf h3 ((ih.a _ hs).1.pa h3)
      · rename_i c hf
        exact ok_new hs h1 h2 hf h3 ((ih.a _ hs).1.pa h3)
      · rename_i hb
        split
        · rename_i hx
          have : x = "isinstance" := by simpa using hx
          subst this
          exact ok_isi hs h2 hb h3 (ih.e _ hs)
        · split
          · rename_i o ho
            have := bi_ok (p0 := p0) (pos := p1) hs ho (hs.gl h2) (hs.g.bi _ hb) ((ih.a _ hs).1.pa h3) h3
            simp only [OkE, Ex.p, ev]
            exact this
          · exact okE_no
      · exact okE_no
    · exact okE_no
  · rename_i x p0 a r kw kws p1
    split
    · rename_i h
      obtain ⟨h, h4⟩ := Bool.and_eq_true_iff.mp h
      obtain ⟨h, h3⟩ := Bool.and_eq_true_iff.mp h
      obtain ⟨h1, h2⟩ := Bool.and_eq_true_iff.mp h
      split
      · rename_i f hf
        split
        · rename_i i hi
          split
          · rename_i hk
            exact ok_kw hs h1 h2 hf hi h3 h4 hk (ih.a _ hs).1
          · exact okE_no
        · exact okE_no
      · exact okE_no
    · exact okE_no
  · rename_i o m ap args p1
    split
    · rename_i h
      obtain ⟨h, h4⟩ := Bool.and_eq_true_iff.mp h
      obtain ⟨h, h3⟩ := Bool.and_eq_true_iff.mp h
      obtain ⟨h1, h2⟩ := Bool.and_eq_true_iff.mp h
      split
      · rename_i mo hmo
        exact mo_ok hmo h1 h2 (of_decide_eq_true h3) h4 (ih.p _ hs) ((ih.a _ hs).1.pa h2) (ih.a _ hs).2
      · exact ok_meth hs h1 h2 (of_decide_eq_true h3) h4 (ih.e _ hs) ((ih.a _ hs).1.pa h2) (ih.a _ hs).2
    · exact okE_no
  · rename_i elt tg it ifs scope p1
    split
    · rename_i t ht
      split
      · rename_i h
        obtain ⟨h, h4⟩ := Bool.and_eq_true_iff.mp h
        obtain ⟨h, h3⟩ := Bool.and_eq_true_iff.mp h
        obtain ⟨h1, h2⟩ := Bool.and_eq_true_iff.mp h
        refine ok_comp hs ⟨h1, h2, h3, fun i hi => by simpa using List.all_eq_true.mp h4 i hi, ih.i tg it hs, fun st H C cl fp => tg_pg (hs.blk st H C cl fp) ht, fun st H C cl fp => ?_, fun st H C cl fp => ih.e _ (hs.blk st H C cl fp)⟩
        split
        · refine PTs.imp pts_nil fun σ H Q z => ?_
          simp only [Ex.p, ev] at z
          obtain ⟨b', e', q'⟩ := tM_C (d := .bl true) rfl z
          cases e'
          exact q'
        · exact pts_one (ih.t _ (hs.blk st H C cl fp))
        · exact ⟨fun pins s σ H Q I z => by
            obtain ⟨γ, _, y⟩ := z
            simp only [ev] at y
            exact y.elim⟩
      · exact okE_no
    · exact okE_no
  · exact okE_no
theorem sound : ∀ n, Sound CT XT G k Φ Ψ n
  | 0 => ⟨fun e hs => by simp only [denE]; exact okE_no, fun e hs => by simp only [denT]; exact okT_no, fun es hs => by
      cases es with
      | nil => simp only [denA]; exact ⟨.nil, fun _ => trivial⟩
      | cons a r => simp only [denA]; exact ⟨.bad, fun z => by cases z⟩, fun e hs => by simp only [denP, evP]; exact p_no, fun tg it hs => by simp only [denI]; exact okI_no⟩
  | n + 1 => ⟨fun e hs => sound_e (sound n) e hs, fun e hs => sound_t (sound n) e hs, fun es hs => sound_a (sound n) es hs, fun e hs => sound_p (sound n) e hs, fun tg it hs => sound_i (sound n) tg it hs⟩
end
end Py

set_option Elab.async false
set_option linter.all false
set_option maxRecDepth 100000
set_option maxHeartbeats 4000000
/-! PyZi: soundness of the trees: statements. -/
namespace Py
open PySem L2
section
variable {CT : Cts} {XT : Nat → Option (Value × List Str)} {G : Gx} {k : Nat} {Φ Ψ : Nat → FM} {X : Cx} {W : WX} {s : Sx} {x : Str} {p q : Bool} {e a b : Expr} {pos : Pos} {κ : Kx}
abbrev OkS (CT : Cts) (XT : Nat → Option (Value × List Str)) (G : Gx) (Φ Ψ : Nat → FM) (X : Cx) (W : WX) (st : Stmt) (t : Sm) : Prop := PS X st (tS (kx X CT) XT W (run G.T Φ Ψ t))
abbrev OkSs (CT : Cts) (XT : Nat → Option (Value × List Str)) (G : Gx) (Φ Ψ : Nat → FM) (X : Cx) (W : WX) (st : List Stmt) (t : Sms) : Prop := PSs X st (tS (kx X CT) XT W (runs G.T Φ Ψ t))
theorem okS_no {st : Stmt} : OkS CT XT G Φ Ψ X W st .no := ⟨fun pins s σ H D I h => by obtain ⟨γ, _, z⟩ := h; simp only [run] at z; exact z.elim⟩
theorem okS_nil : OkSs CT XT G Φ Ψ X W [] .nil := PSs.imp pss_nil fun D σ H h => by simp only [runs] at h; exact tS_pass h
theorem okS_cons {st : Stmt} {r : List Stmt} {t : Sm} {u : Sms} (h1 : OkS CT XT G Φ Ψ X W st t) (h2 : OkSs CT XT G Φ Ψ X W r u) : OkSs CT XT G Φ Ψ X W (st :: r) (.cons t u) := PSs.imp (pss_cons h1 h2) fun D σ H h => by simp only [runs] at h; exact tS_seq h
theorem okS_bad {r : List Stmt} : OkSs CT XT G Φ Ψ X W r (.cons .no .nil) := ⟨fun pins s σ H D I h => by obtain ⟨γ, _, z⟩ := h; simp only [runs, run, mSeq] at z; exact z.elim⟩
/-- a value goes to a target -/
theorem tS_asg {m : ME} {t : Tg} {D : Ends} {σ : St} {H : Hp} (h : tS κ XT W (mThen m fun v env => match asgT t v env with
    | some e' => .nx e'
    | none => .no) D σ H) : tAsg (tM κ XT W p m) (gT κ.K t) D σ H := by
  refine tS_then h fun γ H γ1 H1 v x fp f1 r1 hl hn c => ?_
  cases ha : asgT t v γ1.env with
  | none => simp only [ha] at c; exact c.elim
  | some e' =>
    simp only [ha] at c
    refine gT_ok t γ1 σ H1 v x fp e' (γ1.P ++ fp) D.nx f1 hl (fun a h => List.mem_append_left _ h) (fun a h => List.mem_append_right _ h) ha fun γ2 σ2 g2 => ?_
    have go : Got κ γ.P γ σ H γ1.env γ1 σ H1 := Got.ofR f1 r1
    exact c γ2 σ2 H1 (go.trans g2 fun a ha => (List.mem_append.mp ha).elim (r1.newP a) (hn a))
theorem swaps_no {o : Option Expr} {line : Nat} {env : PySem.Env} (h : notComp e = true) : swapsWith e o line env = pure false := by
  cases e <;> first | rfl | (cases h; done)
theorem swaps_sub {o i : Expr} {p0 : Pos} {line : Nat} {env : PySem.Env} : swapsWith e (some (.Subscript o i p0)) line env = pure false := by cases e <;> rfl
theorem swaps_att {o : Expr} {f : Str} {p0 : Pos} {line : Nat} {env : PySem.Env} : swapsWith e (some (.Attribute o f p0)) line env = pure false := by cases e <;> rfl
theorem sole_no {tg : Expr} {line : Nat} {env : PySem.Env} (h : notComp e = true) : swapsWithSole [tg] e line env = pure false := by unfold swapsWithSole; exact swaps_no h
theorem sole_sub {o i : Expr} {p0 : Pos} {line : Nat} {env : PySem.Env} : swapsWithSole [.Subscript o i p0] e line env = pure false := by unfold swapsWithSole; exact swaps_sub
theorem okS_ret {t : Ex} (h : OkE CT XT G Φ Ψ X W e t) : OkS CT XT G Φ Ψ X W (.Return (some e) pos) (.ret t) := PS.imp (ps_ret h) fun D σ H z => by simp only [run] at z; exact tS_ret z
theorem okS_retN : OkS CT XT G Φ Ψ X W (.Return none pos) (.ret (.c .non)) := PS.imp ps_retN fun D σ H z => by
  simp only [run, ev] at z
  have := tS_ret (p := true) z
  exact tM_C (d := .non) rfl this
theorem okS_ex {t : Ex} (h : OkE CT XT G Φ Ψ X W e t) (hn : notComp e = true) : OkS CT XT G Φ Ψ X W (.Expr e pos) (.ex t) := PS.imp (ps_expr h (swaps_no hn)) fun D σ H z => by simp only [run] at z; exact tS_drop z
theorem okS_set {t : Ex} {i : Nat} {p0 : Pos} (hs : Has CT XT G k Φ Ψ X W s) (h : OkE CT XT G Φ Ψ X W e t) (hn : swapsWith e (some (.Name x p0)) pos.line X.env = pure false) (hl : isLoc s x = true) (hi : s.slot x = some i) : OkS CT XT G Φ Ψ X W (.Assign [.Name x p0] e pos) (.set (.nm i) t) := by
  obtain ⟨l1, l2⟩ := hs.loc hl
  exact PS.imp (ps_set hs.nd (hs.at hi) l1 h hn l2) fun D σ H z => by
    simp only [run] at z
    exact tS_asg (κ := kx X CT) (t := .nm i) z
theorem okS_unp {es : List Expr} {kk : Nat} {t : Ex} {u : Tg} {p0 : Pos} (hs : Has CT XT G k Φ Ψ X W s) (h : OkE CT XT G Φ Ψ X W e t) (hn : notComp e = true) (ht : notTup e = true) (hu : denTg s (.Tuple es kk p0) = some u) : OkS CT XT G Φ Ψ X W (.Assign [.Tuple es kk p0] e pos) (.set u t) := by
  refine PS.imp (ps_asg h (tg_pg hs hu) (sole_no hn) ?_ rfl) fun D σ H z => by
    simp only [run] at z
    exact tS_asg (κ := kx X CT) (t := u) z
  cases e <;> first | rfl | (cases ht; done)
theorem okS_seti {o i : Expr} {tp : Pl} {ti t : Ex} {p0 : Pos} (hu : X.A.units + 1 < cLine) (ho : PE X o (tP (kx X CT) (evP G.T Φ Ψ tp))) (hi : OkE CT XT G Φ Ψ X W i ti) (h : OkE CT XT G Φ Ψ X W e t) (hsl : notSlice i = true) : OkS CT XT G Φ Ψ X W (.Assign [.Subscript o i p0] e pos) (.seti tp ti t) := by
  refine PS.imp (ps_asg h (pg_sub ho hi (set_either set_list (set_dict hu)) (fun v => by cases i <;> first | rfl | (cases hsl; done))) sole_sub ?_ rfl) fun D σ H z => by
    simp only [run] at z
    refine tS_setI (κ := kx X CT) (fun ds d rd d' hh => ?_) (sets_either gSetL_ok gSetD_ok) z
    unfold gEither at hh
    split at hh
    · rename_i rr hr
      unfold gSetL at hr
      split at hr
      · rfl
      · cases hr
    · unfold gSetD at hh
      split at hh
      · rfl
      · cases hh
  cases e <;> rfl
theorem okS_setf {o : Expr} {f : Str} {tp : Pl} {t : Ex} {p0 : Pos} (hs : Has CT XT G k Φ Ψ X W s) (ho : PE X o (tP (kx X CT) (evP G.T Φ Ψ tp))) (h : OkE CT XT G Φ Ψ X W e t) : OkS CT XT G Φ Ψ X W (.Assign [.Attribute o f p0] e pos) (.setf tp f t) :=
  PS.imp (ps_fld ho h swaps_att) fun D σ H z => by
    simp only [run] at z
    exact tS_setF hs.g.cf hs.g.f1000 z
theorem okS_aug {t : Ex} {i : Nat} {p0 : Pos} {sub : Bool} {op : Operator} (hs : Has CT XT G k Φ Ψ X W s) (h : OkE CT XT G Φ Ψ X W e t) (hop : op = if sub = true then .Sub else .Add) (hl : isLoc s x = true) (hi : s.slot x = some i) : OkS CT XT G Φ Ψ X W (.AugAssign (.Name x p0) op e pos) (.aug i sub t) := by
  obtain ⟨l1, l2⟩ := hs.loc hl
  have ip : PIp X op (ipI fun i j => if sub = true then i - j else i + j) := by
    subst hop
    cases sub
    · exact ip_add
    · exact ip_sub
  refine PS.imp (ps_aug hs.nd (hs.at hi) l1 h ip l2) fun D σ H z => ?_
  simp only [run] at z
  have z1 := tS_set (κ := kx X CT) (p := true && t.p G.T) z
  have hops : OpS (kx X CT) (rOf (rI0 fun i j => .int (if sub = true then i - j else i + j))) (opI2 (fAug sub)) := (ops_I2 (C := fun _ _ => True) fun i j d h => by cases h; exact ⟨trivial, rfl, rfl⟩).imp (rOf_imp fun _ _ _ _ => rI_0)
  obtain ⟨v, e1, z2⟩ := tM_V (tA_two (tM_op hops z1))
  refine ⟨v, e1, tM.mono (fun y H1 z3 => ?_) z2⟩
  obtain ⟨x', y', e2, i', j', e3, e4, z4⟩ := z3
  cases e2
  exact ⟨i', j', e3, e4, z4⟩
theorem okS_if {c : Expr} {aa bb : List Stmt} {t : Ex} {u v : Sms} (hc : OkT CT XT G Φ Ψ X W c t) (ha : OkSs CT XT G Φ Ψ X W aa u) (hb : OkSs CT XT G Φ Ψ X W bb v) : OkS CT XT G Φ Ψ X W (.If c aa bb pos) (.ite t u v) := PS.imp (ps_if hc ha hb) fun D σ H z => by simp only [run] at z; exact tS_if z
theorem okS_for {tg it : Expr} {body : List Stmt} {sr : Sr} {t : Tg} {u : Sms} (hs : Has CT XT G k Φ Ψ X W s) (hp : PassesOwn (model X.prog X.w) X.A X.env X.xe) (hi : OkI CT XT G Φ Ψ X W tg it sr) (ht : denTg s tg = some t) (ho : okTg sr t = true) (hn : notSet it = true) (hb : OkSs CT XT G Φ Ψ X W body u) :
    OkS CT XT G Φ Ψ X W (.For tg it body [] pos) (.for_ sr t u) := PS.imp (ps_for hp hs.calm hi (tg_pg hs ht) hb (fold_ok hn)) fun D σ H z => by
  simp only [run] at z
  exact tS_forI (κ := kx X CT) (t := gsO t) (fun σ H R y => y) (gT_ok (κ := kx X CT) t) ⟨gT_s (κ := kx X CT) t, pairs_ok (κ := kx X CT) ho⟩ z
theorem evs_len : ∀ (t : Exs) (env : Env) (vs : List Val) (e' : Env), evs G.T Φ Ψ t env = .ok vs e' → vs.length = t.len
  | .nil, env, vs, e', h => by simp only [evs, evNil] at h; cases h; rfl
  | .cons a r, env, vs, e', h => by
    simp only [evs, evCons] at h
    split at h
    · split at h
      · cases h
      · split at h
        · rename_i vs2 e2 h2
          split at h
          · cases h
            simp [Exs.len, evs_len r _ _ _ h2]
          · cases h
        · cases h
        · cases h
    · cases h
    · cases h
theorem okS_rais {c f : Nat} {r : List Expr} {t : Exs} {p0 p1 : Pos} (hs : Has CT XT G k Φ Ψ X W s) (hn : plainName x = true) (hg : isGl s.sc x = true) (hx : G.gb x = some (.xc c f)) (hst : (a :: r).all notStar = true) (ha : OkA CT XT G Φ Ψ X W (a :: r) t) :
    OkS CT XT G Φ Ψ X W (.Raise (some (.Call (.Name x p0) (a :: r) [] p1)) none pos) (.rais f t) := by
  unfold OkS
  simp only [run]
  cases hf : G.T.fn f with
  | none => exact ⟨fun pins s σ H D I h => by obtain ⟨γ, _, z⟩ := h; exact z.elim⟩
  | some i =>
    dsimp only
    split
    · rename_i hc
      obtain ⟨hc, h3⟩ := Bool.and_eq_true_iff.mp hc
      obtain ⟨h1, h2⟩ := Bool.and_eq_true_iff.mp hc
      obtain ⟨C, nms, m1, m2, m3⟩ := hs.g.xc x c f hx
      obtain ⟨fI, fd, ps, q1, q2, q3, ⟨c', q4, rfl⟩, q5⟩ := m3 i hf h1
      have hl : t.len + 1 = i.np := of_decide_eq_true h2
      have h9 : t.len ≤ 900 := of_decide_eq_true h3
      have e1 : i.np - 1 = t.len := by omega
      rw [e1] at q4
      exact ps_raiseA (CT := CT) hs.calm hs.tk q1 q2 q3 q4 hs.rm q5 (hs.gl hg) m1 ha (by omega) (evs_len t) (plain_db hn).1 (star_cons (all1 hst).1) (star_any (all1 hst).2)
    · exact ⟨fun pins s σ H D I h => by obtain ⟨γ, _, z⟩ := h; exact z.elim⟩
/-- the frame of a def's body -/
structure Fr0 (X : Cx) : Prop where
  st : X.stack = X.env :: X.outer
  fr : X.env.frame = some X.env.locals
theorem Has.tr (h : Has CT XT G k Φ Ψ X W s) {W' : WX} {pn : List (Addr × Obj)} {xe : Value → Shared → Prop} (tk : Takes (X.tr pn xe) W') : Has CT XT G k Φ Ψ (X.tr pn xe) W' s := ⟨h.N, h.nd, h.sc, h.calm, h.fn, tk, h.rm, h.g⟩
theorem hx_no {XS : Cx} {o : Option Nat} {ad : Addr} {cls : Value} {d : Option Addr} : PE XS e (tHx κ XT o ad cls d fun _ _ => none) := ⟨fun pins s σ H Q I z => by obtain ⟨_, _, _, _, _, _, _, z, _⟩ := z; cases z⟩
/-- values of a suite -/
theorem sound_hx {ad : Addr} {cls : Value} {d : Option Addr} {XS : Cx} {n : Option Str} {o : Option Nat} (hs : Has CT XT G k Φ Ψ X W s) (hot : Hot X XS ad cls d) (hno : ∀ y, n = some y → ∃ i, o = some i ∧ s.slot y = some i ∧ isLocal s y = true) : ∀ m,
    (∀ e : Expr, PE XS e (tHx (kx X CT) XT o ad cls d (hxV G.T.xn (denHx n m e)))) ∧ ∀ es : List Expr, es.all notStar = true → PA XS es (tHs (kx X CT) XT o ad cls d (hxVs G.T.xn (denHxs n m es))) := by
  intro m
  have bad : ∀ es : List Expr, PA XS es (tHs (kx X CT) XT o ad cls d (hxVs G.T.xn (.cons .no .nil))) := fun es => ⟨fun pos pins s σ H Q I z => by
    obtain ⟨_, _, _, _, _, _, _, z, _⟩ := z
    simp [hxVs, hxV, hAll] at z⟩
  induction m with
  | zero =>
    refine ⟨fun e => by simp only [denHx, hxV]; exact hx_no, fun es h => ?_⟩
    cases es with
    | nil => simp only [denHxs, hxVs]; exact hs_nil
    | cons e r => simp only [denHxs]; exact bad _
  | succ m ih =>
    refine ⟨fun e => ?_, fun es h => ?_⟩
    · have hn : ∀ e : Expr, PE XS e (tHx (kx X CT) XT o ad cls d (hxV G.T.xn .no)) := fun e => by simp only [hxV]; exact hx_no
      unfold denHx
      split
      · simp only [hxV]; exact hx_c rfl pe_int
      · simp only [hxV]; exact hx_c rfl pe_bl
      · simp only [hxV]; exact hx_c rfl pe_non
      · simp only [hxV]; exact hx_c rfl pe_str
      · split
        · rename_i hc
          obtain ⟨h1, h2⟩ := Bool.and_eq_true_iff.mp hc
          obtain ⟨i, rfl, h3, h4⟩ := hno _ (of_decide_eq_true h2)
          simp only [hxV]
          refine hx_fld (CT := CT) hot hs.g.xt (hs.at h3) ?_ (plain_db h1).1 (plain_db h1).2
          rw [hs.sc]
          exact .inl (of_decide_eq_true h4)
        · exact hn _
      · split
        · rename_i hst
          simp only [hxV]
          exact hx_tup (ih.2 _ hst)
        · exact hn _
      · exact hn _
    · cases es with
      | nil => simp only [denHxs, hxVs]; exact hs_nil
      | cons e r =>
        simp only [denHxs, hxVs]
        exact hs_cons (all1 h).1 (ih.1 e) (ih.2 r (all1 h).2)
theorem loc_of (hs : Has CT XT G k Φ Ψ X W s) {y : Str} (h : isLocal s y = true) : X.env.scope.names.lookup y = some .local := by rw [hs.sc]; exact of_decide_eq_true h
/-- a suite -/
theorem sound_hs {ad : Addr} {cls : Value} {d : Option Addr} {XS : Cx} {n : Option Str} {o : Option Nat} (hs : Has CT XT G k Φ Ψ X W s) (hot : Hot X XS ad cls d) (hno : ∀ y, n = some y → ∃ i, o = some i ∧ s.slot y = some i ∧ isLocal s y = true) (m : Nat) (su : List Stmt) : PSs XS su (tSu (kx X CT) XT o ((denHs s n m su).v G.T) ad cls d) := by
  have hn : ∀ su : List Stmt, PSs XS su (tSu (kx X CT) XT o (HsT.v G.T .no) ad cls d) := fun su => ⟨fun pins s σ H D I h => by simp only [HsT.v, tSu] at h⟩
  have hx := (sound_hx (CT := CT) (XT := XT) hs hot hno m).1
  unfold denHs
  split
  · simp only [HsT.v, tSu]
    exact PSs.imp (pss_one (ps_ret (hx _))) fun D σ H z => z
  · split
    · rename_i x p0 e pos hc
      obtain ⟨h1, h2⟩ := Bool.and_eq_true_iff.mp hc
      split
      · rename_i i hi
        simp only [HsT.v, tSu]
        obtain ⟨oe, pn, rfl, _⟩ := hot.is
        refine PSs.imp (pss_one (ps_set (X := X.suite ad ((ad, oe) :: pn)) hs.nd (hs.at hi) (.inl ?_) (hx _) (swaps_no h2) (.inr (loc_of hs h1)))) fun D σ H z => z
        exact loc_of hs h1
      · exact hn _
    · exact hn _
  · exact hn _
theorem hcs_ok (hs : Has CT XT G k Φ Ψ X W s) (m : Nat) : ∀ {hds : List ExceptHandler} {l : List HcT}, hds.mapM (denHc G s m) = some l → ∃ vs : List Value, vs.length = l.length ∧ HsOk X hds (hList (kx X CT) XT (vs.zip (l.map (HcT.v G.T)))) ∧ ∀ q ∈ vs.zip (l.map (HcT.v G.T)), ∀ c cls nms, XT c = some (cls, nms) → PySem.W.exmOne X.K cls q.1 = some (q.2.m c)
  | [], l, h => by
    simp at h
    subst h
    exact ⟨[], rfl, .nil, by simp⟩
  | hd :: hds, l, h => by
    rw [List.mapM_cons] at h
    cases h1 : denHc G s m hd with
    | none => rw [h1] at h; cases h
    | some q =>
      rw [h1] at h
      cases h2 : hds.mapM (denHc G s m) with
      | none => rw [h2] at h; cases h
      | some r =>
        rw [h2] at h
        have el : q :: r = l := by simpa using h
        subst el
        obtain ⟨vs, v1, v2, v3⟩ := hcs_ok hs m h2
        unfold denHc at h1
        split at h1
        · rename_i x p0 n b su p1
          split at h1
          · rename_i hc
            obtain ⟨c1, c2⟩ := Bool.and_eq_true_iff.mp hc
            split at h1
            · rename_i c f hx
              obtain ⟨C, nms, m1, m2, _⟩ := hs.g.xc _ _ _ hx
              have nm : Names X x (.ref C) := ⟨hs.gl c2, (plain_db c1).1, .inl m1⟩
              have mm : ∀ c2 cls nms2, XT c2 = some (cls, nms2) → PySem.W.exmOne X.K cls (.ref C) = some (G.T.xm c c2) := fun c2 cls nms2 z => hs.g.xm _ _ _ _ _ _ m2 z
              have hot : ∀ (ad : Addr) (oe : Obj) (cls : Value) (d : Option Addr) (pn : List (Addr × Obj)), Zc cls d oe → (∃ vs, oe.data = .fields vs) → Hot X (X.suite ad ((ad, oe) :: pn)) ad cls d := fun ad oe cls d pn z1 z2 => ⟨oe, pn, rfl, z1, z2⟩
              split at h1
              · cases h1
                refine ⟨.ref C :: vs, by simp [v1], ?_, ?_⟩
                · exact HsOk.cons (n := none) (o := none) nm trivial (fun ad oe cls d pn z1 z2 => sound_hs (CT := CT) (XT := XT) (n := none) (o := none) hs (hot ad oe cls d pn z1 z2) (fun y z => by cases z) m _) v2
                · intro q hq
                  rcases List.mem_cons.mp (show q ∈ (Value.ref C, HcT.v G.T ⟨c, none, denHs s none m (b :: su)⟩) :: vs.zip (r.map (HcT.v G.T)) from by simpa using hq) with rfl | hq
                  · exact mm
                  · exact v3 q hq
              · split at h1
                · rename_i y hl
                  split at h1
                  · rename_i i hi
                    cases h1
                    refine ⟨.ref C :: vs, by simp [v1], ?_, ?_⟩
                    · exact HsOk.cons (n := some y) (o := some i) nm ⟨hs.at hi, loc_of hs hl⟩ (fun ad oe cls d pn z1 z2 => sound_hs (CT := CT) (XT := XT) (n := some y) (o := some i) hs (hot ad oe cls d pn z1 z2) (fun y' z => by cases z; exact ⟨i, rfl, hi, hl⟩) m _) v2
                    · intro q hq
                      rcases List.mem_cons.mp (show q ∈ (Value.ref C, HcT.v G.T ⟨c, some i, denHs s (some y) m (b :: su)⟩) :: vs.zip (r.map (HcT.v G.T)) from by simpa using hq) with rfl | hq
                      · exact mm
                      · exact v3 q hq
                  · cases h1
                · cases h1
            · cases h1
          · cases h1
        · cases h1
theorem okS_try {body els : List Stmt} {h0 : ExceptHandler} {hds : List ExceptHandler} {l : List HcT} {u v : Sms} {m : Nat} (hs : Has CT XT G k Φ Ψ X W s) (f0 : Fr0 X) (hl : (h0 :: hds).mapM (denHc G s m) = some l)
    (hb : ∀ (W' : WX) (pn : List (Addr × Obj)) (xe : Value → Shared → Prop), Takes (X.tr pn xe) W' → PassesOwn (model X.prog X.w) X.A X.env xe → OkSs CT XT G Φ Ψ (X.tr pn xe) W' body u) (he : OkSs CT XT G Φ Ψ X W els v) : OkS CT XT G Φ Ψ X W (.Try body (h0 :: hds) els [] pos) (.try_ u l v) := by
  obtain ⟨vs, v1, v2, v3⟩ := hcs_ok (CT := CT) (XT := XT) hs m hl
  refine PS.imp (ps_tryA (tb := fun W' => tS (kx X CT) XT W' (runs G.T Φ Ψ u)) he hs.nd f0.st f0.fr hs.tk hb v2) fun D σ H z => ?_
  simp only [run] at z
  have e1 : (vs.zip (l.map (HcT.v G.T))).map (·.2) = l.map (HcT.v G.T) := List.map_snd_zip (by simp [v1])
  refine tS_try (κ := kx X CT) v3 ?_
  rw [e1]
  exact z
theorem okS_while {c : Expr} {body : List Stmt} {t : Ex} {u : Sms} (hp : PassesOwn (model X.prog X.w) X.A X.env X.xe) (hc : OkT CT XT G Φ Ψ X W c t) (hb : OkSs CT XT G Φ Ψ X W body u) : OkS CT XT G Φ Ψ X W (.While c body [] pos) (.while_ t u) := PS.imp (ps_while hp hc hb) fun D σ H z => by simp only [run] at z; exact tS_mWhile z
end
end Py

set_option Elab.async false
set_option linter.all false
set_option maxRecDepth 100000
set_option maxHeartbeats 4000000
/-! PyZj: the induction for statements. -/
namespace Py
open PySem L2
section
variable {CT : Cts} {XT : Nat → Option (Value × List Str)} {G : Gx} {k : Nat} {Φ Ψ : Nat → FM} {X : Cx} {W : WX} {s : Sx} {x : Str} {p q : Bool} {e a b : Expr} {pos : Pos} {κ : Kx}
/-- a comprehension is told by its parts -/
theorem lc_den {n : Nat} {elt tg it : Expr} {ifs : List Expr} {scope : Scope} {p1 : Pos} (hs : Has CT XT G k Φ Ψ X W s) : denE G (n + 1) s (.ListComp elt [⟨tg, it, ifs, 0⟩] scope p1) = .no ∨
    ∃ sr t u v, denE G (n + 1) s (.ListComp elt [⟨tg, it, ifs, 0⟩] scope p1) = .comp sr ((blkOwn s.N scope.names).map (·.2)) t u v ∧ LcOk CT XT G Φ Ψ X W s tg it elt ifs scope sr t u v := by
  have ih : Sound CT XT G k Φ Ψ n := sound n
  unfold denE
  split
  all_goals first | (rename_i hh; cases hh; done) | skip
  · rename_i elt' tg' it' ifs' scope' p1' hh
    cases hh
    split
    · rename_i t ht
      split
      · rename_i h
        obtain ⟨h, h4⟩ := Bool.and_eq_true_iff.mp h
        obtain ⟨h, h3⟩ := Bool.and_eq_true_iff.mp h
        obtain ⟨h1, h2⟩ := Bool.and_eq_true_iff.mp h
        refine .inr ⟨_, _, _, _, rfl, h1, h2, h3, fun i hi => by simpa using List.all_eq_true.mp h4 i hi, ih.i tg it hs, fun st H C cl fp => tg_pg (hs.blk st H C cl fp) ht, fun st H C cl fp => ?_, fun st H C cl fp => ih.e _ (hs.blk st H C cl fp)⟩
        split
        · refine PTs.imp pts_nil fun σ H Q z => ?_
          simp only [Ex.p, ev] at z
          obtain ⟨b', e', q'⟩ := tM_C (d := .bl true) rfl z
          cases e'
          exact q'
        · exact pts_one (ih.t _ (hs.blk st H C cl fp))
        · exact ⟨fun pins s σ H Q I z => by
            obtain ⟨γ, _, y⟩ := z
            simp only [ev] at y
            exact y.elim⟩
      · exact .inl rfl
    · exact .inl rfl
  · exact .inl rfl
/-- x = [..] -/
theorem okS_setc {elt tg it : Expr} {ifs : List Expr} {scope : Scope} {sr : Sr} {t : Tg} {u v : Ex} {i : Nat} {p0 p1 : Pos} (hs : Has CT XT G k Φ Ψ X W s) (o : LcOk CT XT G Φ Ψ X W s tg it elt ifs scope sr t u v) (hl : isLoc s x = true) (hi : s.slot x = some i) :
    OkS CT XT G Φ Ψ X W (.Assign [.Name x p0] (.ListComp elt [⟨tg, it, ifs, 0⟩] scope p1) pos) (.set (.nm i) (.comp sr ((blkOwn s.N scope.names).map (·.2)) t u v)) := by
  obtain ⟨b, hb, hb2⟩ : ∃ b : Bool, swapsWith (.ListComp elt [⟨tg, it, ifs, 0⟩] scope p1) (some (.Name x p0)) pos.line X.env = pure b ∧ (b = true → X.env.scope.names.lookup x = some .local) := by
    unfold swapsWith
    refine ⟨_, rfl, fun z => ?_⟩
    simp only [Bool.and_eq_true] at z
    have := z.1.1.2
    simpa [PySem.Env.kindOf] using this
  cases b with
  | false => exact okS_set hs (ok_comp hs o) hb hl hi
  | true =>
    exact PS.imp (ps_setLc hs.calm hs.nd (hs.at hi) (hb2 rfl) hb o.src (blk_ok hs o.chk) o.tg o.tst o.elt (fold_ok o.ns)) fun D σ H z => by
      simp only [run] at z
      exact lc_read o (tS_asg (κ := kx X CT) (t := .nm i) (p := false) z)
theorem comp_or (e : Expr) : notComp e = true ∨ (∃ elt tg it ifs scope p1, e = .ListComp elt [⟨tg, it, ifs, 0⟩] scope p1) ∨ ∀ n s, denE G n s e = .no := by
  cases e
  case ListComp elt gens scope p1 =>
    by_cases h : ∃ tg it ifs, gens = [⟨tg, it, ifs, 0⟩]
    · obtain ⟨tg, it, ifs, rfl⟩ := h
      exact .inr (.inl ⟨elt, tg, it, ifs, scope, p1, rfl⟩)
    · refine .inr (.inr fun n s => ?_)
      cases n with
      | zero => simp only [denE]
      | succ n =>
        unfold denE
        split
        all_goals first | rfl | (rename_i hh; cases hh; done) | skip
        rename_i hh
        cases hh
        exact absurd ⟨_, _, _, rfl⟩ h
  case SetComp => exact .inr (.inr fun n s => by cases n <;> simp only [denE])
  case DictComp => exact .inr (.inr fun n s => by cases n <;> simp only [denE])
  all_goals exact .inl rfl
theorem ev_set_no {i : Nat} {st : Stmt} {t : Tg} : OkS CT XT G Φ Ψ X W st (.set t .no) := ⟨fun pins s σ H D I h => by obtain ⟨γ, _, z⟩ := h; simp only [run, ev, mThen] at z; exact z.elim⟩
theorem sound_s : ∀ n, (∀ {X : Cx} {W : WX} {s : Sx} (st : Stmt), Has CT XT G k Φ Ψ X W s → PassesOwn (model X.prog X.w) X.A X.env X.xe → Fr0 X → OkS CT XT G Φ Ψ X W st (denS G n s st)) ∧
    (∀ {X : Cx} {W : WX} {s : Sx} (sts : List Stmt), Has CT XT G k Φ Ψ X W s → PassesOwn (model X.prog X.w) X.A X.env X.xe → Fr0 X → OkSs CT XT G Φ Ψ X W sts (denSs G n s sts)) := by
  intro n
  induction n with
  | zero =>
    refine ⟨fun st hs hp f0 => by simp only [denS]; exact okS_no, fun sts hs hp f0 => ?_⟩
    cases sts with
    | nil => simp only [denSs]; exact okS_nil
    | cons a r => simp only [denSs]; exact okS_bad
  | succ n ih =>
    have so : Sound CT XT G k Φ Ψ n := sound n
    refine ⟨fun {X W s} st hs hp f0 => ?_, fun {X W s} sts hs hp f0 => ?_⟩
    · unfold denS
      split
      · exact PS.imp ps_pass fun D σ H z => by simp only [run] at z; exact tS_pass z
      · exact PS.imp ps_break fun D σ H z => by simp only [run] at z; exact tS_break z
      · exact PS.imp ps_continue fun D σ H z => by simp only [run] at z; exact tS_cont z
      · exact okS_retN
      · exact okS_ret (so.e _ hs)
      · split
        · rename_i h
          exact okS_ex (so.e _ hs) h
        · exact okS_no
      · rename_i x p0 e pos
        split
        · rename_i hl
          split
          · rename_i i hi
            rcases comp_or (G := G) e with h | ⟨elt, tg, it, ifs, scope, p1, rfl⟩ | h
            · exact okS_set hs (so.e _ hs) (swaps_no h) hl hi
            · cases n with
              | zero => simp only [denE]; exact ev_set_no (i := 0)
              | succ m =>
                rcases lc_den (n := m) (elt := elt) (tg := tg) (it := it) (ifs := ifs) (scope := scope) (p1 := p1) hs with h | ⟨sr, t, u, v, h, o⟩
                · rw [h]; exact ev_set_no (i := 0)
                · rw [h]; exact okS_setc hs o hl hi
            · rw [h]; exact ev_set_no (i := 0)
          · exact okS_no
        · exact okS_no
      · split
        · rename_i h
          obtain ⟨h1, h2⟩ := Bool.and_eq_true_iff.mp h
          split
          · rename_i u hu
            exact okS_unp hs (so.e _ hs) h2 h1 hu
          · exact okS_no
        · exact okS_no
      · split
        · rename_i h
          exact okS_seti (by have := hs.rm.units; omega) (so.p _ hs) (so.e _ hs) (so.e _ hs) h
        · exact okS_no
      · split
        · exact okS_setf hs (so.p _ hs) (so.e _ hs)
        · exact okS_no
      · split
        · rename_i hl
          split
          · rename_i i hi
            exact okS_aug hs (so.e _ hs) rfl hl hi
          · rename_i i hi
            exact okS_aug hs (so.e _ hs) rfl hl hi
          · exact okS_no
        · exact okS_no
      · exact okS_if (so.t _ hs) (ih.2 _ hs hp f0) (ih.2 _ hs hp f0)
      · split
        · rename_i t ht
          split
          · rename_i h
            obtain ⟨h1, h2⟩ := Bool.and_eq_true_iff.mp h
            exact okS_for hs hp (so.i _ _ hs) ht h2 h1 (ih.2 _ hs hp f0)
          · exact okS_no
        · exact okS_no
      · exact okS_while hp (so.t _ hs) (ih.2 _ hs hp f0)
      · split
        · rename_i h
          obtain ⟨h, h3⟩ := Bool.and_eq_true_iff.mp h
          obtain ⟨h1, h2⟩ := Bool.and_eq_true_iff.mp h
          split
          · rename_i c f hx
            exact okS_rais hs h1 h2 hx h3 ((so.a _ hs).1.pa h3)
          · exact okS_no
        · exact okS_no
      · split
        · rename_i l hl
          exact okS_try hs f0 hl (fun W' pn xe tk po => ih.2 _ (hs.tr tk) po ⟨f0.st, f0.fr⟩) (ih.2 _ hs hp f0)
        · exact okS_no
      · exact okS_no
    · cases sts with
      | nil => simp only [denSs]; exact okS_nil
      | cons a r => simp only [denSs]; exact okS_cons (ih.1 _ hs hp f0) (ih.2 _ hs hp f0)
end
end Py

set_option Elab.async false
set_option linter.all false
set_option maxRecDepth 100000
set_option maxHeartbeats 4000000
/-! PyZk: the defs of a text, level by level. -/
namespace Py
open PySem L2
section
variable (P : Program) (w : World) (K : PySem.W.Frag) (mg : Str → Option Value) (base : Heap) (CT : Cts) (XT : Nat → Option (Value × List Str)) (G : Gx) (fa : Nat → Addr) (fd : Nat → FuncData) (ps : Nat → List Str)
/-- the context in which a def's body is read -/
def bodySx (N : List Str) (scope : Scope) : Sx := ⟨N, scope, fun _ => true⟩
/-- what stands of a text -/
structure Stat : Prop where
  def_ : ∀ f i, G.T.fn f = some i → i.prim = none → ∃ x qual params body scope dvs kws N fu, FunD K x qual params body scope dvs kws (fa f) (fd f) ∧ FnScope N (ps f) scope ∧ N.length = i.nn ∧ i.body = denSs G fu (bodySx N scope) body
  len : ∀ f i, G.T.fn f = some i → (ps f).length = i.np
  kp : ∀ f i, G.T.fn f = some i → PySem.W.keepIn K (.ref (fa f)) = true
  prim : ∀ f i m, G.T.fn f = some i → i.xc = none → i.prim = some m → ∀ k Φ Ψ, GlF P w K mg base CT XT G k Φ Ψ → FnOk P w K mg base (L2.CX P w) (k + 2) (fa f) (fd f) (ps f) (spF ⟨K, CT⟩ XT i.np (m Φ Ψ))
  b0 : ∀ f i, G.T.fn f = some i → i.kw = [] → Binds K (fd f) (ps f) []
  b1 : ∀ f i, G.T.fn f = some i → i.ds ≠ [] → ∃ dsv, Vals (i.ds.map atomV) dsv ∧ Binds K (fd f) (ps f) dsv
  bk : ∀ f i, G.T.fn f = some i → i.kw ≠ [] → KBinds K (fd f) (ps f) i.kw (fun us ws => us ++ ws) (fun vs zs => vs ++ zs)
  ats : ∀ f i, G.T.fn f = some i → ∀ d ∈ i.ds, isAtom d = true
  at_ : ∀ x d, G.gb x = some (.at d) → ∃ u, mg x = some u ∧ RelV (atomV d) u
  bi : ∀ x, G.gb x = some .bi → mg x = none
  gfn : ∀ x f, G.gb x = some (.fn f) → mg x = some (.ref (fa f))
  gcl : ∀ x c, G.gb x = some (.cl c) → ∃ C names, mg x = some (.ref C) ∧ CT.ct c = some (C, names)
  mkc : ∀ c i f C names, G.T.cl c = some i → i.ini = some f → CT.ct c = some (C, names) → Mk K C (fa f)
  mt : ∀ c i m f C names, G.T.cl c = some i → i.mt.lookup m = some f → CT.ct c = some (C, names) → Cls K C ∧ m ∉ names ∧ Meth K C m (fa f)
  owf : OwF ⟨K, CT⟩
  cf : ClF ⟨K, CT⟩ G.T.fx
  f1000 : ∀ c, (G.T.fx c).length < 1000
  isf : IsF ⟨K, CT⟩
  gxc : ∀ x c f, G.gb x = some (.xc c f) → ∃ C nms, mg x = some (.ref C) ∧ XT c = some (.ref C, nms) ∧ ∀ i, G.T.fn f = some i → i.xc.isSome = true → i.xc = some c ∧ i.kw = [] ∧ XA.OexA K C ∧ PySem.W.findIn K (.ref C) "__init__" = some (some (.ref (fa f))) ∧ PySem.W.typeIn K (.ref (fa f)) = some (.type "function")
  xin : ∀ f i c, G.T.fn f = some i → i.xc = some c → i.prim = none ∧ i.nn = i.np ∧ 0 < i.np ∧ ∀ C nms, XT c = some (.ref C, nms) → XA.OexA K C ∧ nms.Nodup ∧ nms ≠ [] ∧ nms.length ≤ 900 ∧ ((xFl i.body).map fun l => l.map (·.1)) = some nms
  xt : ∀ c v nms, XT c = some (v, nms) → G.T.xn c = nms ∧ ∃ C, v = .ref C ∧ XfC K C ∧ ∀ f ∈ nms, PySem.W.findIn K (.ref C) f = some none
  xm : ∀ h hv hn c cls nms, XT h = some (hv, hn) → XT c = some (cls, nms) → PySem.W.exmOne K cls hv = some (G.T.xm h c)
end
section
variable {P : Program} {w : World} {K : PySem.W.Frag} {mg : Str → Option Value} {base : Heap} {CT : Cts} {XT : Nat → Option (Value × List Str)} {G : Gx} {fa : Nat → Addr} {fd : Nat → FuncData} {ps : Nat → List Str}
/-- the defs keep their promise at a level -/
def Keeps (P : Program) (w : World) (K : PySem.W.Frag) (mg : Str → Option Value) (base : Heap) (CT : Cts) (XT : Nat → Option (Value × List Str)) (G : Gx) (fa : Nat → Addr) (fd : Nat → FuncData) (ps : Nat → List Str) (k : Nat) (Φ : Nat → FM) : Prop :=
  ∀ f i, G.T.fn f = some i → (i.xc = none → FnOk P w K mg base (L2.CX P w) k (fa f) (fd f) (ps f) (spF ⟨K, CT⟩ XT i.np (Φ f))) ∧
    ∀ c, i.xc = some c → ∀ C nms, XT c = some (.ref C, nms) → FnOk P w K mg base (L2.CX P w) k (fa f) (fd f) (ps f) (spI ⟨K, CT⟩ XT C (i.np - 1) (Φ f))
theorem cb_ok (S : Stat P w K mg base CT XT G fa fd ps) {k f n : Nat} {Φ : Nat → FM} {cb : Cb} (hk : Keeps P w K mg base CT XT G fa fd ps k Φ) (h : cbOf G.T Φ f n false = some cb) : CbOk P w K mg base CT XT k (fa f) cb := by
  unfold cbOf at h
  cases hi : G.T.fn f with
  | none => rw [hi] at h; cases h
  | some i =>
    rw [hi] at h
    dsimp only at h
    split at h
    · cases h
    · rename_i hx
      have hx : i.xc = none := by
        cases hh : i.xc with
        | none => rfl
        | some c => exact absurd (by rw [hh]; rfl) hx
      split at h
      · split at h
        · rename_i he
          cases h
          have hkw : i.kw = [] := by simpa using he
          exact ⟨⟨_, _, [], (hk f i hi).1 hx, .nil, S.b0 f i hi hkw⟩, by simp, S.kp f i hi⟩
        · cases h
      · split at h
        · cases h
        · rename_i he
          cases h
          have hds : i.ds ≠ [] := fun z => he (by simp [z])
          obtain ⟨dsv, v1, v2⟩ := S.b1 f i hi hds
          exact ⟨⟨_, _, dsv, (hk f i hi).1 hx, v1, v2⟩, S.ats f i hi, S.kp f i hi⟩
theorem cb_kw (S : Stat P w K mg base CT XT G fa fd ps) {k f n : Nat} {Φ : Nat → FM} {cb : Cb} {i : Fi} (hk : Keeps P w K mg base CT XT G fa fd ps k Φ) (hi : G.T.fn f = some i) (h : cbOf G.T Φ f n true = some cb) : CbKw P w K mg base CT XT k (fa f) i.kw cb := by
  unfold cbOf at h
  rw [hi] at h
  dsimp only at h
  split at h
  · cases h
  · rename_i hx
    have hx : i.xc = none := by
      cases hh : i.xc with
      | none => rfl
      | some c => exact absurd (by rw [hh]; rfl) hx
    split at h
    · split at h
      · rename_i he
        cases h
        have hkw : i.kw ≠ [] := by simpa using he
        exact ⟨⟨_, _, (hk f i hi).1 hx, S.bk f i hi hkw⟩, rfl, S.kp f i hi⟩
      · cases h
    · split at h
      · cases h
      · rename_i he; simp at he
theorem cb_at (S : Stat P w K mg base CT XT G fa fd ps) {f n : Nat} {Φ : Nat → FM} {cb : Cb} {kw : Bool} (h : cbOf G.T Φ f n kw = some cb) : ∀ d ∈ cb.ds, isAtom d = true := by
  unfold cbOf at h
  cases hi : G.T.fn f with
  | none => rw [hi] at h; cases h
  | some i =>
    rw [hi] at h
    dsimp only at h
    split at h
    · cases h
    · split at h
      · split at h
        · cases h; simp
        · cases h
      · split at h
        · cases h
        · cases h; exact S.ats f i hi
theorem glf_of (S : Stat P w K mg base CT XT G fa fd ps) {k : Nat} {Φ Ψ : Nat → FM} (h1 : Keeps P w K mg base CT XT G fa fd ps (k + 1) Φ) (h2 : Keeps P w K mg base CT XT G fa fd ps k Ψ) : GlF P w K mg base CT XT G k Φ Ψ where
  at_ := S.at_
  bi := S.bi
  fn := fun x f h => ⟨fa f, S.gfn x f h, fun n cb hc => cb_ok S h1 hc, fun n cb i hi hc => cb_kw S h1 hi hc⟩
  cl := fun x c h => by
    obtain ⟨C, names, m1, m2⟩ := S.gcl x c h
    exact ⟨C, names, m1, m2, fun i f n cb hi hf hc => ⟨fa f, S.mkc c i f C names hi hf m2, cb_ok S h2 hc⟩⟩
  mt := fun m n c cb C names hc hC => by
    unfold mtOf at hc
    cases hi : G.T.cl c with
    | none => rw [hi] at hc; cases hc
    | some i =>
      rw [hi] at hc
      dsimp only at hc
      cases hl : i.mt.lookup m with
      | none => rw [hl] at hc; cases hc
      | some f =>
        rw [hl] at hc
        obtain ⟨s1, s2, s3⟩ := S.mt c i m f C names hi hl hC
        exact ⟨s1, s2, fa f, s3, cb_ok S h1 hc⟩
  mta := fun m n c cb hc => by
    unfold mtOf at hc
    cases hi : G.T.cl c with
    | none => rw [hi] at hc; cases hc
    | some i =>
      rw [hi] at hc
      dsimp only at hc
      cases hl : i.mt.lookup m with
      | none => rw [hl] at hc; cases hc
      | some f => rw [hl] at hc; exact cb_at S hc
  mt0 := fun m n c cb C names hc hC => by
    unfold mtOf at hc
    cases hi : G.T.cl c with
    | none => rw [hi] at hc; cases hc
    | some i =>
      rw [hi] at hc
      dsimp only at hc
      cases hl : i.mt.lookup m with
      | none => rw [hl] at hc; cases hc
      | some f =>
        rw [hl] at hc
        obtain ⟨s1, s2, s3⟩ := S.mt c i m f C names hi hl hC
        exact ⟨s1, s2, fa f, s3, cb_ok S h2 hc⟩
  mta0 := fun m n c cb hc => by
    unfold mtOf at hc
    cases hi : G.T.cl c with
    | none => rw [hi] at hc; cases hc
    | some i =>
      rw [hi] at hc
      dsimp only at hc
      cases hl : i.mt.lookup m with
      | none => rw [hl] at hc; cases hc
      | some f => rw [hl] at hc; exact cb_at S hc
  owf := S.owf
  cf := S.cf
  f1000 := S.f1000
  isf := S.isf
  xc := fun x c f h => by
    obtain ⟨C, nms, m1, m2, m3⟩ := S.gxc x c f h
    refine ⟨C, nms, m1, m2, fun i hi hx => ?_⟩
    obtain ⟨q1, q2, q3, q4, q5⟩ := m3 i hi hx
    exact ⟨fa f, fd f, ps f, q3, q4, q5, ⟨C, (h2 f i hi).2 c q1 C nms m2, rfl⟩, S.b0 f i hi q2⟩
  xt := S.xt
  xm := S.xm
theorem keeps_no (S : Stat P w K mg base CT XT G fa fd ps) {k : Nat} : Keeps P w K mg base CT XT G fa fd ps k (fun _ _ => .no) := fun f i hi =>
  ⟨fun _ => ⟨fun vs H Q E h => by rw [S.len f i hi]; exact h.1, fun A outer s H args us vs Q E hr he hb hv hs => by
    obtain ⟨_, γ, _, z⟩ := hs
    exact z.elim⟩, fun c hc C nms hC => ⟨fun vs H Q E h => by
      obtain ⟨a, ws, H0, E', rfl, _, _, h3, _⟩ := h
      have := (S.xin f i c hi hc).2.2.1
      rw [S.len f i hi, List.length_cons, h3.1]; omega, fun A outer s H args us vs Q E hr he hb hv hs => by
    obtain ⟨_, _, _, _, _, _, _, ⟨_, γ, _, z⟩, _⟩ := hs
    exact z.elim⟩⟩
theorem setf_of {n : Nat} {s : Sx} {st : Stmt} {f : Str} {t : Ex} (h : denS G n s st = .setf (.v 0) f t) : ∃ m x p0 p1 e pos, n = m + 2 ∧ st = .Assign [.Attribute (.Name x p0) f p1] e pos ∧ t = denE G (m + 1) s e ∧ (plainName x && isVis s.sc x) = true ∧ s.slot x = some 0 := by
  cases n with
  | zero => simp only [denS] at h; cases h
  | succ n =>
    unfold denS at h
    split at h
    all_goals first | (cases h; done) | skip
    all_goals (try (split at h)) <;> (try (cases h; done)) <;> (try (split at h)) <;> (try (cases h; done)) <;> (try (split at h)) <;> (try (cases h; done))
    rename_i o f' p1 e pos hb
    cases n with
    | zero => simp only [denP] at h; cases h
    | succ n =>
      simp only [Sm.setf.injEq] at h
      obtain ⟨h1, h2, h3⟩ := h
      unfold denP at h1
      split at h1
      · rename_i x p0
        split at h1
        · rename_i hv
          split at h1
          · rename_i i hi
            cases h1
            exact ⟨n, x, p0, p1, e, pos, rfl, by rw [h2], h3.symm, hv, hi⟩
          · cases h1
        · cases h1
      · split at h1 <;> cases h1
      · split at h1 <;> cases h1
      · cases h1
theorem init_stmts {k : Nat} {Φ Ψ : Nat → FM} {X : Cx} {W : WX} {s : Sx} (hs : Has CT XT G k Φ Ψ X W s) : ∀ {fu : Nat} {sts : List Stmt} {l : List (Str × Ex)}, xFl (denSs G fu s sts) = some l → PSs X sts (tInit (kx X CT) XT W (l.map fun q => (q.1, ev G.T Φ Ψ q.2)))
  | fu, [], l, h => by
    have : denSs G fu s [] = .nil := by cases fu <;> simp only [denSs]
    rw [this] at h
    simp only [xFl] at h
    cases h
    exact pss_nil
  | 0, st :: r, l, h => by simp only [denSs, xFl] at h; cases h
  | fu + 1, st :: r, l, h => by
    simp only [denSs] at h
    cases hd : denS G fu s st with
    | setf p f t =>
      rw [hd] at h
      cases p with
      | v i =>
        cases i with
        | zero =>
          simp only [xFl] at h
          cases hr : xFl (denSs G fu s r) with
          | none => rw [hr] at h; cases h
          | some l2 =>
            rw [hr] at h
            cases h
            obtain ⟨m, x, p0, p1, e, pos, rfl, rfl, rfl, hv, hi⟩ := setf_of hd
            obtain ⟨v1, v2⟩ := Bool.and_eq_true_iff.mp hv
            have e1 : PE X (.Name x p0) (tVar 0) := pe_var (hs.at hi) (hs.vis v2) (plain_db v1).1 (plain_db v1).2
            have e2 : OkE CT XT G Φ Ψ X W e (denE G (m + 1) s e) := (sound (m + 1)).e e hs
            exact pss_cons (XA.ps_osA e1 (PE.weak e2 fun z => by cases z) swaps_att) (init_stmts hs hr)
        | succ i => simp only [xFl] at h; cases h
      | _ => simp only [xFl] at h; cases h
    | _ => rw [hd] at h; simp only [xFl] at h; cases h
theorem keeps_step (S : Stat P w K mg base CT XT G fa fd ps) {k : Nat} {Φ Ψ : Nat → FM} (h1 : Keeps P w K mg base CT XT G fa fd ps (k + 1) Φ) (h2 : Keeps P w K mg base CT XT G fa fd ps k Ψ) {Θ : Nat → FM}
    (hΘ : ∀ f i, G.T.fn f = some i → Θ f = match i.xc with
      | some c => xInit G.T Φ Ψ c i.body
      | none => (match i.prim with
        | some m => m Φ Ψ
        | none => mkF i.nn (runs G.T Φ Ψ i.body))) : Keeps P w K mg base CT XT G fa fd ps (k + 2) Θ := fun f i hi => by
  have g := glf_of S h1 h2
  rw [hΘ f i hi]
  refine ⟨fun hx => ?_, fun c hc C nms hC => ?_⟩
  · rw [hx]
    dsimp only
    cases hp : i.prim with
    | some m => exact S.prim f i m hi hx hp k Φ Ψ g
    | none =>
      obtain ⟨x, qual, params, body, scope, dvs, kws, N, fu, F, Sc, hN, hB⟩ := S.def_ f i hi hp
      have := fn_ok (XT := XT) (CT := CT) (P := P) (w := w) (mg := mg) (base := base) (k := k + 1) (m := runs G.T Φ Ψ i.body) F Sc fun cdv A outer s H E hr => by
        rw [hB]
        refine (sound_s (k := k) fu).2 body ?_ (passes_of rfl) ⟨rfl, rfl⟩
        exact ⟨rfl, Sc.nd, rfl, rfl, rfl, takes_of rfl rfl rfl rfl, hr, g⟩
      rw [S.len f i hi, hN] at this
      exact this
  · rw [hc]
    dsimp only
    obtain ⟨p1, p2, p3, p4⟩ := S.xin f i c hi hc
    obtain ⟨T, nd, nn, n9, nf⟩ := p4 C nms hC
    obtain ⟨x, qual, params, body, scope, dvs, kws, N, fu, F, Sc, hN, hB⟩ := S.def_ f i hi p1
    unfold xInit
    cases hl : xFl i.body with
    | none => rw [hl] at nf; cases nf
    | some l =>
      rw [hl] at nf
      have nf2 : l.map (·.1) = nms := by simpa using nf
      have e1 : (l.map fun q => (q.1, ev G.T Φ Ψ q.2)).map (·.1) = nms := by rw [List.map_map]; exact nf2
      obtain ⟨_, C', hC', xf, xno⟩ := S.xt c _ nms hC
      obtain rfl : C = C' := by cases hC'; rfl
      refine init_fn (XT := XT) (CT := CT) (P := P) (w := w) (mg := mg) (base := base) (k := k + 1) (np := i.np - 1) F Sc (by rw [hN, p2, S.len f i hi]) (by rw [S.len f i hi]; omega) T hC e1.symm nd ?_ ?_ ?_ fun cdv A outer s H E hr => ?_
      · intro q hq
        exact xno _ (by rw [← e1]; exact List.mem_map.mpr ⟨q, hq, rfl⟩)
      · intro z
        rw [z] at e1
        exact nn e1.symm
      · have := congrArg List.length e1
        rw [List.length_map] at this
        rw [this]; exact n9
      · refine init_stmts (k := k) (fu := fu) (sts := body) (s := bodySx N scope) ⟨rfl, Sc.nd, rfl, rfl, rfl, takes_of rfl rfl rfl rfl, hr, g⟩ ?_
        rw [← hB]; exact hl
theorem keeps_all (S : Stat P w K mg base CT XT G fa fd ps) : ∀ k, Keeps P w K mg base CT XT G fa fd ps k (lv G.T k).1 ∧ (∀ j, k = j + 1 → Keeps P w K mg base CT XT G fa fd ps j (lv G.T k).2)
  | 0 => ⟨keeps_no S, fun j h => by cases h⟩
  | 1 => ⟨keeps_no S, fun j h => keeps_no S⟩
  | k + 2 => by
    obtain ⟨h1, h2⟩ := keeps_all S (k + 1)
    refine ⟨keeps_step S h1 (h2 k rfl) fun f i hi => ?_, fun j hj => ?_⟩
    · rw [lv]
      dsimp only
      rw [hi]
      try rfl
    · obtain rfl : j = k + 1 := by omega
      rw [lv]
      exact h1
/-- THE RULE for a text's defs -/
theorem fn_all (S : Stat P w K mg base CT XT G fa fd ps) (k f : Nat) {i : Fi} (hi : G.T.fn f = some i) (hx : i.xc = none) : FnOk P w K mg base (L2.CX P w) k (fa f) (fd f) (ps f) (spF ⟨K, CT⟩ XT i.np (Fn G.T k f)) := ((keeps_all S k).1 f i hi).1 hx
end
end Py

set_option Elab.async false
set_option linter.all false
set_option maxRecDepth 100000
set_option maxHeartbeats 4000000
/-! PyZl: from a text's table to what stands of it; the end of a law. -/
namespace Py
open PySem L2
structure ClD where
  id : Nat
  name : Str
  fx : List Str
  mt : List (Str × Nat)
  ini : Option Nat
  fz : Bool
/-- an exceptions' class: its number, name, fields, the numbers of those above it, its __init__ -/
structure XcD where
  id : Nat
  name : Str
  fx : List Str
  up : List Nat
  ini : Option Nat
structure Ent where
  id : Nat
  fi : Fi
  d : He.DefD
  N : List Str
  ps : List Str
  fu : Nat
structure Txt where
  ents : List Ent
  cls : List ClD
  gbs : List (Str × Gb)
  imp : List Str
  kts : List (List D)
  xcs : List XcD
  dk : List Nat := []
def Txt.ent (t : Txt) (f : Nat) : Option Ent := t.ents.find? fun e => e.id == f
def Txt.clD (t : Txt) (c : Nat) : Option ClD := t.cls.find? fun d => d.id == c
def Txt.xcD (t : Txt) (c : Nat) : Option XcD := t.xcs.find? fun d => d.id == c
theorem ent_mem {t : Txt} {f : Nat} {e : Ent} (h : t.ent f = some e) : e ∈ t.ents := List.mem_of_find?_eq_some h
theorem clD_mem {t : Txt} {f : Nat} {e : ClD} (h : t.clD f = some e) : e ∈ t.cls := List.mem_of_find?_eq_some h
theorem xcD_mem {t : Txt} {f : Nat} {e : XcD} (h : t.xcD f = some e) : e ∈ t.xcs := List.mem_of_find?_eq_some h
theorem clD_id {t : Txt} {f : Nat} {e : ClD} (h : t.clD f = some e) : e.id = f := by simpa using List.find?_some h
theorem xcD_id {t : Txt} {f : Nat} {e : XcD} (h : t.xcD f = some e) : e.id = f := by simpa using List.find?_some h
def Txt.T (t : Txt) : Tab := ⟨fun f => (t.ent f).map (·.fi), fun c => (t.clD c).map fun d => ⟨d.fx, d.mt, d.ini, d.fz⟩, fun c => (t.xcD c).map fun d => ⟨d.fx, d.up⟩⟩
def Txt.G (t : Txt) : Gx := ⟨t.T, fun x => t.gbs.lookup x, t.imp, t.dk⟩
def dEqAt : D → D → Bool
  | .non, .non => true
  | .bl a, .bl b => a == b
  | .str a, .str b => decide (a = b)
  | _, _ => false
def dEqs : List D → List D → Bool
  | [], [] => true
  | a :: as, b :: bs => dEqAt a b && dEqs as bs
  | _, _ => false
def Txt.CT (t : Txt) (K : PySem.W.Frag) : Cts where
  ct := fun c => (t.clD c).map fun d => (He.ga K d.name, d.fx)
  kt := fun ds => match ds with
    | .int _ :: _ => false
    | _ => t.kts.any fun l => dEqs ds l
  ktI := fun _ _ => rfl
def Txt.XT (t : Txt) (K : PySem.W.Frag) : Nat → Option (Value × List Str) := fun c => (t.xcD c).map fun d => (.ref (He.ga K d.name), d.fx)
/-- how a def's arguments are bound -/
def BindOf (e : Ent) : Prop := ∀ (K : PySem.W.Frag) (a : Addr) (fd : FuncData), FunD K e.d.name e.d.qual e.d.params e.d.body e.d.scope (e.d.dvs K) (e.d.kws K) a fd →
  (e.fi.kw = [] → Binds K fd e.ps []) ∧ (e.fi.ds ≠ [] → ∃ dsv, Vals (e.fi.ds.map atomV) dsv ∧ Binds K fd e.ps dsv) ∧ (e.fi.kw ≠ [] → KBinds K fd e.ps e.fi.kw (fun us ws => us ++ ws) (fun vs zs => vs ++ zs))
structure EntOk (G : Gx) (e : Ent) : Prop where
  len : e.ps.length = e.fi.np
  den : e.fi.prim = none → FnScope e.N e.ps e.d.scope ∧ e.N.length = e.fi.nn ∧ e.fi.body = denSs G e.fu (bodySx e.N e.d.scope) e.d.body
  bind : BindOf e
  ats : e.fi.ds.all isAtom = true
/-! ### the check -/
def tyNms : List String := ["NoneType", "bool", "int", "str", "list", "tuple", "dict"]
def strEq (a b : Str) : Bool := decide (a = b)
def optEq (a b : Option Str) : Bool := decide (a = b)
def nsRef (K : PySem.W.Frag) (x : Str) : Bool := He.eqO (PySem.W.nsIn K mainGlobals x) (some (some (.ref (He.ga K x))))
def entAt (t : Txt) (f : Nat) (x : Str) (m : Option Str) : Bool := match t.ent f with
  | some e => strEq e.d.at_.1 x && optEq e.d.at_.2 m
  | none => false
def gbB (t : Txt) (K : PySem.W.Frag) (q : Str × Gb) : Bool := match q.2 with
  | .at d => (match PySem.W.nsIn K mainGlobals q.1 with
    | some (some u) => He.relB (atomV d) u
    | _ => false)
  | .bi => He.eqO (PySem.W.nsIn K mainGlobals q.1) (some none)
  | .fn f => entAt t f q.1 none && nsRef K q.1
  | .cl c => nsRef K q.1 && (match t.clD c with
    | some d => strEq d.name q.1
    | none => false)
  | .xc c f => nsRef K q.1 && (match t.xcD c with
    | some d => strEq d.name q.1 && (match t.ent f with
      | some e => e.fi.xc.isNone || (e.fi.xc == some c && d.ini == some f)
      | none => true)
    | none => false)
def owB (t : Txt) (K : PySem.W.Frag) (d : ClD) : Bool :=
  (tyNms.all fun s => decide (PySem.W.subIn K (.type s) (.ref (He.ga K d.name)) = some false)) &&
  (t.cls.all fun d' => strEq d'.name d.name || decide (PySem.W.subIn K (.ref (He.ga K d'.name)) (.ref (He.ga K d.name)) = some false)) &&
  He.eqO (PySem.W.findIn K (.ref (He.ga K d.name)) "__ne__") (some (some (.builtin "object.__ne__"))) &&
  (match PySem.W.findIn K (.ref (He.ga K d.name)) "__getitem__" with
    | some (some (.ref f)) => PySem.W.fnIn K f
    | _ => true)
def clB (t : Txt) (K : PySem.W.Frag) (d : ClD) : Bool :=
  (He.Fa.cls d.name).ok K && (d.fx.all fun x => (He.Fa.noat d.name x).ok K) && decide (d.fx.length < 1000) &&
  (d.mt.all fun q => !d.fx.contains q.1 && entAt t q.2 d.name (some q.1) && (He.Fa.meth d.name q.1).ok K) &&
  (match d.ini with
    | some f => entAt t f d.name (some "__init__") && (He.Fa.mkr d.name).ok K
    | none => true) &&
  He.eqO (PySem.W.findIn K (.ref (He.ga K d.name)) "__class__") (some (some (.builtin "object.__class__"))) &&
  decide (PySem.W.mroIn K (He.ga K d.name) (.type "object") = some true) &&
  (tyNms.all fun s => decide (PySem.W.kitOne K (.ref (He.ga K d.name)) (.type s) = some false) && decide (PySem.W.kitOne K (.type s) (.ref (He.ga K d.name)) = some false)) &&
  (t.cls.all fun d' => decide (PySem.W.kitOne K (.ref (He.ga K d.name)) (.ref (He.ga K d'.name)) = some (strEq d.name d'.name))) &&
  owB t K d
def noDup : List Str → Bool
  | [] => true
  | x :: r => !r.contains x && noDup r
/-- an exceptions' class stands as it should -/
def excShape (C : Addr) (o : Obj) : Bool := match o with
  | { cls := .type c, dict := _, data := .cls { name := _, bases := _, mro := (.ref C' :: bm), ns := _, qualname := _, hasDict := true, slotNames := _, subclasses := _, abstract := _, collection := _, hasDel := false }, slots := sl } =>
    c == "type" && C' == C && XA.refsAE bm && (match sl.toList with
      | [_, _, _, _, some (.builtin n), _] => n == "ArithmeticError.__new__"
      | _ => false)
  | _ => false
def tyB (o : Option Value) (s : String) : Bool := match o with
  | some (.type x) => x == s
  | _ => false
theorem tyB_ok {o : Option Value} {s : String} (h : tyB o s = true) : o = some (.type s) := by
  unfold tyB at h
  split at h
  · rename_i x
    have : x = s := by simpa using h
    rw [this]
  · cases h
def oexB (K : PySem.W.Frag) (C : Addr) : Bool := (match K.lookup C with
    | some o => excShape C o
    | none => false) &&
  He.eqO (PySem.W.findIn K (.ref C) "__setattr__") (some (some (.builtin "object.__setattr__"))) &&
  decide (PySem.W.subIn K (.ref C) (.type "BaseException") = some true) && tyB (PySem.W.typeIn K (.ref C)) "type" && PySem.W.keepIn K (.ref C)
def xcB (t : Txt) (K : PySem.W.Frag) (d : XcD) : Bool :=
  xfB K (He.ga K d.name) && (d.fx.all fun f => He.eqO (PySem.W.findIn K (.ref (He.ga K d.name)) f) (some none)) &&
  (t.xcs.all fun q => decide (PySem.W.exmOne K (.ref (He.ga K d.name)) (.ref (He.ga K q.name)) = some (d.id == q.id || d.up.contains q.id))) &&
  (match d.ini with
    | some f => entAt t f d.name (some "__init__") && oexB K (He.ga K d.name) && noDup d.fx && !d.fx.isEmpty && decide (d.fx.length ≤ 900) &&
      He.eqO (PySem.W.findIn K (.ref (He.ga K d.name)) "__init__") (some (some (.ref (He.ma K (He.ga K d.name) "__init__")))) && tyB (PySem.W.typeIn K (.ref (He.ma K (He.ga K d.name) "__init__"))) "function"
    | none => true)
/-- a def that is an exception's __init__ -/
def xinB (t : Txt) (e : Ent) : Bool := match e.fi.xc with
  | none => true
  | some c => e.fi.prim.isNone && e.fi.nn == e.fi.np && decide (0 < e.fi.np) && e.fi.kw.isEmpty && (match t.xcD c with
    | some d => d.ini == some e.id && (match xFl e.fi.body with
      | some l => decide (l.map (·.1) = d.fx)
      | none => false)
    | none => false)
def Txt.ck (t : Txt) (K : PySem.W.Frag) : Bool :=
  t.xcs.all (xcB t K) && t.ents.all (xinB t) && t.gbs.all (gbB t K) && t.cls.all (clB t K) && noDup (t.cls.map (·.name)) &&
  He.eqO (PySem.W.specialIn K (.builtin "object.__class__") "__get__") (some (some (.builtin "getset_descriptor.__get__"))) &&
  decide (PySem.W.takesIn K (.builtin "object.__class__") = some true)
abbrev AlP : Type := Bool × List He.FnW
def obsP (t : Txt) (ck : PySem.W.Frag → Bool) (K : PySem.W.Frag) : AlP := (t.ck K && ck K && t.ents.all fun e => e.d.ok K, t.ents.map fun e => He.fnW K e.d.at_)
def valP (t : Txt) : AlP := (true, t.ents.map fun e => e.d.val)
def obsPG (n : Nat) (t : Txt) (ck : PySem.W.Frag → Bool) (g : Addr → Option Obj) : AlP := obsP t ck (He.frG g (He.asD g n))
def hookP (n : Nat) (t : Txt) (ck : PySem.W.Frag → Bool) : PySem.W.Hook where
  α := AlP
  obs := fun s => obsPG n t ck s.heap.get?
  val := fun _ => valP t
  says := fun _ h => ∃ K : PySem.W.Frag, K.In h ∧ obsP t ck K = valP t
  of := fun _ _ e => ⟨_, He.frG_in, e⟩
  keeps := fun _ _ _ ⟨K, hK, c⟩ k => ⟨K, PySem.W.Frag.In.keeps hK k, c⟩
theorem obsPG_eq {n : Nat} {t : Txt} {ck : PySem.W.Frag → Bool} {g : Addr → Option Obj} {s : Shared} (h : ∀ a, g a = s.heap.get? a) : obsPG n t ck g = (hookP n t ck).obs s := by
  have e : g = s.heap.get? := funext h
  rw [e] <;> rfl
/-! ### what it tells -/
section
variable {t : Txt} {K : PySem.W.Frag} {h : Heap} {mg : Str → Option Value} {P : Program} {w : World} {base : Heap}
theorem strEq_ok {a b : Str} (h : strEq a b = true) : a = b := of_decide_eq_true h
theorem lookup_memS {α : Type} {x : Str} {g : α} : ∀ {l : List (Str × α)}, l.lookup x = some g → (x, g) ∈ l
  | [], h => by cases h
  | (y, u) :: r, h => by
    rw [List.lookup_cons] at h
    cases q : (x == y) with
    | true => rw [q] at h; cases h; rw [eq_of_beq q]; exact List.mem_cons_self
    | false => rw [q] at h; exact List.mem_cons_of_mem _ (lookup_memS h)
theorem noDup_ok : ∀ {l : List Str}, noDup l = true → l.Nodup
  | [], _ => List.nodup_nil
  | x :: r, h => by
    obtain ⟨h1, h2⟩ := Bool.and_eq_true_iff.mp h
    exact List.nodup_cons.mpr ⟨by simpa using h1, noDup_ok h2⟩
theorem entAt_ok {f : Nat} {x : Str} {m : Option Str} (h : entAt t f x m = true) : ∃ e, t.ent f = some e ∧ e.d.at_ = (x, m) := by
  unfold entAt at h
  split at h
  · rename_i e he
    obtain ⟨h1, h2⟩ := Bool.and_eq_true_iff.mp h
    exact ⟨e, he, Prod.ext (strEq_ok h1) (of_decide_eq_true h2)⟩
  · cases h
def faOf (t : Txt) (K : PySem.W.Frag) (f : Nat) : Addr := match t.ent f with
  | some e => He.fAd K e.d.at_
  | none => 0
def psOf (t : Txt) (f : Nat) : List Str := match t.ent f with
  | some e => e.ps
  | none => []
theorem faOf_eq {f : Nat} {e : Ent} (h : t.ent f = some e) : faOf t K f = He.fAd K e.d.at_ := by unfold faOf; rw [h]
theorem psOf_eq {f : Nat} {e : Ent} (h : t.ent f = some e) : psOf t f = e.ps := by unfold psOf; rw [h]
theorem fi_of {f : Nat} {i : Fi} (h : t.G.T.fn f = some i) : ∃ e, t.ent f = some e ∧ e.fi = i := Option.map_eq_some_iff.mp h
theorem cl_of {c : Nat} {i : Ci} (h : t.G.T.cl c = some i) : ∃ d, t.clD c = some d ∧ i = ⟨d.fx, d.mt, d.ini, d.fz⟩ := by
  obtain ⟨d, h1, h2⟩ := Option.map_eq_some_iff.mp h
  exact ⟨d, h1, h2.symm⟩
theorem ct_of {c : Nat} {C : Addr} {names : List Str} (h : (t.CT K).ct c = some (C, names)) : ∃ d, t.clD c = some d ∧ C = He.ga K d.name ∧ names = d.fx := by
  obtain ⟨d, h1, h2⟩ := Option.map_eq_some_iff.mp h
  cases h2
  exact ⟨d, h1, rfl, rfl⟩
theorem fx_of {c : Nat} {d : ClD} (h : t.clD c = some d) : t.G.T.fx c = d.fx := by
  show Tab.fx t.T c = _
  unfold Tab.fx Txt.T
  dsimp only
  rw [h]
  rfl
/-- what a hand-made def must keep -/
def PrimOk (P : Program) (w : World) (K : PySem.W.Frag) (mg : Str → Option Value) (base : Heap) (t : Txt) (fd : Nat → FuncData) : Prop :=
  ∀ f i m, t.T.fn f = some i → i.xc = none → i.prim = some m → ∀ k Φ Ψ, GlF P w K mg base (t.CT K) (t.XT K) t.G k Φ Ψ → FnOk P w K mg base (L2.CX P w) (k + 2) (faOf t K f) (fd f) (psOf t f) (spF ⟨K, t.CT K⟩ (t.XT K) i.np (m Φ Ψ))
theorem exc_shape {C : Addr} {o : Obj} (h : excShape C o = true) : ∃ nm q N bs bm sn sub ab col dd k0 k1 k2 k3 k5, o = excClassObj nm q C N bs bm true sn sub ab col dd k0 k1 k2 k3 k5 "ArithmeticError.__new__" ∧ XA.refsAE bm = true := by
  unfold excShape at h
  split at h
  · rename_i c dd nm bs C' bm ns qn sn sub ab col sl
    simp only [Bool.and_eq_true, beq_iff_eq] at h
    obtain ⟨⟨⟨rfl, rfl⟩, hb⟩, h4⟩ := h
    split at h4
    · rename_i k0 k1 k2 k3 n k5 he
      have hn : n = "ArithmeticError.__new__" := by simpa using h4
      subst hn
      refine ⟨nm, qn, ns, bs, bm, sn, sub, ab, col, dd, k0, k1, k2, k3, k5, ?_, hb⟩
      have : sl = #[k0, k1, k2, k3, some (.builtin "ArithmeticError.__new__"), k5] := by
        rw [← Array.toArray_toList (xs := sl), he]
      rw [this]
    · cases h4
  · cases h
theorem oex_ok {C : Addr} (h : oexB K C = true) : XA.OexA K C := by
  unfold oexB at h
  simp only [Bool.and_eq_true] at h
  obtain ⟨⟨⟨⟨h1, h2⟩, h3⟩, h4⟩, h5⟩ := h
  cases hl : K.lookup C with
  | none => rw [hl] at h1; cases h1
  | some o =>
    rw [hl] at h1
    obtain ⟨nm, q, N, bs, bm, sn, sub, ab, col, dd, k0, k1, k2, k3, k5, rfl, hb⟩ := exc_shape h1
    exact ⟨⟨nm, q, N, bs, bm, sn, sub, ab, col, dd, k0, k1, k2, k3, k5, hl, hb⟩, He.eqO_ok h2, of_decide_eq_true h3, tyB_ok h4, h5⟩
theorem stat_of (X : K.In h) (Gn : h.Ns mainGlobals mg) (ents : ∀ e ∈ t.ents, EntOk t.G e) {ck : PySem.W.Frag → Bool} (c : obsP t ck K = valP t) :
    ∃ fd, (∀ (f : Nat) (e : Ent), t.ent f = some e → FunD K e.d.name e.d.qual e.d.params e.d.body e.d.scope (e.d.dvs K) (e.d.kws K) (He.fAd K e.d.at_) (fd f)) ∧ ∀ base, PrimOk P w K mg base t fd → Stat P w K mg base (t.CT K) (t.XT K) t.G (faOf t K) fd (psOf t) := by
  have c1 : (t.ck K && ck K && t.ents.all fun e => e.d.ok K) = true := congrArg (fun z : AlP => z.1) c
  have c2 : t.ents.map (fun e => He.fnW K e.d.at_) = t.ents.map (fun e => e.d.val) := congrArg (fun z : AlP => z.2) c
  obtain ⟨c1, c3⟩ := Bool.and_eq_true_iff.mp c1
  obtain ⟨c1, _⟩ := Bool.and_eq_true_iff.mp c1
  unfold Txt.ck at c1
  obtain ⟨c1, k5⟩ := Bool.and_eq_true_iff.mp c1
  obtain ⟨c1, k4⟩ := Bool.and_eq_true_iff.mp c1
  obtain ⟨c1, k3⟩ := Bool.and_eq_true_iff.mp c1
  obtain ⟨c1, k2⟩ := Bool.and_eq_true_iff.mp c1
  obtain ⟨c1, k1⟩ := Bool.and_eq_true_iff.mp c1
  obtain ⟨k6, k7⟩ := Bool.and_eq_true_iff.mp c1
  have xcs : ∀ (c : Nat) d, t.xcD c = some d → xcB t K d = true := fun c d hc => List.all_eq_true.mp k6 d (xcD_mem hc)
  have xt_of : ∀ c v nms, t.XT K c = some (v, nms) → ∃ d, t.xcD c = some d ∧ v = .ref (He.ga K d.name) ∧ nms = d.fx := fun c v nms hc => by
    have hc : (t.xcD c).map (fun d => ((Value.ref (He.ga K d.name)), d.fx)) = some (v, nms) := hc
    cases hd : t.xcD c with
    | none => rw [hd] at hc; cases hc
    | some d => rw [hd] at hc; cases hc; exact ⟨d, rfl, rfl, rfl⟩
  have fds : ∀ f : Nat, ∃ fd : FuncData, ∀ e : Ent, t.ent f = some e → FunD K e.d.name e.d.qual e.d.params e.d.body e.d.scope (e.d.dvs K) (e.d.kws K) (He.fAd K e.d.at_) fd := fun f => by
    cases he : t.ent f with
    | none => exact ⟨default, fun e z => by cases z⟩
    | some e =>
      have e2 : He.fnW K e.d.at_ = e.d.val := List.map_inj_left.mp c2 e (ent_mem he)
      obtain ⟨fd, hfd⟩ := He.DefD.funD e2 (List.all_eq_true.mp c3 e (ent_mem he))
      exact ⟨fd, fun e' z => by cases z; exact hfd⟩
  obtain ⟨fd, hfd⟩ := Classical.axiomOfChoice fds
  have gb : ∀ x g, t.G.gb x = some g → gbB t K (x, g) = true := fun x g hx => List.all_eq_true.mp k1 (x, g) (lookup_memS hx)
  have cl : ∀ (c : Nat) d, t.clD c = some d → clB t K d = true := fun c d hc => List.all_eq_true.mp k2 d (clD_mem hc)
  have ow : ∀ (c : Nat) d, t.clD c = some d → owB t K d = true := fun c d hc => by
    have z := cl c d hc
    unfold clB at z
    simp only [Bool.and_eq_true] at z
    exact z.2
  have cls : ∀ (c : Nat) d, t.clD c = some d → Cls K (He.ga K d.name) := fun c d hc => by
    have z := cl c d hc
    unfold clB at z
    simp only [Bool.and_eq_true] at z
    exact He.cls_ok z.1.1.1.1.1.1.1.1.1
  refine ⟨fd, hfd, fun base hpr => ?_⟩
  have ent : ∀ f i, t.G.T.fn f = some i → ∃ e, t.ent f = some e ∧ e.fi = i ∧ EntOk t.G e ∧ FunD K e.d.name e.d.qual e.d.params e.d.body e.d.scope (e.d.dvs K) (e.d.kws K) (He.fAd K e.d.at_) (fd f) := fun f i hi => by
    obtain ⟨e, h1, h2⟩ := fi_of hi
    exact ⟨e, h1, h2, ents e (ent_mem h1), hfd f e h1⟩
  refine {
    def_ := fun f i hi hp => ?_
    len := fun f i hi => ?_
    kp := fun f i hi => ?_
    prim := hpr
    b0 := fun f i hi hk => ?_
    b1 := fun f i hi hk => ?_
    bk := fun f i hi hk => ?_
    ats := fun f i hi => ?_
    at_ := fun x d hx => ?_
    bi := fun x hx => ?_
    gfn := fun x f hx => ?_
    gcl := fun x c hx => ?_
    mkc := fun c i f C names hi hf hC => ?_
    mt := fun c i m f C names hi hf hC => ?_
    owf := ⟨fun c C names hC s hs => ?_, fun c C names c' C' names' hC hC' => ?_, fun c C names hC => ?_, fun c C names f hC hm => ?_⟩
    cf := ⟨fun c C names hC => ?_, fun c C names hC => ?_, fun c C names hC x hx => ?_⟩
    f1000 := fun c => ?_
    gxc := fun x c f hx => ?_
    xin := fun f i c hi hc => ?_
    xt := fun c v nms hc => ?_
    xm := fun h hv hn c cls nms h1 h2 => ?_
    isf := ⟨fun c C names hC => ?_, fun c C names hC => ?_, He.eqO_ok k4, of_decide_eq_true k5, fun c C names hC => ?_, fun c C names hC ty => ?_, fun c C names c' C' names' hC hC' => ?_, fun c C names hC s hs => ?_⟩ }
  · obtain ⟨e, h1, rfl, h3, h4⟩ := ent f i hi
    obtain ⟨d1, d2, d3⟩ := h3.den hp
    rw [faOf_eq h1, psOf_eq h1]
    exact ⟨_, _, _, _, _, _, _, e.N, e.fu, h4, d1, d2, d3⟩
  · obtain ⟨e, h1, rfl, h3, h4⟩ := ent f i hi
    rw [psOf_eq h1]; exact h3.len
  · obtain ⟨e, h1, rfl, h3, h4⟩ := ent f i hi
    rw [faOf_eq h1]; exact h4.kp
  · obtain ⟨e, h1, rfl, h3, h4⟩ := ent f i hi
    rw [psOf_eq h1]; exact (h3.bind K _ _ h4).1 hk
  · obtain ⟨e, h1, rfl, h3, h4⟩ := ent f i hi
    rw [psOf_eq h1]; exact (h3.bind K _ _ h4).2.1 hk
  · obtain ⟨e, h1, rfl, h3, h4⟩ := ent f i hi
    rw [psOf_eq h1]; exact (h3.bind K _ _ h4).2.2 hk
  · obtain ⟨e, h1, rfl, h3, h4⟩ := ent f i hi
    exact List.all_eq_true.mp h3.ats
  · have z := gb x _ hx
    unfold gbB at z
    dsimp only at z
    split at z
    · rename_i u hu
      exact ⟨u, PySem.W.mg_of X Gn hu, He.relB_ok z⟩
    · cases z
  · exact PySem.W.mg_none_of X Gn (He.eqO_ok (gb x _ hx))
  · have z := gb x _ hx
    unfold gbB at z
    dsimp only at z
    obtain ⟨z1, z2⟩ := Bool.and_eq_true_iff.mp z
    obtain ⟨e, h1, h2⟩ := entAt_ok z1
    rw [faOf_eq h1, h2]
    exact PySem.W.mg_of X Gn (He.eqO_ok z2)
  · have z := gb x _ hx
    unfold gbB at z
    dsimp only at z
    obtain ⟨z1, z2⟩ := Bool.and_eq_true_iff.mp z
    split at z2
    · rename_i d hd
      have := strEq_ok z2
      subst this
      exact ⟨_, _, PySem.W.mg_of X Gn (He.eqO_ok z1), show (t.clD c).map _ = _ by rw [hd]; rfl⟩
    · cases z2
  · obtain ⟨d, h1, rfl⟩ := cl_of hi
    obtain ⟨d', h1', rfl, rfl⟩ := ct_of hC
    rw [h1] at h1'; cases h1'
    have z := cl c d h1
    unfold clB at z
    simp only [Bool.and_eq_true] at z
    have z5 := z.1.1.1.1.1.2
    have hf : d.ini = some f := hf
    rw [hf] at z5
    dsimp only at z5
    rw [Bool.and_eq_true] at z5
    obtain ⟨z6, z7⟩ := z5
    obtain ⟨e, e1, e2⟩ := entAt_ok z6
    rw [faOf_eq e1, e2]
    exact He.mkr_ok z7
  · obtain ⟨d, h1, rfl⟩ := cl_of hi
    obtain ⟨d', h1', rfl, rfl⟩ := ct_of hC
    rw [h1] at h1'; cases h1'
    have z := cl c d h1
    unfold clB at z
    simp only [Bool.and_eq_true] at z
    have z4 := List.all_eq_true.mp z.1.1.1.1.1.1.2 (m, f) (lookup_memS hf)
    simp only [Bool.and_eq_true] at z4
    obtain ⟨e, e1, e2⟩ := entAt_ok z4.1.2
    rw [faOf_eq e1, e2]
    exact ⟨cls c d h1, by simpa using z4.1.1, He.meth_ok z4.2⟩
  · obtain ⟨d, h1, rfl, rfl⟩ := ct_of hC
    have z := ow c d h1
    unfold owB at z
    simp only [Bool.and_eq_true] at z
    exact of_decide_eq_true (List.all_eq_true.mp z.1.1.1 s hs)
  · obtain ⟨d, h1, rfl, rfl⟩ := ct_of hC
    obtain ⟨d', h1', rfl, rfl⟩ := ct_of hC'
    have z := ow c d h1
    unfold owB at z
    simp only [Bool.and_eq_true] at z
    rcases Bool.or_eq_true_iff.mp (List.all_eq_true.mp z.1.1.2 d' (clD_mem h1')) with y | y
    · exact .inl (by rw [strEq_ok y])
    · exact .inr (of_decide_eq_true y)
  · obtain ⟨d, h1, rfl, rfl⟩ := ct_of hC
    have z := ow c d h1
    unfold owB at z
    simp only [Bool.and_eq_true] at z
    exact He.eqO_ok z.1.2
  · obtain ⟨d, h1, rfl, rfl⟩ := ct_of hC
    have z := ow c d h1
    unfold owB at z
    simp only [Bool.and_eq_true] at z
    have z2 := z.2
    rw [hm.at_] at z2
    exact z2
  · obtain ⟨d, h1, rfl, rfl⟩ := ct_of hC
    exact (fx_of h1).symm
  · obtain ⟨d, h1, rfl, rfl⟩ := ct_of hC
    exact cls c d h1
  · obtain ⟨d, h1, rfl, rfl⟩ := ct_of hC
    have z := cl c d h1
    unfold clB at z
    simp only [Bool.and_eq_true] at z
    exact He.noat_ok (List.all_eq_true.mp z.1.1.1.1.1.1.1.1.2 x hx)
  · cases h1 : t.clD c with
    | none =>
      have : t.G.T.fx c = [] := by
        show Tab.fx t.T c = _
        unfold Tab.fx Txt.T
        dsimp only
        rw [h1]
        rfl
      rw [this]
      decide
    | some d =>
      rw [fx_of h1]
      have z := cl c d h1
      unfold clB at z
      simp only [Bool.and_eq_true] at z
      exact of_decide_eq_true z.1.1.1.1.1.1.1.2
  · obtain ⟨d, h1, rfl, rfl⟩ := ct_of hC
    exact cls c d h1
  · obtain ⟨d, h1, rfl, rfl⟩ := ct_of hC
    have z := cl c d h1
    unfold clB at z
    simp only [Bool.and_eq_true] at z
    exact He.eqO_ok z.1.1.1.1.2
  · obtain ⟨d, h1, rfl, rfl⟩ := ct_of hC
    have z := cl c d h1
    unfold clB at z
    simp only [Bool.and_eq_true] at z
    exact of_decide_eq_true z.1.1.1.2
  · obtain ⟨d, h1, rfl, rfl⟩ := ct_of hC
    have z := cl c d h1
    unfold clB at z
    simp only [Bool.and_eq_true] at z
    have z8 := List.all_eq_true.mp z.1.1.2 ty.nm (by cases ty <;> decide)
    simp only [Bool.and_eq_true] at z8
    exact of_decide_eq_true z8.1
  · obtain ⟨d, h1, rfl, rfl⟩ := ct_of hC
    obtain ⟨d', h1', rfl, rfl⟩ := ct_of hC'
    have z := cl c d h1
    unfold clB at z
    simp only [Bool.and_eq_true] at z
    have z9 := of_decide_eq_true (List.all_eq_true.mp z.1.2 d' (clD_mem h1'))
    rw [z9]
    congr 1
    have nd := noDup_ok k3
    by_cases e : c = c'
    · subst e
      rw [h1] at h1'; cases h1'
      simp [strEq]
    · have : d.name ≠ d'.name := fun q => e (by
        obtain ⟨i, hi, a1⟩ := List.getElem_of_mem (clD_mem h1)
        obtain ⟨j, hj, a2⟩ := List.getElem_of_mem (clD_mem h1')
        have b1 : (t.cls.map (·.name))[i]? = some d.name := by rw [List.getElem?_map, List.getElem?_eq_getElem hi, a1]; rfl
        have b2 : (t.cls.map (·.name))[j]? = some d.name := by rw [List.getElem?_map, List.getElem?_eq_getElem hj, a2, q]; rfl
        have := nodup_ix nd b1 b2
        subst this
        rw [a1] at a2
        subst a2
        rw [← clD_id h1, ← clD_id h1'])
      rw [show strEq d.name d'.name = false from decide_eq_false this]
      exact (beq_eq_false_iff_ne.mpr e).symm
  · obtain ⟨d, h1, rfl, rfl⟩ := ct_of hC
    have z := cl c d h1
    unfold clB at z
    simp only [Bool.and_eq_true] at z
    have z8 := List.all_eq_true.mp z.1.1.2 s hs
    simp only [Bool.and_eq_true] at z8
    exact of_decide_eq_true z8.2
  · have z := gb x _ hx
    unfold gbB at z
    dsimp only at z
    obtain ⟨z1, z2⟩ := Bool.and_eq_true_iff.mp z
    cases hd : t.xcD c with
    | none => rw [hd] at z2; cases z2
    | some d =>
      rw [hd] at z2
      dsimp only at z2
      obtain ⟨z3, z4⟩ := Bool.and_eq_true_iff.mp z2
      have := strEq_ok z3
      subst this
      refine ⟨He.ga K d.name, d.fx, PySem.W.mg_of X Gn (He.eqO_ok z1), show (t.xcD c).map _ = _ by rw [hd]; rfl, fun i hi hxi => ?_⟩
      obtain ⟨e, h1, rfl, h3, h4⟩ := ent f i hi
      rw [h1] at z4
      dsimp only at z4
      rcases Bool.or_eq_true_iff.mp z4 with y | y
      · cases hh : e.fi.xc with
        | none => rw [hh] at hxi; cases hxi
        | some _ => rw [hh] at y; cases y
      · obtain ⟨y1, y2⟩ := Bool.and_eq_true_iff.mp y
        have y1 : e.fi.xc = some c := by simpa using y1
        have y2 : d.ini = some f := by simpa using y2
        have xz := xcs c d hd
        unfold xcB at xz
        rw [y2] at xz
        simp only [Bool.and_eq_true] at xz
        obtain ⟨_, ⟨⟨⟨⟨⟨⟨w1, w2⟩, w3⟩, w4⟩, w5⟩, w6⟩, w7⟩⟩ := xz
        obtain ⟨e', e1, e2⟩ := entAt_ok w1
        rw [h1] at e1
        cases e1
        have xe := List.all_eq_true.mp k7 e (ent_mem h1)
        unfold xinB at xe
        rw [y1] at xe
        simp only [Bool.and_eq_true] at xe
        refine ⟨y1, by simpa using xe.1.2, oex_ok w2, ?_, ?_⟩
        · rw [faOf_eq h1, e2]; exact He.eqO_ok w6
        · rw [faOf_eq h1, e2]; exact tyB_ok w7
  · obtain ⟨e, h1, rfl, h3, h4⟩ := ent f i hi
    have xe := List.all_eq_true.mp k7 e (ent_mem h1)
    unfold xinB at xe
    rw [hc] at xe
    simp only [Bool.and_eq_true] at xe
    obtain ⟨⟨⟨⟨x1, x2⟩, x3⟩, x4⟩, x5⟩ := xe
    refine ⟨by simpa using x1, by simpa using x2, of_decide_eq_true x3, fun C nms hC => ?_⟩
    obtain ⟨d, hd, q1, rfl⟩ := xt_of c _ nms hC
    cases q1
    rw [hd] at x5
    dsimp only at x5
    obtain ⟨x6, x7⟩ := Bool.and_eq_true_iff.mp x5
    have x6 : d.ini = some e.id := by simpa using x6
    have xz := xcs c d hd
    unfold xcB at xz
    rw [x6] at xz
    simp only [Bool.and_eq_true] at xz
    obtain ⟨_, ⟨⟨⟨⟨⟨⟨w1, w2⟩, w3⟩, w4⟩, w5⟩, w6⟩, w7⟩⟩ := xz
    refine ⟨oex_ok w2, noDup_ok w3, fun z => ?_, of_decide_eq_true w5, ?_⟩
    · rw [z] at w4; cases w4
    · split at x7
      · rename_i l hl
        rw [hl]
        simp [of_decide_eq_true x7]
      · cases x7
  · obtain ⟨d, hd, rfl, rfl⟩ := xt_of c v nms hc
    have xz := xcs c d hd
    unfold xcB at xz
    simp only [Bool.and_eq_true] at xz
    obtain ⟨⟨⟨w1, w2⟩, w3⟩, w4⟩ := xz
    refine ⟨?_, He.ga K d.name, rfl, xfB_ok w1, fun f hf => He.eqO_ok (List.all_eq_true.mp w2 f hf)⟩
    show Tab.xn t.T c = _
    unfold Tab.xn Txt.T
    dsimp only
    rw [hd]
    rfl
  · obtain ⟨d, hd, rfl, rfl⟩ := xt_of h hv hn h1
    obtain ⟨d', hd', rfl, rfl⟩ := xt_of c cls nms h2
    have xz := xcs c d' hd'
    unfold xcB at xz
    simp only [Bool.and_eq_true] at xz
    obtain ⟨⟨⟨w1, w2⟩, w3⟩, w4⟩ := xz
    have := of_decide_eq_true (List.all_eq_true.mp w3 d (xcD_mem hd))
    rw [this, xcD_id hd, xcD_id hd']
    congr 1
    show _ = Tab.xm t.T h c
    unfold Tab.xm Txt.T
    dsimp only
    rw [hd']
    rfl
/-- no def is hand-made -/
theorem no_prim (h : (t.ents.all fun e => e.fi.prim.isNone) = true) (f : Nat) (i : Fi) (m : (Nat → FM) → (Nat → FM) → FM) (hi : t.T.fn f = some i) (hx : i.xc = none) (hm : i.prim = some m) : False := by
  obtain ⟨e, h1, h2⟩ := fi_of (t := t) hi
  have := List.all_eq_true.mp h e (ent_mem h1)
  rw [h2, hm] at this
  cases this
theorem walk_P {l : PySem.W.OpenLaw} {n k N : Nat} {q : Program} {loose : List Str} {XP : (Str → Option Value) → Heap → Prop} {ck : PySem.W.Frag → Bool} {d : DefRec} {f : Nat} {e : Ent} {x : Str}
    (hn : l.most = some n) (hn2 : n ≤ sizeLine) (hdf : d.params.defaults = []) (hr : Room k callerA) (he : t.ent f = some e) (hxc : e.fi.xc = none) (hat : e.d.at_ = (d.name, none)) (hdl : e.d.dfl = []) (hps : e.ps = [x]) (hgl : (t.gbs.any fun q => strEq q.1 d.name && (match q.2 with | .fn g => g == f | _ => false)) = true)
    (hb : ∀ (kV doc pm : Value) (an : Option Addr) (cdv ct : Value) (us : List Value), us.length = [x].length → bindArgs (PySem.W.fnOf e.d.name e.d.qual e.d.params e.d.body e.d.scope .none kV doc pm an cdv ct) ⟨us, []⟩ = pure ([x].zip us))
    (ents : ∀ e ∈ t.ents, EntOk t.G e)
    (hpr : ∀ (w : World) (K : PySem.W.Frag) (mg : Str → Option Value) (base : Heap) (fd : Nat → FuncData), ck K = true → K.In base → base.Ns mainGlobals mg → (∀ (f : Nat) (e : Ent), t.ent f = some e → FunD K e.d.name e.d.qual e.d.params e.d.body e.d.scope (e.d.dvs K) (e.d.kws K) (He.fAd K e.d.at_) (fd f)) → PrimOk l.prog w K mg base t fd)
    (hD : ∀ ns : List Int, ns.length ≤ n → (∀ k ∈ ns, Builtin.Int.intBits k ≤ 1048576) → ∃ e', Fn t.T k f [.fz (.lst (ns.map D.int))] = .ok ⟨.f, .bl true⟩ e') :
    PySem.W.WalkO q loose XP (hookP N t ck).says l.row.toRowW d [] (fun f vs => PySem.call f vs) := by
  refine Att.attach_callB hn hdf fun w s₀ s₁ mg mb fa o pm cd doc a vs ns G Y ho hd hcd hmg hobj hints hlen hbits hg => ?_
  obtain ⟨K, KX, c⟩ := Y
  obtain ⟨fd, hfd, hst⟩ := stat_of (P := l.prog) (w := w) KX G.T.g ents c
  have hck : ck K = true := by
    have c1 : (t.ck K && ck K && t.ents.all fun e => e.d.ok K) = true := congrArg (fun z : AlP => z.1) c
    exact (Bool.and_eq_true_iff.mp (Bool.and_eq_true_iff.mp c1).1).2
  have hfi : t.G.T.fn f = some e.fi := show (t.ent f).map _ = _ by rw [he]; rfl
  have efa : fa = faOf t K f := by
    rw [faOf_eq he, hat]
    have c1 : (t.ck K && ck K && t.ents.all fun e => e.d.ok K) = true := congrArg (fun z : AlP => z.1) c
    have c2 := (Bool.and_eq_true_iff.mp (Bool.and_eq_true_iff.mp c1).1).1
    unfold Txt.ck at c2
    simp only [Bool.and_eq_true] at c2
    obtain ⟨qq, hq, hq2⟩ := List.any_eq_true.mp hgl
    obtain ⟨hq3, hq4⟩ := Bool.and_eq_true_iff.mp hq2
    have z := List.all_eq_true.mp c2.1.1.1.1.2 qq hq
    obtain ⟨x0, gg⟩ := qq
    cases gg with
    | fn g =>
      unfold gbB at z
      dsimp only at z hq3
      obtain ⟨_, z2⟩ := Bool.and_eq_true_iff.mp z
      have e2 := PySem.W.mg_of KX G.T.g (He.eqO_ok z2)
      have := strEq_ok hq3
      subst this
      rw [hmg] at e2
      cases e2
      rfl
    | _ => cases hq4
  subst efa
  have eP := psOf_eq (t := t) he
  have hF := hfd f e he
  have hdv : e.d.dvs K = [] := by unfold He.DefD.dvs; rw [hdl]; rfl
  rw [hdv] at hF
  refine law_call (CX := L2.CX l.prog w) (sp := spF ⟨K, t.CT K⟩ (t.XT K) e.fi.np (Fn t.T k f)) KX G.T.g G.T.b G.T.builtins G.T.nolimit hg hobj hints (Nat.le_trans hlen hn2) hr (fd := fd f) (x := x)
    (fun base hKb hNb => ?_) (fun s u => FunD.bindsA hF (ps := [x]) hb s [u] rfl) (fun H hO hS => ?_) fun H e s' hh => ?_
  · have := fn_all (hst base (hpr w K mg base fd hck hKb hNb hfd)) k f hfi hxc
    rw [eP, hps] at this
    exact this
  · have hnp : e.fi.np = 1 := by rw [← (ents e (ent_mem he)).len, hps]; rfl
    obtain ⟨e', hfn⟩ := hD ns hlen hbits
    refine ⟨hnp ▸ rfl, ⟨H, fun _ => none, [.fz (.lst (ns.map D.int))], [[]]⟩, ⟨Le.refl _, (fun a o z => nomatch z), (by simp [Gst.P]), (fun a ha => by simp [Gst.P] at ha), .cons ⟨⟨_, rfl, 1, a, _, rfl, hS, ?_⟩, rfl⟩ .nil⟩, ?_⟩
    · clear hS hfn hbits hlen hints
      induction ns with
      | nil => exact .nil
      | cons m r ih => exact .cons rfl ih
    · show ContF _ _ _ _ _ _ _ (Fn t.T k f [.fz (.lst (ns.map D.int))])
      rw [hfn]
      intro γ' H' x' fp e1 ft r hl hn
      have := hl.one.atom ft rfl
      exact this
  · obtain ⟨_, _, _, _, _, _, _, _, _, _, _, _, z⟩ := hh
    exact z
end
end Py

set_option Elab.async false
set_option linter.all false
set_option maxRecDepth 100000
set_option maxHeartbeats 1000000
/-! PySim: running the trees by simp. -/
namespace Py
open PySem L2
theorem lv_snd (T : Tab) (k : Nat) : (lv T (k + 1)).2 = Fn T k := by
  cases k with
  | zero => rfl
  | succ k => rfl
theorem Fn_eq {T : Tab} {k f : Nat} {i : Fi} (h : T.fn f = some i) (hp : i.prim = none) (hx : i.xc = none) : Fn T (k + 2) f = mkF i.nn (runs T (Fn T (k + 1)) (Fn T k) i.body) := by
  unfold Fn
  rw [lv]
  dsimp only
  rw [h]
  dsimp only
  rw [hx]
  dsimp only
  rw [hp, lv_snd]
  rfl
/-- an exception that is made -/
theorem Fx_eq {T : Tab} {k f c : Nat} {i : Fi} (h : T.fn f = some i) (hx : i.xc = some c) : Fn T (k + 2) f = xInit T (Fn T (k + 1)) (Fn T k) c i.body := by
  unfold Fn
  rw [lv]
  dsimp only
  rw [h]
  dsimp only
  rw [hx, lv_snd]
  rfl
/-- a fact that simp must not use -/
structure Hid (p : Prop) : Prop where
  out : p
theorem mkV_f {d : D} : mkV .f d = ⟨.f, d⟩ := by unfold mkV; split <;> rfl
theorem mkV_i {t : T} {i : Int} : mkV t (.int i) = ⟨.f, .int i⟩ := rfl
theorem mkV_b {t : T} {i : Bool} : mkV t (.bl i) = ⟨.f, .bl i⟩ := rfl
theorem mkV_s {t : T} {i : Str} : mkV t (.str i) = ⟨.f, .str i⟩ := rfl
theorem mkV_n {t : T} : mkV t .non = ⟨.f, .non⟩ := rfl
theorem mkV_t {t : T} {l : List D} : mkV t (.tup l) = ⟨.f, .tup l⟩ := rfl
theorem mkV_l {t : T} {l : List D} : mkV t (.lst l) = ⟨t, .lst l⟩ := rfl
theorem mkV_d {t : T} {b : Bool} {l : List (D × D)} : mkV t (.dic b l) = ⟨t, .dic b l⟩ := rfl
theorem mkV_o {t : T} {c : Nat} {l : List D} : mkV t (.obj c l) = ⟨t, .obj c l⟩ := rfl
theorem shp_i {i : Int} : shp (.int i) = true := rfl
theorem shp_b {i : Bool} : shp (.bl i) = true := rfl
theorem shp_n : shp .non = true := rfl
theorem eq_ii {i j : Int} : eqvD (.int i) (.int j) = decide (i = j) := by simp only [eqvD, toP, PyData.eqv]; rfl
theorem eq_bb {i j : Bool} : eqvD (.bl i) (.bl j) = (i == j) := by simp only [eqvD, toP, PyData.eqv]
theorem fr_un : free (some .un) = true := rfl
theorem fr_fz {d : D} : free (some (.fz d)) = true := rfl
theorem fr_bo {k : Sh} {d : D} : free (some (.bo k d)) = true := rfl
theorem fr_ow {k : Sh} {d : D} : free (some (.ow k d)) = true := rfl
theorem mul_ok {i j : Int} (h : i.natAbs < 18446744073709551616) : fMul i j = some (.int (i * j)) := by unfold fMul mulOk; simp [h]
theorem mul_ok2 {i j : Int} (h : j.natAbs < 18446744073709551616) : fMul i j = some (.int (i * j)) := by unfold fMul mulOk; simp [h]
theorem div_ok {i j : Int} (h : 0 < j) (h2 : j.natAbs < 18446744073709551616) : fDiv i j = some (.int (i / j)) := by
  have h3 : j.natAbs.log2 < 9000 := Nat.lt_of_lt_of_le ((Nat.log2_lt (by omega)).mpr (show j.natAbs < 2 ^ 64 from h2)) (by decide)
  unfold fDiv divOk
  simp [h, h3]
theorem mod_ok {i j : Int} (h : 0 < j) : fMod i j = some (.int (i % j)) := by unfold fMod; simp [h]
theorem ixN_nat {n i : Nat} (h : i < n) : ixN n (i : Int) = some i := by unfold ixN; simp [h]
theorem atI_nat {α : Type} (xs : List α) (i : Nat) : atI xs (i : Int) = xs[i]? := by
  unfold atI
  by_cases h : i < xs.length
  · rw [ixN_nat h]; rfl
  · have : ixN xs.length (i : Int) = none := by unfold ixN; simp; omega
    rw [this, List.getElem?_eq_none (by omega)]; rfl
theorem atI_int {α : Type} {xs : List α} {i : Int} (h : 0 ≤ i) : atI xs i = xs[i.toNat]? := by
  obtain ⟨n, rfl⟩ := Int.eq_ofNat_of_zero_le h
  exact atI_nat xs n
theorem okR_of {i : Int} (h0 : -1000000 ≤ i) (h1 : i ≤ 1000000) : okR i = true := by
  unfold okR
  rw [decide_eq_true (show (-4611686018427387904 : Int) ≤ i by omega), decide_eq_true (show i < (4611686018427387904 : Int) by omega)]
  rfl
theorem okR_0 : okR 0 = true := okR_of (by decide) (by decide)
theorem okR_1 : okR 1 = true := okR_of (by decide) (by decide)
theorem okR_2 : okR 2 = true := okR_of (by decide) (by decide)
theorem okR_3 : okR 3 = true := okR_of (by decide) (by decide)
theorem okR_4 : okR 4 = true := okR_of (by decide) (by decide)
theorem okR_8 : okR 8 = true := okR_of (by decide) (by decide)
theorem okR_m : okR (-1) = true := okR_of (by decide) (by decide)
theorem evI_r1 {T : Tab} {Φ Ψ : Nat → FM} {as : Exs} {j : Int} {env e1 : Env} (hr : okR j = true) (h : evs T Φ Ψ as env = .ok [⟨.f, .int j⟩] e1) : evI T Φ Ψ (.r1 as) env = .ok (rangeItems 0 1 j.toNat, []) e1 := by
  simp only [evI, mRng1, h, R.bind]
  unfold rng1I
  dsimp only
  rw [if_pos hr]
theorem evI_r2 {T : Tab} {Φ Ψ : Nat → FM} {as : Exs} {i j : Int} {env e1 : Env} (h1 : okR i = true) (h2 : okR j = true) (h : evs T Φ Ψ as env = .ok [⟨.f, .int i⟩, ⟨.f, .int j⟩] e1) : evI T Φ Ψ (.r2 as) env = .ok (rangeItems i 1 (j - i).toNat, []) e1 := by
  simp only [evI, mRng2, h, R.bind]
  unfold rng2I
  dsimp only
  rw [if_pos (by rw [h1, h2]; rfl)]
theorem evI_r3 {T : Tab} {Φ Ψ : Nat → FM} {as : Exs} {i j : Int} {env e1 : Env} (h1 : okR i = true) (h2 : okR j = true) (h : evs T Φ Ψ as env = .ok [⟨.f, .int i⟩, ⟨.f, .int j⟩, ⟨.f, .int (-1)⟩] e1) : evI T Φ Ψ (.r3 as) env = .ok (rangeItems i (-1) (i - j).toNat, []) e1 := by
  simp only [evI, mRng3, h, R.bind]
  unfold rng3I
  dsimp only
  rw [if_pos (by rw [h1, h2]; rfl)]
theorem atI_0 {α : Type} (xs : List α) : atI xs 0 = xs[0]? := atI_nat xs 0
theorem atI_1 {α : Type} (xs : List α) : atI xs 1 = xs[1]? := atI_nat xs 1
theorem atI_2 {α : Type} (xs : List α) : atI xs 2 = xs[2]? := atI_nat xs 2
theorem atI_3 {α : Type} (xs : List α) : atI xs 3 = xs[3]? := atI_nat xs 3
theorem atI_4 {α : Type} (xs : List α) : atI xs 4 = xs[4]? := atI_nat xs 4
section
variable {T : Tab} {Φ Ψ : Nat → FM} {env e1 : Env} {s : Sm} {r a b : Sms} {x : Fl} {nn : Nat}
theorem run_nx (h : run T Φ Ψ s env = .nx e1) (h2 : runs T Φ Ψ r e1 = x) : runs T Φ Ψ (.cons s r) env = x := by
  simp only [runs, mSeq, h]; exact h2
theorem run_out (h : run T Φ Ψ s env = x) (h2 : ∀ e, x ≠ .nx e) : runs T Φ Ψ (.cons s r) env = x := by
  simp only [runs, mSeq]
  rw [h]
  cases x with
  | nx e => exact absurd rfl (h2 e)
  | _ => rfl
theorem run_rt {v : Val} (h : run T Φ Ψ s env = .rt v e1) : runs T Φ Ψ (.cons s r) env = .rt v e1 := run_out h (fun e z => by cases z)
theorem ite_t {c : Ex} {t : Py.T} (h : ev T Φ Ψ c env = .ok ⟨t, .bl true⟩ e1) (h2 : runs T Φ Ψ a e1 = x) : Py.run T Φ Ψ (.ite c a b) env = x := by
  simp only [Py.run, mIf, mThen, h]; exact h2
theorem ite_f {c : Ex} {t : Py.T} (h : ev T Φ Ψ c env = .ok ⟨t, .bl false⟩ e1) (h2 : runs T Φ Ψ b e1 = x) : Py.run T Φ Ψ (.ite c a b) env = x := by
  simp only [Py.run, mIf, mThen, h]; exact h2
theorem ite_e {c : Ex} {t : Py.T} {b : Bool} (h : ev T Φ Ψ c env = .ok ⟨t, .bl b⟩ e1) {a a' : Sms} (h2 : (if b = true then runs T Φ Ψ a e1 else runs T Φ Ψ a' e1) = x) : Py.run T Φ Ψ (.ite c a a') env = x := by
  simp only [Py.run, mIf, mThen, h]
  cases b
  · simpa using h2
  · simpa using h2
theorem runs_nil : runs T Φ Ψ .nil env = .nx env := rfl
theorem fn_rt {body : MS} {pe e : Env} {v : Val} (h : body (pe ++ List.replicate (nn - pe.length) .un) = .rt v e) (ho : outT v.t = true) : mkF nn body pe = .ok v (finEnv pe e) := by
  unfold mkF; rw [h]; simp only [ho, if_true]
theorem fn_rt2 {body : MS} {pe e ws : Env} {v : Val} (h : body (pe ++ List.replicate (nn - pe.length) .un) = .rt v e) (ho : outT v.t = true) (hf : finEnv pe e = ws) : mkF nn body pe = .ok v ws := by
  rw [← hf]; exact fn_rt h ho
theorem fn_nx2 {body : MS} {pe e ws : Env} (h : body (pe ++ List.replicate (nn - pe.length) .un) = .nx e) (hf : finEnv pe e = ws) : mkF nn body pe = .ok ⟨.f, .non⟩ ws := by
  rw [← hf]; unfold mkF; rw [h]
theorem fn_nx {body : MS} {pe e : Env} (h : body (pe ++ List.replicate (nn - pe.length) .un) = .nx e) : mkF nn body pe = .ok ⟨.f, .non⟩ (finEnv pe e) := by
  unfold mkF; rw [h]
end
section
variable {T : Tab} {Φ Ψ : Nat → FM} {env : Env} {d : D} {i f : Nat} {o g h : Bo} {as : Exs} {a b c : Ex} {kw pu : Bool} {m : Str} {mo : Mo} {p : Pl}
theorem ev_c : ev T Φ Ψ (.c d) env = mC d env := rfl
theorem ev_v : ev T Φ Ψ (.v i) env = mV i env := rfl
theorem ev_op : ev T Φ Ψ (.op o as) env = mOpO (o.own T Φ Ψ) (evs T Φ Ψ as) (o.op T) env := by simp only [ev]
theorem ev_not : ev T Φ Ψ (.not a) env = mNot (ev T Φ Ψ a) env := by simp only [ev]
theorem ev_and : ev T Φ Ψ (.and a b) env = mAnd (ev T Φ Ψ a) (ev T Φ Ψ b) env := by simp only [ev]
theorem ev_or : ev T Φ Ψ (.or a b) env = mOr (ev T Φ Ψ a) (ev T Φ Ψ b) env := by simp only [ev]
theorem ev_ife : ev T Φ Ψ (.ife c a b) env = mIfE (ev T Φ Ψ c) (ev T Φ Ψ a) (ev T Φ Ψ b) env := by simp only [ev]
theorem ev_chn {g' h' : Int → Int → Bool} (h1 : g.ci = some g') (h2 : h.ci = some h') : ev T Φ Ψ (.chn g h a b c) env = mChn g' h' (ev T Φ Ψ a) (ev T Φ Ψ b) (ev T Φ Ψ c) env := by simp only [ev, h1, h2]
theorem ev_cee : ev T Φ Ψ (.chn .le .le a b c) env = mChn (fun i j => decide (i ≤ j)) (fun i j => decide (i ≤ j)) (ev T Φ Ψ a) (ev T Φ Ψ b) (ev T Φ Ψ c) env := by simp only [ev, Bo.ci]
theorem ev_cet : ev T Φ Ψ (.chn .le .lt a b c) env = mChn (fun i j => decide (i ≤ j)) (fun i j => decide (i < j)) (ev T Φ Ψ a) (ev T Φ Ψ b) (ev T Φ Ψ c) env := by simp only [ev, Bo.ci]
theorem ev_cte : ev T Φ Ψ (.chn .lt .le a b c) env = mChn (fun i j => decide (i < j)) (fun i j => decide (i ≤ j)) (ev T Φ Ψ a) (ev T Φ Ψ b) (ev T Φ Ψ c) env := by simp only [ev, Bo.ci]
theorem ev_ctt : ev T Φ Ψ (.chn .lt .lt a b c) env = mChn (fun i j => decide (i < j)) (fun i j => decide (i < j)) (ev T Φ Ψ a) (ev T Φ Ψ b) (ev T Φ Ψ c) env := by simp only [ev, Bo.ci]
theorem ev_call {cb : Cb} (h : cbOf T Φ f as.len kw = some cb) : ev T Φ Ψ (.call f kw as) env = mCallD cb (evs T Φ Ψ as) env := by simp only [ev, h]
theorem ev_meth : ev T Φ Ψ (.meth m pu a as) env = mMeth (mtOf T Φ m (as.len + 1)) pu (as.p T) (ev T Φ Ψ a) (evs T Φ Ψ as) env := by simp only [ev]
theorem ev_new {ci : Ci} {q : Nat} {cb : Cb} (h1 : T.cl i = some ci) (h2 : ci.ini = some q) (h3 : cbOf T Ψ q (as.len + 1) false = some cb) : ev T Φ Ψ (.new i as) env = mNew i ci.fz cb (evs T Φ Ψ as) env := by simp only [ev, h1, h2, h3]
theorem ev_mut : ev T Φ Ψ (.mut mo p as) env = mMut (as.p T) tyL (evP T Φ Ψ p) (evs T Φ Ψ as) mo.g env := by simp only [ev]
end
/-- what comes of a run: on, by continue, by break, back; by an error -/
structure Go where
  n : Env → Prop := fun _ => False
  c : Env → Prop := fun _ => False
  b : Env → Prop := fun _ => False
  r : Val → Env → Prop := fun _ _ => False
  x : Nat → List D → Env → Prop := fun _ _ _ => False
def Fl.q (x : Fl) (G : Go) : Prop := match x with
  | .nx e => G.n e
  | .ct e => G.c e
  | .bk e => G.b e
  | .rt v e => G.r v e
  | .ex c fs e => G.x c fs e
  | .no => False
/-- the same, closed: so that nothing runs the program to see what the goal is -/
structure Fl.w (x : Fl) (G : Go) : Prop where
  out : Fl.q x G
def FR.is (x : FR) (Q : Val → Env → Prop) : Prop := ∃ v e, x = .ok v e ∧ Q v e
section
variable {T : Tab} {Φ Ψ : Nat → FM} {env e1 : Env} {s : Sm} {r a b : Sms} {x : Fl} {nn : Nat} {G : Go} {v : Val}
theorem w_seq (h : Fl.w (Py.run T Φ Ψ s env) { G with n := fun e => Fl.w (runs T Φ Ψ r e) G }) : Fl.w (runs T Φ Ψ (.cons s r) env) G := by
  refine ⟨?_⟩
  have h := h.out
  simp only [runs, mSeq]
  cases hx : Py.run T Φ Ψ s env with
  | nx e => rw [hx] at h; exact h.out
  | rt v e => rw [hx] at h; exact h
  | bk e => rw [hx] at h; exact h
  | ct e => rw [hx] at h; exact h
  | ex c fs e => rw [hx] at h; exact h
  | no => rw [hx] at h; exact h
theorem w_nx (h : Py.run T Φ Ψ s env = .nx e1) (h2 : Fl.w (runs T Φ Ψ r e1) G) : Fl.w (runs T Φ Ψ (.cons s r) env) G := by
  rw [run_nx h rfl]; exact h2
theorem w_rt (h : Py.run T Φ Ψ s env = .rt v e1) (h2 : G.r v e1) : Fl.w (runs T Φ Ψ (.cons s r) env) G := by
  rw [run_rt h]; exact ⟨h2⟩
theorem w_ite {c : Ex} {t : Py.T} {q : Bool} {a a' : Sms} (h : ev T Φ Ψ c env = .ok ⟨t, .bl q⟩ e1) (ht : q = true → Fl.w (runs T Φ Ψ a e1) G) (hf : q = false → Fl.w (runs T Φ Ψ a' e1) G) : Fl.w (Py.run T Φ Ψ (.ite c a a') env) G := by
  rw [ite_e h rfl]
  cases q
  · exact hf rfl
  · exact ht rfl
theorem w_nil (h : G.n env) : Fl.w (runs T Φ Ψ .nil env) G := ⟨h⟩
theorem w_fn {body : MS} {pe : Env} {Q : Val → Env → Prop} (h : Fl.w (body (pe ++ List.replicate (nn - pe.length) .un)) { n := fun e => Q ⟨.f, .non⟩ (finEnv pe e), r := fun v e => outT v.t = true ∧ Q v (finEnv pe e) }) : FR.is (mkF nn body pe) Q := by
  unfold mkF
  have h := h.out
  cases hx : body (pe ++ List.replicate (nn - pe.length) .un) with
  | nx e => rw [hx] at h; exact ⟨_, _, rfl, h⟩
  | rt v e =>
    rw [hx] at h
    refine ⟨v, finEnv pe e, ?_, h.2⟩
    show (if outT v.t = true then FR.ok v (finEnv pe e) else .no) = _
    rw [if_pos h.1]
  | bk e => rw [hx] at h; exact h.elim
  | ct e => rw [hx] at h; exact h.elim
  | ex c fs e => rw [hx] at h; exact h.elim
  | no => rw [hx] at h; exact h.elim
theorem w_loop {as : Item → Env → Option Env} {body : MS} (I : Nat → Env → Prop) {its : List Item} {env : Env} (h0 : I 0 env)
    (hs : ∀ (i : Nat) it e, its[i]? = some it → I i e → ∃ e1, as it e = some e1 ∧ Fl.w (body e1) { n := fun e2 => I (i + 1) e2, c := fun e2 => I (i + 1) e2, b := G.n, r := G.r, x := G.x }) (hn : ∀ e, I its.length e → G.n e) : Fl.w (loopF as body its env) G := by
  have key : ∀ (l : List Item) (i : Nat) (e : Env), i ≤ its.length → its.drop i = l → I i e → Fl.w (loopF as body l e) G := by
    intro l
    induction l with
    | nil =>
      intro i e hle hl hi
      have : its.length ≤ i := by
        by_cases h : its.length ≤ i
        · exact h
        · have := congrArg List.length hl; simp at this; omega
      refine ⟨hn e ?_⟩
      obtain rfl : i = its.length := by omega
      exact hi
    | cons it r ih =>
      intro i e hle hl hi
      have hit : its[i]? = some it := by
        have : (its.drop i)[0]? = some it := by rw [hl]; rfl
        simpa using this
      obtain ⟨e1, h1, h2⟩ := hs i it e hit hi
      unfold loopF
      rw [h1]
      dsimp only
      have hr : its.drop (i + 1) = r := by
        have := congrArg List.tail hl
        simpa using this
      have hlt := (List.getElem?_eq_some_iff.mp hit).1
      have h2 := h2.out
      cases hb : body e1 with
      | nx e2 => rw [hb] at h2; exact ih (i + 1) e2 hlt hr h2
      | ct e2 => rw [hb] at h2; exact ih (i + 1) e2 hlt hr h2
      | bk e2 => rw [hb] at h2; exact ⟨h2⟩
      | rt v e2 => rw [hb] at h2; exact ⟨h2⟩
      | ex c fs e2 => rw [hb] at h2; exact ⟨h2⟩
      | no => rw [hb] at h2; exact h2.elim
  exact key its 0 env (by omega) rfl h0
/-- for, over things that no slot is locked for -/
theorem w_for {s : Sr} {t : Tg} {b : Sms} {its : List Item} (I : Nat → Env → Prop) (hi : evI T Φ Ψ s env = .ok (its, []) e1) (h0 : I 0 e1)
    (hs : ∀ (i : Nat) it e, its[i]? = some it → I i e → ∃ e1, asI t it e = some e1 ∧ Fl.w (runs T Φ Ψ b e1) { n := fun e2 => I (i + 1) e2, c := fun e2 => I (i + 1) e2, b := G.n, r := G.r, x := G.x }) (hn : ∀ e, I its.length e → G.n e) : Fl.w (Py.run T Φ Ψ (.for_ s t b) env) G := by
  simp only [Py.run, mForI, hi, unlockAll]
  exact w_loop I h0 hs hn
theorem comp_w {vs : List Nat} {as : Item → Env → Option Env} {tst elt : ME} (I : Nat → List D → Env → Prop) {its : List Item} {acc : List D} {env : Env} (hl : acc.length + its.length ≤ 1000000) (h0 : I 0 acc env)
    (hs : ∀ (i : Nat) it acc e, its[i]? = some it → I i acc e → ∃ e1 t q e2, as it e = some e1 ∧ tst e1 = .ok ⟨t, .bl q⟩ e2 ∧ (q = false → (vs.all fun j => plainS e2[j]?) = true ∧ I (i + 1) acc (wipeE vs e2)) ∧
      (q = true → ∃ v e3 d e4, elt e2 = .ok v e3 ∧ frzV v e3 = some (d, e4) ∧ (vs.all fun j => plainS e4[j]?) = true ∧ I (i + 1) (acc ++ [d]) (wipeE vs e4))) :
    ∃ acc' e', compLoop vs as tst elt its acc env = .ok acc' e' ∧ I its.length acc' e' := by
  have key : ∀ (l : List Item) (i : Nat) (acc : List D) (e : Env), i ≤ its.length → its.drop i = l → acc.length + l.length ≤ 1000000 → I i acc e → ∃ acc' e', compLoop vs as tst elt l acc e = .ok acc' e' ∧ I its.length acc' e' := by
    intro l
    induction l with
    | nil =>
      intro i acc e hle hl _ hi
      have : its.length ≤ i := by
        by_cases h : its.length ≤ i
        · exact h
        · have := congrArg List.length hl; simp at this; omega
      obtain rfl : i = its.length := by omega
      exact ⟨acc, e, rfl, hi⟩
    | cons it r ih =>
      intro i acc e hle hl hz hi
      have hit : its[i]? = some it := by
        have : (its.drop i)[0]? = some it := by rw [hl]; rfl
        simpa using this
      have hr : its.drop (i + 1) = r := by
        have := congrArg List.tail hl
        simpa using this
      have hlt := (List.getElem?_eq_some_iff.mp hit).1
      obtain ⟨e1, t, q, e2, h1, h2, h3, h4⟩ := hs i it acc e hit hi
      simp only [List.length_cons] at hz
      unfold compLoop
      rw [h1]
      dsimp only
      rw [h2]
      cases q with
      | false =>
        obtain ⟨p1, p2⟩ := h3 rfl
        dsimp only
        rw [if_pos p1]
        exact ih (i + 1) acc _ hlt hr (by omega) p2
      | true =>
        obtain ⟨v, e3, d, e4, p1, p2, p3, p4⟩ := h4 rfl
        dsimp only
        rw [p1]
        dsimp only
        rw [p2]
        dsimp only
        rw [if_pos (by rw [p3, Bool.and_true]; exact decide_eq_true (by omega))]
        exact ih (i + 1) (acc ++ [d]) _ hlt hr (by simp; omega) p4
  exact key its 0 acc env (by omega) rfl hl h0
theorem comp_map {vs : List Nat} {as : Item → Env → Option Env} {tst elt : ME} (g : Item → D) {its : List Item} {env : Env} (hl : its.length ≤ 1000000)
    (hs : ∀ it ∈ its, ∃ e1 t e2 v e3 e4, as it env = some e1 ∧ tst e1 = .ok ⟨t, .bl true⟩ e2 ∧ elt e2 = .ok v e3 ∧ frzV v e3 = some (g it, e4) ∧ (vs.all fun j => plainS e4[j]?) = true ∧ wipeE vs e4 = env) :
    compLoop vs as tst elt its [] env = .ok (its.map g) env := by
  obtain ⟨acc', e', h1, h2, h3⟩ := comp_w (vs := vs) (as := as) (tst := tst) (elt := elt) (fun i acc e => acc = (its.take i).map g ∧ e = env) (its := its) (acc := []) (env := env) (by simpa using hl) (by simp) fun i it acc e hit hi => by
    obtain ⟨rfl, rfl⟩ := hi
    obtain ⟨e1, t, e2, v, e3, e4, q1, q2, q3, q4, q5, q6⟩ := hs it (List.mem_of_getElem? hit)
    refine ⟨e1, t, true, e2, q1, q2, (fun z => by cases z), fun _ => ⟨v, e3, _, e4, q3, q4, q5, ?_, q6⟩⟩
    rw [List.take_succ, hit, List.map_append]
    rfl
  rw [h1, h2, h3, List.take_length]
def R.w (r : R Val) (Q : Val → Env → Prop) : Prop := match r with
  | .ok v e => Q v e
  | _ => False
def Ow (o : Option Env) (Q : Env → Prop) : Prop := match o with
  | some e => Q e
  | none => False
def Oz (o : Option (D × Env)) (Q : D → Env → Prop) : Prop := match o with
  | some (d, e) => Q d e
  | none => False
theorem comp_map2 {vs : List Nat} {as : Item → Env → Option Env} {tst elt : ME} (g : Item → D) {its : List Item} {env : Env} (hl : its.length ≤ 1000000)
    (hs : ∀ it ∈ its, Ow (as it env) fun e1 => R.w (tst e1) fun q e2 => q.d = .bl true ∧ R.w (elt e2) fun v e3 => Oz (frzV v e3) fun d e4 => d = g it ∧ (vs.all fun j => plainS e4[j]?) = true ∧ wipeE vs e4 = env) :
    compLoop vs as tst elt its [] env = .ok (its.map g) env := by
  refine comp_map g hl fun it hit => ?_
  have h := hs it hit
  unfold Ow at h
  split at h
  · rename_i e1 h1
    unfold R.w at h
    split at h
    · rename_i q e2 h2
      obtain ⟨hq, h⟩ := h
      split at h
      · rename_i v e3 h3
        unfold Oz at h
        split at h
        · rename_i d e4 h4
          obtain ⟨rfl, p1, p2⟩ := h
          obtain ⟨t, dd⟩ := q
          dsimp only at hq
          subst hq
          exact ⟨e1, t, e2, v, e3, e4, h1, h2, h3, h4, p1, p2⟩
        · exact h.elim
      · exact h.elim
    · exact h.elim
  · exact h.elim
theorem swap_perm {α : Type} (l : List α) {i j : Nat} {x y : α} (hi : l[i]? = some x) (hj : l[j]? = some y) : ((l.set i y).set j x).Perm l := by
  obtain ⟨h1, rfl⟩ := List.getElem?_eq_some_iff.mp hi
  obtain ⟨h2, rfl⟩ := List.getElem?_eq_some_iff.mp hj
  have h := Array.swap_perm (xs := l.toArray) (i := i) (j := j) (by simpa using h1) (by simpa using h2)
  have h2 := h.toList
  simpa [Array.toList_swap] using h2
theorem range_get {lo c : Int} {n i : Nat} {it : Item} (h : (rangeItems lo c n)[i]? = some it) : i < n ∧ it = .one ⟨.f, .int (lo + (i : Int) * c)⟩ := by
  unfold rangeItems at h
  rw [List.getElem?_map] at h
  by_cases hi : i < n
  · rw [List.getElem?_range hi] at h
    cases h
    exact ⟨hi, rfl⟩
  · rw [List.getElem?_eq_none (by simpa using hi)] at h
    cases h
theorem range_len {lo c : Int} {n : Nat} : (rangeItems lo c n).length = n := by simp [rangeItems]
theorem ixN_ok {n : Nat} {i : Int} (h0 : 0 ≤ i) (h1 : i < n) : ixN n i = some i.toNat := by unfold ixN; simp [h0, h1]
theorem cutL_map {α β : Type} (f : α → β) (l : List α) (lo hi : Option Int) : cutL (l.map f) lo hi = (cutL l lo hi).map f := by
  unfold cutL
  simp
theorem cutL_len {α : Type} (l : List α) (lo hi : Option Int) : (cutL l lo hi).length ≤ l.length := by
  unfold cutL
  simp
  omega
theorem comp_is {T : Tab} {Φ Ψ : Nat → FM} {s : Sr} {vs : List Nat} {t : Tg} {u e : Ex} {env e1 e' : Env} {its : List Item} {ls : List Nat} {ds : List D} (hi : evI T Φ Ψ s env = .ok (its, ls) e1) (hp : (vs.all fun j => plainS e1[j]?) = true) (h : compLoop vs (asI t) (ev T Φ Ψ u) (ev T Φ Ψ e) its [] (wipeE vs e1) = .ok ds e') :
    ev T Φ Ψ (.comp s vs t u e) env = .ok ⟨.o (.l .f), .lst ds⟩ (unlockE ls (restoreE e1 vs e')) := by
  simp only [ev, mComp, hi]
  rw [if_pos hp, h]
end
def Go.unl (ls : List Nat) (G : Go) : Go where
  n := fun e => G.n (unlockE ls e)
  c := fun e => G.c (unlockE ls e)
  b := fun e => G.b (unlockE ls e)
  r := fun v e => G.r v (unlockE ls e)
  x := fun c fs e => G.x c fs (unlockE ls e)
theorem w_unl : ∀ {ls : List Nat} {x : Fl} {G : Go}, Fl.w x (G.unl ls) → Fl.w (unlockAll ls x) G
  | [], x, G, h => h
  | i :: l, x, G, h => by
    have h2 : Fl.w (unlockAll l x) (G.unl [i]) := w_unl h
    show Fl.w (unlockFl i (unlockAll l x)) G
    generalize unlockAll l x = y at h2
    have h2 := h2.out
    cases y with
    | no => exact h2.elim
    | _ => exact ⟨h2⟩
/-- for, with slots locked -/
theorem w_forL {T : Tab} {Φ Ψ : Nat → FM} {env e1 : Env} {G : Go} {s : Sr} {t : Tg} {b : Sms} {its : List Item} {ls : List Nat} (I : Nat → Env → Prop) (hi : evI T Φ Ψ s env = .ok (its, ls) e1) (h0 : I 0 e1)
    (hs : ∀ (i : Nat) it e, its[i]? = some it → I i e → ∃ e1, asI t it e = some e1 ∧ Fl.w (runs T Φ Ψ b e1) { n := fun e2 => I (i + 1) e2, c := fun e2 => I (i + 1) e2, b := fun e2 => G.n (unlockE ls e2), r := fun v e2 => G.r v (unlockE ls e2), x := fun c fs e2 => G.x c fs (unlockE ls e2) }) (hn : ∀ e, I its.length e → G.n (unlockE ls e)) : Fl.w (Py.run T Φ Ψ (.for_ s t b) env) G := by
  simp only [Py.run, mForI, hi]
  exact w_unl (w_loop (G := G.unl ls) I h0 hs hn)
local macro_rules | `(tactic| walk_at "py") => `(tactic| simp [Py.run, ev_c, ev_v, ev_op, ev_not, ev_and, ev_or, ev_ife, ev_cee, ev_cet, ev_cte, ev_ctt, ev_call, ev_meth, ev_new, ev_mut, evs, evI, evP, mThen, mPass, mBreak, mCont, R.bind, R.map, mOpO, ownNo, ownR, ownRun, applyPost, swp, sw2, gBool, gNotB, gLenI, Bo.own, Bo.op, Bo.ci, opEither, opA, opI2, fSub, fPow, fLt, fLe, fGt, fGe, powOk, opAdd, elF, szOk, Sh.flat, evNil, evCons, evTail, refix, T.isB, mV, mC, mNot, mAnd, mOr, mIfE, mIf, mRet, outV, mDrop, slotOf, setSlot, fr_un, fr_fz, fr_bo, fr_ow, asgT, asgTs, asI, asItem, aTp, aNil, aCons, fgT, mkV_f, mkV_i, mkV_b, mkV_s, mkV_n, mkV_t, mkV_l, mkV_d, mkV_o, T.sub, mkT, Sh.sub, frzV, frzAll, opLst, opTup, opSz, opIx, opLen, opList, opTuple, opInt, opAbs, opMax, opMin, opSl, partsOf, opNeg, opIsN, isNone, opIsT, opIsC, isD, isC, opEq, shp_i, shp_b, shp_n, eq_ii, eq_bb, opFld, T.fsub, Sh.fsub, mSetI, mSetF, getAt, putAt, ownAt, setOwn, pathS, pathD, putS, putD, mpV, mpF, mpI, gEither, gSetL, gSetD, callV, takes, argSlots, argSlot, backs, outT, runC, fill, mCallD, methV, mMeth, mNew, runN, newV, partV, putFld, Sh.snoc, Sh.putN, Sh.nth, Ex.p, Exs.p, Exs.len, mChn, mMid, mLast, mMut, Mo.g, gAppend, opDNew, isAtom, opInD, opIxD, dPut, ev1, ev2, atI_0, atI_1, atI_2, atI_3, atI_4, ixN, mSeqI, seqI, srcT, mRng1, mRng2, mRng3, mEnum, enumI, mZip, zipI, wipeE, restoreE, unlockE, unlock, plainS, R.w, Ow, Oz, finEnv, keepMu, mul_ok, mul_ok2, div_ok, mod_ok, *])
example (T : Tab) (Φ Ψ : Nat → FM) (n : Int) : Py.run T Φ Ψ (.set (.nm 1) (.op .add (.cons (.v 0) (.cons (.c (.int 1)) .nil)))) [.fz (.int n), .un] = .nx [.fz (.int n), .fz (.int (n + 1))] := by
  walk_at "py"
end Py

set_option Elab.async false
set_option linter.all false
set_option maxRecDepth 100000
set_option maxHeartbeats 1000000
namespace Py
open PySem L2
abbrev P2 := Int × Int
def pD (p : P2) : D := .tup [.int p.1, .int p.2]
def pP (p : P2) : PyData := .tuple [.int p.1, .int p.2]
theorem toP_p (p : P2) : toP (pD p) = pP p := by simp [pD, pP, toP, toPs]
theorem toP_l (l : List P2) : toP (.lst (l.map pD)) = .list (l.map pP) := by
  simp only [toP, toPs_map, List.map_map]
  congr 1
def ltP (p q : P2) : Bool := decide (p.1 < q.1) || (decide (p.1 = q.1) && decide (p.2 < q.2))
def lexP : List P2 → List P2 → Bool
  | [], [] => false
  | [], _ :: _ => true
  | _ :: _, [] => false
  | x :: xs, y :: ys => if x = y then lexP xs ys else ltP x y
theorem eqv_p (p q : P2) : PyData.eqv (pP p) (pP q) = decide (p = q) := by
  obtain ⟨a, b⟩ := p
  obtain ⟨c, d⟩ := q
  simp only [pP, PyData.eqv, PyData.eqvAll, Bool.and_true, Prod.mk.injEq, Bool.decide_and]
  rfl
theorem eqv_l (a b : List P2) : PyData.eqvAll (a.map pP) (b.map pP) = decide (a = b) := by
  induction a generalizing b with
  | nil => cases b <;> simp [PyData.eqvAll]
  | cons x xs ih => cases b with
    | nil => simp [PyData.eqvAll]
    | cons y ys => simp [PyData.eqvAll, eqv_p, ih]
theorem eqvD_l (a b : List P2) : eqvD (.lst (a.map pD)) (.lst (b.map pD)) = decide (a = b) := by
  unfold eqvD
  rw [toP_l, toP_l]
  simp [PyData.eqv, eqv_l]
theorem eqvD_p (p q : P2) : eqvD (pD p) (pD q) = decide (p = q) := by
  unfold eqvD
  rw [toP_p, toP_p, eqv_p]
theorem lay_p (p : P2) : (pP p).canLay0 = true := by simp [pP, PyData.canLay0, PyData.canLayAll0]
theorem dep_p (p : P2) : (pP p).depth = 1 := by simp [pP, PyData.depth, PyData.depthAll]
theorem lay_l (l : List P2) : PyData.canLayAll0 (l.map pP) = true := by
  induction l with
  | nil => simp [PyData.canLayAll0]
  | cons p r ih => simp [PyData.canLayAll0, lay_p, ih]
theorem dep_l (l : List P2) : PyData.depthAll (l.map pP) ≤ 1 := by
  induction l with
  | nil => simp [PyData.depthAll]
  | cons p r ih => simp only [List.map_cons, PyData.depthAll, dep_p]; omega
theorem shp_p (p : P2) : shp (pD p) = true := by
  unfold shp SeqAt.shaped
  rw [toP_p, lay_p, dep_p]; rfl
theorem shp_l (l : List P2) : shp (.lst (l.map pD)) = true := by
  unfold shp SeqAt.shaped
  rw [toP_l]
  have := dep_l l
  have h2 : PyData.depth (.list (l.map pP)) ≤ 64 := by simp only [PyData.depth]; omega
  rw [decide_eq_true h2]
  simp [PyData.canLay0, lay_l]
theorem alike_p (p q : P2) : PySem.W.alike (pP p) (pP q) = true := by simp [pP, PySem.W.alike, PySem.W.alikeAll]
theorem alike_l (a b : List P2) : PySem.W.alikeAll (a.map pP) (b.map pP) = true := by
  induction a generalizing b with
  | nil => simp [PySem.W.alikeAll]
  | cons x xs ih => cases b with
    | nil => simp [PySem.W.alikeAll]
    | cons y ys => simp [PySem.W.alikeAll, alike_p, ih]
theorem alikeD_l (a b : List P2) : PySem.W.alike (toP (.lst (a.map pD))) (toP (.lst (b.map pD))) = true := by
  rw [toP_l, toP_l]; simp [PySem.W.alike, alike_l]
theorem dlt_p (p q : P2) (h : p ≠ q) : PySem.W.dataLt (pP p) (pP q) = ltP p q := by
  obtain ⟨a, b⟩ := p
  obtain ⟨c, d⟩ := q
  unfold pP
  rw [PySem.W.dataLt_tuple]
  by_cases e : a = c
  · subst e
    have hb : b ≠ d := fun z => h (by rw [z])
    rw [PySem.W.dataLt_all_yes (by simp [PySem.W.alike]) (by simp [PyData.eqv]), PySem.W.dataLt_all_no (by simp [PySem.W.alike]) (by simpa [PyData.eqv] using hb), PySem.W.dataLt_int]
    simp [ltP]
  · rw [PySem.W.dataLt_all_no (by simp [PySem.W.alike]) (by simpa [PyData.eqv] using e), PySem.W.dataLt_int]
    simp [ltP, e]
theorem dlt_l (a b : List P2) : PyProof.Rows.lexLt PyProof.Rows.itemOrd (PySem.W.keyToksAll (a.map pP)) (PySem.W.keyToksAll (b.map pP)) = lexP a b := by
  induction a generalizing b with
  | nil => cases b with
    | nil => rfl
    | cons y ys => rw [List.map_cons, PySem.W.toks_all_cons]; rfl
  | cons x xs ih => cases b with
    | nil => rw [List.map_cons, PySem.W.toks_all_cons]; rfl
    | cons y ys =>
      rw [List.map_cons, List.map_cons]
      unfold lexP
      by_cases e : x = y
      · subst e
        rw [PySem.W.dataLt_all_yes (alike_p x x) (by rw [eqv_p]; simp), ih, if_pos rfl]
      · rw [PySem.W.dataLt_all_no (alike_p x y) (by rw [eqv_p]; simpa using e), dlt_p x y e, if_neg e]
theorem dltD_l (a b : List P2) : PySem.W.dataLt (toP (.lst (a.map pD))) (toP (.lst (b.map pD))) = lexP a b := by
  rw [toP_l, toP_l, PySem.W.dataLt_list, dlt_l]
end Py

set_option Elab.async false
set_option linter.all false
namespace Cat
open PySem L2 Py
/-- Table -/
class C0 (T : Tab) : Prop where
  h : ∃ c, T.cl 0 = some c ∧ c.fx = [("grid" : Str)] ∧ c.fz = true
theorem fxs0 {T : Tab} [C0 T] : T.fx 0 = [("grid" : Str)] := by
  obtain ⟨c, h1, h2, _⟩ := C0.h (T := T)
  unfold Tab.fx; rw [h1]; exact h2
@[simp] theorem fx0_grid {T : Tab} [C0 T] : fIx T.fx 0 "grid" = some 0 := by unfold fIx; rw [fxs0]; rfl
/-- Amounts -/
class C1 (T : Tab) : Prop where
  h : ∃ c, T.cl 1 = some c ∧ c.fx = [("stock_list" : Str), ("wish_list" : Str)] ∧ c.fz = true
theorem fxs1 {T : Tab} [C1 T] : T.fx 1 = [("stock_list" : Str), ("wish_list" : Str)] := by
  obtain ⟨c, h1, h2, _⟩ := C1.h (T := T)
  unfold Tab.fx; rw [h1]; exact h2
@[simp] theorem fx1_stock_list {T : Tab} [C1 T] : fIx T.fx 1 "stock_list" = some 0 := by unfold fIx; rw [fxs1]; rfl
@[simp] theorem fx1_wish_list {T : Tab} [C1 T] : fIx T.fx 1 "wish_list" = some 1 := by unfold fIx; rw [fxs1]; rfl
/-- Order -/
class C2 (T : Tab) : Prop where
  h : ∃ c, T.cl 2 = some c ∧ c.fx = [("listed" : Str), ("spots" : Str)] ∧ c.fz = true
theorem fxs2 {T : Tab} [C2 T] : T.fx 2 = [("listed" : Str), ("spots" : Str)] := by
  obtain ⟨c, h1, h2, _⟩ := C2.h (T := T)
  unfold Tab.fx; rw [h1]; exact h2
@[simp] theorem fx2_listed {T : Tab} [C2 T] : fIx T.fx 2 "listed" = some 0 := by unfold fIx; rw [fxs2]; rfl
@[simp] theorem fx2_spots {T : Tab} [C2 T] : fIx T.fx 2 "spots" = some 1 := by unfold fIx; rw [fxs2]; rfl
/-- Serving -/
class C3 (T : Tab) : Prop where
  h : ∃ c, T.cl 3 = some c ∧ c.fx = [("held_table" : Str), ("held_amounts" : Str), ("served" : Str)] ∧ c.fz = true
theorem fxs3 {T : Tab} [C3 T] : T.fx 3 = [("held_table" : Str), ("held_amounts" : Str), ("served" : Str)] := by
  obtain ⟨c, h1, h2, _⟩ := C3.h (T := T)
  unfold Tab.fx; rw [h1]; exact h2
@[simp] theorem fx3_held_table {T : Tab} [C3 T] : fIx T.fx 3 "held_table" = some 0 := by unfold fIx; rw [fxs3]; rfl
@[simp] theorem fx3_held_amounts {T : Tab} [C3 T] : fIx T.fx 3 "held_amounts" = some 1 := by unfold fIx; rw [fxs3]; rfl
@[simp] theorem fx3_served {T : Tab} [C3 T] : fIx T.fx 3 "served" = some 2 := by unfold fIx; rw [fxs3]; rfl
/-- Server -/
class C4 (T : Tab) : Prop where
  h : ∃ c, T.cl 4 = some c ∧ c.fx = [("held_table" : Str), ("held_order" : Str)] ∧ c.fz = true
theorem fxs4 {T : Tab} [C4 T] : T.fx 4 = [("held_table" : Str), ("held_order" : Str)] := by
  obtain ⟨c, h1, h2, _⟩ := C4.h (T := T)
  unfold Tab.fx; rw [h1]; exact h2
@[simp] theorem fx4_held_table {T : Tab} [C4 T] : fIx T.fx 4 "held_table" = some 0 := by unfold fIx; rw [fxs4]; rfl
@[simp] theorem fx4_held_order {T : Tab} [C4 T] : fIx T.fx 4 "held_order" = some 1 := by unfold fIx; rw [fxs4]; rfl
/-- Desk -/
class C5 (T : Tab) : Prop where
  h : ∃ c, T.cl 5 = some c ∧ c.fx = [("now" : Str), ("past" : Str), ("undone" : Str)] ∧ c.fz = false
theorem fxs5 {T : Tab} [C5 T] : T.fx 5 = [("now" : Str), ("past" : Str), ("undone" : Str)] := by
  obtain ⟨c, h1, h2, _⟩ := C5.h (T := T)
  unfold Tab.fx; rw [h1]; exact h2
@[simp] theorem fx5_now {T : Tab} [C5 T] : fIx T.fx 5 "now" = some 0 := by unfold fIx; rw [fxs5]; rfl
@[simp] theorem fx5_past {T : Tab} [C5 T] : fIx T.fx 5 "past" = some 1 := by unfold fIx; rw [fxs5]; rfl
@[simp] theorem fx5_undone {T : Tab} [C5 T] : fIx T.fx 5 "undone" = some 2 := by unfold fIx; rw [fxs5]; rfl
/-- Trial -/
class C6 (T : Tab) : Prop where
  h : ∃ c, T.cl 6 = some c ∧ c.fx = [("held_desk" : Str), ("kept_now" : Str), ("kept_past" : Str), ("kept_undone" : Str)] ∧ c.fz = false
theorem fxs6 {T : Tab} [C6 T] : T.fx 6 = [("held_desk" : Str), ("kept_now" : Str), ("kept_past" : Str), ("kept_undone" : Str)] := by
  obtain ⟨c, h1, h2, _⟩ := C6.h (T := T)
  unfold Tab.fx; rw [h1]; exact h2
@[simp] theorem fx6_held_desk {T : Tab} [C6 T] : fIx T.fx 6 "held_desk" = some 0 := by unfold fIx; rw [fxs6]; rfl
@[simp] theorem fx6_kept_now {T : Tab} [C6 T] : fIx T.fx 6 "kept_now" = some 1 := by unfold fIx; rw [fxs6]; rfl
@[simp] theorem fx6_kept_past {T : Tab} [C6 T] : fIx T.fx 6 "kept_past" = some 2 := by unfold fIx; rw [fxs6]; rfl
@[simp] theorem fx6_kept_undone {T : Tab} [C6 T] : fIx T.fx 6 "kept_undone" = some 3 := by unfold fIx; rw [fxs6]; rfl
/-- PairError -/
class X0 (T : Tab) : Prop where
  h : T.xs 0 = some ⟨[], []⟩
@[simp] theorem xn0 {T : Tab} [X0 T] : T.xn 0 = [] := by unfold Tab.xn; rw [X0.h]
@[simp] theorem xm0 {T : Tab} [X0 T] {h : Nat} : T.xm h 0 = (0 == h || [].contains h) := by unfold Tab.xm; rw [X0.h]
/-- InvalidTable -/
class X1 (T : Tab) : Prop where
  h : T.xs 1 = some ⟨[("at" : Str)], [0]⟩
@[simp] theorem xn1 {T : Tab} [X1 T] : T.xn 1 = [("at" : Str)] := by unfold Tab.xn; rw [X1.h]
@[simp] theorem xm1 {T : Tab} [X1 T] {h : Nat} : T.xm h 1 = (1 == h || [0].contains h) := by unfold Tab.xm; rw [X1.h]
/-- InvalidAmounts -/
class X2 (T : Tab) : Prop where
  h : T.xs 2 = some ⟨[("word" : Str), ("at" : Str)], [0]⟩
@[simp] theorem xn2 {T : Tab} [X2 T] : T.xn 2 = [("word" : Str), ("at" : Str)] := by unfold Tab.xn; rw [X2.h]
@[simp] theorem xm2 {T : Tab} [X2 T] {h : Nat} : T.xm h 2 = (2 == h || [0].contains h) := by unfold Tab.xm; rw [X2.h]
/-- InvalidOrder -/
class X3 (T : Tab) : Prop where
  h : T.xs 3 = some ⟨[("at" : Str)], [0]⟩
@[simp] theorem xn3 {T : Tab} [X3 T] : T.xn 3 = [("at" : Str)] := by unfold Tab.xn; rw [X3.h]
@[simp] theorem xm3 {T : Tab} [X3 T] {h : Nat} : T.xm h 3 = (3 == h || [0].contains h) := by unfold Tab.xm; rw [X3.h]
/-- InvalidPair -/
class X4 (T : Tab) : Prop where
  h : T.xs 4 = some ⟨[("pair" : Str)], [0]⟩
@[simp] theorem xn4 {T : Tab} [X4 T] : T.xn 4 = [("pair" : Str)] := by unfold Tab.xn; rw [X4.h]
@[simp] theorem xm4 {T : Tab} [X4 T] {h : Nat} : T.xm h 4 = (4 == h || [0].contains h) := by unfold Tab.xm; rw [X4.h]
/-- InvalidBound -/
class X5 (T : Tab) : Prop where
  h : T.xs 5 = some ⟨[("name" : Str)], [0]⟩
@[simp] theorem xn5 {T : Tab} [X5 T] : T.xn 5 = [("name" : Str)] := by unfold Tab.xn; rw [X5.h]
@[simp] theorem xm5 {T : Tab} [X5 T] {h : Nat} : T.xm h 5 = (5 == h || [0].contains h) := by unfold Tab.xm; rw [X5.h]
/-- InvalidCall -/
class X6 (T : Tab) : Prop where
  h : T.xs 6 = some ⟨[("call" : Str)], [0]⟩
@[simp] theorem xn6 {T : Tab} [X6 T] : T.xn 6 = [("call" : Str)] := by unfold Tab.xn; rw [X6.h]
@[simp] theorem xm6 {T : Tab} [X6 T] {h : Nat} : T.xm h 6 = (6 == h || [0].contains h) := by unfold Tab.xm; rw [X6.h]
/-- InvalidText -/
class X7 (T : Tab) : Prop where
  h : T.xs 7 = some ⟨[("line" : Str), ("word" : Str)], [0]⟩
@[simp] theorem xn7 {T : Tab} [X7 T] : T.xn 7 = [("line" : Str), ("word" : Str)] := by unfold Tab.xn; rw [X7.h]
@[simp] theorem xm7 {T : Tab} [X7 T] {h : Nat} : T.xm h 7 = (7 == h || [0].contains h) := by unfold Tab.xm; rw [X7.h]
/-- NotRight -/
class X8 (T : Tab) : Prop where
  h : T.xs 8 = some ⟨[("fault" : Str)], [0]⟩
@[simp] theorem xn8 {T : Tab} [X8 T] : T.xn 8 = [("fault" : Str)] := by unfold Tab.xn; rw [X8.h]
@[simp] theorem xm8 {T : Tab} [X8 T] {h : Nat} : T.xm h 8 = (8 == h || [0].contains h) := by unfold Tab.xm; rw [X8.h]
/-- NoOrder -/
class X9 (T : Tab) : Prop where
  h : T.xs 9 = some ⟨[("stuck" : Str)], [0]⟩
@[simp] theorem xn9 {T : Tab} [X9 T] : T.xn 9 = [("stuck" : Str)] := by unfold Tab.xn; rw [X9.h]
@[simp] theorem xm9 {T : Tab} [X9 T] {h : Nat} : T.xm h 9 = (9 == h || [0].contains h) := by unfold Tab.xm; rw [X9.h]
/-- NoFit -/
class X10 (T : Tab) : Prop where
  h : T.xs 10 = some ⟨[("shortage" : Str)], [0]⟩
@[simp] theorem xn10 {T : Tab} [X10 T] : T.xn 10 = [("shortage" : Str)] := by unfold Tab.xn; rw [X10.h]
@[simp] theorem xm10 {T : Tab} [X10 T] {h : Nat} : T.xm h 10 = (10 == h || [0].contains h) := by unfold Tab.xm; rw [X10.h]
/-- LimitExceeded -/
class X11 (T : Tab) : Prop where
  h : T.xs 11 = some ⟨[("limit" : Str)], [0]⟩
@[simp] theorem xn11 {T : Tab} [X11 T] : T.xn 11 = [("limit" : Str)] := by unfold Tab.xn; rw [X11.h]
@[simp] theorem xm11 {T : Tab} [X11 T] {h : Nat} : T.xm h 11 = (11 == h || [0].contains h) := by unfold Tab.xm; rw [X11.h]
end Cat

set_option Elab.async false
set_option linter.all false
set_option maxRecDepth 100000
namespace Cat
open PySem L2 Py
/-- copied -/
def B0 : Sms := (.cons (.ite (.op (.isT .list) (.cons (.v 0) .nil)) (.cons (.ret (.comp (.sq (.v 0)) [1] (.nm 1) (.c (.bl true)) (.call 0 false (.cons (.v 1) .nil)))) .nil) .nil) (.cons (.ite (.op (.isT .tuple) (.cons (.v 0) .nil)) (.cons (.ret (.op .tuple (.cons (.comp (.sq (.v 0)) [1] (.nm 1) (.c (.bl true)) (.call 0 false (.cons (.v 1) .nil))) .nil))) .nil) .nil) (.cons (.ret (.v 0)) .nil)))
def F0 : Fi := ⟨1, 0, [], [], 2, B0, none, none⟩
class H0 (T : Tab) : Prop where
  h : T.fn 0 = some F0
@[simp] theorem cb0 {T : Tab} [H0 T] {Φ : Nat → FM} : cbOf T Φ 0 1 false = some ⟨0, Φ 0, 1, []⟩ := by unfold cbOf; rw [H0.h]; rfl
@[simp] theorem ln0 {T : Tab} [H0 T] : T.lent 0 = 0 := by unfold Tab.lent; rw [H0.h]; rfl
theorem fq0 {T : Tab} [H0 T] (k : Nat) : Fn T (k + 2) 0 = mkF 2 (runs T (Fn T (k + 1)) (Fn T k) B0) := Fn_eq (i := F0) H0.h rfl rfl
/-- is_integer -/
def B1 : Sms := (.cons (.ret (.and (.op (.isT .int) (.cons (.v 0) .nil)) (.not (.op (.isT .bool) (.cons (.v 0) .nil))))) .nil)
def F1 : Fi := ⟨1, 0, [], [], 1, B1, none, none⟩
class H1 (T : Tab) : Prop where
  h : T.fn 1 = some F1
@[simp] theorem cb1 {T : Tab} [H1 T] {Φ : Nat → FM} : cbOf T Φ 1 1 false = some ⟨0, Φ 1, 1, []⟩ := by unfold cbOf; rw [H1.h]; rfl
@[simp] theorem ln1 {T : Tab} [H1 T] : T.lent 1 = 0 := by unfold Tab.lent; rw [H1.h]; rfl
theorem fq1 {T : Tab} [H1 T] (k : Nat) : Fn T (k + 2) 1 = mkF 1 (runs T (Fn T (k + 1)) (Fn T k) B1) := Fn_eq (i := F1) H1.h rfl rfl
/-- is_between -/
def B2 : Sms := (.cons (.ret (.and (.call 1 false (.cons (.v 0) .nil)) (.chn .le .le (.v 1) (.v 0) (.v 2)))) .nil)
def F2 : Fi := ⟨3, 0, [], [], 3, B2, none, none⟩
class H2 (T : Tab) : Prop where
  h : T.fn 2 = some F2
@[simp] theorem cb2 {T : Tab} [H2 T] {Φ : Nat → FM} : cbOf T Φ 2 3 false = some ⟨0, Φ 2, 3, []⟩ := by unfold cbOf; rw [H2.h]; rfl
@[simp] theorem ln2 {T : Tab} [H2 T] : T.lent 2 = 0 := by unfold Tab.lent; rw [H2.h]; rfl
theorem fq2 {T : Tab} [H2 T] (k : Nat) : Fn T (k + 2) 2 = mkF 3 (runs T (Fn T (k + 1)) (Fn T k) B2) := Fn_eq (i := F2) H2.h rfl rfl
/-- is_spot -/
def B3 : Sms := (.cons (.ret (.and (.op (.isT .tuple) (.cons (.v 0) .nil)) (.and (.op .eq (.cons (.op .len (.cons (.v 0) .nil)) (.cons (.c (.int 2)) .nil))) (.and (.call 1 false (.cons (.op .ix (.cons (.v 0) (.cons (.c (.int 0)) .nil))) .nil)) (.call 1 false (.cons (.op .ix (.cons (.v 0) (.cons (.c (.int 1)) .nil))) .nil)))))) .nil)
def F3 : Fi := ⟨1, 0, [], [], 1, B3, none, none⟩
class H3 (T : Tab) : Prop where
  h : T.fn 3 = some F3
@[simp] theorem cb3 {T : Tab} [H3 T] {Φ : Nat → FM} : cbOf T Φ 3 1 false = some ⟨0, Φ 3, 1, []⟩ := by unfold cbOf; rw [H3.h]; rfl
@[simp] theorem ln3 {T : Tab} [H3 T] : T.lent 3 = 0 := by unfold Tab.lent; rw [H3.h]; rfl
theorem fq3 {T : Tab} [H3 T] (k : Nat) : Fn T (k + 2) 3 = mkF 1 (runs T (Fn T (k + 1)) (Fn T k) B3) := Fn_eq (i := F3) H3.h rfl rfl
/-- is_possible_pair -/
def B4 : Sms := (.cons (.ret (.and (.call 3 false (.cons (.v 0) .nil)) (.and (.call 2 false (.cons (.op .ix (.cons (.v 0) (.cons (.c (.int 0)) .nil))) (.cons (.c (.int 0)) (.cons (.c (.int 7)) .nil)))) (.call 2 false (.cons (.op .ix (.cons (.v 0) (.cons (.c (.int 1)) .nil))) (.cons (.c (.int 0)) (.cons (.c (.int 7)) .nil))))))) .nil)
def F4 : Fi := ⟨1, 0, [], [], 1, B4, none, none⟩
class H4 (T : Tab) : Prop where
  h : T.fn 4 = some F4
@[simp] theorem cb4 {T : Tab} [H4 T] {Φ : Nat → FM} : cbOf T Φ 4 1 false = some ⟨0, Φ 4, 1, []⟩ := by unfold cbOf; rw [H4.h]; rfl
@[simp] theorem ln4 {T : Tab} [H4 T] : T.lent 4 = 0 := by unfold Tab.lent; rw [H4.h]; rfl
theorem fq4 {T : Tab} [H4 T] (k : Nat) : Fn T (k + 2) 4 = mkF 1 (runs T (Fn T (k + 1)) (Fn T k) B4) := Fn_eq (i := F4) H4.h rfl rfl
/-- _law_pool -/
def B5 : Sms := (.cons (.ret (.op .lst (.cons (.comp (.sq (.op (.sl false true) (.cons (.v 0) (.cons (.c (.int 63)) .nil)))) [1] (.nm 1) (.c (.bl true)) (.op .int (.cons (.v 1) .nil))) (.cons (.c (.int 0)) (.cons (.c (.int 0)) (.cons (.c (.int 1)) (.cons (.c (.int 0)) .nil))))))) .nil)
def F5 : Fi := ⟨1, 0, [], [], 2, B5, none, none⟩
class H5 (T : Tab) : Prop where
  h : T.fn 5 = some F5
@[simp] theorem cb5 {T : Tab} [H5 T] {Φ : Nat → FM} : cbOf T Φ 5 1 false = some ⟨0, Φ 5, 1, []⟩ := by unfold cbOf; rw [H5.h]; rfl
@[simp] theorem ln5 {T : Tab} [H5 T] : T.lent 5 = 0 := by unfold Tab.lent; rw [H5.h]; rfl
theorem fq5 {T : Tab} [H5 T] (k : Nat) : Fn T (k + 2) 5 = mkF 2 (runs T (Fn T (k + 1)) (Fn T k) B5) := Fn_eq (i := F5) H5.h rfl rfl
/-- _law_mixed -/
def B6 : Sms := (.cons (.seti (.v 0) (.c (.int 4)) (.op .add (.cons (.op .ix (.cons (.v 0) (.cons (.c (.int 4)) .nil))) (.cons (.c (.int 1)) .nil)))) (.cons (.set (.nm 2) (.op .add (.cons (.op .add (.cons (.op .ix (.cons (.v 0) (.cons (.c (.int 3)) .nil))) (.cons (.op .mod (.cons (.op .int (.cons (.v 1) .nil)) (.cons (.c (.int 2147483647)) .nil))) .nil))) (.cons (.op .mul (.cons (.c (.int 7919)) (.cons (.op .ix (.cons (.v 0) (.cons (.c (.int 4)) .nil))) .nil))) .nil)))) (.cons (.set (.nm 2) (.op .mod (.cons (.op .int (.cons (.op .mul (.cons (.v 2) (.cons (.c (.int 48271)) .nil))) .nil)) (.cons (.c (.int 2147483647)) .nil)))) (.cons (.set (.nm 2) (.op .mod (.cons (.op .int (.cons (.op .mul (.cons (.v 2) (.cons (.op .add (.cons (.op .div (.cons (.v 2) (.cons (.c (.int 1009)) .nil))) (.cons (.c (.int 69621)) .nil))) .nil))) .nil)) (.cons (.c (.int 2147483647)) .nil)))) (.cons (.seti (.v 0) (.c (.int 3)) (.v 2)) (.cons (.set (.nm 2) (.op .mod (.cons (.op .int (.cons (.op .mul (.cons (.v 2) (.cons (.op .add (.cons (.op .div (.cons (.v 2) (.cons (.c (.int 2003)) .nil))) (.cons (.c (.int 40692)) .nil))) .nil))) .nil)) (.cons (.c (.int 2147483399)) .nil)))) (.cons (.ret (.op .div (.cons (.v 2) (.cons (.c (.int 8)) .nil)))) .nil)))))))
def F6 : Fi := ⟨2, 1, [], [], 3, B6, none, none⟩
class H6 (T : Tab) : Prop where
  h : T.fn 6 = some F6
@[simp] theorem cb6 {T : Tab} [H6 T] {Φ : Nat → FM} : cbOf T Φ 6 2 false = some ⟨1, Φ 6, 2, []⟩ := by unfold cbOf; rw [H6.h]; rfl
@[simp] theorem ln6 {T : Tab} [H6 T] : T.lent 6 = 1 := by unfold Tab.lent; rw [H6.h]; rfl
theorem fq6 {T : Tab} [H6 T] (k : Nat) : Fn T (k + 2) 6 = mkF 3 (runs T (Fn T (k + 1)) (Fn T k) B6) := Fn_eq (i := F6) H6.h rfl rfl
/-- _law_draw -/
def B7 : Sms := (.cons (.ite (.and (.op .le (.cons (.op .ix (.cons (.v 0) (.cons (.c (.int 2)) .nil))) (.cons (.c (.int 1)) .nil))) (.op .lt (.cons (.op .ix (.cons (.v 0) (.cons (.c (.int 1)) .nil))) (.cons (.op .len (.cons (.op .ix (.cons (.v 0) (.cons (.c (.int 0)) .nil))) .nil)) .nil)))) (.cons (.set (.nm 2) (.op .int (.cons (.op .ix (.cons (.op .ix (.cons (.v 0) (.cons (.c (.int 0)) .nil))) (.cons (.op .ix (.cons (.v 0) (.cons (.c (.int 1)) .nil))) .nil))) .nil))) (.cons (.seti (.v 0) (.c (.int 1)) (.op .add (.cons (.op .ix (.cons (.v 0) (.cons (.c (.int 1)) .nil))) (.cons (.c (.int 1)) .nil)))) (.cons (.ite (.op .lt (.cons (.v 2) (.cons (.op .pow (.cons (.c (.int 10)) (.cons (.c (.int 18)) .nil))) .nil))) (.cons (.ret (.op .mod (.cons (.op .int (.cons (.call 6 false (.cons (.v 0) (.cons (.v 2) .nil))) .nil)) (.cons (.v 1) .nil)))) .nil) .nil) (.cons (.seti (.v 0) (.c (.int 2)) (.v 2)) .nil)))) .nil) (.cons (.ite (.op .gt (.cons (.op .ix (.cons (.v 0) (.cons (.c (.int 2)) .nil))) (.cons (.c (.int 1)) .nil))) (.cons (.set (.nm 3) (.op .int (.cons (.op .ix (.cons (.v 0) (.cons (.c (.int 2)) .nil))) .nil))) (.cons (.seti (.v 0) (.c (.int 2)) (.op .div (.cons (.v 3) (.cons (.v 1) .nil)))) (.cons (.ret (.op .mod (.cons (.op .int (.cons (.v 3) .nil)) (.cons (.v 1) .nil)))) .nil))) .nil) (.cons (.ret (.op .mod (.cons (.op .int (.cons (.call 6 false (.cons (.v 0) (.cons (.c (.int 0)) .nil))) .nil)) (.cons (.v 1) .nil)))) .nil)))
def F7 : Fi := ⟨2, 1, [], [], 4, B7, none, none⟩
class H7 (T : Tab) : Prop where
  h : T.fn 7 = some F7
@[simp] theorem cb7 {T : Tab} [H7 T] {Φ : Nat → FM} : cbOf T Φ 7 2 false = some ⟨1, Φ 7, 2, []⟩ := by unfold cbOf; rw [H7.h]; rfl
@[simp] theorem ln7 {T : Tab} [H7 T] : T.lent 7 = 1 := by unfold Tab.lent; rw [H7.h]; rfl
theorem fq7 {T : Tab} [H7 T] (k : Nat) : Fn T (k + 2) 7 = mkF 4 (runs T (Fn T (k + 1)) (Fn T k) B7) := Fn_eq (i := F7) H7.h rfl rfl
/-- _law_shuffled -/
def B9 : Sms := (.cons (.set (.nm 2) (.op .list (.cons (.v 1) .nil))) (.cons (.for_ (.r3 (.cons (.op .sub (.cons (.op .len (.cons (.v 2) .nil)) (.cons (.c (.int 1)) .nil))) (.cons (.c (.int 0)) (.cons (.op .neg (.cons (.c (.int 1)) .nil)) .nil)))) (.nm 3) (.cons (.set (.nm 4) (.call 7 false (.cons (.v 0) (.cons (.op .add (.cons (.v 3) (.cons (.c (.int 1)) .nil))) .nil)))) (.cons (.set (.nm 5) (.op .ix (.cons (.v 2) (.cons (.v 3) .nil)))) (.cons (.seti (.v 2) (.v 3) (.op .ix (.cons (.v 2) (.cons (.v 4) .nil)))) (.cons (.seti (.v 2) (.v 4) (.v 5)) .nil))))) (.cons (.ret (.v 2)) .nil)))
def F9 : Fi := ⟨2, 1, [], [], 6, B9, none, none⟩
class H9 (T : Tab) : Prop where
  h : T.fn 9 = some F9
@[simp] theorem cb9 {T : Tab} [H9 T] {Φ : Nat → FM} : cbOf T Φ 9 2 false = some ⟨1, Φ 9, 2, []⟩ := by unfold cbOf; rw [H9.h]; rfl
@[simp] theorem ln9 {T : Tab} [H9 T] : T.lent 9 = 1 := by unfold Tab.lent; rw [H9.h]; rfl
theorem fq9 {T : Tab} [H9 T] (k : Nat) : Fn T (k + 2) 9 = mkF 6 (runs T (Fn T (k + 1)) (Fn T k) B9) := Fn_eq (i := F9) H9.h rfl rfl
/-- InvalidOrder.__init__ -/
def B13 : Sms := (.cons (.setf (.v 0) ("at" : Str) (.call 0 false (.cons (.v 1) .nil))) .nil)
def F13 : Fi := ⟨2, 0, [], [], 2, B13, none, some 3⟩
class H13 (T : Tab) : Prop where
  h : T.fn 13 = some F13
@[simp] theorem xr13 {T : Tab} [H13 T] {Φ Ψ : Nat → FM} {a : Exs} (h : a.len = 1) : Py.run T Φ Ψ (.rais 13 a) = mRaise (Ψ 13) (evs T Φ Ψ a) := by unfold Py.run; rw [H13.h]; dsimp only [F13]; rw [h]; rfl
theorem fq13 {T : Tab} [H13 T] (k : Nat) : Fn T (k + 2) 13 = xInit T (Fn T (k + 1)) (Fn T k) 3 B13 := Fx_eq (i := F13) H13.h rfl
/-- Order.__init__ -/
def B14 : Sms := (.cons (.ite (.or (.not (.op (.isT .list) (.cons (.v 1) .nil))) (.op .gt (.cons (.op .len (.cons (.v 1) .nil)) (.cons (.c (.int 64)) .nil)))) (.cons (.rais 13 (.cons (.op .neg (.cons (.c (.int 1)) .nil)) .nil)) .nil) .nil) (.cons (.setf (.v 0) ("listed" : Str) (.op .lst .nil)) (.cons (.setf (.v 0) ("spots" : Str) (.op (.dnew true) .nil)) (.cons (.for_ (.en (.v 1)) (.tp [2, 3]) (.cons (.ite (.or (.not (.call 4 false (.cons (.v 3) .nil))) (.op .inn (.cons (.v 3) (.cons (.op (.fld ("spots" : Str)) (.cons (.v 0) .nil)) .nil)))) (.cons (.rais 13 (.cons (.v 2) .nil)) .nil) .nil) (.cons (.seti (.fd ("spots" : Str) (.v 0)) (.v 3) (.v 2)) (.cons (.ex (.mut .app (.fd ("listed" : Str) (.v 0)) (.cons (.v 3) .nil))) .nil)))) .nil))))
def F14 : Fi := ⟨2, 1, [], [], 4, B14, none, none⟩
class H14 (T : Tab) : Prop where
  h : T.fn 14 = some F14
@[simp] theorem cb14 {T : Tab} [H14 T] {Φ : Nat → FM} : cbOf T Φ 14 2 false = some ⟨1, Φ 14, 2, []⟩ := by unfold cbOf; rw [H14.h]; rfl
@[simp] theorem ln14 {T : Tab} [H14 T] : T.lent 14 = 1 := by unfold Tab.lent; rw [H14.h]; rfl
theorem fq14 {T : Tab} [H14 T] (k : Nat) : Fn T (k + 2) 14 = mkF 4 (runs T (Fn T (k + 1)) (Fn T k) B14) := Fn_eq (i := F14) H14.h rfl rfl
class M14 (T : Tab) : Prop where
  h : ∃ c, T.cl 2 = some c ∧ c.ini = some 14
@[simp] theorem nw14 {T : Tab} [H14 T] [M14 T] [C2 T] {Φ Ψ : Nat → FM} {as : Exs} {env : Py.Env} (h : as.len = 1) : ev T Φ Ψ (.new 2 as) env = mNew 2 true ⟨1, Ψ 14, 2, []⟩ (evs T Φ Ψ as) env := by
  obtain ⟨c, h1, h2⟩ := M14.h (T := T)
  obtain ⟨c', g1, g2, g3⟩ := C2.h (T := T)
  rw [h1] at g1; cases g1
  rw [ev_new h1 h2 (by rw [h]; exact cb14), g3]
/-- Order.__eq__ -/
def B15 : Sms := (.cons (.ret (.and (.op (.isC 2) (.cons (.v 1) .nil)) (.op .eq (.cons (.op (.fld ("listed" : Str)) (.cons (.v 0) .nil)) (.cons (.op (.fld ("listed" : Str)) (.cons (.v 1) .nil)) .nil))))) .nil)
def F15 : Fi := ⟨2, 0, [], [], 2, B15, none, none⟩
class H15 (T : Tab) : Prop where
  h : T.fn 15 = some F15
@[simp] theorem cb15 {T : Tab} [H15 T] {Φ : Nat → FM} : cbOf T Φ 15 2 false = some ⟨0, Φ 15, 2, []⟩ := by unfold cbOf; rw [H15.h]; rfl
@[simp] theorem ln15 {T : Tab} [H15 T] : T.lent 15 = 0 := by unfold Tab.lent; rw [H15.h]; rfl
theorem fq15 {T : Tab} [H15 T] (k : Nat) : Fn T (k + 2) 15 = mkF 2 (runs T (Fn T (k + 1)) (Fn T k) B15) := Fn_eq (i := F15) H15.h rfl rfl
class M15 (T : Tab) : Prop where
  h : ∃ c, T.cl 2 = some c ∧ c.mt.lookup ("__eq__" : Str) = some 15
@[simp] theorem mt15 {T : Tab} [H15 T] [M15 T] {Φ : Nat → FM} : mtOf T Φ "__eq__" 2 2 = some ⟨0, Φ 15, 2, []⟩ := by
  obtain ⟨c, h1, h2⟩ := M15.h (T := T)
  unfold mtOf; rw [h1]; dsimp only; rw [h2]; exact cb15
/-- Order.__lt__ -/
def B16 : Sms := (.cons (.ite (.not (.op (.isC 2) (.cons (.v 1) .nil))) (.cons (.ret .no) .nil) .nil) (.cons (.ret (.op .lt (.cons (.op (.fld ("listed" : Str)) (.cons (.v 0) .nil)) (.cons (.op (.fld ("listed" : Str)) (.cons (.v 1) .nil)) .nil)))) .nil))
def F16 : Fi := ⟨2, 0, [], [], 2, B16, none, none⟩
class H16 (T : Tab) : Prop where
  h : T.fn 16 = some F16
@[simp] theorem cb16 {T : Tab} [H16 T] {Φ : Nat → FM} : cbOf T Φ 16 2 false = some ⟨0, Φ 16, 2, []⟩ := by unfold cbOf; rw [H16.h]; rfl
@[simp] theorem ln16 {T : Tab} [H16 T] : T.lent 16 = 0 := by unfold Tab.lent; rw [H16.h]; rfl
theorem fq16 {T : Tab} [H16 T] (k : Nat) : Fn T (k + 2) 16 = mkF 2 (runs T (Fn T (k + 1)) (Fn T k) B16) := Fn_eq (i := F16) H16.h rfl rfl
class M16 (T : Tab) : Prop where
  h : ∃ c, T.cl 2 = some c ∧ c.mt.lookup ("__lt__" : Str) = some 16
@[simp] theorem mt16 {T : Tab} [H16 T] [M16 T] {Φ : Nat → FM} : mtOf T Φ "__lt__" 2 2 = some ⟨0, Φ 16, 2, []⟩ := by
  obtain ⟨c, h1, h2⟩ := M16.h (T := T)
  unfold mtOf; rw [h1]; dsimp only; rw [h2]; exact cb16
/-- Order.__le__ -/
def B17 : Sms := (.cons (.ite (.not (.op (.isC 2) (.cons (.v 1) .nil))) (.cons (.ret .no) .nil) .nil) (.cons (.ret (.op .le (.cons (.op (.fld ("listed" : Str)) (.cons (.v 0) .nil)) (.cons (.op (.fld ("listed" : Str)) (.cons (.v 1) .nil)) .nil)))) .nil))
def F17 : Fi := ⟨2, 0, [], [], 2, B17, none, none⟩
class H17 (T : Tab) : Prop where
  h : T.fn 17 = some F17
@[simp] theorem cb17 {T : Tab} [H17 T] {Φ : Nat → FM} : cbOf T Φ 17 2 false = some ⟨0, Φ 17, 2, []⟩ := by unfold cbOf; rw [H17.h]; rfl
@[simp] theorem ln17 {T : Tab} [H17 T] : T.lent 17 = 0 := by unfold Tab.lent; rw [H17.h]; rfl
theorem fq17 {T : Tab} [H17 T] (k : Nat) : Fn T (k + 2) 17 = mkF 2 (runs T (Fn T (k + 1)) (Fn T k) B17) := Fn_eq (i := F17) H17.h rfl rfl
class M17 (T : Tab) : Prop where
  h : ∃ c, T.cl 2 = some c ∧ c.mt.lookup ("__le__" : Str) = some 17
@[simp] theorem mt17 {T : Tab} [H17 T] [M17 T] {Φ : Nat → FM} : mtOf T Φ "__le__" 2 2 = some ⟨0, Φ 17, 2, []⟩ := by
  obtain ⟨c, h1, h2⟩ := M17.h (T := T)
  unfold mtOf; rw [h1]; dsimp only; rw [h2]; exact cb17
/-- Order.__gt__ -/
def B18 : Sms := (.cons (.ite (.not (.op (.isC 2) (.cons (.v 1) .nil))) (.cons (.ret .no) .nil) .nil) (.cons (.ret (.op .gt (.cons (.op (.fld ("listed" : Str)) (.cons (.v 0) .nil)) (.cons (.op (.fld ("listed" : Str)) (.cons (.v 1) .nil)) .nil)))) .nil))
def F18 : Fi := ⟨2, 0, [], [], 2, B18, none, none⟩
class H18 (T : Tab) : Prop where
  h : T.fn 18 = some F18
@[simp] theorem cb18 {T : Tab} [H18 T] {Φ : Nat → FM} : cbOf T Φ 18 2 false = some ⟨0, Φ 18, 2, []⟩ := by unfold cbOf; rw [H18.h]; rfl
@[simp] theorem ln18 {T : Tab} [H18 T] : T.lent 18 = 0 := by unfold Tab.lent; rw [H18.h]; rfl
theorem fq18 {T : Tab} [H18 T] (k : Nat) : Fn T (k + 2) 18 = mkF 2 (runs T (Fn T (k + 1)) (Fn T k) B18) := Fn_eq (i := F18) H18.h rfl rfl
class M18 (T : Tab) : Prop where
  h : ∃ c, T.cl 2 = some c ∧ c.mt.lookup ("__gt__" : Str) = some 18
@[simp] theorem mt18 {T : Tab} [H18 T] [M18 T] {Φ : Nat → FM} : mtOf T Φ "__gt__" 2 2 = some ⟨0, Φ 18, 2, []⟩ := by
  obtain ⟨c, h1, h2⟩ := M18.h (T := T)
  unfold mtOf; rw [h1]; dsimp only; rw [h2]; exact cb18
/-- Order.__len__ -/
def B20 : Sms := (.cons (.ret (.op .len (.cons (.op (.fld ("listed" : Str)) (.cons (.v 0) .nil)) .nil))) .nil)
def F20 : Fi := ⟨1, 0, [], [], 1, B20, none, none⟩
class H20 (T : Tab) : Prop where
  h : T.fn 20 = some F20
@[simp] theorem cb20 {T : Tab} [H20 T] {Φ : Nat → FM} : cbOf T Φ 20 1 false = some ⟨0, Φ 20, 1, []⟩ := by unfold cbOf; rw [H20.h]; rfl
@[simp] theorem ln20 {T : Tab} [H20 T] : T.lent 20 = 0 := by unfold Tab.lent; rw [H20.h]; rfl
theorem fq20 {T : Tab} [H20 T] (k : Nat) : Fn T (k + 2) 20 = mkF 1 (runs T (Fn T (k + 1)) (Fn T k) B20) := Fn_eq (i := F20) H20.h rfl rfl
class M20 (T : Tab) : Prop where
  h : ∃ c, T.cl 2 = some c ∧ c.mt.lookup ("__len__" : Str) = some 20
@[simp] theorem mt20 {T : Tab} [H20 T] [M20 T] {Φ : Nat → FM} : mtOf T Φ "__len__" 1 2 = some ⟨0, Φ 20, 1, []⟩ := by
  obtain ⟨c, h1, h2⟩ := M20.h (T := T)
  unfold mtOf; rw [h1]; dsimp only; rw [h2]; exact cb20
/-- InvalidBound.__init__ -/
def B21 : Sms := (.cons (.setf (.v 0) ("name" : Str) (.call 0 false (.cons (.v 1) .nil))) .nil)
def F21 : Fi := ⟨2, 0, [], [], 2, B21, none, some 5⟩
class H21 (T : Tab) : Prop where
  h : T.fn 21 = some F21
@[simp] theorem xr21 {T : Tab} [H21 T] {Φ Ψ : Nat → FM} {a : Exs} (h : a.len = 1) : Py.run T Φ Ψ (.rais 21 a) = mRaise (Ψ 21) (evs T Φ Ψ a) := by unfold Py.run; rw [H21.h]; dsimp only [F21]; rw [h]; rfl
theorem fq21 {T : Tab} [H21 T] (k : Nat) : Fn T (k + 2) 21 = xInit T (Fn T (k + 1)) (Fn T k) 5 B21 := Fx_eq (i := F21) H21.h rfl
/-- Order.__getitem__ -/
def B22 : Sms := (.cons (.ite (.not (.call 2 false (.cons (.v 1) (.cons (.c (.int 0)) (.cons (.op .sub (.cons (.op .len (.cons (.op (.fld ("listed" : Str)) (.cons (.v 0) .nil)) .nil)) (.cons (.c (.int 1)) .nil))) .nil))))) (.cons (.rais 21 (.cons (.c (.str ("index" : Str))) .nil)) .nil) .nil) (.cons (.ret (.op .ix (.cons (.op (.fld ("listed" : Str)) (.cons (.v 0) .nil)) (.cons (.v 1) .nil)))) .nil))
def F22 : Fi := ⟨2, 0, [], [], 2, B22, none, none⟩
class H22 (T : Tab) : Prop where
  h : T.fn 22 = some F22
@[simp] theorem cb22 {T : Tab} [H22 T] {Φ : Nat → FM} : cbOf T Φ 22 2 false = some ⟨0, Φ 22, 2, []⟩ := by unfold cbOf; rw [H22.h]; rfl
@[simp] theorem ln22 {T : Tab} [H22 T] : T.lent 22 = 0 := by unfold Tab.lent; rw [H22.h]; rfl
theorem fq22 {T : Tab} [H22 T] (k : Nat) : Fn T (k + 2) 22 = mkF 2 (runs T (Fn T (k + 1)) (Fn T k) B22) := Fn_eq (i := F22) H22.h rfl rfl
class M22 (T : Tab) : Prop where
  h : ∃ c, T.cl 2 = some c ∧ c.mt.lookup ("__getitem__" : Str) = some 22
@[simp] theorem mt22 {T : Tab} [H22 T] [M22 T] {Φ : Nat → FM} : mtOf T Φ "__getitem__" 2 2 = some ⟨0, Φ 22, 2, []⟩ := by
  obtain ⟨c, h1, h2⟩ := M22.h (T := T)
  unfold mtOf; rw [h1]; dsimp only; rw [h2]; exact cb22
/-- Order.__contains__ -/
def B23 : Sms := (.cons (.ret (.and (.call 3 false (.cons (.v 1) .nil)) (.op .inn (.cons (.v 1) (.cons (.op (.fld ("spots" : Str)) (.cons (.v 0) .nil)) .nil))))) .nil)
def F23 : Fi := ⟨2, 0, [], [], 2, B23, none, none⟩
class H23 (T : Tab) : Prop where
  h : T.fn 23 = some F23
@[simp] theorem cb23 {T : Tab} [H23 T] {Φ : Nat → FM} : cbOf T Φ 23 2 false = some ⟨0, Φ 23, 2, []⟩ := by unfold cbOf; rw [H23.h]; rfl
@[simp] theorem ln23 {T : Tab} [H23 T] : T.lent 23 = 0 := by unfold Tab.lent; rw [H23.h]; rfl
theorem fq23 {T : Tab} [H23 T] (k : Nat) : Fn T (k + 2) 23 = mkF 2 (runs T (Fn T (k + 1)) (Fn T k) B23) := Fn_eq (i := F23) H23.h rfl rfl
class M23 (T : Tab) : Prop where
  h : ∃ c, T.cl 2 = some c ∧ c.mt.lookup ("__contains__" : Str) = some 23
@[simp] theorem mt23 {T : Tab} [H23 T] [M23 T] {Φ : Nat → FM} : mtOf T Φ "__contains__" 2 2 = some ⟨0, Φ 23, 2, []⟩ := by
  obtain ⟨c, h1, h2⟩ := M23.h (T := T)
  unfold mtOf; rw [h1]; dsimp only; rw [h2]; exact cb23
end Cat

set_option Elab.async false
set_option linter.all false
set_option maxRecDepth 100000
namespace Cat
open PySem L2 Py
/-- _law_same -/
def B48 : Sms := (.cons (.ite (.op .isN (.cons (.v 1) .nil)) (.cons (.ret (.op .isN (.cons (.v 0) .nil))) .nil) .nil) (.cons (.ite (.op (.isT .bool) (.cons (.v 1) .nil)) (.cons (.ret (.and (.op (.isT .bool) (.cons (.v 0) .nil)) (.op .eq (.cons (.v 0) (.cons (.v 1) .nil))))) .nil) .nil) (.cons (.ite (.op (.isT .int) (.cons (.v 1) .nil)) (.cons (.ret (.and (.op (.isT .int) (.cons (.v 0) .nil)) (.and (.not (.op (.isT .bool) (.cons (.v 0) .nil))) (.op .eq (.cons (.v 0) (.cons (.v 1) .nil)))))) .nil) .nil) (.cons (.ite (.op (.isT .str) (.cons (.v 1) .nil)) (.cons (.ret (.and (.op (.isT .str) (.cons (.v 0) .nil)) (.op .eq (.cons (.v 0) (.cons (.v 1) .nil))))) .nil) .nil) (.cons (.ite (.op (.isT .list) (.cons (.v 1) .nil)) (.cons (.ite (.not (.op (.isT .list) (.cons (.v 0) .nil))) (.cons (.ret (.c (.bl false))) .nil) .nil) .nil) (.cons (.ite (.not (.op (.isT .tuple) (.cons (.v 0) .nil))) (.cons (.ret (.c (.bl false))) .nil) .nil) .nil)) (.cons (.ite (.op .ne (.cons (.op .len (.cons (.v 0) .nil)) (.cons (.op .len (.cons (.v 1) .nil)) .nil))) (.cons (.ret (.c (.bl false))) .nil) .nil) (.cons (.for_ (.r1 (.cons (.op .len (.cons (.v 1) .nil)) .nil)) (.nm 2) (.cons (.ite (.not (.call 48 false (.cons (.op .ix (.cons (.v 0) (.cons (.v 2) .nil))) (.cons (.op .ix (.cons (.v 1) (.cons (.v 2) .nil))) .nil)))) (.cons (.ret (.c (.bl false))) .nil) .nil) .nil)) (.cons (.ret (.c (.bl true))) .nil))))))))
def F48 : Fi := ⟨2, 0, [], [], 3, B48, none, none⟩
class H48 (T : Tab) : Prop where
  h : T.fn 48 = some F48
@[simp] theorem cb48 {T : Tab} [H48 T] {Φ : Nat → FM} : cbOf T Φ 48 2 false = some ⟨0, Φ 48, 2, []⟩ := by unfold cbOf; rw [H48.h]; rfl
@[simp] theorem ln48 {T : Tab} [H48 T] : T.lent 48 = 0 := by unfold Tab.lent; rw [H48.h]; rfl
theorem fq48 {T : Tab} [H48 T] (k : Nat) : Fn T (k + 2) 48 = mkF 3 (runs T (Fn T (k + 1)) (Fn T k) B48) := Fn_eq (i := F48) H48.h rfl rfl
/-- InvalidPair.__init__ -/
def B63 : Sms := (.cons (.setf (.v 0) ("pair" : Str) (.call 0 false (.cons (.v 1) .nil))) .nil)
def F63 : Fi := ⟨2, 0, [], [], 2, B63, none, some 4⟩
class H63 (T : Tab) : Prop where
  h : T.fn 63 = some F63
@[simp] theorem xr63 {T : Tab} [H63 T] {Φ Ψ : Nat → FM} {a : Exs} (h : a.len = 1) : Py.run T Φ Ψ (.rais 63 a) = mRaise (Ψ 63) (evs T Φ Ψ a) := by unfold Py.run; rw [H63.h]; dsimp only [F63]; rw [h]; rfl
theorem fq63 {T : Tab} [H63 T] (k : Nat) : Fn T (k + 2) 63 = xInit T (Fn T (k + 1)) (Fn T k) 4 B63 := Fx_eq (i := F63) H63.h rfl
end Cat

set_option Elab.async false
set_option linter.all false
set_option maxRecDepth 100000
namespace Cat
open PySem L2 Py
/-- _law_spoiled -/
def B120 : Sms := (.cons (.set (.nm 3) (.call 7 false (.cons (.v 0) (.cons (.op .add (.cons (.op .len (.cons (.v 1) .nil)) (.cons (.c (.int 1)) .nil))) .nil)))) (.cons (.set (.nm 4) (.call 7 false (.cons (.v 0) (.cons (.op .add (.cons (.op .len (.cons (.v 1) .nil)) (.cons (.c (.int 1)) .nil))) .nil)))) (.cons (.set (.nm 5) (.call 7 false (.cons (.v 0) (.cons (.c (.int 8)) .nil)))) (.cons (.set (.nm 6) (.op .lst (.cons (.op .tup (.cons (.v 5) (.cons (.c (.int 8)) .nil))) (.cons (.op .tup (.cons (.op .neg (.cons (.c (.int 1)) .nil)) (.cons (.v 5) .nil))) (.cons (.op .tup (.cons (.c (.bl true)) (.cons (.v 5) .nil))) (.cons (.op .lst (.cons (.v 5) (.cons (.v 5) .nil))) (.cons (.op .tup (.cons (.v 5) (.cons (.v 5) (.cons (.v 5) .nil)))) (.cons (.c (.str ("00" : Str))) (.cons (.c .non) (.cons (.op .tup (.cons (.v 5) (.cons (.op .pow (.cons (.c (.int 10)) (.cons (.c (.int 20)) .nil))) .nil))) .nil)))))))))) (.cons (.set (.nm 6) (.op .ix (.cons (.v 6) (.cons (.call 7 false (.cons (.v 0) (.cons (.c (.int 8)) .nil))) .nil)))) (.cons (.ite (.and (.op .eq (.cons (.v 2) (.cons (.c (.int 4)) .nil))) (.op .lt (.cons (.v 4) (.cons (.op .len (.cons (.v 1) .nil)) .nil)))) (.cons (.ret (.op .add (.cons (.op .add (.cons (.op (.sl false true) (.cons (.v 1) (.cons (.v 3) .nil))) (.cons (.op .lst (.cons (.op .ix (.cons (.v 1) (.cons (.v 4) .nil))) .nil)) .nil))) (.cons (.op (.sl true false) (.cons (.v 1) (.cons (.v 3) .nil))) .nil)))) .nil) .nil) (.cons (.ite (.or (.op .eq (.cons (.v 2) (.cons (.c (.int 5)) .nil))) (.op .eq (.cons (.v 2) (.cons (.c (.int 6)) .nil)))) (.cons (.ret (.op .add (.cons (.op .add (.cons (.op (.sl false true) (.cons (.v 1) (.cons (.v 3) .nil))) (.cons (.op .lst (.cons (.v 6) .nil)) .nil))) (.cons (.op (.sl true false) (.cons (.v 1) (.cons (.v 3) .nil))) .nil)))) .nil) .nil) (.cons (.ite (.op .eq (.cons (.v 2) (.cons (.c (.int 7)) .nil))) (.cons (.ret (.op .add (.cons (.v 1) (.cons (.comp (.r1 (.cons (.op .sub (.cons (.c (.int 65)) (.cons (.op .len (.cons (.v 1) .nil)) .nil))) .nil)) [7] (.nm 7) (.c (.bl true)) (.v 6)) .nil)))) .nil) .nil) (.cons (.ite (.op .eq (.cons (.v 2) (.cons (.c (.int 8)) .nil))) (.cons (.ret (.op .ix (.cons (.op .lst (.cons (.op .tuple (.cons (.v 1) .nil)) (.cons (.c .non) (.cons (.c (.int 7)) .nil)))) (.cons (.call 7 false (.cons (.v 0) (.cons (.c (.int 3)) .nil))) .nil)))) .nil) .nil) (.cons (.ret (.v 1)) .nil))))))))))
def F120 : Fi := ⟨3, 1, [], [], 8, B120, none, none⟩
class H120 (T : Tab) : Prop where
  h : T.fn 120 = some F120
@[simp] theorem cb120 {T : Tab} [H120 T] {Φ : Nat → FM} : cbOf T Φ 120 3 false = some ⟨1, Φ 120, 3, []⟩ := by unfold cbOf; rw [H120.h]; rfl
@[simp] theorem ln120 {T : Tab} [H120 T] : T.lent 120 = 1 := by unfold Tab.lent; rw [H120.h]; rfl
theorem fq120 {T : Tab} [H120 T] (k : Nat) : Fn T (k + 2) 120 = mkF 8 (runs T (Fn T (k + 1)) (Fn T k) B120) := Fn_eq (i := F120) H120.h rfl rfl
/-- _law_is_pair -/
def B121 : Sms := (.cons (.ite (.or (.not (.op (.isT .tuple) (.cons (.v 0) .nil))) (.op .ne (.cons (.op .len (.cons (.v 0) .nil)) (.cons (.c (.int 2)) .nil)))) (.cons (.ret (.c (.bl false))) .nil) .nil) (.cons (.for_ (.sq (.v 0)) (.nm 1) (.cons (.ite (.or (.not (.op (.isT .int) (.cons (.v 1) .nil))) (.or (.op (.isT .bool) (.cons (.v 1) .nil)) (.or (.op .lt (.cons (.v 1) (.cons (.c (.int 0)) .nil))) (.op .gt (.cons (.v 1) (.cons (.c (.int 7)) .nil)))))) (.cons (.ret (.c (.bl false))) .nil) .nil) .nil)) (.cons (.ret (.c (.bl true))) .nil)))
def F121 : Fi := ⟨1, 0, [], [], 2, B121, none, none⟩
class H121 (T : Tab) : Prop where
  h : T.fn 121 = some F121
@[simp] theorem cb121 {T : Tab} [H121 T] {Φ : Nat → FM} : cbOf T Φ 121 1 false = some ⟨0, Φ 121, 1, []⟩ := by unfold cbOf; rw [H121.h]; rfl
@[simp] theorem ln121 {T : Tab} [H121 T] : T.lent 121 = 0 := by unfold Tab.lent; rw [H121.h]; rfl
theorem fq121 {T : Tab} [H121 T] (k : Nat) : Fn T (k + 2) 121 = mkF 2 (runs T (Fn T (k + 1)) (Fn T k) B121) := Fn_eq (i := F121) H121.h rfl rfl
/-- _law_due -/
def B122 : Sms := (.cons (.ite (.or (.not (.op (.isT .list) (.cons (.v 0) .nil))) (.op .gt (.cons (.op .len (.cons (.v 0) .nil)) (.cons (.c (.int 64)) .nil)))) (.cons (.ret (.op .tup (.cons (.c (.str ("refused" : Str))) (.cons (.op .neg (.cons (.c (.int 1)) .nil)) .nil)))) .nil) .nil) (.cons (.for_ (.r1 (.cons (.op .len (.cons (.v 0) .nil)) .nil)) (.nm 1) (.cons (.ite (.or (.not (.call 121 false (.cons (.op .ix (.cons (.v 0) (.cons (.v 1) .nil))) .nil))) (.op .inn (.cons (.op .ix (.cons (.v 0) (.cons (.v 1) .nil))) (.cons (.op (.sl false true) (.cons (.v 0) (.cons (.v 1) .nil))) .nil)))) (.cons (.ret (.op .tup (.cons (.c (.str ("refused" : Str))) (.cons (.v 1) .nil)))) .nil) .nil) .nil)) (.cons (.ret (.op .tup (.cons (.c (.str ("told" : Str))) (.cons (.c (.int 0)) .nil)))) .nil)))
def F122 : Fi := ⟨1, 0, [], [], 2, B122, none, none⟩
class H122 (T : Tab) : Prop where
  h : T.fn 122 = some F122
@[simp] theorem cb122 {T : Tab} [H122 T] {Φ : Nat → FM} : cbOf T Φ 122 1 false = some ⟨0, Φ 122, 1, []⟩ := by unfold cbOf; rw [H122.h]; rfl
@[simp] theorem ln122 {T : Tab} [H122 T] : T.lent 122 = 0 := by unfold Tab.lent; rw [H122.h]; rfl
theorem fq122 {T : Tab} [H122 T] (k : Nat) : Fn T (k + 2) 122 = mkF 2 (runs T (Fn T (k + 1)) (Fn T k) B122) := Fn_eq (i := F122) H122.h rfl rfl
/-- _law_told -/
def B123 : Sms := (.cons (.ite (.or (.not (.call 48 false (.cons (.meth ("pairs" : Str) true (.v 0) .nil) (.cons (.v 1) .nil)))) (.not (.call 48 false (.cons (.op .len (.cons (.v 0) .nil)) (.cons (.op .len (.cons (.v 1) .nil)) .nil))))) (.cons (.ret (.c (.bl false))) .nil) .nil) (.cons (.for_ (.r1 (.cons (.op .len (.cons (.v 1) .nil)) .nil)) (.nm 2) (.cons (.ite (.or (.not (.call 48 false (.cons (.op .ix (.cons (.v 0) (.cons (.v 2) .nil))) (.cons (.op .ix (.cons (.v 1) (.cons (.v 2) .nil))) .nil)))) (.not (.call 48 false (.cons (.meth ("place" : Str) true (.v 0) (.cons (.op .ix (.cons (.v 1) (.cons (.v 2) .nil))) .nil)) (.cons (.v 2) .nil))))) (.cons (.ret (.c (.bl false))) .nil) .nil) .nil)) (.cons (.for_ (.r1 (.cons (.c (.int 9)) .nil)) (.nm 3) (.cons (.for_ (.r1 (.cons (.c (.int 9)) .nil)) (.nm 4) (.cons (.ite (.not (.call 48 false (.cons (.op .inn (.cons (.op .tup (.cons (.v 3) (.cons (.v 4) .nil))) (.cons (.v 0) .nil))) (.cons (.op .inn (.cons (.op .tup (.cons (.v 3) (.cons (.v 4) .nil))) (.cons (.v 1) .nil))) .nil)))) (.cons (.ret (.c (.bl false))) .nil) .nil) .nil)) .nil)) (.cons (.ret (.c (.bl true))) .nil))))
def F123 : Fi := ⟨2, 0, [], [], 5, B123, none, none⟩
class H123 (T : Tab) : Prop where
  h : T.fn 123 = some F123
@[simp] theorem cb123 {T : Tab} [H123 T] {Φ : Nat → FM} : cbOf T Φ 123 2 false = some ⟨0, Φ 123, 2, []⟩ := by unfold cbOf; rw [H123.h]; rfl
@[simp] theorem ln123 {T : Tab} [H123 T] : T.lent 123 = 0 := by unfold Tab.lent; rw [H123.h]; rfl
theorem fq123 {T : Tab} [H123 T] (k : Nat) : Fn T (k + 2) 123 = mkF 5 (runs T (Fn T (k + 1)) (Fn T k) B123) := Fn_eq (i := F123) H123.h rfl rfl
/-- law -/
def B124 : Sms := (.cons (.set (.nm 1) (.call 5 false (.cons (.v 0) .nil))) (.cons (.set (.nm 2) (.call 7 false (.cons (.v 1) (.cons (.c (.int 9)) .nil)))) (.cons (.set (.nm 3) (.call 7 false (.cons (.v 1) (.cons (.c (.int 65)) .nil)))) (.cons (.ite (.op .eq (.cons (.call 7 false (.cons (.v 1) (.cons (.c (.int 2)) .nil))) (.cons (.c (.int 0)) .nil))) (.cons (.set (.nm 3) (.op .div (.cons (.v 3) (.cons (.c (.int 8)) .nil)))) .nil) .nil) (.cons (.set (.nm 4) (.call 9 false (.cons (.v 1) (.cons (.comp (.r1 (.cons (.c (.int 64)) .nil)) [12] (.nm 12) (.c (.bl true)) (.op .tup (.cons (.op .div (.cons (.v 12) (.cons (.c (.int 8)) .nil))) (.cons (.op .sub (.cons (.v 12) (.cons (.op .mul (.cons (.op .div (.cons (.v 12) (.cons (.c (.int 8)) .nil))) (.cons (.c (.int 8)) .nil))) .nil))) .nil)))) .nil)))) (.cons (.set (.nm 5) (.call 120 false (.cons (.v 1) (.cons (.op (.sl false true) (.cons (.v 4) (.cons (.v 3) .nil))) (.cons (.v 2) .nil))))) (.cons (.set (.nm 6) (.call 122 false (.cons (.v 5) .nil))) (.cons (.set (.nm 7) (.v 5)) (.cons (.ite (.op (.isT .list) (.cons (.v 5) .nil)) (.cons (.set (.nm 7) (.op .list (.cons (.v 5) .nil))) .nil) .nil) (.cons (.set (.nm 8) (.op .tup (.cons (.c (.str ("told" : Str))) (.cons (.c (.int 0)) .nil)))) (.cons (.set (.nm 9) (.c .non)) (.cons (.try_ (.cons (.set (.nm 9) (.new 2 (.cons (.v 7) .nil))) .nil) [⟨3, some 10, .set 8 (.tup (.cons (.c (.str ("refused" : Str))) (.cons (.fld ("at" : Str)) .nil)))⟩] .nil) (.cons (.ite (.or (.not (.call 48 false (.cons (.v 8) (.cons (.v 6) .nil)))) (.op .ne (.cons (.v 7) (.cons (.v 5) .nil)))) (.cons (.ret (.c (.bl false))) .nil) .nil) (.cons (.ite (.op .isN (.cons (.v 9) .nil)) (.cons (.ret (.c (.bl true))) .nil) .nil) (.cons (.ite (.not (.call 123 false (.cons (.v 9) (.cons (.v 5) .nil)))) (.cons (.ret (.c (.bl false))) .nil) .nil) (.cons (.ex (.mut .app (.v 7) (.cons (.op .tup (.cons (.c (.int 0)) (.cons (.c (.int 9)) .nil))) .nil))) (.cons (.seti (.v 7) (.c (.int 0)) (.op .tup (.cons (.c (.int 7)) (.cons (.c (.int 7)) .nil)))) (.cons (.set (.nm 11) (.meth ("pairs" : Str) true (.v 9) .nil)) (.cons (.ex (.mut .app (.v 11) (.cons (.op .tup (.cons (.c (.int 1)) (.cons (.c (.int 1)) .nil))) .nil))) (.cons (.seti (.v 11) (.c (.int 0)) (.op .tup (.cons (.c (.int 9)) (.cons (.c (.int 9)) .nil)))) (.cons (.ret (.and (.call 123 false (.cons (.v 9) (.cons (.v 5) .nil))) (.op .eq (.cons (.v 9) (.cons (.new 2 (.cons (.op .list (.cons (.v 5) .nil)) .nil)) .nil))))) .nil)))))))))))))))))))))
def F124 : Fi := ⟨1, 0, [], [], 13, B124, none, none⟩
class H124 (T : Tab) : Prop where
  h : T.fn 124 = some F124
@[simp] theorem cb124 {T : Tab} [H124 T] {Φ : Nat → FM} : cbOf T Φ 124 1 false = some ⟨0, Φ 124, 1, []⟩ := by unfold cbOf; rw [H124.h]; rfl
@[simp] theorem ln124 {T : Tab} [H124 T] : T.lent 124 = 0 := by unfold Tab.lent; rw [H124.h]; rfl
theorem fq124 {T : Tab} [H124 T] (k : Nat) : Fn T (k + 2) 124 = mkF 13 (runs T (Fn T (k + 1)) (Fn T k) B124) := Fn_eq (i := F124) H124.h rfl rfl
/-- Order.pairs -/
def B125 : Sms := (.cons (.ret (.op .list (.cons (.op (.fld ("listed" : Str)) (.cons (.v 0) .nil)) .nil))) .nil)
def F125 : Fi := ⟨1, 0, [], [], 1, B125, none, none⟩
class H125 (T : Tab) : Prop where
  h : T.fn 125 = some F125
@[simp] theorem cb125 {T : Tab} [H125 T] {Φ : Nat → FM} : cbOf T Φ 125 1 false = some ⟨0, Φ 125, 1, []⟩ := by unfold cbOf; rw [H125.h]; rfl
@[simp] theorem ln125 {T : Tab} [H125 T] : T.lent 125 = 0 := by unfold Tab.lent; rw [H125.h]; rfl
theorem fq125 {T : Tab} [H125 T] (k : Nat) : Fn T (k + 2) 125 = mkF 1 (runs T (Fn T (k + 1)) (Fn T k) B125) := Fn_eq (i := F125) H125.h rfl rfl
class M125 (T : Tab) : Prop where
  h : ∃ c, T.cl 2 = some c ∧ c.mt.lookup ("pairs" : Str) = some 125
@[simp] theorem mt125 {T : Tab} [H125 T] [M125 T] {Φ : Nat → FM} : mtOf T Φ "pairs" 1 2 = some ⟨0, Φ 125, 1, []⟩ := by
  obtain ⟨c, h1, h2⟩ := M125.h (T := T)
  unfold mtOf; rw [h1]; dsimp only; rw [h2]; exact cb125
/-- Order.place -/
def B126 : Sms := (.cons (.ite (.or (.not (.call 3 false (.cons (.v 1) .nil))) (.op .nin (.cons (.v 1) (.cons (.op (.fld ("spots" : Str)) (.cons (.v 0) .nil)) .nil)))) (.cons (.rais 63 (.cons (.v 1) .nil)) .nil) .nil) (.cons (.ret (.op .ix (.cons (.op (.fld ("spots" : Str)) (.cons (.v 0) .nil)) (.cons (.v 1) .nil)))) .nil))
def F126 : Fi := ⟨2, 0, [], [], 2, B126, none, none⟩
class H126 (T : Tab) : Prop where
  h : T.fn 126 = some F126
@[simp] theorem cb126 {T : Tab} [H126 T] {Φ : Nat → FM} : cbOf T Φ 126 2 false = some ⟨0, Φ 126, 2, []⟩ := by unfold cbOf; rw [H126.h]; rfl
@[simp] theorem ln126 {T : Tab} [H126 T] : T.lent 126 = 0 := by unfold Tab.lent; rw [H126.h]; rfl
theorem fq126 {T : Tab} [H126 T] (k : Nat) : Fn T (k + 2) 126 = mkF 2 (runs T (Fn T (k + 1)) (Fn T k) B126) := Fn_eq (i := F126) H126.h rfl rfl
class M126 (T : Tab) : Prop where
  h : ∃ c, T.cl 2 = some c ∧ c.mt.lookup ("place" : Str) = some 126
@[simp] theorem mt126 {T : Tab} [H126 T] [M126 T] {Φ : Nat → FM} : mtOf T Φ "place" 2 2 = some ⟨0, Φ 126, 2, []⟩ := by
  obtain ⟨c, h1, h2⟩ := M126.h (T := T)
  unfold mtOf; rw [h1]; dsimp only; rw [h2]; exact cb126
end Cat

set_option Elab.async false
set_option linter.all false
set_option maxRecDepth 100000
set_option maxHeartbeats 1000000
/-! L0: plain things for all laws. -/
namespace Py
open PySem L2
theorem w_cut {x : Fl} {G : Go} {P : Env → Prop} (h : Fl.w x { G with n := P }) (k : ∀ e, P e → G.n e) : Fl.w x G := by
  refine ⟨?_⟩
  have h := h.out
  cases x with
  | nx e => exact k e h
  | _ => exact h
theorem cutL_to {α : Type} (l : List α) {i : Int} (h : 0 ≤ i) : cutL l none (some i) = l.take i.toNat := by
  obtain ⟨n, rfl⟩ := Int.eq_ofNat_of_zero_le h
  unfold cutL
  rw [HT.sIx_none, HT.sIx_nat, List.drop_zero, Nat.sub_zero, Int.toNat_natCast]
  by_cases h2 : n ≤ l.length
  · rw [Nat.min_eq_left h2]
  · rw [Nat.min_eq_right (by omega), List.take_length, List.take_of_length_le (by omega)]
theorem cutL_from {α : Type} (l : List α) {i : Int} (h : 0 ≤ i) : cutL l (some i) none = l.drop i.toNat := by
  obtain ⟨n, rfl⟩ := Int.eq_ofNat_of_zero_le h
  unfold cutL
  rw [HT.sIx_none, HT.sIx_nat, Int.toNat_natCast]
  by_cases h2 : n ≤ l.length
  · rw [Nat.min_eq_left h2, List.take_of_length_le (by simp)]
  · rw [Nat.min_eq_right (by omega), List.drop_length, List.drop_of_length_le (by omega), List.take_nil]
/-- an equation from a promise -/
theorem FR.eq_of {x : FR} {v : Val} {e : Env} (h : FR.is x fun v' e' => v' = v ∧ e' = e) : x = .ok v e := by
  obtain ⟨v', e', h1, rfl, rfl⟩ := h
  exact h1
def itD : Item → D
  | .one v => v.d
  | .two v _ => v.d
theorem at_some {ds : List D} {i : Int} (h0 : 0 ≤ i) (h1 : i < ds.length) : ∃ d, atI ds i = some d ∧ ds[i.toNat]? = some d := by
  have h : i.toNat < ds.length := by omega
  exact ⟨ds[i.toNat], by rw [atI_int h0]; simp [h], by simp [h]⟩
/-- a list of a slot, however it stands -/
def rdS (s : Slot) (d : D) : Prop := s = .fz d ∨ s = .bo (.l .f) d ∨ s = .ow (.l .f) d
/-- what a call comes to: a value, or an error -/
def FR.q (x : FR) (Q : Val → Env → Prop) (E : Nat → List D → Env → Prop) : Prop := match x with
  | .ok v e => Q v e
  | .ex c fs e => E c fs e
  | .no => False
theorem w_fnx {nn : Nat} {body : MS} {pe : Env} {Q : Val → Env → Prop} {E : Nat → List D → Env → Prop} (h : Fl.w (body (pe ++ List.replicate (nn - pe.length) .un)) { n := fun e => Q ⟨.f, .non⟩ (finEnv pe e), r := fun v e => outT v.t = true ∧ Q v (finEnv pe e), x := fun c fs e => E c fs (finEnv pe e) }) : FR.q (mkF nn body pe) Q E := by
  unfold mkF
  have h := h.out
  cases hx : body (pe ++ List.replicate (nn - pe.length) .un) with
  | nx e => rw [hx] at h; exact h
  | rt v e =>
    rw [hx] at h
    show FR.q (if outT v.t = true then FR.ok v (finEnv pe e) else .no) Q E
    rw [if_pos h.1]
    exact h.2
  | bk e => rw [hx] at h; exact h.elim
  | ct e => rw [hx] at h; exact h.elim
  | ex c fs e => rw [hx] at h; exact h
  | no => rw [hx] at h; exact h.elim
theorem FR.ok_of {x : FR} {Q : Val → Env → Prop} (h : FR.q x Q fun _ _ _ => False) : ∃ v e, x = .ok v e ∧ Q v e := by
  cases x with
  | ok v e => exact ⟨v, e, rfl, h⟩
  | ex c fs e => exact h.elim
  | no => exact h.elim
theorem FR.ex_of {x : FR} {E : Nat → List D → Env → Prop} (h : FR.q x (fun _ _ => False) E) : ∃ c fs e, x = .ex c fs e ∧ E c fs e := by
  cases x with
  | ok v e => exact h.elim
  | ex c fs e => exact ⟨c, fs, e, rfl, h⟩
  | no => exact h.elim
theorem w_xx {T : Tab} {Φ Ψ : Nat → FM} {env e1 : Env} {s : Sm} {r : Sms} {G : Go} {c : Nat} {fs : List D} (h : Py.run T Φ Ψ s env = .ex c fs e1) (h2 : G.x c fs e1) : Fl.w (runs T Φ Ψ (.cons s r) env) G := by
  rw [run_out h (fun e z => by cases z)]; exact ⟨h2⟩
section
variable {t : Ty} {i : Int} {q : Bool} {s : Str} {l : List D} {m : List (D × D)} {c c' : Nat}
theorem isD_int_n : isD .int .non = false := rfl
theorem isD_int_b : isD .int (.bl q) = true := rfl
theorem isD_int_i : isD .int (.int i) = true := rfl
theorem isD_int_s : isD .int (.str s) = false := rfl
theorem isD_int_l : isD .int (.lst l) = false := rfl
theorem isD_int_t : isD .int (.tup l) = false := rfl
theorem isD_int_d : isD .int (.dic q m) = false := rfl
theorem isD_int_o : isD .int (.obj c l) = false := rfl
theorem isD_bool_n : isD .bool .non = false := rfl
theorem isD_bool_b : isD .bool (.bl q) = true := rfl
theorem isD_bool_i : isD .bool (.int i) = false := rfl
theorem isD_bool_s : isD .bool (.str s) = false := rfl
theorem isD_bool_l : isD .bool (.lst l) = false := rfl
theorem isD_bool_t : isD .bool (.tup l) = false := rfl
theorem isD_bool_d : isD .bool (.dic q m) = false := rfl
theorem isD_bool_o : isD .bool (.obj c l) = false := rfl
theorem isD_str_n : isD .str .non = false := rfl
theorem isD_str_b : isD .str (.bl q) = false := rfl
theorem isD_str_i : isD .str (.int i) = false := rfl
theorem isD_str_s : isD .str (.str s) = true := rfl
theorem isD_str_l : isD .str (.lst l) = false := rfl
theorem isD_str_t : isD .str (.tup l) = false := rfl
theorem isD_str_d : isD .str (.dic q m) = false := rfl
theorem isD_str_o : isD .str (.obj c l) = false := rfl
theorem isD_list_n : isD .list .non = false := rfl
theorem isD_list_b : isD .list (.bl q) = false := rfl
theorem isD_list_i : isD .list (.int i) = false := rfl
theorem isD_list_s : isD .list (.str s) = false := rfl
theorem isD_list_l : isD .list (.lst l) = true := rfl
theorem isD_list_t : isD .list (.tup l) = false := rfl
theorem isD_list_d : isD .list (.dic q m) = false := rfl
theorem isD_list_o : isD .list (.obj c l) = false := rfl
theorem isD_tuple_n : isD .tuple .non = false := rfl
theorem isD_tuple_b : isD .tuple (.bl q) = false := rfl
theorem isD_tuple_i : isD .tuple (.int i) = false := rfl
theorem isD_tuple_s : isD .tuple (.str s) = false := rfl
theorem isD_tuple_l : isD .tuple (.lst l) = false := rfl
theorem isD_tuple_t : isD .tuple (.tup l) = true := rfl
theorem isD_tuple_d : isD .tuple (.dic q m) = false := rfl
theorem isD_tuple_o : isD .tuple (.obj c l) = false := rfl
theorem isD_dict_n : isD .dict .non = false := rfl
theorem isD_dict_b : isD .dict (.bl q) = false := rfl
theorem isD_dict_i : isD .dict (.int i) = false := rfl
theorem isD_dict_s : isD .dict (.str s) = false := rfl
theorem isD_dict_l : isD .dict (.lst l) = false := rfl
theorem isD_dict_t : isD .dict (.tup l) = false := rfl
theorem isD_dict_d : isD .dict (.dic q m) = true := rfl
theorem isD_dict_o : isD .dict (.obj c l) = false := rfl
theorem isN_n : isNone .non = true := rfl
theorem isN_b : isNone (.bl q) = false := rfl
theorem isN_i : isNone (.int i) = false := rfl
theorem isN_s : isNone (.str s) = false := rfl
theorem isN_l : isNone (.lst l) = false := rfl
theorem isN_t : isNone (.tup l) = false := rfl
theorem isN_d : isNone (.dic q m) = false := rfl
theorem isN_o : isNone (.obj c l) = false := rfl
end
theorem opIn_l {n : Bool} {t u : Py.T} {a : D} {ds : List D} {e : Env} : opIn n [⟨t, a⟩, ⟨u, .lst ds⟩] e = if (shp a && shp (.lst ds)) = true then some (⟨.f, .bl (if n then !inD a ds else inD a ds)⟩, e) else none := by
  unfold opIn opA
  dsimp only
  split <;> rfl
theorem opIn_d {n : Bool} {v : Val} {t : Py.T} {b : Bool} {kvs : List (D × D)} {e : Env} : opIn n [v, ⟨t, .dic b kvs⟩] e = none := rfl
theorem gLen_ok {n : Nat} (h : n ≤ 1000000) : gLenI (.int (n : Int)) = some (.int (n : Int)) := by
  have h1 : (0 : Int) ≤ (n : Int) := by omega
  have h2 : Nat.ble (n : Int).toNat 9223372036854775807 = true := Nat.ble_eq_true_of_le (by omega)
  unfold gLenI
  dsimp only
  rw [if_pos (by rw [decide_eq_true h1, h2]; rfl)]
theorem szOk_ok {n : Nat} (h : n ≤ 1000000) : szOk n = true := decide_eq_true h
theorem at_i {i : Int} : isAtom (.int i) = true := id rfl
theorem at_b {i : Bool} : isAtom (.bl i) = true := id rfl
theorem at_s {i : Str} : isAtom (.str i) = true := id rfl
theorem at_n : isAtom .non = true := id rfl
theorem at_l {l : List D} : isAtom (.lst l) = false := id rfl
theorem at_t {l : List D} : isAtom (.tup l) = false := id rfl
theorem at_d {b : Bool} {l : List (D × D)} : isAtom (.dic b l) = false := id rfl
theorem at_o {c : Nat} {l : List D} : isAtom (.obj c l) = false := id rfl
section
variable {T : Tab} {Φ Ψ : Nat → FM} {env : Env} {e c : Ex} {t : Tg} {a b : Sms} {p : Pl} {x : Str} {k : Ex} {i : Nat} {q : Bool} {hs : List HcT}
theorem run_pass : Py.run T Φ Ψ .pass env = mPass env := by simp only [Py.run]
theorem run_brk : Py.run T Φ Ψ .brk env = mBreak env := by simp only [Py.run]
theorem run_cont : Py.run T Φ Ψ .cont env = mCont env := by simp only [Py.run]
theorem run_ret : Py.run T Φ Ψ (.ret e) env = mRet (ev T Φ Ψ e) env := by simp only [Py.run]
theorem run_set : Py.run T Φ Ψ (.set t e) env = mThen (ev T Φ Ψ e) (fun v env => match asgT t v env with
    | some e' => .nx e'
    | none => .no) env := by rw [Py.run] <;> rfl
theorem run_ex : Py.run T Φ Ψ (.ex e) env = mDrop (ev T Φ Ψ e) env := by simp only [Py.run]
theorem run_ite : Py.run T Φ Ψ (.ite c a b) env = mIf (ev T Φ Ψ c) (runs T Φ Ψ a) (runs T Φ Ψ b) env := by simp only [Py.run]
theorem run_seti : Py.run T Φ Ψ (.seti p k e) env = mSetI (k.p T) (evP T Φ Ψ p) (ev T Φ Ψ k) (ev T Φ Ψ e) (gEither gSetL gSetD) env := by simp only [Py.run]
theorem run_setf : Py.run T Φ Ψ (.setf p x e) env = mSetF T.fx (evP T Φ Ψ p) x (ev T Φ Ψ e) env := by simp only [Py.run]
theorem run_try : Py.run T Φ Ψ (.try_ a hs b) env = mTry (runs T Φ Ψ a) (hs.map (HcT.v T)) (runs T Φ Ψ b) env := by rw [Py.run]
theorem runs_1 {s : Sm} : runs T Φ Ψ (.cons s .nil) env = Py.run T Φ Ψ s env := by
  simp only [runs, mSeq]
  cases Py.run T Φ Ψ s env <;> rfl
theorem run_aug : Py.run T Φ Ψ (.aug i q e) env = mSet i (mOp (ev2 (e.p T) (mV i) (ev T Φ Ψ e)) (opI2 (fAug q))) env := by simp only [Py.run]
end
end Py

set_option Elab.async false
set_option linter.all false
set_option maxRecDepth 100000
set_option maxHeartbeats 1000000
/-! LBase: copied 0, is_integer 1, is_between 2, is_spot 3, is_possible_pair 4. -/
namespace Py
open PySem L2 Cat
local macro_rules | `(tactic| walk_at "py") => `(tactic| simp [run_try, runs_1, runs_nil, run_pass, run_brk, run_cont, run_ret, run_set, run_ex, run_ite, run_seti, run_setf, run_aug, mSet, fAug, mOp, tyL, ev_c, ev_v, ev_op, ev_not, ev_and, ev_or, ev_ife, ev_cee, ev_cet, ev_cte, ev_ctt, ev_call, ev_meth, ev_new, ev_mut, evs, evI, evP, mThen, mPass, mBreak, mCont, R.bind, R.map, mOpO, ownNo, ownR, ownRun, applyPost, swp, sw2, gBool, gNotB, gLen_ok, Bo.own, Bo.op, Bo.ci, opEither, opA, opI2, fSub, fPow, fLt, fLe, fGt, fGe, powOk, opAdd, elF, szOk, Sh.flat, evNil, evCons, evTail, refix, T.isB, mV, mC, mNot, mAnd, mOr, mIfE, mIf, mRet, outV, mDrop, slotOf, setSlot, fr_un, fr_fz, fr_bo, fr_ow, asgT, asgTs, asI, asItem, aTp, aNil, aCons, fgT, mkV_f, mkV_i, mkV_b, mkV_s, mkV_n, mkV_t, mkV_l, mkV_d, mkV_o, T.sub, mkT, Sh.sub, frzV, frzAll, opLst, opTup, opSz, opIx, opLen, opList, opTuple, opInt, opAbs, opMax, opMin, opSl, partsOf, opNeg, opIsN, isN_n, isN_b, isN_i, isN_s, isN_l, isN_t, isN_d, isN_o, opIsT, opIsC, isD_int_n, isD_int_b, isD_int_i, isD_int_s, isD_int_l, isD_int_t, isD_int_d, isD_int_o, isD_bool_n, isD_bool_b, isD_bool_i, isD_bool_s, isD_bool_l, isD_bool_t, isD_bool_d, isD_bool_o, isD_str_n, isD_str_b, isD_str_i, isD_str_s, isD_str_l, isD_str_t, isD_str_d, isD_str_o, isD_list_n, isD_list_b, isD_list_i, isD_list_s, isD_list_l, isD_list_t, isD_list_d, isD_list_o, isD_tuple_n, isD_tuple_b, isD_tuple_i, isD_tuple_s, isD_tuple_l, isD_tuple_t, isD_tuple_d, isD_tuple_o, isD_dict_n, isD_dict_b, isD_dict_i, isD_dict_s, isD_dict_l, isD_dict_t, isD_dict_d, isD_dict_o, isC, opEq, shp_i, shp_b, shp_n, eq_ii, eq_bb, opFld, T.fsub, Sh.fsub, mSetI, mSetF, getAt, putAt, ownAt, setOwn, pathS, pathD, putS, putD, mpV, mpF, mpI, gEither, gSetL, gSetD, callV, takes, argSlots, argSlot, backs, outT, runC, fill, mCallD, methV, mMeth, mNew, runN, newV, partV, putFld, Sh.snoc, Sh.putN, Sh.nth, Ex.p, Exs.p, Exs.len, mChn, mMid, mLast, mMut, Mo.g, gAppend, opDNew, at_i, at_b, at_s, at_n, at_l, at_t, at_d, at_o, opInD, opIn_l, opIn_d, opIxD, dPut, ev1, ev2, atI_0, atI_1, atI_2, atI_3, atI_4, ixN, mSeqI, seqI, srcT, mRng1, mRng2, mRng3, mEnum, enumI, mZip, zipI, wipeE, restoreE, unlockE, unlock, plainS, R.w, Ow, Oz, finEnv, keepMu, mul_ok, mul_ok2, div_ok, mod_ok, mRaise, initR, raiseF, xInit, xFl, mTry, mHand, hsRun, freeO, clrO, HcT.v, HsT.v, hxV, hxVs, hFld, hTup, hAll, *])
local macro_rules | `(tactic| walk_at "nil") => `(tactic| (refine w_nil ?_; try dsimp only))
local macro_rules | `(tactic| walk_at "s") => `(tactic| refine w_nx (by walk_at "py"; rfl) ?_)
local macro_rules | `(tactic| walk_at "q") => `(tactic| (first | rfl | exact ⟨rfl, rfl⟩ | exact ⟨rfl, rfl, rfl⟩))
local macro_rules | `(tactic| walk_at "t") => `(tactic| (refine w_ite (q := true) (by walk_at "py"; walk_at "q") (fun _ => ?_) (fun z => by cases z)))
local macro_rules | `(tactic| walk_at "f") => `(tactic| (refine w_ite (q := false) (by walk_at "py"; walk_at "q") (fun z => by cases z) (fun _ => ?_)))
local macro_rules | `(tactic| walk_at "r") => `(tactic| refine w_rt (by walk_at "py"; walk_at "q") ?_)
local macro_rules | `(tactic| walk_at "x") => `(tactic| refine w_xx (by walk_at "py"; walk_at "q") ?_)
local macro_rules | `(tactic| walk_at "fnx") => `(tactic| (refine w_fnx ?_; simp only [List.length_cons, List.length_nil, Nat.zero_add, Nat.reduceAdd, Nat.reduceSub, Nat.sub_self, List.replicate_succ, List.replicate_zero, List.cons_append, List.nil_append, List.append_nil]))
local macro_rules | `(tactic| walk_at "fn") => `(tactic| (refine w_fn ?_; simp only [List.length_cons, List.length_nil, Nat.zero_add, Nat.reduceAdd, Nat.reduceSub, Nat.sub_self, List.replicate_succ, List.replicate_zero, List.cons_append, List.nil_append, List.append_nil]))
def isI : D → Bool
  | .int _ => true
  | _ => false
def btw (lo hi : Int) : D → Bool
  | .int i => decide (lo ≤ i) && decide (i ≤ hi)
  | _ => false
def isSpot : D → Bool
  | .tup [a, b] => isI a && isI b
  | _ => false
def isPP : D → Bool
  | .tup [a, b] => btw 0 7 a && btw 0 7 b
  | _ => false
/-- a slot that is read -/
inductive Rd : Slot → D → Prop
  | fz {d : D} : Rd (.fz d) d
  | bo {k : Sh} {d : D} : Rd (.bo k d) d
  | ow {k : Sh} {d : D} : Rd (.ow k d) d
theorem fin1 {s : Slot} {d : D} (h : Rd s d) (u : Slot) : keepMu s u = .un := by cases h <;> rfl
theorem f1s {T : Tab} [H1 T] (k : Nat) {s : Slot} {d : D} (h : Rd s d) : Fn T (k + 2) 1 [s] = .ok ⟨.f, .bl (isI d)⟩ [.un] := by
  refine FR.eq_of ?_
  rw [fq1]
  walk_at "fn"
  unfold B1
  cases h <;> cases d <;> (walk_at "r"; exact ⟨rfl, rfl, rfl⟩)
@[simp] theorem f1a {T : Tab} [H1 T] (k : Nat) {d : D} : Fn T (k + 2) 1 [.fz d] = .ok ⟨.f, .bl (isI d)⟩ [.un] := f1s k .fz
@[simp] theorem f1b {T : Tab} [H1 T] (k : Nat) {d : D} {q : Sh} : Fn T (k + 2) 1 [.bo q d] = .ok ⟨.f, .bl (isI d)⟩ [.un] := f1s k .bo
@[simp] theorem f1c {T : Tab} [H1 T] (k : Nat) {d : D} {q : Sh} : Fn T (k + 2) 1 [.ow q d] = .ok ⟨.f, .bl (isI d)⟩ [.un] := f1s k .ow
theorem f2s {T : Tab} [H1 T] [H2 T] (k : Nat) {s : Slot} {d : D} (h : Rd s d) (lo hi : Int) : Fn T (k + 3) 2 [s, .fz (.int lo), .fz (.int hi)] = .ok ⟨.f, .bl (btw lo hi d)⟩ [.un, .un, .un] := by
  refine FR.eq_of ?_
  rw [fq2]
  walk_at "fn"
  unfold B2
  by_cases h0 : isI d = true
  · cases d with
    | int i =>
      by_cases h1 : lo ≤ i
      · cases h <;> (walk_at "r"; exact ⟨rfl, by simp [btw, h1], rfl⟩)
      · cases h <;> (walk_at "r"; exact ⟨rfl, by simp [btw, h1], rfl⟩)
    | _ => cases h0
  · have h0 : isI d = false := by simpa using h0
    have e : btw lo hi d = false := by cases d <;> first | rfl | cases h0
    cases h <;> (walk_at "r"; exact ⟨rfl, by rw [e], rfl⟩)
@[simp] theorem f2a {T : Tab} [H1 T] [H2 T] (k : Nat) {d : D} (lo hi : Int) : Fn T (k + 3) 2 [.fz d, .fz (.int lo), .fz (.int hi)] = .ok ⟨.f, .bl (btw lo hi d)⟩ [.un, .un, .un] := f2s k .fz lo hi
@[simp] theorem f2b {T : Tab} [H1 T] [H2 T] (k : Nat) {d : D} {q : Sh} (lo hi : Int) : Fn T (k + 3) 2 [.bo q d, .fz (.int lo), .fz (.int hi)] = .ok ⟨.f, .bl (btw lo hi d)⟩ [.un, .un, .un] := f2s k .bo lo hi
theorem f3s {T : Tab} [H1 T] [H3 T] (k : Nat) {s : Slot} {d : D} (h : Rd s d) : Fn T (k + 3) 3 [s] = .ok ⟨.f, .bl (isSpot d)⟩ [.un] := by
  refine FR.eq_of ?_
  rw [fq3]
  walk_at "fn"
  unfold B3
  cases d with
  | tup ds =>
    match ds with
    | [] => cases h <;> (walk_at "r"; exact ⟨rfl, rfl, rfl⟩)
    | [a] => cases h <;> (walk_at "r"; exact ⟨rfl, rfl, rfl⟩)
    | [a, b] =>
      cases ha : isI a
      · cases h <;> (walk_at "r"; exact ⟨rfl, by simp [isSpot, ha], rfl⟩)
      · cases h <;> (walk_at "r"; exact ⟨rfl, by simp [isSpot, ha], rfl⟩)
    | a :: b :: c :: r =>
      have h3 : ¬ ((r.length : Int) + 1 + 1 + 1 = 2) := by omega
      cases h <;> (walk_at "r"; exact ⟨rfl, by simp [isSpot], rfl⟩)
  | _ => cases h <;> (walk_at "r"; exact ⟨rfl, rfl, rfl⟩)
@[simp] theorem f3a {T : Tab} [H1 T] [H3 T] (k : Nat) {d : D} : Fn T (k + 3) 3 [.fz d] = .ok ⟨.f, .bl (isSpot d)⟩ [.un] := f3s k .fz
@[simp] theorem f3b {T : Tab} [H1 T] [H3 T] (k : Nat) {d : D} {q : Sh} : Fn T (k + 3) 3 [.bo q d] = .ok ⟨.f, .bl (isSpot d)⟩ [.un] := f3s k .bo
@[simp] theorem f3c {T : Tab} [H1 T] [H3 T] (k : Nat) {d : D} {q : Sh} : Fn T (k + 3) 3 [.ow q d] = .ok ⟨.f, .bl (isSpot d)⟩ [.un] := f3s k .ow
theorem isPP_spot {d : D} (h : isPP d = true) : ∃ i j, d = .tup [.int i, .int j] ∧ 0 ≤ i ∧ i ≤ 7 ∧ 0 ≤ j ∧ j ≤ 7 := by
  match d, h with
  | .tup [a, b], h =>
    cases a <;> simp [isPP, btw] at h
    cases b <;> simp [btw] at h
    exact ⟨_, _, rfl, by omega, by omega, by omega, by omega⟩
theorem f4s {T : Tab} [H1 T] [H2 T] [H3 T] [H4 T] (k : Nat) {s : Slot} {d : D} (h : Rd s d) : Fn T (k + 4) 4 [s] = .ok ⟨.f, .bl (isPP d)⟩ [.un] := by
  refine FR.eq_of ?_
  rw [fq4]
  walk_at "fn"
  unfold B4
  cases hs : isSpot d
  · have e : isPP d = false := by
      cases hp : isPP d with
      | false => rfl
      | true => obtain ⟨i, j, rfl, _⟩ := isPP_spot hp; cases hs
    cases h <;> (walk_at "r"; exact ⟨rfl, by rw [e], rfl⟩)
  · match d, hs with
    | .tup [a, b], hs =>
      have e : isPP (.tup [a, b]) = (btw 0 7 a && btw 0 7 b) := rfl
      rw [e]
      cases ha : btw 0 7 a
      · cases h <;> (walk_at "r"; exact ⟨rfl, by simp, rfl⟩)
      · cases h <;> (walk_at "r"; exact ⟨rfl, by simp, rfl⟩)
@[simp] theorem f4a {T : Tab} [H1 T] [H2 T] [H3 T] [H4 T] (k : Nat) {d : D} : Fn T (k + 4) 4 [.fz d] = .ok ⟨.f, .bl (isPP d)⟩ [.un] := f4s k .fz
@[simp] theorem f4b {T : Tab} [H1 T] [H2 T] [H3 T] [H4 T] (k : Nat) {d : D} {q : Sh} : Fn T (k + 4) 4 [.bo q d] = .ok ⟨.f, .bl (isPP d)⟩ [.un] := f4s k .bo
end Py

set_option Elab.async false
set_option linter.all false
set_option maxRecDepth 100000
set_option maxHeartbeats 1000000
/-! LCopy: copied 0; the errors. -/
namespace Py
open PySem L2 Cat
local macro_rules | `(tactic| walk_at "py") => `(tactic| simp [run_try, runs_1, runs_nil, run_pass, run_brk, run_cont, run_ret, run_set, run_ex, run_ite, run_seti, run_setf, run_aug, mSet, fAug, mOp, tyL, ev_c, ev_v, ev_op, ev_not, ev_and, ev_or, ev_ife, ev_cee, ev_cet, ev_cte, ev_ctt, ev_call, ev_meth, ev_new, ev_mut, evs, evI, evP, mThen, mPass, mBreak, mCont, R.bind, R.map, mOpO, ownNo, ownR, ownRun, applyPost, swp, sw2, gBool, gNotB, gLen_ok, Bo.own, Bo.op, Bo.ci, opEither, opA, opI2, fSub, fPow, fLt, fLe, fGt, fGe, powOk, opAdd, elF, szOk, Sh.flat, evNil, evCons, evTail, refix, T.isB, mV, mC, mNot, mAnd, mOr, mIfE, mIf, mRet, outV, mDrop, slotOf, setSlot, fr_un, fr_fz, fr_bo, fr_ow, asgT, asgTs, asI, asItem, aTp, aNil, aCons, fgT, mkV_f, mkV_i, mkV_b, mkV_s, mkV_n, mkV_t, mkV_l, mkV_d, mkV_o, T.sub, mkT, Sh.sub, frzV, frzAll, opLst, opTup, opSz, opIx, opLen, opList, opTuple, opInt, opAbs, opMax, opMin, opSl, partsOf, opNeg, opIsN, isN_n, isN_b, isN_i, isN_s, isN_l, isN_t, isN_d, isN_o, opIsT, opIsC, isD_int_n, isD_int_b, isD_int_i, isD_int_s, isD_int_l, isD_int_t, isD_int_d, isD_int_o, isD_bool_n, isD_bool_b, isD_bool_i, isD_bool_s, isD_bool_l, isD_bool_t, isD_bool_d, isD_bool_o, isD_str_n, isD_str_b, isD_str_i, isD_str_s, isD_str_l, isD_str_t, isD_str_d, isD_str_o, isD_list_n, isD_list_b, isD_list_i, isD_list_s, isD_list_l, isD_list_t, isD_list_d, isD_list_o, isD_tuple_n, isD_tuple_b, isD_tuple_i, isD_tuple_s, isD_tuple_l, isD_tuple_t, isD_tuple_d, isD_tuple_o, isD_dict_n, isD_dict_b, isD_dict_i, isD_dict_s, isD_dict_l, isD_dict_t, isD_dict_d, isD_dict_o, isC, opEq, shp_i, shp_b, shp_n, eq_ii, eq_bb, opFld, T.fsub, Sh.fsub, mSetI, mSetF, getAt, putAt, ownAt, setOwn, pathS, pathD, putS, putD, mpV, mpF, mpI, gEither, gSetL, gSetD, callV, takes, argSlots, argSlot, backs, outT, runC, fill, mCallD, methV, mMeth, mNew, runN, newV, partV, putFld, Sh.snoc, Sh.putN, Sh.nth, Ex.p, Exs.p, Exs.len, mChn, mMid, mLast, mMut, Mo.g, gAppend, opDNew, at_i, at_b, at_s, at_n, at_l, at_t, at_d, at_o, opInD, opIn_l, opIn_d, opIxD, dPut, ev1, ev2, atI_0, atI_1, atI_2, atI_3, atI_4, ixN, mSeqI, seqI, srcT, mRng1, mRng2, mRng3, mEnum, enumI, mZip, zipI, wipeE, restoreE, unlockE, unlock, plainS, R.w, Ow, Oz, finEnv, keepMu, mul_ok, mul_ok2, div_ok, mod_ok, mRaise, initR, raiseF, xInit, xFl, mTry, mHand, hsRun, freeO, clrO, HcT.v, HsT.v, hxV, hxVs, hFld, hTup, hAll, *])
local macro_rules | `(tactic| walk_at "nil") => `(tactic| (refine w_nil ?_; try dsimp only))
local macro_rules | `(tactic| walk_at "s") => `(tactic| refine w_nx (by walk_at "py"; rfl) ?_)
local macro_rules | `(tactic| walk_at "q") => `(tactic| (first | rfl | exact ⟨rfl, rfl⟩ | exact ⟨rfl, rfl, rfl⟩))
local macro_rules | `(tactic| walk_at "t") => `(tactic| (refine w_ite (q := true) (by walk_at "py"; walk_at "q") (fun _ => ?_) (fun z => by cases z)))
local macro_rules | `(tactic| walk_at "f") => `(tactic| (refine w_ite (q := false) (by walk_at "py"; walk_at "q") (fun z => by cases z) (fun _ => ?_)))
local macro_rules | `(tactic| walk_at "r") => `(tactic| refine w_rt (by walk_at "py"; walk_at "q") ?_)
local macro_rules | `(tactic| walk_at "x") => `(tactic| refine w_xx (by walk_at "py"; walk_at "q") ?_)
local macro_rules | `(tactic| walk_at "fnx") => `(tactic| (refine w_fnx ?_; simp only [List.length_cons, List.length_nil, Nat.zero_add, Nat.reduceAdd, Nat.reduceSub, Nat.sub_self, List.replicate_succ, List.replicate_zero, List.cons_append, List.nil_append, List.append_nil]))
local macro_rules | `(tactic| walk_at "fn") => `(tactic| (refine w_fn ?_; simp only [List.length_cons, List.length_nil, Nat.zero_add, Nat.reduceAdd, Nat.reduceSub, Nat.sub_self, List.replicate_succ, List.replicate_zero, List.cons_append, List.nil_append, List.append_nil]))
mutual
/-- how deep lists and tuples are nested -/
def dp : D → Nat
  | .lst ds => dps ds + 1
  | .tup ds => dps ds + 1
  | _ => 0
def dps : List D → Nat
  | [] => 0
  | d :: r => max (dp d) (dps r)
end
theorem dps_mem {d : D} : ∀ {ds : List D}, d ∈ ds → dp d ≤ dps ds
  | a :: r, h => by
    unfold dps
    rcases List.mem_cons.mp h with rfl | h
    · omega
    · have := dps_mem h; omega
def cpT : D → Py.T
  | .lst _ => .o (.l .f)
  | _ => .f
theorem cp_items {T : Tab} [H0 T] (Φ Ψ : Nat → FM) (ds : List D) (hl : ds.length ≤ 1000000) (h : ∀ d ∈ ds, Φ 0 [.fz d] = .ok ⟨cpT d, d⟩ [.un]) (s : Slot) :
    compLoop [1] (asI (.nm 1)) (ev T Φ Ψ (.c (.bl true))) (ev T Φ Ψ (.call 0 false (.cons (.v 1) .nil))) (ds.map fun d => .one ⟨.f, d⟩) [] [s, .un] = .ok ds [s, .un] := by
  have := comp_map2 (vs := [1]) (as := asI (.nm 1)) (tst := ev T Φ Ψ (.c (.bl true))) (elt := ev T Φ Ψ (.call 0 false (.cons (.v 1) .nil))) itD (its := ds.map fun d => .one ⟨.f, d⟩) (env := [s, .un]) (by simpa using hl) ?_
  · rw [this, List.map_map]
    congr 1
    conv => rhs; rw [← List.map_id ds]
    rfl
  · intro it hit
    obtain ⟨d, hd, rfl⟩ := List.mem_map.mp hit
    have hc := h d hd
    clear h hit
    cases d <;> (simp only [cpT] at hc; walk_at "py"; try simp [itD])
mutual
/-- no list in it is too long -/
def okD : D → Bool
  | .lst ds => decide (ds.length ≤ 1000000) && okDs ds
  | .tup ds => decide (ds.length ≤ 1000000) && okDs ds
  | _ => true
def okDs : List D → Bool
  | [] => true
  | d :: r => okD d && okDs r
end
theorem okDs_mem {d : D} : ∀ {ds : List D}, d ∈ ds → okDs ds = true → okD d = true
  | a :: r, h, e => by
    unfold okDs at e
    obtain ⟨e1, e2⟩ := Bool.and_eq_true_iff.mp e
    rcases List.mem_cons.mp h with rfl | h
    · exact e1
    · exact okDs_mem h e2
theorem items_f (ds : List D) : itemsOf .f ds = ds.map fun d => .one ⟨.f, d⟩ := by
  unfold itemsOf
  refine List.map_congr_left fun d _ => ?_
  show Item.one (mkV T.f.sub d) = _
  unfold T.sub
  rw [mkV_f]
theorem cp {T : Tab} [H0 T] : ∀ (n : Nat) (d : D), dp d ≤ n → okD d = true → ∀ k, Fn T (k + 2 + n) 0 [.fz d] = .ok ⟨cpT d, d⟩ [.un] := by
  intro n
  induction n with
  | zero =>
    intro d hd ho k
    refine FR.eq_of ?_
    rw [show k + 2 + 0 = k + 2 by omega, fq0]
    walk_at "fn"
    unfold B0
    cases d with
    | lst ds => simp [dp] at hd
    | tup ds => simp [dp] at hd
    | _ =>
      refine w_seq ?_
      walk_at "f"
      walk_at "nil"
      refine w_seq ?_
      walk_at "f"
      walk_at "nil"
      walk_at "r"
      exact ⟨rfl, rfl, rfl⟩
  | succ n ih =>
    intro d hd ho k
    refine FR.eq_of ?_
    rw [show k + 2 + (n + 1) = (k + 1 + n) + 2 by omega, fq0]
    walk_at "fn"
    unfold B0
    have il : ∀ ds : List D, dps ds ≤ n → okDs ds = true → ∀ e ∈ ds, Fn T (k + 1 + n + 1) 0 [.fz e] = .ok ⟨cpT e, e⟩ [.un] := fun ds h1 h2 e he => by
      have := ih e (by have := dps_mem he; omega) (okDs_mem he h2) k
      rw [show k + 1 + n + 1 = k + 2 + n by omega]
      exact this
    cases d with
    | lst ds =>
      simp only [dp] at hd
      unfold okD at ho
      obtain ⟨ho1, ho2⟩ := Bool.and_eq_true_iff.mp ho
      have hc := cp_items (T := T) (Fn T (k + 1 + n + 1)) (Fn T (k + 1 + n)) ds (of_decide_eq_true ho1) (il ds (by omega) ho2) (.fz (.lst ds))
      have he := comp_is (T := T) (Φ := Fn T (k + 1 + n + 1)) (Ψ := Fn T (k + 1 + n)) (s := .sq (.v 0)) (vs := [1]) (t := .nm 1) (u := .c (.bl true)) (e := .call 0 false (.cons (.v 1) .nil)) (env := [.fz (.lst ds), .un])
        (its := itemsOf .f ds) (ls := []) (e1 := [.fz (.lst ds), .un]) (ds := ds) (e' := [.fz (.lst ds), .un]) (by walk_at "py") rfl (by rw [items_f]; exact hc)
      simp only [unlockE, restoreE] at he
      clear hc ih il
      refine w_seq ?_
      walk_at "t"
      walk_at "r"
      exact ⟨rfl, rfl, rfl⟩
    | tup ds =>
      simp only [dp] at hd
      unfold okD at ho
      obtain ⟨ho1, ho2⟩ := Bool.and_eq_true_iff.mp ho
      have hc := cp_items (T := T) (Fn T (k + 1 + n + 1)) (Fn T (k + 1 + n)) ds (of_decide_eq_true ho1) (il ds (by omega) ho2) (.fz (.tup ds))
      have he := comp_is (T := T) (Φ := Fn T (k + 1 + n + 1)) (Ψ := Fn T (k + 1 + n)) (s := .sq (.v 0)) (vs := [1]) (t := .nm 1) (u := .c (.bl true)) (e := .call 0 false (.cons (.v 1) .nil)) (env := [.fz (.tup ds), .un])
        (its := ds.map fun d => .one ⟨.f, d⟩) (ls := []) (e1 := [.fz (.tup ds), .un]) (ds := ds) (e' := [.fz (.tup ds), .un]) (by walk_at "py") rfl hc
      simp only [unlockE, restoreE] at he
      clear hc ih il
      refine w_seq ?_
      walk_at "f"
      walk_at "nil"
      refine w_seq ?_
      walk_at "t"
      walk_at "r"
      exact ⟨rfl, rfl, rfl⟩
    | _ =>
      clear il ih
      refine w_seq ?_
      walk_at "f"
      walk_at "nil"
      refine w_seq ?_
      walk_at "f"
      walk_at "nil"
      walk_at "r"
      exact ⟨rfl, rfl, rfl⟩
@[simp] theorem cp_at {T : Tab} [H0 T] (k : Nat) {d : D} (h : isAtom d = true) : Fn T (k + 2) 0 [.fz d] = .ok ⟨.f, d⟩ [.un] := by
  have : cpT d = .f := by cases d <;> first | rfl | cases h
  have h2 := cp (T := T) 0 d (by cases d <;> first | (simp [dp]; done) | cases h) (by cases d <;> first | (simp [okD]; done) | cases h) k
  rw [this] at h2
  exact h2
theorem frz_cp {d : D} (e : Env) : frzV ⟨cpT d, d⟩ e = some (d, e) := by cases d <;> rfl
/-- an error with one field, with two -/
theorem cpT_or (d : D) : cpT d = .f ∨ cpT d = .o (.l .f) := by cases d <;> simp [cpT]
theorem x1 {T : Tab} [H0 T] {Φ Ψ : Nat → FM} {c : Nat} {f : Str} {d : D} (h : Φ 0 [.fz d] = .ok ⟨cpT d, d⟩ [.un]) : xInit T Φ Ψ c (.cons (.setf (.v 0) f (.call 0 false (.cons (.v 1) .nil))) .nil) [.fz d] = .ex c [d] [.un] := by
  rcases cpT_or d with e | e <;> rw [e] at h <;> walk_at "py"
theorem x2 {T : Tab} [H0 T] {Φ Ψ : Nat → FM} {c : Nat} {f g : Str} {d d' : D} (h : Φ 0 [.fz d] = .ok ⟨cpT d, d⟩ [.un]) (h' : Φ 0 [.fz d'] = .ok ⟨cpT d', d'⟩ [.un]) : xInit T Φ Ψ c (.cons (.setf (.v 0) f (.call 0 false (.cons (.v 1) .nil))) (.cons (.setf (.v 0) g (.call 0 false (.cons (.v 2) .nil))) .nil)) [.fz d, .fz d'] = .ex c [d, d'] [.un, .un] := by
  rcases cpT_or d with e | e <;> rcases cpT_or d' with e' | e' <;> rw [e] at h <;> rw [e'] at h' <;> walk_at "py"
theorem fx13 {T : Tab} [H0 T] [H13 T] [X3 T] (k n : Nat) {d : D} (h : dp d ≤ n) (ho : okD d = true) : Fn T (k + 3 + n) 13 [.fz d] = .ex 3 [d] [.un] := by
  rw [show k + 3 + n = (k + 1 + n) + 2 by omega, fq13]
  refine x1 ?_
  have := cp (T := T) n d h ho k
  rw [show k + 1 + n + 1 = k + 2 + n by omega]
  exact this
@[simp] theorem fy13 {T : Tab} [H0 T] [H13 T] [X3 T] (k : Nat) {d : D} (h : isAtom d = true) : Fn T (k + 3) 13 [.fz d] = .ex 3 [d] [.un] := by
  have := fx13 (T := T) k 0 (d := d) (by cases d <;> first | (simp [dp]; done) | cases h) (by cases d <;> first | (simp [okD]; done) | cases h)
  exact this
theorem fx21 {T : Tab} [H0 T] [H21 T] [X5 T] (k n : Nat) {d : D} (h : dp d ≤ n) (ho : okD d = true) : Fn T (k + 3 + n) 21 [.fz d] = .ex 5 [d] [.un] := by
  rw [show k + 3 + n = (k + 1 + n) + 2 by omega, fq21]
  refine x1 ?_
  have := cp (T := T) n d h ho k
  rw [show k + 1 + n + 1 = k + 2 + n by omega]
  exact this
@[simp] theorem fy21 {T : Tab} [H0 T] [H21 T] [X5 T] (k : Nat) {d : D} (h : isAtom d = true) : Fn T (k + 3) 21 [.fz d] = .ex 5 [d] [.un] := by
  have := fx21 (T := T) k 0 (d := d) (by cases d <;> first | (simp [dp]; done) | cases h) (by cases d <;> first | (simp [okD]; done) | cases h)
  exact this
theorem fx63 {T : Tab} [H0 T] [H63 T] [X4 T] (k n : Nat) {d : D} (h : dp d ≤ n) (ho : okD d = true) : Fn T (k + 3 + n) 63 [.fz d] = .ex 4 [d] [.un] := by
  rw [show k + 3 + n = (k + 1 + n) + 2 by omega, fq63]
  refine x1 ?_
  have := cp (T := T) n d h ho k
  rw [show k + 1 + n + 1 = k + 2 + n by omega]
  exact this
@[simp] theorem fy63 {T : Tab} [H0 T] [H63 T] [X4 T] (k : Nat) {d : D} (h : isAtom d = true) : Fn T (k + 3) 63 [.fz d] = .ex 4 [d] [.un] := by
  have := fx63 (T := T) k 0 (d := d) (by cases d <;> first | (simp [dp]; done) | cases h) (by cases d <;> first | (simp [okD]; done) | cases h)
  exact this
end Py

set_option Elab.async false
set_option linter.all false
set_option maxRecDepth 100000
set_option maxHeartbeats 1000000
/-! LSame: a law's own comparison, by its tree. -/
namespace Py
open PySem L2 Cat
local macro_rules | `(tactic| walk_at "py") => `(tactic| simp [run_try, runs_1, runs_nil, run_pass, run_brk, run_cont, run_ret, run_set, run_ex, run_ite, run_seti, run_setf, run_aug, mSet, fAug, mOp, tyL, ev_c, ev_v, ev_op, ev_not, ev_and, ev_or, ev_ife, ev_cee, ev_cet, ev_cte, ev_ctt, ev_call, ev_meth, ev_new, ev_mut, evs, evI, evP, mThen, mPass, mBreak, mCont, R.bind, R.map, mOpO, ownNo, ownR, ownRun, applyPost, swp, sw2, gBool, gNotB, gLen_ok, Bo.own, Bo.op, Bo.ci, opEither, opA, opI2, fSub, fPow, fLt, fLe, fGt, fGe, powOk, opAdd, elF, szOk, Sh.flat, evNil, evCons, evTail, refix, T.isB, mV, mC, mNot, mAnd, mOr, mIfE, mIf, mRet, outV, mDrop, slotOf, setSlot, fr_un, fr_fz, fr_bo, fr_ow, asgT, asgTs, asI, asItem, aTp, aNil, aCons, fgT, mkV_f, mkV_i, mkV_b, mkV_s, mkV_n, mkV_t, mkV_l, mkV_d, mkV_o, T.sub, mkT, Sh.sub, frzV, frzAll, opLst, opTup, opSz, opIx, opLen, opList, opTuple, opInt, opAbs, opMax, opMin, opSl, partsOf, opNeg, opIsN, isN_n, isN_b, isN_i, isN_s, isN_l, isN_t, isN_d, isN_o, opIsT, opIsC, isD_int_n, isD_int_b, isD_int_i, isD_int_s, isD_int_l, isD_int_t, isD_int_d, isD_int_o, isD_bool_n, isD_bool_b, isD_bool_i, isD_bool_s, isD_bool_l, isD_bool_t, isD_bool_d, isD_bool_o, isD_str_n, isD_str_b, isD_str_i, isD_str_s, isD_str_l, isD_str_t, isD_str_d, isD_str_o, isD_list_n, isD_list_b, isD_list_i, isD_list_s, isD_list_l, isD_list_t, isD_list_d, isD_list_o, isD_tuple_n, isD_tuple_b, isD_tuple_i, isD_tuple_s, isD_tuple_l, isD_tuple_t, isD_tuple_d, isD_tuple_o, isD_dict_n, isD_dict_b, isD_dict_i, isD_dict_s, isD_dict_l, isD_dict_t, isD_dict_d, isD_dict_o, isC, opEq, shp_i, shp_b, shp_n, eq_ii, eq_bb, opFld, T.fsub, Sh.fsub, mSetI, mSetF, getAt, putAt, ownAt, setOwn, pathS, pathD, putS, putD, mpV, mpF, mpI, gEither, gSetL, gSetD, callV, takes, argSlots, argSlot, backs, outT, runC, fill, mCallD, methV, mMeth, mNew, runN, newV, partV, putFld, Sh.snoc, Sh.putN, Sh.nth, Ex.p, Exs.p, Exs.len, mChn, mMid, mLast, mMut, Mo.g, gAppend, opDNew, at_i, at_b, at_s, at_n, at_l, at_t, at_d, at_o, opInD, opIn_l, opIn_d, opIxD, dPut, ev1, ev2, atI_0, atI_1, atI_2, atI_3, atI_4, ixN, mSeqI, seqI, srcT, mRng1, mRng2, mRng3, mEnum, enumI, mZip, zipI, wipeE, restoreE, unlockE, unlock, plainS, R.w, Ow, Oz, finEnv, keepMu, mul_ok, mul_ok2, div_ok, mod_ok, mRaise, initR, raiseF, xInit, xFl, mTry, mHand, hsRun, freeO, clrO, HcT.v, HsT.v, hxV, hxVs, hFld, hTup, hAll, *])
local macro_rules | `(tactic| walk_at "nil") => `(tactic| (refine w_nil ?_; try dsimp only))
local macro_rules | `(tactic| walk_at "s") => `(tactic| refine w_nx (by walk_at "py"; rfl) ?_)
local macro_rules | `(tactic| walk_at "q") => `(tactic| (first | rfl | exact ⟨rfl, rfl⟩ | exact ⟨rfl, rfl, rfl⟩))
local macro_rules | `(tactic| walk_at "t") => `(tactic| (refine w_ite (q := true) (by walk_at "py"; walk_at "q") (fun _ => ?_) (fun z => by cases z)))
local macro_rules | `(tactic| walk_at "f") => `(tactic| (refine w_ite (q := false) (by walk_at "py"; walk_at "q") (fun z => by cases z) (fun _ => ?_)))
local macro_rules | `(tactic| walk_at "r") => `(tactic| refine w_rt (by walk_at "py"; walk_at "q") ?_)
local macro_rules | `(tactic| walk_at "x") => `(tactic| refine w_xx (by walk_at "py"; walk_at "q") ?_)
local macro_rules | `(tactic| walk_at "fnx") => `(tactic| (refine w_fnx ?_; simp only [List.length_cons, List.length_nil, Nat.zero_add, Nat.reduceAdd, Nat.reduceSub, Nat.sub_self, List.replicate_succ, List.replicate_zero, List.cons_append, List.nil_append, List.append_nil]))
local macro_rules | `(tactic| walk_at "fn") => `(tactic| (refine w_fn ?_; simp only [List.length_cons, List.length_nil, Nat.zero_add, Nat.reduceAdd, Nat.reduceSub, Nat.sub_self, List.replicate_succ, List.replicate_zero, List.cons_append, List.nil_append, List.append_nil]))
def sameB (f : Nat) : Sms := (.cons (.ite (.op .isN (.cons (.v 1) .nil)) (.cons (.ret (.op .isN (.cons (.v 0) .nil))) .nil) .nil) (.cons (.ite (.op (.isT .bool) (.cons (.v 1) .nil)) (.cons (.ret (.and (.op (.isT .bool) (.cons (.v 0) .nil)) (.op .eq (.cons (.v 0) (.cons (.v 1) .nil))))) .nil) .nil) (.cons (.ite (.op (.isT .int) (.cons (.v 1) .nil)) (.cons (.ret (.and (.op (.isT .int) (.cons (.v 0) .nil)) (.and (.not (.op (.isT .bool) (.cons (.v 0) .nil))) (.op .eq (.cons (.v 0) (.cons (.v 1) .nil)))))) .nil) .nil) (.cons (.ite (.op (.isT .str) (.cons (.v 1) .nil)) (.cons (.ret (.and (.op (.isT .str) (.cons (.v 0) .nil)) (.op .eq (.cons (.v 0) (.cons (.v 1) .nil))))) .nil) .nil) (.cons (.ite (.op (.isT .list) (.cons (.v 1) .nil)) (.cons (.ite (.not (.op (.isT .list) (.cons (.v 0) .nil))) (.cons (.ret (.c (.bl false))) .nil) .nil) .nil) (.cons (.ite (.not (.op (.isT .tuple) (.cons (.v 0) .nil))) (.cons (.ret (.c (.bl false))) .nil) .nil) .nil)) (.cons (.ite (.op .ne (.cons (.op .len (.cons (.v 0) .nil)) (.cons (.op .len (.cons (.v 1) .nil)) .nil))) (.cons (.ret (.c (.bl false))) .nil) .nil) (.cons (.for_ (.r1 (.cons (.op .len (.cons (.v 1) .nil)) .nil)) (.nm 2) (.cons (.ite (.not (.call f false (.cons (.op .ix (.cons (.v 0) (.cons (.v 2) .nil))) (.cons (.op .ix (.cons (.v 1) (.cons (.v 2) .nil))) .nil)))) (.cons (.ret (.c (.bl false))) .nil) .nil) .nil)) (.cons (.ret (.c (.bl true))) .nil))))))))
def sameF (f : Nat) : Fi := ⟨2, 0, [], [], 3, sameB f, none, none⟩
mutual
/-- atoms, lists and tuples, none too long -/
def pl : D → Bool
  | .lst ds => decide (ds.length ≤ 1000000) && pls ds
  | .tup ds => decide (ds.length ≤ 1000000) && pls ds
  | .dic _ _ => false
  | .obj _ _ => false
  | .str s => shp (.str s)
  | _ => true
def pls : List D → Bool
  | [] => true
  | d :: r => pl d && pls r
end
theorem pls_mem {d : D} : ∀ {ds : List D}, d ∈ ds → pls ds = true → pl d = true
  | a :: r, h, e => by
    unfold pls at e
    obtain ⟨e1, e2⟩ := Bool.and_eq_true_iff.mp e
    rcases List.mem_cons.mp h with rfl | h
    · exact e1
    · exact pls_mem h e2
open Classical in
noncomputable def same (a b : D) : Bool := decide (a = b)
@[simp] theorem same_refl (a : D) : same a a = true := by simp [same]
theorem same_iff {a b : D} : same a b = true ↔ a = b := by simp [same]
theorem same_ne {a b : D} (h : a ≠ b) : same a b = false := by simp [same, h]
@[simp] theorem same_ii {i j : Int} : same (.int i) (.int j) = decide (i = j) := by simp [same]
@[simp] theorem same_bb {i j : Bool} : same (.bl i) (.bl j) = (i == j) := by cases i <;> cases j <;> simp [same]
@[simp] theorem same_ss {i j : Str} : same (.str i) (.str j) = decide (i = j) := by simp [same]
theorem eq_ss {i j : Str} : eqvD (.str i) (.str j) = decide (i = j) := by simp only [eqvD, toP, PyData.eqv]; rfl
/-- a slot whose data are read: atoms and tuples stand frozen, a list may be own at the top -/
inductive Rf : Slot → D → Prop
  | fz {d : D} : Rf (.fz d) d
  | bo {ds : List D} : Rf (.bo (.l .f) (.lst ds)) (.lst ds)
  | ow {ds : List D} : Rf (.ow (.l .f) (.lst ds)) (.lst ds)
theorem Rf.fin {s : Slot} {d : D} (h : Rf s d) (u : Slot) : keepMu s u = .un := by cases h <;> rfl
theorem Rf.at {s : Slot} {d : D} (h : Rf s d) (hd : isD .list d = false) : s = .fz d := by cases h <;> first | rfl | cases hd
/-- items of a list or a tuple, with a slot's reading -/
theorem rf_ix {T : Tab} {Φ Ψ : Nat → FM} {s : Slot} {ds : List D} {d : D} {env : Env} {j i : Nat} {x : Int} (hi : env[j]? = some s) (hr : Rf s (.lst ds) ∨ s = .fz (.tup ds)) (hx : env[i]? = some (.fz (.int x))) (hd : atI ds x = some d) :
    ev T Φ Ψ (.op .ix (.cons (.v j) (.cons (.v i) .nil))) env = .ok ⟨.f, d⟩ env := by
  rcases hr with hr | rfl
  · cases hr with
    | fz => walk_at "py"
    | bo => walk_at "py"
    | ow => walk_at "py"
  · walk_at "py"
theorem is_bool {a : D} (h : isD .bool a = true) : ∃ q, a = .bl q := by cases a <;> first | exact ⟨_, rfl⟩ | cases h
theorem is_int {a : D} (h : isD .int a = true) (h2 : isD .bool a = false) : ∃ i, a = .int i := by cases a <;> first | exact ⟨_, rfl⟩ | (cases h; done) | (cases h2; done)
theorem is_str {a : D} (h : isD .str a = true) : ∃ q, a = .str q := by cases a <;> first | exact ⟨_, rfl⟩ | cases h
theorem is_list {a : D} (h : isD .list a = true) : ∃ q, a = .lst q := by cases a <;> first | exact ⟨_, rfl⟩ | cases h
theorem is_tup {a : D} (h : isD .tuple a = true) : ∃ q, a = .tup q := by cases a <;> first | exact ⟨_, rfl⟩ | cases h
theorem same_non {a : D} : same a .non = isNone a := by cases a <;> simp [same, isNone]
theorem same_items {T : Tab} {Φ Ψ : Nat → FM} {f : Nat} (cb : cbOf T Φ f 2 false = some ⟨0, Φ f, 2, []⟩) (ln : T.lent f = 0) {sa sb : Slot} {xs ys : List D} (hl : xs.length = ys.length) (hz : ys.length ≤ 1000000) (ra : Rf sa (.lst xs) ∨ sa = .fz (.tup xs)) (rb : Rf sb (.lst ys) ∨ sb = .fz (.tup ys))
    (hrec : ∀ (i : Nat) x y, xs[i]? = some x → ys[i]? = some y → Φ f [.fz x, .fz y] = .ok ⟨.f, .bl (same x y)⟩ [.un, .un]) {G : Go} {s0 : Slot} (f0 : free (some s0) = true) (hn : xs = ys → ∀ s2, G.n [sa, sb, s2]) (hr : xs ≠ ys → ∀ s2, G.r ⟨.f, .bl false⟩ [sa, sb, s2]) :
    Fl.w (Py.run T Φ Ψ (.for_ (.r1 (.cons (.op .len (.cons (.v 1) .nil)) .nil)) (.nm 2) (.cons (.ite (.not (.call f false (.cons (.op .ix (.cons (.v 0) (.cons (.v 2) .nil))) (.cons (.op .ix (.cons (.v 1) (.cons (.v 2) .nil))) .nil)))) (.cons (.ret (.c (.bl false))) .nil) .nil) .nil)) [sa, sb, s0]) G := by
  refine w_for (I := fun i e => ∃ s2, e = [sa, sb, s2] ∧ free (some s2) = true ∧ xs.take i = ys.take i) (its := rangeItems 0 1 ys.length) (e1 := [sa, sb, s0]) ?_ ?_ ?_ ?_
  · refine evI_r1 (j := (ys.length : Int)) (okR_of (by omega) (by omega)) ?_
    rcases rb with rb | rfl
    · cases rb <;> walk_at "py"
    · walk_at "py"
  · exact ⟨_, rfl, f0, rfl⟩
  · rintro i it e hit ⟨s2, rfl, f2, ht⟩
    obtain ⟨hi, rfl⟩ := range_get hit
    have e0 : (0 : Int) + (i : Int) * 1 = i := by omega
    rw [e0]
    obtain ⟨y, hy⟩ : ∃ y, ys[i]? = some y := ⟨ys[i], by simp [hi]⟩
    obtain ⟨x, hx⟩ : ∃ x, xs[i]? = some x := ⟨xs[i]'(by omega), by simp⟩
    have hr2 := hrec i x y hx hy
    have i1 := rf_ix (T := T) (Φ := Φ) (Ψ := Ψ) (env := [sa, sb, .fz (.int i)]) (j := 0) (i := 2) (x := (i : Int)) (d := x) rfl ra rfl (by rw [atI_nat]; exact hx)
    have i2 := rf_ix (T := T) (Φ := Φ) (Ψ := Ψ) (env := [sa, sb, .fz (.int i)]) (j := 1) (i := 2) (x := (i : Int)) (d := y) rfl rb rfl (by rw [atI_nat]; exact hy)
    refine ⟨[sa, sb, .fz (.int i)], by clear i1 i2 hr2 hrec hit; walk_at "py", ?_⟩
    replace hx : Hid _ := ⟨hx⟩
    replace hy : Hid _ := ⟨hy⟩
    replace ht : Hid _ := ⟨ht⟩
    clear hrec hit e0 ra rb hi
    replace hl : Hid _ := ⟨hl⟩
    have hc : ev T Φ Ψ (.call f false (.cons (.op .ix (.cons (.v 0) (.cons (.v 2) .nil))) (.cons (.op .ix (.cons (.v 1) (.cons (.v 2) .nil))) .nil))) [sa, sb, .fz (.int i)] = .ok ⟨.f, .bl (same x y)⟩ [sa, sb, .fz (.int i)] := by
      rw [ev_call cb]
      simp only [mCallD, evs, evCons, i1, i2, R.bind]
      walk_at "py"
    clear i1 i2
    refine w_seq ?_
    cases hs : same x y
    · rw [hs] at hc
      refine w_ite (q := true) (t := .f) (e1 := [sa, sb, .fz (.int i)]) (by rw [ev_not]; unfold mNot; rw [hc]; rfl) (fun _ => ?_) (fun z => by cases z)
      walk_at "r"
      refine hr (fun z => ?_) _
      have : x = y := by
        have h1 := hx.out
        rw [z, hy.out] at h1
        exact (Option.some.inj h1).symm
      rw [this, same_refl] at hs
      cases hs
    · rw [hs] at hc
      refine w_ite (q := false) (t := .f) (e1 := [sa, sb, .fz (.int i)]) (by rw [ev_not]; unfold mNot; rw [hc]; rfl) (fun z => by cases z) (fun _ => ?_)
      refine w_nil ?_
      exact w_nil ⟨_, rfl, rfl, by rw [List.take_succ, List.take_succ, ht.out, hx.out, hy.out, same_iff.mp hs]⟩
  · rintro e ⟨s2, rfl, f2, ht⟩
    rw [range_len, List.take_length, ← hl, List.take_length] at ht
    exact hn ht _
theorem same_body {T : Tab} {Φ Ψ : Nat → FM} {f : Nat} (cb : cbOf T Φ f 2 false = some ⟨0, Φ f, 2, []⟩) (ln : T.lent f = 0) {a b : D} (hb : pl b = true) (ha : pl a = true) {sa sb : Slot} (ra : Rf sa a) (rb : Rf sb b)
    (hrec : ∀ l x y, b = .lst l ∨ b = .tup l → y ∈ l → pl x = true → pl y = true → Φ f [.fz x, .fz y] = .ok ⟨.f, .bl (same x y)⟩ [.un, .un]) :
    FR.is (mkF 3 (runs T Φ Ψ (sameB f)) [sa, sb]) fun v e => v = ⟨.f, .bl (same a b)⟩ ∧ e = [.un, .un] := by
  walk_at "fn"
  have fin : ∀ (q : Bool) w, q = same a b → (outT Py.T.f = true ∧ (⟨.f, .bl q⟩ : Val) = ⟨.f, .bl (same a b)⟩ ∧ finEnv [sa, sb] [sa, sb, w] = [.un, .un]) := fun q w h => ⟨rfl, by rw [h], by simp [finEnv, ra.fin, rb.fin]⟩
  have hshp : ∀ s : Str, pl (.str s) = true → shp (.str s) = true := fun s h => by unfold pl at h; exact h
  unfold sameB
  have ess := @eq_ss
  refine w_seq ?_
  cases b with
  | non =>
    obtain rfl := rb.at rfl
    walk_at "t"
    clear hrec
    refine w_rt (v := ⟨.f, .bl (isNone a)⟩) (e1 := [sa, .fz .non, .un]) (by cases ra <;> walk_at "py") (fin _ _ same_non.symm)
  | bl q =>
    obtain rfl := rb.at rfl
    walk_at "f"
    walk_at "nil"
    refine w_seq ?_
    walk_at "t"
    clear hrec
    cases h : isD .bool a
    · have : same a (.bl q) = false := same_ne fun z => by subst z; cases h
      cases ra <;> (walk_at "r"; exact fin _ _ this.symm)
    · obtain ⟨p, rfl⟩ := is_bool h
      obtain rfl := ra.at rfl
      walk_at "r"
      exact fin _ _ same_bb.symm
  | int q =>
    obtain rfl := rb.at rfl
    walk_at "f"
    walk_at "nil"
    refine w_seq ?_
    walk_at "f"
    walk_at "nil"
    refine w_seq ?_
    walk_at "t"
    clear hrec
    cases h : isD .int a
    · have : same a (.int q) = false := same_ne fun z => by subst z; cases h
      cases ra <;> (walk_at "r"; exact fin _ _ this.symm)
    · cases h2 : isD .bool a
      · obtain ⟨p, rfl⟩ := is_int h h2
        obtain rfl := ra.at rfl
        walk_at "r"
        exact fin _ _ same_ii.symm
      · have : same a (.int q) = false := same_ne fun z => by subst z; cases h2
        cases ra <;> (walk_at "r"; exact fin _ _ this.symm)
  | str q =>
    obtain rfl := rb.at rfl
    walk_at "f"
    walk_at "nil"
    refine w_seq ?_
    walk_at "f"
    walk_at "nil"
    refine w_seq ?_
    walk_at "f"
    walk_at "nil"
    refine w_seq ?_
    walk_at "t"
    clear hrec
    cases h : isD .str a
    · have : same a (.str q) = false := same_ne fun z => by subst z; cases h
      cases ra <;> (walk_at "r"; exact fin _ _ this.symm)
    · obtain ⟨p, rfl⟩ := is_str h
      obtain rfl := ra.at rfl
      have h1 := hshp _ ha
      have h2 := hshp _ hb
      walk_at "r"
      exact fin _ _ same_ss.symm
  | lst ys =>
    unfold pl at hb
    obtain ⟨hb1, hb2⟩ := Bool.and_eq_true_iff.mp hb
    refine w_ite (q := false) (t := .f) (e1 := [sa, sb, .un]) (by clear hrec; cases rb <;> walk_at "py") (fun z => by cases z) (fun _ => ?_)
    walk_at "nil"
    refine w_seq ?_
    refine w_ite (q := false) (t := .f) (e1 := [sa, sb, .un]) (by clear hrec; cases rb <;> walk_at "py") (fun z => by cases z) (fun _ => ?_)
    walk_at "nil"
    refine w_seq ?_
    refine w_ite (q := false) (t := .f) (e1 := [sa, sb, .un]) (by clear hrec; cases rb <;> walk_at "py") (fun z => by cases z) (fun _ => ?_)
    walk_at "nil"
    refine w_seq ?_
    refine w_ite (q := false) (t := .f) (e1 := [sa, sb, .un]) (by clear hrec; cases rb <;> walk_at "py") (fun z => by cases z) (fun _ => ?_)
    walk_at "nil"
    refine w_seq ?_
    refine w_ite (q := true) (t := .f) (e1 := [sa, sb, .un]) (by clear hrec; cases rb <;> walk_at "py") (fun _ => ?_) (fun z => by cases z)
    refine w_seq ?_
    cases h : isD .list a
    · have : same a (.lst ys) = false := same_ne fun z => by subst z; cases h
      obtain rfl := ra.at h
      refine w_ite (q := true) (t := .f) (e1 := [.fz a, sb, .un]) (by clear hrec; walk_at "py") (fun _ => ?_) (fun z => by cases z)
      walk_at "r"
      exact fin _ _ this.symm
    · obtain ⟨xs, rfl⟩ := is_list h
      unfold pl at ha
      obtain ⟨ha1, ha2⟩ := Bool.and_eq_true_iff.mp ha
      refine w_ite (q := false) (t := .f) (e1 := [sa, sb, .un]) (by clear hrec; cases ra <;> walk_at "py") (fun z => by cases z) (fun _ => ?_)
      walk_at "nil"
      walk_at "nil"
      refine w_seq ?_
      by_cases hl : xs.length = ys.length
      · have hl2 : (xs.length : Int) = (ys.length : Int) := by omega
        refine w_ite (q := false) (t := .f) (e1 := [sa, sb, .un]) (by clear hrec; cases ra <;> cases rb <;> walk_at "py") (fun z => by cases z) (fun _ => ?_)
        walk_at "nil"
        refine w_seq ?_
        refine same_items cb ln hl (of_decide_eq_true hb1) (.inl ra) (.inl rb) (fun i x y hx hy => hrec ys x y (.inl rfl) (List.mem_of_getElem? hy) (pls_mem (List.mem_of_getElem? hx) ha2) (pls_mem (List.mem_of_getElem? hy) hb2)) rfl ?_ ?_
        · rintro rfl s2
          walk_at "r"
          exact fin _ _ (same_refl _).symm
        · intro hne s2
          exact fin _ _ (same_ne fun z => hne (by injection z)).symm
      · have hl2 : ¬ (xs.length : Int) = (ys.length : Int) := by omega
        have : same (.lst xs) (.lst ys) = false := same_ne fun z => hl (by injection z with z; rw [z])
        refine w_ite (q := true) (t := .f) (e1 := [sa, sb, .un]) (by clear hrec; cases ra <;> cases rb <;> walk_at "py") (fun _ => ?_) (fun z => by cases z)
        walk_at "r"
        exact fin _ _ this.symm
  | tup ys =>
    obtain rfl := rb.at rfl
    unfold pl at hb
    obtain ⟨hb1, hb2⟩ := Bool.and_eq_true_iff.mp hb
    replace hrec : Hid _ := ⟨hrec⟩
    walk_at "f"
    walk_at "nil"
    refine w_seq ?_
    walk_at "f"
    walk_at "nil"
    refine w_seq ?_
    walk_at "f"
    walk_at "nil"
    refine w_seq ?_
    walk_at "f"
    walk_at "nil"
    refine w_seq ?_
    walk_at "f"
    refine w_seq ?_
    cases h : isD .tuple a
    · have : same a (.tup ys) = false := same_ne fun z => by subst z; cases h
      refine w_ite (q := true) (t := .f) (e1 := [sa, .fz (.tup ys), .un]) (by cases ra <;> walk_at "py") (fun _ => ?_) (fun z => by cases z)
      walk_at "r"
      exact fin _ _ this.symm
    · obtain ⟨xs, rfl⟩ := is_tup h
      obtain rfl := ra.at rfl
      unfold pl at ha
      obtain ⟨ha1, ha2⟩ := Bool.and_eq_true_iff.mp ha
      walk_at "f"
      walk_at "nil"
      walk_at "nil"
      refine w_seq ?_
      by_cases hl : xs.length = ys.length
      · have hl2 : (xs.length : Int) = (ys.length : Int) := by omega
        walk_at "f"
        walk_at "nil"
        refine w_seq ?_
        refine same_items cb ln hl (of_decide_eq_true hb1) (.inr rfl) (.inr rfl) (fun i x y hx hy => hrec.out ys x y (.inr rfl) (List.mem_of_getElem? hy) (pls_mem (List.mem_of_getElem? hx) ha2) (pls_mem (List.mem_of_getElem? hy) hb2)) rfl ?_ ?_
        · rintro rfl s2
          walk_at "r"
          exact fin _ _ (same_refl _).symm
        · intro hne s2
          exact fin _ _ (same_ne fun z => hne (by injection z)).symm
      · have hl2 : ¬ (xs.length : Int) = (ys.length : Int) := by omega
        have : same (.tup xs) (.tup ys) = false := same_ne fun z => hl (by injection z with z; rw [z])
        walk_at "t"
        walk_at "r"
        exact fin _ _ this.symm
  | dic q r => unfold pl at hb; cases hb
  | obj q r => unfold pl at hb; cases hb
theorem same_ok {T : Tab} (f : Nat) (hf : T.fn f = some (sameF f)) : ∀ (n : Nat) (a b : D), dp b ≤ n → pl b = true → pl a = true → ∀ (k : Nat) (sa sb : Slot), Rf sa a → Rf sb b → Fn T (k + 2 + n) f [sa, sb] = .ok ⟨.f, .bl (same a b)⟩ [.un, .un] := by
  have cb : ∀ Φ : Nat → FM, cbOf T Φ f 2 false = some ⟨0, Φ f, 2, []⟩ := fun Φ => by unfold cbOf; rw [hf]; rfl
  have ln : T.lent f = 0 := by unfold Tab.lent; rw [hf]; rfl
  intro n
  induction n with
  | zero =>
    intro a b hd hb ha k sa sb ra rb
    refine FR.eq_of ?_
    rw [show k + 2 + 0 = k + 2 by omega, Fn_eq hf rfl rfl]
    refine same_body (cb _) ln hb ha ra rb fun l x y h _ _ _ => ?_
    rcases h with rfl | rfl <;> simp [dp] at hd
  | succ n ih =>
    intro a b hd hb ha k sa sb ra rb
    refine FR.eq_of ?_
    rw [show k + 2 + (n + 1) = (k + 1 + n) + 2 by omega, Fn_eq hf rfl rfl]
    refine same_body (cb _) ln hb ha ra rb fun l x y h hm hx hy => ?_
    rw [show k + 1 + n + 1 = k + 2 + n by omega]
    refine ih x y ?_ hy hx k _ _ .fz .fz
    have := dps_mem hm
    rcases h with rfl | rfl <;> (simp only [dp] at hd; omega)
end Py

set_option Elab.async false
set_option linter.all false
set_option maxRecDepth 100000
set_option maxHeartbeats 1000000
/-! LOrd: the class Order. -/
namespace Py
open PySem L2 Cat
local macro_rules | `(tactic| walk_at "py") => `(tactic| simp [run_try, runs_1, runs_nil, run_pass, run_brk, run_cont, run_ret, run_set, run_ex, run_ite, run_seti, run_setf, run_aug, mSet, fAug, mOp, tyL, ev_c, ev_v, ev_op, ev_not, ev_and, ev_or, ev_ife, ev_cee, ev_cet, ev_cte, ev_ctt, ev_call, ev_meth, ev_new, ev_mut, evs, evI, evP, mThen, mPass, mBreak, mCont, R.bind, R.map, mOpO, ownNo, ownR, ownRun, applyPost, swp, sw2, gBool, gNotB, gLen_ok, Bo.own, Bo.op, Bo.ci, opEither, opA, opI2, fSub, fPow, fLt, fLe, fGt, fGe, powOk, opAdd, elF, szOk, Sh.flat, evNil, evCons, evTail, refix, T.isB, mV, mC, mNot, mAnd, mOr, mIfE, mIf, mRet, outV, mDrop, slotOf, setSlot, fr_un, fr_fz, fr_bo, fr_ow, asgT, asgTs, asI, asItem, aTp, aNil, aCons, fgT, mkV_f, mkV_i, mkV_b, mkV_s, mkV_n, mkV_t, mkV_l, mkV_d, mkV_o, T.sub, mkT, Sh.sub, frzV, frzAll, opLst, opTup, opSz, opIx, opLen, opList, opTuple, opInt, opAbs, opMax, opMin, opSl, partsOf, opNeg, opIsN, isN_n, isN_b, isN_i, isN_s, isN_l, isN_t, isN_d, isN_o, opIsT, opIsC, isD_int_n, isD_int_b, isD_int_i, isD_int_s, isD_int_l, isD_int_t, isD_int_d, isD_int_o, isD_bool_n, isD_bool_b, isD_bool_i, isD_bool_s, isD_bool_l, isD_bool_t, isD_bool_d, isD_bool_o, isD_str_n, isD_str_b, isD_str_i, isD_str_s, isD_str_l, isD_str_t, isD_str_d, isD_str_o, isD_list_n, isD_list_b, isD_list_i, isD_list_s, isD_list_l, isD_list_t, isD_list_d, isD_list_o, isD_tuple_n, isD_tuple_b, isD_tuple_i, isD_tuple_s, isD_tuple_l, isD_tuple_t, isD_tuple_d, isD_tuple_o, isD_dict_n, isD_dict_b, isD_dict_i, isD_dict_s, isD_dict_l, isD_dict_t, isD_dict_d, isD_dict_o, isC, opEq, shp_i, shp_b, shp_n, eq_ii, eq_bb, opFld, T.fsub, Sh.fsub, mSetI, mSetF, getAt, putAt, ownAt, setOwn, pathS, pathD, putS, putD, mpV, mpF, mpI, gEither, gSetL, gSetD, callV, takes, argSlots, argSlot, backs, outT, runC, fill, mCallD, methV, mMeth, mNew, runN, newV, partV, putFld, Sh.snoc, Sh.putN, Sh.nth, Ex.p, Exs.p, Exs.len, mChn, mMid, mLast, mMut, Mo.g, gAppend, opDNew, at_i, at_b, at_s, at_n, at_l, at_t, at_d, at_o, opInD, opIn_l, opIn_d, opIxD, dPut, ev1, ev2, atI_0, atI_1, atI_2, atI_3, atI_4, ixN, mSeqI, seqI, srcT, mRng1, mRng2, mRng3, mEnum, enumI, mZip, zipI, wipeE, restoreE, unlockE, unlock, plainS, R.w, Ow, Oz, finEnv, keepMu, mul_ok, mul_ok2, div_ok, mod_ok, mRaise, initR, raiseF, xInit, xFl, mTry, mHand, hsRun, freeO, clrO, HcT.v, HsT.v, hxV, hxVs, hFld, hTup, hAll, *])
local macro_rules | `(tactic| walk_at "nil") => `(tactic| (refine w_nil ?_; try dsimp only))
local macro_rules | `(tactic| walk_at "s") => `(tactic| refine w_nx (by walk_at "py"; rfl) ?_)
local macro_rules | `(tactic| walk_at "q") => `(tactic| (first | rfl | exact ⟨rfl, rfl⟩ | exact ⟨rfl, rfl, rfl⟩))
local macro_rules | `(tactic| walk_at "t") => `(tactic| (refine w_ite (q := true) (by walk_at "py"; walk_at "q") (fun _ => ?_) (fun z => by cases z)))
local macro_rules | `(tactic| walk_at "f") => `(tactic| (refine w_ite (q := false) (by walk_at "py"; walk_at "q") (fun z => by cases z) (fun _ => ?_)))
local macro_rules | `(tactic| walk_at "r") => `(tactic| refine w_rt (by walk_at "py"; walk_at "q") ?_)
local macro_rules | `(tactic| walk_at "x") => `(tactic| refine w_xx (by walk_at "py"; walk_at "q") ?_)
local macro_rules | `(tactic| walk_at "fnx") => `(tactic| (refine w_fnx ?_; simp only [List.length_cons, List.length_nil, Nat.zero_add, Nat.reduceAdd, Nat.reduceSub, Nat.sub_self, List.replicate_succ, List.replicate_zero, List.cons_append, List.nil_append, List.append_nil]))
local macro_rules | `(tactic| walk_at "fn") => `(tactic| (refine w_fn ?_; simp only [List.length_cons, List.length_nil, Nat.zero_add, Nat.reduceAdd, Nat.reduceSub, Nat.sub_self, List.replicate_succ, List.replicate_zero, List.cons_append, List.nil_append, List.append_nil]))
def ixs (l : List D) : List (D × D) := l.zipIdx.map fun q => (q.1, D.int (q.2 : Int))
def oD (ds : List D) : D := .obj 2 [.lst ds, .dic true (ixs ds)]
def shO : Sh := .n (.c (.l .f) (.c (.l .f) .f))
theorem ixs_len (l : List D) : (ixs l).length = l.length := by simp [ixs]
theorem ixs_snoc (l : List D) (d : D) : ixs (l ++ [d]) = ixs l ++ [(d, .int (l.length : Int))] := by simp [ixs, List.zipIdx_append]
theorem ixs_fst (l : List D) : (ixs l).map (·.1) = l := by
  unfold ixs
  rw [List.map_map]
  have : ((fun q : D × D => q.1) ∘ fun q : D × Nat => (q.1, D.int (q.2 : Int))) = Prod.fst := by funext q; rfl
  rw [this, List.zipIdx_map_fst]
/-- item i may stand in an order -/
def okAt (ds : List D) (i : Nat) : Prop := ∃ p : P2, ds[i]? = some (pD p) ∧ isPP (pD p) = true ∧ pD p ∉ ds.take i
theorem pD_inj {p q : P2} (h : pD p = pD q) : p = q := by
  obtain ⟨a, b⟩ := p; obtain ⟨c, d⟩ := q
  simp [pD] at h
  rw [h.1, h.2]
theorem take_pD {ds : List D} : ∀ {i : Nat}, i ≤ ds.length → (∀ j < i, okAt ds j) → ∃ l : List P2, ds.take i = l.map pD ∧ l.length = i ∧ l.Nodup ∧ ∀ p ∈ l, isPP (pD p) = true
  | 0, _, _ => ⟨[], by simp⟩
  | i + 1, hi, h => by
    obtain ⟨l, h1, h2, h3, h4⟩ := take_pD (i := i) (by omega) fun j hj => h j (by omega)
    obtain ⟨p, q1, q2, q3⟩ := h i (by omega)
    refine ⟨l ++ [p], ?_, by simp [h2], ?_, ?_⟩
    · rw [List.take_succ, q1, h1]; simp
    · rw [List.nodup_append]
      refine ⟨h3, by simp, fun a ha b hb => ?_⟩
      obtain rfl : b = p := by simpa using hb
      intro e
      subst e
      exact q3 (by rw [h1]; exact List.mem_map.mpr ⟨a, ha, rfl⟩)
    · intro q hq
      rcases List.mem_append.mp hq with z | z
      · exact h4 q z
      · obtain rfl : q = p := by simpa using z
        exact q2
def kk (p : P2) : List Key := [.inl p.1, .inl p.2]
theorem key_p (p : P2) : keyD true (.tup [.int p.1, .int p.2]) = some (kk p) := rfl
theorem kk_inj {p q : P2} : some (kk p) = some (kk q) ↔ p = q := by
  obtain ⟨a, b⟩ := p; obtain ⟨c, d⟩ := q
  simp [kk]
theorem dmem_p (p : P2) : ∀ (kvs : List (D × D)) (l : List P2), kvs.map (·.1) = l.map pD → dMem true (kk p) kvs = decide (p ∈ l)
  | [], [], _ => by simp [dMem, dFind]
  | [], _ :: _, h => by simp at h
  | _ :: _, [], h => by simp at h
  | (a, v) :: r, q :: l, h => by
    simp only [List.map_cons, List.cons.injEq] at h
    obtain ⟨rfl, h⟩ := h
    have ih := dmem_p p r l h
    unfold dMem at ih ⊢
    unfold dFind
    rw [show keyD true (pD q) = some (kk q) from rfl]
    by_cases hq : q = p
    · subst hq; simp
    · rw [if_neg (by rw [kk_inj]; exact hq), ih]
      have : ¬ p = q := fun z => hq z.symm
      simp [this]
theorem keysok_p : ∀ (kvs : List (D × D)) (l : List P2), kvs.map (·.1) = l.map pD → keysOk true kvs = true
  | [], _, _ => rfl
  | _ :: _, [], h => by simp at h
  | (a, v) :: r, q :: l, h => by
    simp only [List.map_cons, List.cons.injEq] at h
    obtain ⟨rfl, h⟩ := h
    have ih := keysok_p r l h
    unfold keysOk at ih ⊢
    rw [List.all_cons, ih]
    rfl
theorem opIn_dic {v : Val} {t : Py.T} {b : Bool} {kvs : List (D × D)} {e : Env} : opIn false [v, ⟨t, .dic b kvs⟩] e = none := rfl
theorem opNin_dic {v : Val} {t : Py.T} {b : Bool} {kvs : List (D × D)} {e : Env} : opIn true [v, ⟨t, .dic b kvs⟩] e = none := rfl
/-- the walk of Order(pairs): on to item n -/
theorem f14w {T : Tab} [H0 T] [H1 T] [H2 T] [H3 T] [H4 T] [H13 T] [H14 T] [M14 T] [C2 T] [X3 T] (k : Nat) (ds : List D) (hl : ds.length ≤ 64) (s : Slot) (hs : rdS s (.lst ds)) {Q : Val → Env → Prop} {E : Nat → List D → Env → Prop}
    (hok : (∀ i < ds.length, okAt ds i) → Q ⟨.f, .non⟩ [.mu shO (oD ds), .un]) (hbad : ∀ i < ds.length, (∀ j < i, okAt ds j) → ¬ okAt ds i → ∀ sh o, E 3 [.int i] [.mu sh o, .un]) : FR.q (Fn T (k + 5) 14 [.mu (.n .f) (.obj 2 []), s]) Q E := by
  rw [fq14]
  walk_at "fnx"
  have la : (ds.length : Int) ≤ 64 := by omega
  unfold B14
  refine w_seq ?_
  refine w_ite (t := .f) (q := false) (e1 := [.mu (.n .f) (.obj 2 []), s, .un, .un]) (by rcases hs with rfl | rfl | rfl <;> walk_at "py") (fun z => by cases z) (fun _ => ?_)
  walk_at "nil"
  walk_at "s"
  walk_at "s"
  have hi : ∃ its ls s', evI T (Fn T (k + 4)) (Fn T (k + 3)) (.en (.v 1)) [.mu (.n (.c (.l .f) (.c (.l .f) .f))) (.obj 2 [.lst [], .dic true []]), s, .un, .un] = .ok (its, ls) [.mu (.n (.c (.l .f) (.c (.l .f) .f))) (.obj 2 [.lst [], .dic true []]), s', .un, .un] ∧ (∀ m s2 s3, unlockE ls [m, s', s2, s3] = [m, s, s2, s3]) ∧ its.length = ds.length ∧ ∀ (i : Nat) it, its[i]? = some it → ∃ d, ds[i]? = some d ∧ it = .two ⟨.f, .int i⟩ ⟨.f, d⟩ := by
    have get : ∀ (t : Py.T) (ht : t.sub = .f) (i : Nat) it, (enumItems t 0 ds)[i]? = some it → ∃ d, ds[i]? = some d ∧ it = .two ⟨.f, .int i⟩ ⟨.f, d⟩ := by
      intro t ht i it h
      obtain ⟨d, h1, h2⟩ := enum_get h
      refine ⟨d, h1, ?_⟩
      rw [h2, Nat.zero_add, ht, mkV_f]
    rcases hs with rfl | rfl | rfl
    · exact ⟨enumItems .f 0 ds, [], .fz (.lst ds), by walk_at "py", fun _ _ _ => rfl, by rw [enum_len], get _ rfl⟩
    · exact ⟨enumItems (.g (.l .f)) 0 ds, [], .bo (.l .f) (.lst ds), by walk_at "py", fun _ _ _ => rfl, by rw [enum_len], get _ rfl⟩
    · exact ⟨enumItems (.s 1 (.l .f)) 0 ds, [1], .lk (.l .f) (.lst ds), by walk_at "py", fun _ _ _ => rfl, by rw [enum_len], get _ rfl⟩
  obtain ⟨its, ls, s', hi, hu, hil, hg⟩ := hi
  replace hu : Hid _ := ⟨hu⟩
  replace hg : Hid _ := ⟨hg⟩
  replace hok : Hid _ := ⟨hok⟩
  replace hbad : Hid _ := ⟨hbad⟩
  refine w_seq ?_
  refine w_forL (I := fun i e => ∃ s2 s3, e = [.mu shO (.obj 2 [.lst (ds.take i), .dic true (ixs (ds.take i))]), s', s2, s3] ∧ (∀ j < i, okAt ds j) ∧ free (some s2) = true ∧ free (some s3) = true)
    (its := its) (e1 := [.mu shO (.obj 2 [.lst [], .dic true []]), s', .un, .un]) hi ?_ ?_ ?_
  · exact ⟨_, _, rfl, fun j hj => by omega, rfl, rfl⟩
  · rintro i it e hit ⟨s2, s3, rfl, hgd, g2, g3⟩
    obtain ⟨d, hd, rfl⟩ := hg.out i it hit
    have hil2 : i < ds.length := (List.getElem?_eq_some_iff.mp hd).1
    replace hd : Hid _ := ⟨hd⟩
    obtain ⟨l, l1, l2, l3, l4⟩ := take_pD (by omega) hgd
    replace hgd : Hid _ := ⟨hgd⟩
    clear hit hi hil
    refine ⟨[.mu shO (.obj 2 [.lst (ds.take i), .dic true (ixs (ds.take i))]), s', .fz (.int i), .fz d], by walk_at "py", ?_⟩
    have eN : ∀ sh o, finEnv [.mu (.n .f) (.obj 2 []), s] (unlockE ls [.mu sh o, s', .fz (.int i), .fz d]) = [.mu sh o, .un] := fun sh o => by
      rw [hu.out]
      rcases hs with rfl | rfl | rfl <;> rfl
    cases hp : isPP d
    · refine w_seq ?_
      unfold shO
      walk_at "t"
      walk_at "x"
      dsimp only
      rw [eN]
      exact hbad.out i hil2 hgd.out (fun z => by
        obtain ⟨p, q1, q2, _⟩ := z
        rw [hd.out] at q1
        cases q1
        rw [hp] at q2
        cases q2) _ _
    · obtain ⟨a, b, rfl, _⟩ := isPP_spot hp
      have km := dmem_p (a, b) (ixs (ds.take i)) l (by rw [ixs_fst, l1])
      have ko := keysok_p (ixs (ds.take i)) l (by rw [ixs_fst, l1])
      have kp := key_p (a, b)
      have oi := @opIn_dic
      have lk : (ixs (ds.take i)).length = i := by rw [ixs_len, List.length_take]; omega
      have lk2 : (ixs (ds.take i)).length < 1000000 := by omega
      have ld2 : (ds.take i).length ≤ 1000000 := by rw [List.length_take]; omega
      have ldm : min i ds.length ≤ 1000000 := by omega
      have ld : (ds.take i).length = i := by rw [List.length_take]; omega
      have iff : pD (a, b) ∈ ds.take i ↔ (a, b) ∈ l := by
        rw [l1]
        constructor
        · intro h
          obtain ⟨q, hq, e⟩ := List.mem_map.mp h
          rw [← pD_inj e]; exact hq
        · intro h
          exact List.mem_map.mpr ⟨_, h, rfl⟩
      replace l1 : Hid _ := ⟨l1⟩
      have es := ixs_snoc (ds.take i) (.tup [.int a, .int b])
      rw [ld] at es
      replace es : Hid _ := ⟨es⟩
      replace lk : Hid _ := ⟨lk⟩
      replace ld : Hid _ := ⟨ld⟩
      by_cases hm : (a, b) ∈ l
      · rw [decide_eq_true hm] at km
        replace iff : Hid _ := ⟨iff⟩
        replace hm : Hid _ := ⟨hm⟩
        dsimp only at kp
        clear lk2 ld2
        unfold shO
        generalize ixs (ds.take i) = kvs at *
        refine w_seq ?_
        walk_at "t"
        walk_at "x"
        dsimp only
        rw [eN]
        exact hbad.out i hil2 hgd.out (fun z => by
          obtain ⟨p, q1, q2, q3⟩ := z
          rw [hd.out] at q1
          have e : pD (a, b) = pD p := by injection q1
          rw [← pD_inj e] at q3
          exact q3 (iff.out.mpr hm.out)) _ _
      · rw [decide_eq_false hm] at km
        replace iff : Hid _ := ⟨iff⟩
        replace hm : Hid _ := ⟨hm⟩
        dsimp only at kp
        have eT : ds.take (i + 1) = ds.take i ++ [.tup [.int a, .int b]] := by rw [List.take_succ, hd.out]; rfl
        replace eT : Hid _ := ⟨eT⟩
        unfold shO
        generalize hk : ixs (ds.take i) = kvs at *
        replace hk : Hid _ := ⟨hk⟩
        refine w_seq ?_
        walk_at "f"
        walk_at "nil"
        walk_at "s"
        walk_at "s"
        walk_at "nil"
        refine ⟨.fz (.int i), .fz (.tup [.int a, .int b]), ?_, ?_, rfl, rfl⟩
        · rw [eT.out, es.out]
        · intro j hj
          by_cases hji : j < i
          · exact hgd.out j hji
          · obtain rfl : j = i := by omega
            exact ⟨(a, b), hd.out, hp, fun z => hm.out (iff.out.mp z)⟩
  · rintro e ⟨s2, s3, rfl, hgd, g2, g3⟩
    dsimp only
    rw [hu.out, hil, List.take_length] at *
    walk_at "nil"
    have : finEnv [.mu (.n .f) (.obj 2 []), s] [.mu shO (.obj 2 [.lst ds, .dic true (ixs ds)]), s, s2, s3] = [.mu shO (oD ds), .un] := by rcases hs with rfl | rfl | rfl <;> rfl
    rw [this]
    exact hok.out hgd
end Py

set_option Elab.async false
set_option linter.all false
set_option maxRecDepth 100000
set_option maxHeartbeats 1000000
/-! LOrd2: the methods of an order. -/
namespace Py
open PySem L2 Cat
local macro_rules | `(tactic| walk_at "py") => `(tactic| simp [run_try, runs_1, runs_nil, run_pass, run_brk, run_cont, run_ret, run_set, run_ex, run_ite, run_seti, run_setf, run_aug, mSet, fAug, mOp, tyL, ev_c, ev_v, ev_op, ev_not, ev_and, ev_or, ev_ife, ev_cee, ev_cet, ev_cte, ev_ctt, ev_call, ev_meth, ev_new, ev_mut, evs, evI, evP, mThen, mPass, mBreak, mCont, R.bind, R.map, mOpO, ownNo, ownR, ownRun, applyPost, swp, sw2, gBool, gNotB, gLen_ok, Bo.own, Bo.op, Bo.ci, opEither, opA, opI2, fSub, fPow, fLt, fLe, fGt, fGe, powOk, opAdd, elF, szOk, Sh.flat, evNil, evCons, evTail, refix, T.isB, mV, mC, mNot, mAnd, mOr, mIfE, mIf, mRet, outV, mDrop, slotOf, setSlot, fr_un, fr_fz, fr_bo, fr_ow, asgT, asgTs, asI, asItem, aTp, aNil, aCons, fgT, mkV_f, mkV_i, mkV_b, mkV_s, mkV_n, mkV_t, mkV_l, mkV_d, mkV_o, T.sub, mkT, Sh.sub, frzV, frzAll, opLst, opTup, opSz, opIx, opLen, opList, opTuple, opInt, opAbs, opMax, opMin, opSl, partsOf, opNeg, opIsN, isN_n, isN_b, isN_i, isN_s, isN_l, isN_t, isN_d, isN_o, opIsT, opIsC, isD_int_n, isD_int_b, isD_int_i, isD_int_s, isD_int_l, isD_int_t, isD_int_d, isD_int_o, isD_bool_n, isD_bool_b, isD_bool_i, isD_bool_s, isD_bool_l, isD_bool_t, isD_bool_d, isD_bool_o, isD_str_n, isD_str_b, isD_str_i, isD_str_s, isD_str_l, isD_str_t, isD_str_d, isD_str_o, isD_list_n, isD_list_b, isD_list_i, isD_list_s, isD_list_l, isD_list_t, isD_list_d, isD_list_o, isD_tuple_n, isD_tuple_b, isD_tuple_i, isD_tuple_s, isD_tuple_l, isD_tuple_t, isD_tuple_d, isD_tuple_o, isD_dict_n, isD_dict_b, isD_dict_i, isD_dict_s, isD_dict_l, isD_dict_t, isD_dict_d, isD_dict_o, isC, opEq, shp_i, shp_b, shp_n, eq_ii, eq_bb, opFld, T.fsub, Sh.fsub, mSetI, mSetF, getAt, putAt, ownAt, setOwn, pathS, pathD, putS, putD, mpV, mpF, mpI, gEither, gSetL, gSetD, callV, takes, argSlots, argSlot, backs, outT, runC, fill, mCallD, methV, mMeth, mNew, runN, newV, partV, putFld, Sh.snoc, Sh.putN, Sh.nth, Ex.p, Exs.p, Exs.len, mChn, mMid, mLast, mMut, Mo.g, gAppend, opDNew, at_i, at_b, at_s, at_n, at_l, at_t, at_d, at_o, opInD, opIn_l, opIn_d, opIxD, dPut, ev1, ev2, atI_0, atI_1, atI_2, atI_3, atI_4, ixN, mSeqI, seqI, srcT, mRng1, mRng2, mRng3, mEnum, enumI, mZip, zipI, wipeE, restoreE, unlockE, unlock, plainS, R.w, Ow, Oz, finEnv, keepMu, mul_ok, mul_ok2, div_ok, mod_ok, mRaise, initR, raiseF, xInit, xFl, mTry, mHand, hsRun, freeO, clrO, HcT.v, HsT.v, hxV, hxVs, hFld, hTup, hAll, *])
local macro_rules | `(tactic| walk_at "nil") => `(tactic| (refine w_nil ?_; try dsimp only))
local macro_rules | `(tactic| walk_at "s") => `(tactic| refine w_nx (by walk_at "py"; rfl) ?_)
local macro_rules | `(tactic| walk_at "q") => `(tactic| (first | rfl | exact ⟨rfl, rfl⟩ | exact ⟨rfl, rfl, rfl⟩))
local macro_rules | `(tactic| walk_at "t") => `(tactic| (refine w_ite (q := true) (by walk_at "py"; walk_at "q") (fun _ => ?_) (fun z => by cases z)))
local macro_rules | `(tactic| walk_at "f") => `(tactic| (refine w_ite (q := false) (by walk_at "py"; walk_at "q") (fun z => by cases z) (fun _ => ?_)))
local macro_rules | `(tactic| walk_at "r") => `(tactic| refine w_rt (by walk_at "py"; walk_at "q") ?_)
local macro_rules | `(tactic| walk_at "x") => `(tactic| refine w_xx (by walk_at "py"; walk_at "q") ?_)
local macro_rules | `(tactic| walk_at "fnx") => `(tactic| (refine w_fnx ?_; simp only [List.length_cons, List.length_nil, Nat.zero_add, Nat.reduceAdd, Nat.reduceSub, Nat.sub_self, List.replicate_succ, List.replicate_zero, List.cons_append, List.nil_append, List.append_nil]))
local macro_rules | `(tactic| walk_at "fn") => `(tactic| (refine w_fn ?_; simp only [List.length_cons, List.length_nil, Nat.zero_add, Nat.reduceAdd, Nat.reduceSub, Nat.sub_self, List.replicate_succ, List.replicate_zero, List.cons_append, List.nil_append, List.append_nil]))
/-- the order of the pairs l -/
def oP (l : List P2) : D := oD (l.map pD)
@[simp] theorem f20 {T : Tab} [H20 T] [M20 T] [C2 T] (k : Nat) (ds : List D) : Fn T (k + 2) 20 [.fz (oD ds)] = .ok ⟨.f, .int ds.length⟩ [.un] := by
  refine FR.eq_of ?_
  rw [fq20]
  walk_at "fn"
  unfold B20 oD
  walk_at "r"
  exact ⟨rfl, rfl, rfl⟩
theorem f22 {T : Tab} [H0 T] [H1 T] [H2 T] [H21 T] [H22 T] [M22 T] [C2 T] [X5 T] (k : Nat) (ds : List D) (i : Nat) (d : D) (h : ds[i]? = some d) : Fn T (k + 4) 22 [.fz (oD ds), .fz (.int i)] = .ok ⟨.f, d⟩ [.un, .un] := by
  refine FR.eq_of ?_
  rw [fq22]
  walk_at "fn"
  have hi := (List.getElem?_eq_some_iff.mp h).1
  have ha : atI ds (i : Int) = some d := by rw [atI_nat]; exact h
  have hb : btw 0 ((ds.length : Int) - 1) (.int i) = true := by simp [btw]; omega
  unfold B22 oD
  clear h hi
  refine w_seq ?_
  walk_at "f"
  walk_at "nil"
  walk_at "r"
  exact ⟨rfl, rfl, rfl⟩
theorem f22x {T : Tab} [H0 T] [H1 T] [H2 T] [H21 T] [H22 T] [M22 T] [C2 T] [X5 T] (k : Nat) (ds : List D) (s : Slot) (d : D) (hs : Rd s d) (h : btw 0 ((ds.length : Int) - 1) d = false) : Fn T (k + 5) 22 [.fz (oD ds), s] = .ex 5 [.str "index"] [.un, .un] := by
  have key : FR.q (Fn T (k + 5) 22 [.fz (oD ds), s]) (fun _ _ => False) fun c fs e => c = 5 ∧ fs = [.str "index"] ∧ e = [.un, .un] := by
    rw [fq22]
    walk_at "fnx"
    have hb := f2s (T := T) (k + 1) hs 0 ((ds.length : Int) - 1)
    rw [h] at hb
    unfold B22 oD
    refine w_seq ?_
    have e2 := fin1 hs
    cases hs <;> (walk_at "t"; walk_at "x"; exact ⟨rfl, rfl, rfl⟩)
  obtain ⟨c, fs, e, h1, rfl, rfl, rfl⟩ := FR.ex_of key
  exact h1
theorem f125 {T : Tab} [H125 T] [M125 T] [C2 T] (k : Nat) (ds : List D) : Fn T (k + 2) 125 [.fz (oD ds)] = .ok ⟨.o (.l .f), .lst ds⟩ [.un] := by
  refine FR.eq_of ?_
  rw [fq125]
  walk_at "fn"
  unfold B125 oD
  walk_at "r"
  exact ⟨rfl, rfl, rfl⟩
theorem ixs_keys (l : List P2) : keysOk true (ixs (l.map pD)) = true := keysok_p _ l (ixs_fst _)
theorem ixs_mem (l : List P2) (p : P2) : dMem true (kk p) (ixs (l.map pD)) = decide (p ∈ l) := dmem_p p _ l (ixs_fst _)
theorem f23 {T : Tab} [H1 T] [H3 T] [H23 T] [M23 T] [C2 T] (k : Nat) (l : List P2) (p : P2) : Fn T (k + 4) 23 [.fz (oP l), .fz (pD p)] = .ok ⟨.f, .bl (decide (p ∈ l))⟩ [.un, .un] := by
  refine FR.eq_of ?_
  rw [fq23]
  walk_at "fn"
  have h1 := ixs_keys l
  have h2 := ixs_mem l p
  have h3 := key_p p
  have h4 := @opIn_dic
  have h5 : isSpot (.tup [.int p.1, .int p.2]) = true := rfl
  unfold B23 oP oD pD
  unfold pD at h1 h2
  generalize ixs (l.map fun p => .tup [.int p.1, .int p.2]) = kvs at *
  walk_at "r"
  exact ⟨rfl, rfl, rfl⟩
theorem dfind_ix : ∀ (l : List P2) (n i : Nat) (p : P2), l.Nodup → l[i]? = some p → dFind true (kk p) (((l.map pD).zipIdx n).map fun q => (q.1, D.int (q.2 : Int))) = some (.int ((n + i : Nat) : Int))
  | [], n, i, p, _, h => by simp at h
  | q :: l, n, 0, p, hn, h => by
    simp at h
    subst h
    simp only [List.map_cons, List.zipIdx_cons, dFind]
    rw [show keyD true (pD q) = some (kk q) from rfl]
    simp
  | q :: l, n, i + 1, p, hn, h => by
    simp at h
    have hne : q ≠ p := fun z => by
      subst z
      exact (List.nodup_cons.mp hn).1 (List.mem_of_getElem? h)
    simp only [List.map_cons, List.zipIdx_cons, dFind]
    rw [show keyD true (pD q) = some (kk q) from rfl, if_neg (by rw [kk_inj]; exact hne), dfind_ix l (n + 1) i p (List.nodup_cons.mp hn).2 h]
    congr 2
    omega
theorem f126 {T : Tab} [H0 T] [H1 T] [H3 T] [H63 T] [H126 T] [M126 T] [C2 T] [X4 T] (k : Nat) (l : List P2) (hn : l.Nodup) (i : Nat) (p : P2) (hi : l[i]? = some p) : Fn T (k + 4) 126 [.fz (oP l), .fz (pD p)] = .ok ⟨.f, .int i⟩ [.un, .un] := by
  refine FR.eq_of ?_
  rw [fq126]
  walk_at "fn"
  have h1 := ixs_keys l
  have h2 := ixs_mem l p
  rw [decide_eq_true (List.mem_of_getElem? hi)] at h2
  have h3 := key_p p
  have h4 := @opNin_dic
  have h5 : isSpot (.tup [.int p.1, .int p.2]) = true := rfl
  have h6 := dfind_ix l 0 i p hn hi
  rw [Nat.zero_add] at h6
  change dFind true (kk p) (ixs (l.map pD)) = _ at h6
  unfold B126 oP oD pD
  unfold pD at h1 h2 h6
  generalize ixs (l.map fun p => .tup [.int p.1, .int p.2]) = kvs at *
  clear hi hn
  refine w_seq ?_
  walk_at "f"
  walk_at "nil"
  walk_at "r"
  exact ⟨rfl, rfl, rfl⟩
theorem f15 {T : Tab} [H15 T] [M15 T] [C2 T] (k : Nat) (a b : List P2) : Fn T (k + 2) 15 [.fz (oP a), .fz (oP b)] = .ok ⟨.f, .bl (decide (a = b))⟩ [.un, .un] := by
  refine FR.eq_of ?_
  rw [fq15]
  walk_at "fn"
  have h1 := shp_l a
  have h2 := shp_l b
  have h3 := eqvD_l a b
  unfold B15 oP oD
  generalize a.map pD = A at *
  generalize b.map pD = B at *
  walk_at "r"
  exact ⟨rfl, rfl, rfl⟩
end Py

set_option Elab.async false
set_option linter.all false
set_option maxRecDepth 100000
set_option maxHeartbeats 1000000
/-! LPool: the drawn numbers of a script: _law_pool 5, _law_mixed 6, _law_draw 7, _law_shuffled 9. -/
namespace Py
open PySem L2 Cat
local macro_rules | `(tactic| walk_at "py") => `(tactic| simp [run_try, runs_1, runs_nil, run_pass, run_brk, run_cont, run_ret, run_set, run_ex, run_ite, run_seti, run_setf, run_aug, mSet, fAug, mOp, tyL, ev_c, ev_v, ev_op, ev_not, ev_and, ev_or, ev_ife, ev_cee, ev_cet, ev_cte, ev_ctt, ev_call, ev_meth, ev_new, ev_mut, evs, evI, evP, mThen, mPass, mBreak, mCont, R.bind, R.map, mOpO, ownNo, ownR, ownRun, applyPost, swp, sw2, gBool, gNotB, gLen_ok, Bo.own, Bo.op, Bo.ci, opEither, opA, opI2, fSub, fPow, fLt, fLe, fGt, fGe, powOk, opAdd, elF, szOk, Sh.flat, evNil, evCons, evTail, refix, T.isB, mV, mC, mNot, mAnd, mOr, mIfE, mIf, mRet, outV, mDrop, slotOf, setSlot, fr_un, fr_fz, fr_bo, fr_ow, asgT, asgTs, asI, asItem, aTp, aNil, aCons, fgT, mkV_f, mkV_i, mkV_b, mkV_s, mkV_n, mkV_t, mkV_l, mkV_d, mkV_o, T.sub, mkT, Sh.sub, frzV, frzAll, opLst, opTup, opSz, opIx, opLen, opList, opTuple, opInt, opAbs, opMax, opMin, opSl, partsOf, opNeg, opIsN, isN_n, isN_b, isN_i, isN_s, isN_l, isN_t, isN_d, isN_o, opIsT, opIsC, isD_int_n, isD_int_b, isD_int_i, isD_int_s, isD_int_l, isD_int_t, isD_int_d, isD_int_o, isD_bool_n, isD_bool_b, isD_bool_i, isD_bool_s, isD_bool_l, isD_bool_t, isD_bool_d, isD_bool_o, isD_str_n, isD_str_b, isD_str_i, isD_str_s, isD_str_l, isD_str_t, isD_str_d, isD_str_o, isD_list_n, isD_list_b, isD_list_i, isD_list_s, isD_list_l, isD_list_t, isD_list_d, isD_list_o, isD_tuple_n, isD_tuple_b, isD_tuple_i, isD_tuple_s, isD_tuple_l, isD_tuple_t, isD_tuple_d, isD_tuple_o, isD_dict_n, isD_dict_b, isD_dict_i, isD_dict_s, isD_dict_l, isD_dict_t, isD_dict_d, isD_dict_o, isC, opEq, shp_i, shp_b, shp_n, eq_ii, eq_bb, opFld, T.fsub, Sh.fsub, mSetI, mSetF, getAt, putAt, ownAt, setOwn, pathS, pathD, putS, putD, mpV, mpF, mpI, gEither, gSetL, gSetD, callV, takes, argSlots, argSlot, backs, outT, runC, fill, mCallD, methV, mMeth, mNew, runN, newV, partV, putFld, Sh.snoc, Sh.putN, Sh.nth, Ex.p, Exs.p, Exs.len, mChn, mMid, mLast, mMut, Mo.g, gAppend, opDNew, at_i, at_b, at_s, at_n, at_l, at_t, at_d, at_o, opInD, opIn_l, opIn_d, opIxD, dPut, ev1, ev2, atI_0, atI_1, atI_2, atI_3, atI_4, ixN, mSeqI, seqI, srcT, mRng1, mRng2, mRng3, mEnum, enumI, mZip, zipI, wipeE, restoreE, unlockE, unlock, plainS, R.w, Ow, Oz, finEnv, keepMu, mul_ok, mul_ok2, div_ok, mod_ok, mRaise, initR, raiseF, xInit, xFl, mTry, mHand, hsRun, freeO, clrO, HcT.v, HsT.v, hxV, hxVs, hFld, hTup, hAll, *])
local macro_rules | `(tactic| walk_at "nil") => `(tactic| (refine w_nil ?_; try dsimp only))
local macro_rules | `(tactic| walk_at "s") => `(tactic| refine w_nx (by walk_at "py"; rfl) ?_)
local macro_rules | `(tactic| walk_at "q") => `(tactic| (first | rfl | exact ⟨rfl, rfl⟩ | exact ⟨rfl, rfl, rfl⟩))
local macro_rules | `(tactic| walk_at "t") => `(tactic| (refine w_ite (q := true) (by walk_at "py"; walk_at "q") (fun _ => ?_) (fun z => by cases z)))
local macro_rules | `(tactic| walk_at "f") => `(tactic| (refine w_ite (q := false) (by walk_at "py"; walk_at "q") (fun z => by cases z) (fun _ => ?_)))
local macro_rules | `(tactic| walk_at "r") => `(tactic| refine w_rt (by walk_at "py"; walk_at "q") ?_)
local macro_rules | `(tactic| walk_at "x") => `(tactic| refine w_xx (by walk_at "py"; walk_at "q") ?_)
local macro_rules | `(tactic| walk_at "fnx") => `(tactic| (refine w_fnx ?_; simp only [List.length_cons, List.length_nil, Nat.zero_add, Nat.reduceAdd, Nat.reduceSub, Nat.sub_self, List.replicate_succ, List.replicate_zero, List.cons_append, List.nil_append, List.append_nil]))
local macro_rules | `(tactic| walk_at "fn") => `(tactic| (refine w_fn ?_; simp only [List.length_cons, List.length_nil, Nat.zero_add, Nat.reduceAdd, Nat.reduceSub, Nat.sub_self, List.replicate_succ, List.replicate_zero, List.cons_append, List.nil_append, List.append_nil]))
/-- a pool -/
structure Pool where
  cs : List Int
  a : Nat
  l : Int
  m : Int
  n : Int
def Pool.d (p : Pool) : D := .lst [.lst (p.cs.map D.int), .int p.a, .int p.l, .int p.m, .int p.n]
def mx1 (m n c : Int) : Int := (m + c % 2147483647 + 7919 * (n + 1)) * 48271 % 2147483647
def mx2 (m n c : Int) : Int := mx1 m n c * (mx1 m n c / 1009 + 69621) % 2147483647
def mx3 (m n c : Int) : Int := mx2 m n c * (mx2 m n c / 2003 + 40692) % 2147483399 / 8
@[simp] theorem f6 {T : Tab} [H6 T] (k : Nat) (p : Pool) (c : Int) : Fn T (k + 2) 6 [.mu (.l .f) p.d, .fz (.int c)] = .ok ⟨.f, .int (mx3 p.m p.n c)⟩ [.mu (.l .f) (Pool.d { p with m := mx2 p.m p.n c, n := p.n + 1 }), .un] := by
  refine FR.eq_of ?_
  rw [fq6]
  obtain ⟨cs, a, l, m, n⟩ := p
  dsimp only
  have b1 : 0 ≤ mx1 m n c ∧ mx1 m n c < 2147483647 := ⟨Int.emod_nonneg _ (by decide), Int.emod_lt_of_pos _ (by decide)⟩
  have b2 : 0 ≤ mx2 m n c ∧ mx2 m n c < 2147483647 := ⟨Int.emod_nonneg _ (by decide), Int.emod_lt_of_pos _ (by decide)⟩
  have h1 : (mx1 m n c).natAbs < 18446744073709551616 := by omega
  have h2 : (mx2 m n c).natAbs < 18446744073709551616 := by omega
  refine w_fn ?_
  unfold B6 Pool.d
  refine w_nx (by walk_at "py"; rfl) ?_
  refine w_nx (by walk_at "py"; rfl) ?_
  refine w_nx (by walk_at "py"; rfl) ?_
  show Fl.w (runs _ _ _ _ [_, _, .fz (.int (mx1 m n c))]) _
  refine w_nx (by walk_at "py"; rfl) ?_
  show Fl.w (runs _ _ _ _ [_, _, .fz (.int (mx2 m n c))]) _
  refine w_nx (by walk_at "py"; rfl) ?_
  refine w_nx (by walk_at "py"; rfl) ?_
  refine w_rt (by walk_at "py"; exact ⟨rfl, rfl⟩) ?_
  exact ⟨rfl, rfl, rfl⟩
/-- a draw below z: what is drawn, and the pool behind it -/
def draw (p : Pool) (z : Int) : Int × Pool :=
  match (if p.l ≤ 1 then p.cs[p.a]? else none) with
  | some c => if c < 1000000000000000000 then (mx3 p.m p.n c % z, { p with a := p.a + 1, m := mx2 p.m p.n c, n := p.n + 1 }) else (c % z, { p with a := p.a + 1, l := c / z })
  | none => if 1 < p.l then (p.l % z, { p with l := p.l / z }) else (mx3 p.m p.n 0 % z, { p with m := mx2 p.m p.n 0, n := p.n + 1 })
def drawV (p : Pool) (z : Int) : Int := (draw p z).1
def drawN (p : Pool) (z : Int) : Pool := (draw p z).2
theorem draw_lt (p : Pool) {z : Int} (h : 0 < z) : 0 ≤ drawV p z ∧ drawV p z < z := by
  have key : ∀ x : Int, 0 ≤ x % z ∧ x % z < z := fun x => ⟨Int.emod_nonneg _ (by omega), Int.emod_lt_of_pos _ h⟩
  unfold drawV draw
  split
  · split <;> exact key _
  · split <;> exact key _
@[simp] theorem f7 {T : Tab} [H6 T] [H7 T] (k : Nat) (p : Pool) (z : Int) (hz : 0 < z) (hz2 : z < 18446744073709551616) : Fn T (k + 3) 7 [.mu (.l .f) p.d, .fz (.int z)] = .ok ⟨.f, .int (drawV p z)⟩ [.mu (.l .f) (drawN p z).d, .un] := by
  refine FR.eq_of ?_
  rw [fq7]
  refine w_fn ?_
  have hz3 : z.natAbs < 18446744073709551616 := by omega
  obtain ⟨cs, a, l, m, n⟩ := p
  have e6 : ∀ (k : Nat) (a l m n c : Int), 0 ≤ a → Fn T (k + 2) 6 [.mu (.l .f) (.lst [.lst (cs.map D.int), .int a, .int l, .int m, .int n]), .fz (.int c)] = .ok ⟨.f, .int (mx3 m n c)⟩ [.mu (.l .f) (.lst [.lst (cs.map D.int), .int a, .int l, .int (mx2 m n c), .int (n + 1)]), .un] := fun k a l m n c h => by
    obtain ⟨b, rfl⟩ := Int.eq_ofNat_of_zero_le h
    exact f6 k ⟨cs, b, l, m, n⟩ c
  unfold B7 drawV drawN draw
  dsimp only
  refine w_seq ?_
  by_cases h1 : l ≤ 1
  · rw [if_pos h1]
    by_cases h2 : a < cs.length
    · have ec : cs[a]? = some cs[a] := by simp [h2]
      rw [ec]
      generalize cs[a] = c at ec
      dsimp only
      have hat : atI (cs.map D.int) (a : Int) = some (.int c) := by rw [atI_nat, List.getElem?_map, ec]; rfl
      refine w_ite (q := true) (by unfold Pool.d; walk_at "py"; exact ⟨rfl, rfl⟩) (fun _ => ?_) (fun z => by cases z)
      refine w_nx (by walk_at "py"; rfl) ?_
      refine w_nx (by walk_at "py"; rfl) ?_
      refine w_seq ?_
      have e7 := e6 k ((a : Int) + 1) l m n c (by omega)
      by_cases h3 : c < 1000000000000000000
      · refine w_ite (q := true) (by walk_at "py"; exact ⟨rfl, rfl⟩) (fun _ => ?_) (fun z => by cases z)
        refine w_rt (by walk_at "py"; exact ⟨rfl, rfl⟩) ?_
        rw [if_pos h3]
        exact ⟨rfl, rfl, rfl⟩
      · have h4 : 1 < c := by omega
        refine w_ite (q := false) (by walk_at "py"; exact ⟨rfl, rfl⟩) (fun z => by cases z) (fun _ => ?_)
        walk_at "nil"
        refine w_nx (by walk_at "py"; rfl) ?_
        walk_at "nil"
        refine w_seq ?_
        refine w_ite (q := true) (by walk_at "py"; exact ⟨rfl, rfl⟩) (fun _ => ?_) (fun z => by cases z)
        refine w_nx (by walk_at "py"; rfl) ?_
        refine w_nx (by walk_at "py"; rfl) ?_
        refine w_rt (by walk_at "py"; exact ⟨rfl, rfl⟩) ?_
        rw [if_neg h3]
        exact ⟨rfl, rfl, rfl⟩
    · have ec : cs[a]? = none := by simp; omega
      have h5 : ¬ 1 < l := by omega
      rw [ec]
      dsimp only
      rw [if_neg h5]
      refine w_ite (q := false) (by unfold Pool.d; walk_at "py"; exact ⟨rfl, rfl⟩) (fun z => by cases z) (fun _ => ?_)
      walk_at "nil"
      refine w_seq ?_
      refine w_ite (q := false) (by walk_at "py"; exact ⟨rfl, rfl⟩) (fun z => by cases z) (fun _ => ?_)
      walk_at "nil"
      have e7 := e6 k (a : Int) l m n 0 (by omega)
      refine w_rt (by walk_at "py"; exact ⟨rfl, rfl⟩) ?_
      exact ⟨rfl, rfl, rfl⟩
  · have h2 : 1 < l := by omega
    rw [if_neg h1]
    dsimp only
    rw [if_pos h2]
    refine w_ite (q := false) (by unfold Pool.d; walk_at "py"; exact ⟨rfl, rfl⟩) (fun z => by cases z) (fun _ => ?_)
    walk_at "nil"
    refine w_seq ?_
    refine w_ite (q := true) (by walk_at "py"; exact ⟨rfl, rfl⟩) (fun _ => ?_) (fun z => by cases z)
    refine w_nx (by walk_at "py"; rfl) ?_
    refine w_nx (by walk_at "py"; rfl) ?_
    refine w_rt (by walk_at "py"; exact ⟨rfl, rfl⟩) ?_
    exact ⟨rfl, rfl, rfl⟩
def pool0 (ns : List Int) : Pool := ⟨cutL ns none (some 63), 0, 0, 1, 0⟩
theorem f5 {T : Tab} [H5 T] (k : Nat) (ns : List Int) (hn : ns.length ≤ 63) : Fn T (k + 2) 5 [.fz (.lst (ns.map D.int))] = .ok ⟨.o (.l .f), (pool0 ns).d⟩ [.un] := by
  refine FR.eq_of ?_
  rw [fq5]
  refine w_fn ?_
  unfold B5
  have hc : ev T (Fn T (k + 1)) (Fn T k) (.comp (.sq (.op (.sl false true) (.cons (.v 0) (.cons (.c (.int 63)) .nil)))) [1] (.nm 1) (.c (.bl true)) (.op .int (.cons (.v 1) .nil))) [.fz (.lst (ns.map D.int)), .un] = .ok ⟨.o (.l .f), .lst ((cutL ns none (some 63)).map D.int)⟩ [.fz (.lst (ns.map D.int)), .un] := by
    have := comp_is (T := T) (Φ := Fn T (k + 1)) (Ψ := Fn T k) (s := .sq (.op (.sl false true) (.cons (.v 0) (.cons (.c (.int 63)) .nil)))) (vs := [1]) (t := .nm 1) (u := .c (.bl true)) (e := .op .int (.cons (.v 1) .nil)) (env := [.fz (.lst (ns.map D.int)), .un])
      (its := itemsOf .f (cutL (ns.map D.int) none (some 63))) (ls := []) (e1 := [.fz (.lst (ns.map D.int)), .un]) (by walk_at "py") rfl (comp_map2 itD ?_ ?_)
    · rw [this]; simp [itemsOf, itD, mkV, solid, cutL_map, unlockE, restoreE, wipeE]
    · have := cutL_len (ns.map D.int) none (some 63)
      simp [itemsOf] at *
      omega
    · intro it hit
      simp only [itemsOf, List.mem_map, cutL_map] at hit
      obtain ⟨d, ⟨c, hc, rfl⟩, rfl⟩ := hit
      walk_at "py"
      simp [itD]
  refine w_rt (by walk_at "py"; exact ⟨rfl, rfl⟩) ?_
  exact ⟨rfl, rfl, rfl⟩
/-- a shuffle -/
theorem f9x {T : Tab} [H6 T] [H7 T] [H9 T] (k : Nat) (p : Pool) (ds : List D) (s : Slot) (hd : ds.length ≤ 1000) (hs : rdS s (.lst ds)) : FR.is (Fn T (k + 4) 9 [.mu (.l .f) p.d, s]) fun v ws => ∃ (ds' : List D) (p' : Pool), v = ⟨.o (.l .f), .lst ds'⟩ ∧ ws = [.mu (.l .f) (Pool.d p'), .un] ∧ ds'.Perm ds := by
  rw [fq9]
  refine w_fn ?_
  unfold B9
  have h1 : Py.run T (Fn T (k + 3)) (Fn T (k + 2)) (.set (.nm 2) (.op .list (.cons (.v 1) .nil))) [.mu (.l .f) p.d, s, .un, .un, .un, .un] = .nx [.mu (.l .f) p.d, s, .ow (.l .f) (.lst ds), .un, .un, .un] := by
    rcases hs with rfl | rfl | rfl <;> walk_at "py"
  refine w_nx h1 ?_
  refine w_seq ?_
  refine w_for (I := fun i e => ∃ (q : Pool) (ds' : List D) (s3 s4 s5 : Slot), e = [.mu (.l .f) q.d, s, .ow (.l .f) (.lst ds'), s3, s4, s5] ∧ ds'.Perm ds ∧ free (some s3) = true ∧ free (some s4) = true ∧ free (some s5) = true)
    (its := rangeItems ((ds.length : Int) - 1) (-1) ((ds.length : Int) - 1 - 0).toNat) (e1 := [.mu (.l .f) p.d, s, .ow (.l .f) (.lst ds), .un, .un, .un]) ?_ ?_ ?_ ?_
  · refine evI_r3 (okR_of (by omega) (by omega)) okR_0 ?_
    walk_at "py"
  · exact ⟨_, _, _, _, _, rfl, List.Perm.refl _, rfl, rfl, rfl⟩
  · rintro i it e hit ⟨q, ds', s3, s4, s5, rfl, hp, f3, f4, f5⟩
    obtain ⟨hi, rfl⟩ := range_get hit
    have hl := hp.length_eq
    obtain ⟨x, hx⟩ : ∃ x : Int, x = (ds.length : Int) - 1 + (i : Int) * -1 := ⟨_, rfl⟩
    rw [← hx]
    have x0 : 1 ≤ x := by omega
    have x1 : x < ds'.length := by omega
    have x2 : x + 1 ≤ 1000 := by omega
    clear hx hit hi
    refine ⟨[.mu (.l .f) q.d, s, .ow (.l .f) (.lst ds'), .fz (.int x), s4, s5], by walk_at "py", ?_⟩
    have g7 := f7 k (T := T) q (x + 1) (by omega) (by omega)
    obtain ⟨r0, r1⟩ := draw_lt q (z := x + 1) (by omega)
    generalize drawV q (x + 1) = r at *
    obtain ⟨dk, hk1, hk2⟩ := at_some (ds := ds') (i := x) (by omega) (by omega)
    obtain ⟨dr, hr1, hr2⟩ := at_some (ds := ds') (i := r) (by omega) (by omega)
    have y0 : 0 ≤ x := by omega
    have y1 : x < (ds.length : Int) := by omega
    have y2 : r < (ds.length : Int) := by omega
    walk_at "s"
    walk_at "s"
    walk_at "s"
    walk_at "s"
    walk_at "nil"
    exact ⟨_, _, _, _, _, rfl, (swap_perm ds' hk2 hr2).trans hp, rfl, rfl, rfl⟩
  · rintro e ⟨q, ds', s3, s4, s5, rfl, hp, f3, f4, f5⟩
    dsimp only
    walk_at "r"
    exact ⟨rfl, _, _, rfl, by rcases hs with rfl | rfl | rfl <;> rfl, hp⟩
end Py

set_option Elab.async false
set_option linter.all false
set_option maxRecDepth 100000
set_option maxHeartbeats 0
namespace Tk08
open PySem L2 Py Cat
def topS (i : Nat) : Stmt := PySem.Challenge.pw_pairorder_k08_orders_made.main.body.getD i (.Pass ⟨0, 0, 0, 0⟩)
def clsS (i j : Nat) : Stmt := match topS i with
  | .ClassDef _ _ _ b _ _ _ _ _ _ _ => b.getD j (.Pass ⟨0, 0, 0, 0⟩)
  | _ => .Pass ⟨0, 0, 0, 0⟩
/-- copied -/
def st0 : Stmt := (topS 2)
def d0 : He.DefD := ⟨("copied", none), "copied", "copied", defArgs st0, defBody st0, defScope st0, [], []⟩
def e0 : Ent := ⟨0, F0, d0, ["value", "entry"], ["value"], 200⟩
/-- is_integer -/
def st1 : Stmt := (topS 8)
def d1 : He.DefD := ⟨("is_integer", none), "is_integer", "is_integer", defArgs st1, defBody st1, defScope st1, [], []⟩
def e1 : Ent := ⟨1, F1, d1, ["value"], ["value"], 200⟩
/-- is_between -/
def st2 : Stmt := (topS 9)
def d2 : He.DefD := ⟨("is_between", none), "is_between", "is_between", defArgs st2, defBody st2, defScope st2, [], []⟩
def e2 : Ent := ⟨2, F2, d2, ["value", "low", "high"], ["value", "low", "high"], 200⟩
/-- is_spot -/
def st3 : Stmt := (topS 10)
def d3 : He.DefD := ⟨("is_spot", none), "is_spot", "is_spot", defArgs st3, defBody st3, defScope st3, [], []⟩
def e3 : Ent := ⟨3, F3, d3, ["value"], ["value"], 200⟩
/-- is_possible_pair -/
def st4 : Stmt := (topS 14)
def d4 : He.DefD := ⟨("is_possible_pair", none), "is_possible_pair", "is_possible_pair", defArgs st4, defBody st4, defScope st4, [], []⟩
def e4 : Ent := ⟨4, F4, d4, ["value"], ["value"], 200⟩
/-- _law_pool -/
def st5 : Stmt := (topS 17)
def d5 : He.DefD := ⟨("_law_pool", none), "_law_pool", "_law_pool", defArgs st5, defBody st5, defScope st5, [], []⟩
def e5 : Ent := ⟨5, F5, d5, ["_law_script", "_law_cell"], ["_law_script"], 200⟩
/-- _law_mixed -/
def st6 : Stmt := (topS 18)
def d6 : He.DefD := ⟨("_law_mixed", none), "_law_mixed", "_law_mixed", defArgs st6, defBody st6, defScope st6, [], []⟩
def e6 : Ent := ⟨6, F6, d6, ["_law_pool_here", "_law_cell", "_law_number"], ["_law_pool_here", "_law_cell"], 200⟩
/-- _law_draw -/
def st7 : Stmt := (topS 19)
def d7 : He.DefD := ⟨("_law_draw", none), "_law_draw", "_law_draw", defArgs st7, defBody st7, defScope st7, [], []⟩
def e7 : Ent := ⟨7, F7, d7, ["_law_pool_here", "_law_size", "_law_cell", "_law_number"], ["_law_pool_here", "_law_size"], 200⟩
/-- _law_shuffled -/
def st9 : Stmt := (topS 21)
def d9 : He.DefD := ⟨("_law_shuffled", none), "_law_shuffled", "_law_shuffled", defArgs st9, defBody st9, defScope st9, [], []⟩
def e9 : Ent := ⟨9, F9, d9, ["_law_pool_here", "_law_things", "_law_mixed_here", "_law_k", "_law_other", "_law_held"], ["_law_pool_here", "_law_things"], 200⟩
/-- InvalidOrder.__init__ -/
def st13 : Stmt := (clsS 4 0)
def d13 : He.DefD := ⟨("InvalidOrder", some "__init__"), "__init__", "InvalidOrder.__init__", defArgs st13, defBody st13, defScope st13, [], []⟩
def e13 : Ent := ⟨13, F13, d13, ["self", "at"], ["self", "at"], 200⟩
/-- Order.__init__ -/
def st14 : Stmt := (clsS 15 0)
def d14 : He.DefD := ⟨("Order", some "__init__"), "__init__", "Order.__init__", defArgs st14, defBody st14, defScope st14, [], []⟩
def e14 : Ent := ⟨14, F14, d14, ["self", "pairs", "at", "pair"], ["self", "pairs"], 200⟩
/-- Order.__eq__ -/
def st15 : Stmt := (clsS 15 1)
def d15 : He.DefD := ⟨("Order", some "__eq__"), "__eq__", "Order.__eq__", defArgs st15, defBody st15, defScope st15, [], []⟩
def e15 : Ent := ⟨15, F15, d15, ["self", "other"], ["self", "other"], 200⟩
/-- Order.__lt__ -/
def st16 : Stmt := (clsS 15 2)
def d16 : He.DefD := ⟨("Order", some "__lt__"), "__lt__", "Order.__lt__", defArgs st16, defBody st16, defScope st16, [], []⟩
def e16 : Ent := ⟨16, F16, d16, ["self", "other"], ["self", "other"], 200⟩
/-- Order.__le__ -/
def st17 : Stmt := (clsS 15 3)
def d17 : He.DefD := ⟨("Order", some "__le__"), "__le__", "Order.__le__", defArgs st17, defBody st17, defScope st17, [], []⟩
def e17 : Ent := ⟨17, F17, d17, ["self", "other"], ["self", "other"], 200⟩
/-- Order.__gt__ -/
def st18 : Stmt := (clsS 15 4)
def d18 : He.DefD := ⟨("Order", some "__gt__"), "__gt__", "Order.__gt__", defArgs st18, defBody st18, defScope st18, [], []⟩
def e18 : Ent := ⟨18, F18, d18, ["self", "other"], ["self", "other"], 200⟩
/-- Order.__len__ -/
def st20 : Stmt := (clsS 15 7)
def d20 : He.DefD := ⟨("Order", some "__len__"), "__len__", "Order.__len__", defArgs st20, defBody st20, defScope st20, [], []⟩
def e20 : Ent := ⟨20, F20, d20, ["self"], ["self"], 200⟩
/-- InvalidBound.__init__ -/
def st21 : Stmt := (clsS 6 0)
def d21 : He.DefD := ⟨("InvalidBound", some "__init__"), "__init__", "InvalidBound.__init__", defArgs st21, defBody st21, defScope st21, [], []⟩
def e21 : Ent := ⟨21, F21, d21, ["self", "name"], ["self", "name"], 200⟩
/-- Order.__getitem__ -/
def st22 : Stmt := (clsS 15 8)
def d22 : He.DefD := ⟨("Order", some "__getitem__"), "__getitem__", "Order.__getitem__", defArgs st22, defBody st22, defScope st22, [], []⟩
def e22 : Ent := ⟨22, F22, d22, ["self", "at"], ["self", "at"], 200⟩
/-- Order.__contains__ -/
def st23 : Stmt := (clsS 15 9)
def d23 : He.DefD := ⟨("Order", some "__contains__"), "__contains__", "Order.__contains__", defArgs st23, defBody st23, defScope st23, [], []⟩
def e23 : Ent := ⟨23, F23, d23, ["self", "value"], ["self", "value"], 200⟩
/-- _law_same -/
def st48 : Stmt := (topS 20)
def d48 : He.DefD := ⟨("_law_same", none), "_law_same", "_law_same", defArgs st48, defBody st48, defScope st48, [], []⟩
def e48 : Ent := ⟨48, F48, d48, ["_law_actual", "_law_due_here", "_law_k"], ["_law_actual", "_law_due_here"], 200⟩
/-- InvalidPair.__init__ -/
def st63 : Stmt := (clsS 5 0)
def d63 : He.DefD := ⟨("InvalidPair", some "__init__"), "__init__", "InvalidPair.__init__", defArgs st63, defBody st63, defScope st63, [], []⟩
def e63 : Ent := ⟨63, F63, d63, ["self", "pair"], ["self", "pair"], 200⟩
/-- _law_spoiled -/
def st120 : Stmt := (topS 22)
def d120 : He.DefD := ⟨("_law_spoiled", none), "_law_spoiled", "_law_spoiled", defArgs st120, defBody st120, defScope st120, [], []⟩
def e120 : Ent := ⟨120, F120, d120, ["_law_pool_here", "_law_pairs", "_law_choice", "_law_at", "_law_other", "_law_low", "_law_bad", "_law_k"], ["_law_pool_here", "_law_pairs", "_law_choice"], 200⟩
/-- _law_is_pair -/
def st121 : Stmt := (topS 23)
def d121 : He.DefD := ⟨("_law_is_pair", none), "_law_is_pair", "_law_is_pair", defArgs st121, defBody st121, defScope st121, [], []⟩
def e121 : Ent := ⟨121, F121, d121, ["_law_value", "_law_part"], ["_law_value"], 200⟩
/-- _law_due -/
def st122 : Stmt := (topS 24)
def d122 : He.DefD := ⟨("_law_due", none), "_law_due", "_law_due", defArgs st122, defBody st122, defScope st122, [], []⟩
def e122 : Ent := ⟨122, F122, d122, ["_law_pairs", "_law_k"], ["_law_pairs"], 200⟩
/-- _law_told -/
def st123 : Stmt := (topS 25)
def d123 : He.DefD := ⟨("_law_told", none), "_law_told", "_law_told", defArgs st123, defBody st123, defScope st123, [], []⟩
def e123 : Ent := ⟨123, F123, d123, ["_law_order", "_law_pairs", "_law_k", "_law_i", "_law_j"], ["_law_order", "_law_pairs"], 200⟩
/-- law -/
def st124 : Stmt := (topS 26)
def d124 : He.DefD := ⟨("law", none), "law", "law", defArgs st124, defBody st124, defScope st124, [], []⟩
def e124 : Ent := ⟨124, F124, d124, ["_law_script", "_law_pool_here", "_law_choice", "_law_many", "_law_everything", "_law_pairs", "_law_due_here", "_law_passed", "_law_actual", "_law_order", "e", "_law_told_here", "_law_k"], ["_law_script"], 200⟩
/-- Order.pairs -/
def st125 : Stmt := (clsS 15 10)
def d125 : He.DefD := ⟨("Order", some "pairs"), "pairs", "Order.pairs", defArgs st125, defBody st125, defScope st125, [], []⟩
def e125 : Ent := ⟨125, F125, d125, ["self"], ["self"], 200⟩
/-- Order.place -/
def st126 : Stmt := (clsS 15 11)
def d126 : He.DefD := ⟨("Order", some "place"), "place", "Order.place", defArgs st126, defBody st126, defScope st126, [], []⟩
def e126 : Ent := ⟨126, F126, d126, ["self", "pair"], ["self", "pair"], 200⟩
def txt : Txt where
  ents := [e0, e1, e2, e3, e4, e5, e6, e7, e9, e13, e14, e15, e16, e17, e18, e20, e21, e22, e23, e48, e63, e120, e121, e122, e123, e124, e125, e126]
  cls := [⟨2, "Order", ["listed", "spots"], [("__eq__", 15), ("__lt__", 16), ("__le__", 17), ("__gt__", 18), ("__len__", 20), ("__getitem__", 22), ("__contains__", 23), ("pairs", 125), ("place", 126)], some 14, true⟩]
  gbs := [(("bool" : Str), Gb.bi), (("enumerate" : Str), Gb.bi), (("int" : Str), Gb.bi), (("isinstance" : Str), Gb.bi), (("len" : Str), Gb.bi), (("list" : Str), Gb.bi), (("range" : Str), Gb.bi), (("str" : Str), Gb.bi), (("tuple" : Str), Gb.bi), (("LONGEST" : Str), Gb.at (.int 64)), (("GREATEST" : Str), Gb.at (.int 7)), (("copied" : Str), Gb.fn 0), (("is_integer" : Str), Gb.fn 1), (("is_between" : Str), Gb.fn 2), (("is_spot" : Str), Gb.fn 3), (("is_possible_pair" : Str), Gb.fn 4), (("_law_pool" : Str), Gb.fn 5), (("_law_mixed" : Str), Gb.fn 6), (("_law_draw" : Str), Gb.fn 7), (("_law_shuffled" : Str), Gb.fn 9), (("_law_same" : Str), Gb.fn 48), (("_law_spoiled" : Str), Gb.fn 120), (("_law_is_pair" : Str), Gb.fn 121), (("_law_due" : Str), Gb.fn 122), (("_law_told" : Str), Gb.fn 123), (("law" : Str), Gb.fn 124), (("Order" : Str), Gb.cl 2), (("PairError" : Str), Gb.xc 0 99999), (("InvalidOrder" : Str), Gb.xc 3 13), (("InvalidPair" : Str), Gb.xc 4 63), (("InvalidBound" : Str), Gb.xc 5 21)]
  imp := ["change", "set_kind", "bar", "set_order", "undo", "redo", "trial"]
  kts := []
  xcs := [⟨0, "PairError", [], [], none⟩, ⟨3, "InvalidOrder", ["at"], [0], some 13⟩, ⟨4, "InvalidPair", ["pair"], [0], some 63⟩, ⟨5, "InvalidBound", ["name"], [0], some 21⟩]
  dk := []
theorem k0 : EntOk txt.G e0 := ⟨rfl, fun _ => ⟨⟨rfl, rfl, rfl, by decide +kernel, rfl, by decide +kernel, by decide +kernel⟩, rfl, by kernel_rfl⟩, fun K a fd F => ⟨fun _ => F.bindsN (fun _ _ _ _ _ _ us hl => match us, hl with | [_], _ => rfl), fun h => absurd rfl h, fun h => absurd rfl h⟩, rfl⟩
theorem k1 : EntOk txt.G e1 := ⟨rfl, fun _ => ⟨⟨rfl, rfl, rfl, by decide +kernel, rfl, by decide +kernel, by decide +kernel⟩, rfl, by kernel_rfl⟩, fun K a fd F => ⟨fun _ => F.bindsN (fun _ _ _ _ _ _ us hl => match us, hl with | [_], _ => rfl), fun h => absurd rfl h, fun h => absurd rfl h⟩, rfl⟩
theorem k2 : EntOk txt.G e2 := ⟨rfl, fun _ => ⟨⟨rfl, rfl, rfl, by decide +kernel, rfl, by decide +kernel, by decide +kernel⟩, rfl, by kernel_rfl⟩, fun K a fd F => ⟨fun _ => F.bindsN (fun _ _ _ _ _ _ us hl => match us, hl with | [_, _, _], _ => rfl), fun h => absurd rfl h, fun h => absurd rfl h⟩, rfl⟩
theorem k3 : EntOk txt.G e3 := ⟨rfl, fun _ => ⟨⟨rfl, rfl, rfl, by decide +kernel, rfl, by decide +kernel, by decide +kernel⟩, rfl, by kernel_rfl⟩, fun K a fd F => ⟨fun _ => F.bindsN (fun _ _ _ _ _ _ us hl => match us, hl with | [_], _ => rfl), fun h => absurd rfl h, fun h => absurd rfl h⟩, rfl⟩
theorem k4 : EntOk txt.G e4 := ⟨rfl, fun _ => ⟨⟨rfl, rfl, rfl, by decide +kernel, rfl, by decide +kernel, by decide +kernel⟩, rfl, by kernel_rfl⟩, fun K a fd F => ⟨fun _ => F.bindsN (fun _ _ _ _ _ _ us hl => match us, hl with | [_], _ => rfl), fun h => absurd rfl h, fun h => absurd rfl h⟩, rfl⟩
theorem k5 : EntOk txt.G e5 := ⟨rfl, fun _ => ⟨⟨rfl, rfl, rfl, by decide +kernel, rfl, by decide +kernel, by decide +kernel⟩, rfl, by kernel_rfl⟩, fun K a fd F => ⟨fun _ => F.bindsN (fun _ _ _ _ _ _ us hl => match us, hl with | [_], _ => rfl), fun h => absurd rfl h, fun h => absurd rfl h⟩, rfl⟩
theorem k6 : EntOk txt.G e6 := ⟨rfl, fun _ => ⟨⟨rfl, rfl, rfl, by decide +kernel, rfl, by decide +kernel, by decide +kernel⟩, rfl, by kernel_rfl⟩, fun K a fd F => ⟨fun _ => F.bindsN (fun _ _ _ _ _ _ us hl => match us, hl with | [_, _], _ => rfl), fun h => absurd rfl h, fun h => absurd rfl h⟩, rfl⟩
theorem k7 : EntOk txt.G e7 := ⟨rfl, fun _ => ⟨⟨rfl, rfl, rfl, by decide +kernel, rfl, by decide +kernel, by decide +kernel⟩, rfl, by kernel_rfl⟩, fun K a fd F => ⟨fun _ => F.bindsN (fun _ _ _ _ _ _ us hl => match us, hl with | [_, _], _ => rfl), fun h => absurd rfl h, fun h => absurd rfl h⟩, rfl⟩
theorem k9 : EntOk txt.G e9 := ⟨rfl, fun _ => ⟨⟨rfl, rfl, rfl, by decide +kernel, rfl, by decide +kernel, by decide +kernel⟩, rfl, by kernel_rfl⟩, fun K a fd F => ⟨fun _ => F.bindsN (fun _ _ _ _ _ _ us hl => match us, hl with | [_, _], _ => rfl), fun h => absurd rfl h, fun h => absurd rfl h⟩, rfl⟩
theorem k13 : EntOk txt.G e13 := ⟨rfl, fun _ => ⟨⟨rfl, rfl, rfl, by decide +kernel, rfl, by decide +kernel, by decide +kernel⟩, rfl, by kernel_rfl⟩, fun K a fd F => ⟨fun _ => F.bindsN (fun _ _ _ _ _ _ us hl => match us, hl with | [_, _], _ => rfl), fun h => absurd rfl h, fun h => absurd rfl h⟩, rfl⟩
theorem k14 : EntOk txt.G e14 := ⟨rfl, fun _ => ⟨⟨rfl, rfl, rfl, by decide +kernel, rfl, by decide +kernel, by decide +kernel⟩, rfl, by kernel_rfl⟩, fun K a fd F => ⟨fun _ => F.bindsN (fun _ _ _ _ _ _ us hl => match us, hl with | [_, _], _ => rfl), fun h => absurd rfl h, fun h => absurd rfl h⟩, rfl⟩
theorem k15 : EntOk txt.G e15 := ⟨rfl, fun _ => ⟨⟨rfl, rfl, rfl, by decide +kernel, rfl, by decide +kernel, by decide +kernel⟩, rfl, by kernel_rfl⟩, fun K a fd F => ⟨fun _ => F.bindsN (fun _ _ _ _ _ _ us hl => match us, hl with | [_, _], _ => rfl), fun h => absurd rfl h, fun h => absurd rfl h⟩, rfl⟩
theorem k16 : EntOk txt.G e16 := ⟨rfl, fun _ => ⟨⟨rfl, rfl, rfl, by decide +kernel, rfl, by decide +kernel, by decide +kernel⟩, rfl, by kernel_rfl⟩, fun K a fd F => ⟨fun _ => F.bindsN (fun _ _ _ _ _ _ us hl => match us, hl with | [_, _], _ => rfl), fun h => absurd rfl h, fun h => absurd rfl h⟩, rfl⟩
theorem k17 : EntOk txt.G e17 := ⟨rfl, fun _ => ⟨⟨rfl, rfl, rfl, by decide +kernel, rfl, by decide +kernel, by decide +kernel⟩, rfl, by kernel_rfl⟩, fun K a fd F => ⟨fun _ => F.bindsN (fun _ _ _ _ _ _ us hl => match us, hl with | [_, _], _ => rfl), fun h => absurd rfl h, fun h => absurd rfl h⟩, rfl⟩
theorem k18 : EntOk txt.G e18 := ⟨rfl, fun _ => ⟨⟨rfl, rfl, rfl, by decide +kernel, rfl, by decide +kernel, by decide +kernel⟩, rfl, by kernel_rfl⟩, fun K a fd F => ⟨fun _ => F.bindsN (fun _ _ _ _ _ _ us hl => match us, hl with | [_, _], _ => rfl), fun h => absurd rfl h, fun h => absurd rfl h⟩, rfl⟩
theorem k20 : EntOk txt.G e20 := ⟨rfl, fun _ => ⟨⟨rfl, rfl, rfl, by decide +kernel, rfl, by decide +kernel, by decide +kernel⟩, rfl, by kernel_rfl⟩, fun K a fd F => ⟨fun _ => F.bindsN (fun _ _ _ _ _ _ us hl => match us, hl with | [_], _ => rfl), fun h => absurd rfl h, fun h => absurd rfl h⟩, rfl⟩
theorem k21 : EntOk txt.G e21 := ⟨rfl, fun _ => ⟨⟨rfl, rfl, rfl, by decide +kernel, rfl, by decide +kernel, by decide +kernel⟩, rfl, by kernel_rfl⟩, fun K a fd F => ⟨fun _ => F.bindsN (fun _ _ _ _ _ _ us hl => match us, hl with | [_, _], _ => rfl), fun h => absurd rfl h, fun h => absurd rfl h⟩, rfl⟩
theorem k22 : EntOk txt.G e22 := ⟨rfl, fun _ => ⟨⟨rfl, rfl, rfl, by decide +kernel, rfl, by decide +kernel, by decide +kernel⟩, rfl, by kernel_rfl⟩, fun K a fd F => ⟨fun _ => F.bindsN (fun _ _ _ _ _ _ us hl => match us, hl with | [_, _], _ => rfl), fun h => absurd rfl h, fun h => absurd rfl h⟩, rfl⟩
theorem k23 : EntOk txt.G e23 := ⟨rfl, fun _ => ⟨⟨rfl, rfl, rfl, by decide +kernel, rfl, by decide +kernel, by decide +kernel⟩, rfl, by kernel_rfl⟩, fun K a fd F => ⟨fun _ => F.bindsN (fun _ _ _ _ _ _ us hl => match us, hl with | [_, _], _ => rfl), fun h => absurd rfl h, fun h => absurd rfl h⟩, rfl⟩
theorem k48 : EntOk txt.G e48 := ⟨rfl, fun _ => ⟨⟨rfl, rfl, rfl, by decide +kernel, rfl, by decide +kernel, by decide +kernel⟩, rfl, by kernel_rfl⟩, fun K a fd F => ⟨fun _ => F.bindsN (fun _ _ _ _ _ _ us hl => match us, hl with | [_, _], _ => rfl), fun h => absurd rfl h, fun h => absurd rfl h⟩, rfl⟩
theorem k63 : EntOk txt.G e63 := ⟨rfl, fun _ => ⟨⟨rfl, rfl, rfl, by decide +kernel, rfl, by decide +kernel, by decide +kernel⟩, rfl, by kernel_rfl⟩, fun K a fd F => ⟨fun _ => F.bindsN (fun _ _ _ _ _ _ us hl => match us, hl with | [_, _], _ => rfl), fun h => absurd rfl h, fun h => absurd rfl h⟩, rfl⟩
theorem k120 : EntOk txt.G e120 := ⟨rfl, fun _ => ⟨⟨rfl, rfl, rfl, by decide +kernel, rfl, by decide +kernel, by decide +kernel⟩, rfl, by kernel_rfl⟩, fun K a fd F => ⟨fun _ => F.bindsN (fun _ _ _ _ _ _ us hl => match us, hl with | [_, _, _], _ => rfl), fun h => absurd rfl h, fun h => absurd rfl h⟩, rfl⟩
theorem k121 : EntOk txt.G e121 := ⟨rfl, fun _ => ⟨⟨rfl, rfl, rfl, by decide +kernel, rfl, by decide +kernel, by decide +kernel⟩, rfl, by kernel_rfl⟩, fun K a fd F => ⟨fun _ => F.bindsN (fun _ _ _ _ _ _ us hl => match us, hl with | [_], _ => rfl), fun h => absurd rfl h, fun h => absurd rfl h⟩, rfl⟩
theorem k122 : EntOk txt.G e122 := ⟨rfl, fun _ => ⟨⟨rfl, rfl, rfl, by decide +kernel, rfl, by decide +kernel, by decide +kernel⟩, rfl, by kernel_rfl⟩, fun K a fd F => ⟨fun _ => F.bindsN (fun _ _ _ _ _ _ us hl => match us, hl with | [_], _ => rfl), fun h => absurd rfl h, fun h => absurd rfl h⟩, rfl⟩
theorem k123 : EntOk txt.G e123 := ⟨rfl, fun _ => ⟨⟨rfl, rfl, rfl, by decide +kernel, rfl, by decide +kernel, by decide +kernel⟩, rfl, by kernel_rfl⟩, fun K a fd F => ⟨fun _ => F.bindsN (fun _ _ _ _ _ _ us hl => match us, hl with | [_, _], _ => rfl), fun h => absurd rfl h, fun h => absurd rfl h⟩, rfl⟩
theorem k124 : EntOk txt.G e124 := ⟨rfl, fun _ => ⟨⟨rfl, rfl, rfl, by decide +kernel, rfl, by decide +kernel, by decide +kernel⟩, rfl, by kernel_rfl⟩, fun K a fd F => ⟨fun _ => F.bindsN (fun _ _ _ _ _ _ us hl => match us, hl with | [_], _ => rfl), fun h => absurd rfl h, fun h => absurd rfl h⟩, rfl⟩
theorem k125 : EntOk txt.G e125 := ⟨rfl, fun _ => ⟨⟨rfl, rfl, rfl, by decide +kernel, rfl, by decide +kernel, by decide +kernel⟩, rfl, by kernel_rfl⟩, fun K a fd F => ⟨fun _ => F.bindsN (fun _ _ _ _ _ _ us hl => match us, hl with | [_], _ => rfl), fun h => absurd rfl h, fun h => absurd rfl h⟩, rfl⟩
theorem k126 : EntOk txt.G e126 := ⟨rfl, fun _ => ⟨⟨rfl, rfl, rfl, by decide +kernel, rfl, by decide +kernel, by decide +kernel⟩, rfl, by kernel_rfl⟩, fun K a fd F => ⟨fun _ => F.bindsN (fun _ _ _ _ _ _ us hl => match us, hl with | [_, _], _ => rfl), fun h => absurd rfl h, fun h => absurd rfl h⟩, rfl⟩
theorem oks : ∀ e ∈ txt.ents, EntOk txt.G e := List.forall_mem_cons.mpr ⟨k0, List.forall_mem_cons.mpr ⟨k1, List.forall_mem_cons.mpr ⟨k2, List.forall_mem_cons.mpr ⟨k3, List.forall_mem_cons.mpr ⟨k4, List.forall_mem_cons.mpr ⟨k5, List.forall_mem_cons.mpr ⟨k6, List.forall_mem_cons.mpr ⟨k7, List.forall_mem_cons.mpr ⟨k9, List.forall_mem_cons.mpr ⟨k13, List.forall_mem_cons.mpr ⟨k14, List.forall_mem_cons.mpr ⟨k15, List.forall_mem_cons.mpr ⟨k16, List.forall_mem_cons.mpr ⟨k17, List.forall_mem_cons.mpr ⟨k18, List.forall_mem_cons.mpr ⟨k20, List.forall_mem_cons.mpr ⟨k21, List.forall_mem_cons.mpr ⟨k22, List.forall_mem_cons.mpr ⟨k23, List.forall_mem_cons.mpr ⟨k48, List.forall_mem_cons.mpr ⟨k63, List.forall_mem_cons.mpr ⟨k120, List.forall_mem_cons.mpr ⟨k121, List.forall_mem_cons.mpr ⟨k122, List.forall_mem_cons.mpr ⟨k123, List.forall_mem_cons.mpr ⟨k124, List.forall_mem_cons.mpr ⟨k125, List.forall_mem_cons.mpr ⟨k126, fun _ h => nomatch h⟩⟩⟩⟩⟩⟩⟩⟩⟩⟩⟩⟩⟩⟩⟩⟩⟩⟩⟩⟩⟩⟩⟩⟩⟩⟩⟩⟩
theorem exT : ∃ T : Tab, T = txt.T := ⟨_, rfl⟩
/-- the table, closed to the kernel -/
noncomputable def tbl : Tab := Classical.choose exT
theorem tbl_eq : tbl = txt.T := Classical.choose_spec exT
instance : H0 tbl := ⟨by rw [tbl_eq]; rfl⟩
instance : H1 tbl := ⟨by rw [tbl_eq]; rfl⟩
instance : H2 tbl := ⟨by rw [tbl_eq]; rfl⟩
instance : H3 tbl := ⟨by rw [tbl_eq]; rfl⟩
instance : H4 tbl := ⟨by rw [tbl_eq]; rfl⟩
instance : H5 tbl := ⟨by rw [tbl_eq]; rfl⟩
instance : H6 tbl := ⟨by rw [tbl_eq]; rfl⟩
instance : H7 tbl := ⟨by rw [tbl_eq]; rfl⟩
instance : H9 tbl := ⟨by rw [tbl_eq]; rfl⟩
instance : H13 tbl := ⟨by rw [tbl_eq]; rfl⟩
instance : H14 tbl := ⟨by rw [tbl_eq]; rfl⟩
instance : H15 tbl := ⟨by rw [tbl_eq]; rfl⟩
instance : H16 tbl := ⟨by rw [tbl_eq]; rfl⟩
instance : H17 tbl := ⟨by rw [tbl_eq]; rfl⟩
instance : H18 tbl := ⟨by rw [tbl_eq]; rfl⟩
instance : H20 tbl := ⟨by rw [tbl_eq]; rfl⟩
instance : H21 tbl := ⟨by rw [tbl_eq]; rfl⟩
instance : H22 tbl := ⟨by rw [tbl_eq]; rfl⟩
instance : H23 tbl := ⟨by rw [tbl_eq]; rfl⟩
instance : H48 tbl := ⟨by rw [tbl_eq]; rfl⟩
instance : H63 tbl := ⟨by rw [tbl_eq]; rfl⟩
instance : H120 tbl := ⟨by rw [tbl_eq]; rfl⟩
instance : H121 tbl := ⟨by rw [tbl_eq]; rfl⟩
instance : H122 tbl := ⟨by rw [tbl_eq]; rfl⟩
instance : H123 tbl := ⟨by rw [tbl_eq]; rfl⟩
instance : H124 tbl := ⟨by rw [tbl_eq]; rfl⟩
instance : H125 tbl := ⟨by rw [tbl_eq]; rfl⟩
instance : H126 tbl := ⟨by rw [tbl_eq]; rfl⟩
theorem cl2 : tbl.cl 2 = some ⟨["listed", "spots"], [("__eq__", 15), ("__lt__", 16), ("__le__", 17), ("__gt__", 18), ("__len__", 20), ("__getitem__", 22), ("__contains__", 23), ("pairs", 125), ("place", 126)], some 14, true⟩ := by rw [tbl_eq]; rfl
instance : C2 tbl := ⟨⟨_, cl2, rfl, rfl⟩⟩
instance : M15 tbl := ⟨⟨_, cl2, rfl⟩⟩
instance : M16 tbl := ⟨⟨_, cl2, rfl⟩⟩
instance : M17 tbl := ⟨⟨_, cl2, rfl⟩⟩
instance : M18 tbl := ⟨⟨_, cl2, rfl⟩⟩
instance : M20 tbl := ⟨⟨_, cl2, rfl⟩⟩
instance : M22 tbl := ⟨⟨_, cl2, rfl⟩⟩
instance : M23 tbl := ⟨⟨_, cl2, rfl⟩⟩
instance : M125 tbl := ⟨⟨_, cl2, rfl⟩⟩
instance : M126 tbl := ⟨⟨_, cl2, rfl⟩⟩
instance : M14 tbl := ⟨⟨_, cl2, rfl⟩⟩
instance : X0 tbl := ⟨by rw [tbl_eq]; rfl⟩
instance : X3 tbl := ⟨by rw [tbl_eq]; rfl⟩
instance : X4 tbl := ⟨by rw [tbl_eq]; rfl⟩
instance : X5 tbl := ⟨by rw [tbl_eq]; rfl⟩
abbrev R : PySem.W.OpenRow := PySem.W.OpenLaw.row PySem.Challenge.rw_pairorder_k08_orders_made
def loose : List Str := [("_wall" : Str), ("copied" : Str), ("PairError" : Str), ("InvalidOrder" : Str), ("InvalidPair" : Str), ("InvalidBound" : Str), ("is_integer" : Str), ("is_between" : Str), ("is_spot" : Str), ("is_possible_pair" : Str), ("Order" : Str), ("_law_pool" : Str), ("_law_mixed" : Str), ("_law_draw" : Str), ("_law_same" : Str), ("_law_shuffled" : Str), ("_law_spoiled" : Str), ("_law_is_pair" : Str), ("_law_due" : Str), ("_law_told" : Str), ("LONGEST" : Str), ("GREATEST" : Str)]
abbrev hk : PySem.W.Hook := hookP 6 txt fun _ => true
def ob (s : PySem.W.SharedT) : AlP := obsPG 6 txt (fun _ => true) (HandSHeadRun.getT s)
theorem ob_eq (s : PySem.W.SharedT) : ob s = hk.obs s.abs := obsPG_eq (HandSHeadRun.getT_eq s)
theorem run (w : World) : HandSHeadRun.RunEq R (PySem.W.view R.prog [26]) hk ob 20000 loose w := by
  intro os
  kernel_rfl
theorem holds_of (k : Nat) (hk2 : Room k callerA) (hD : ∀ ns : List Int, ns.length ≤ 63 → (∀ k ∈ ns, Builtin.Int.intBits k ≤ 1048576) → ∃ e', Fn tbl k 124 [.fz (.lst (ns.map D.int))] = .ok ⟨.f, .bl true⟩ e') : PySem.Challenge.rw_pairorder_k08_orders_made.Holds := by
  rw [tbl_eq] at hD
  w_on; o_law
  refine HandSHeadRun.head_any (r := PySem.W.OpenLaw.row PySem.Challenge.rw_pairorder_k08_orders_made) (q := PySem.W.view (PySem.W.OpenLaw.row PySem.Challenge.rw_pairorder_k08_orders_made).prog [26]) (H := hk) (ob := ob) (M := 20000) (loose := loose) (d := HandSHeadRun.topDef (PySem.W.OpenLaw.row PySem.Challenge.rw_pairorder_k08_orders_made).prog 26) (kwd := []) ob_eq
    (by kernel_rfl) (fun s => by kernel_rfl) run (by kernel_rfl) (by kernel_rfl) (by kernel_rfl) (by rfl) (by first | assumption | decide +kernel) (by decide +kernel) ⟨rfl, rfl, rfl, rfl, rfl, by decide +kernel⟩ ?hw ?hc
  case hw => w_witness2
  case hc => exact walk_P (n := 63) (k := k) (f := 124) (e := e124) (x := "_law_script") rfl (by decide) (by kernel_rfl) hk2 rfl rfl (by kernel_rfl) rfl rfl (by decide +kernel) (fun _ _ _ _ _ _ us hl => match us, hl with | [_], _ => rfl) oks (fun w K mg base fd _ _ _ _ f i m hi hx hm => (no_prim (t := txt) rfl f i m hi hx hm).elim) hD
end Tk08

set_option Elab.async false
set_option linter.all false
set_option maxRecDepth 100000
set_option maxHeartbeats 1000000
/-! K08 -/
namespace Py
namespace T08
open PySem L2 Cat
local macro_rules | `(tactic| walk_at "py") => `(tactic| simp [run_try, runs_1, runs_nil, run_pass, run_brk, run_cont, run_ret, run_set, run_ex, run_ite, run_seti, run_setf, run_aug, mSet, fAug, mOp, tyL, ev_c, ev_v, ev_op, ev_not, ev_and, ev_or, ev_ife, ev_cee, ev_cet, ev_cte, ev_ctt, ev_call, ev_meth, ev_new, ev_mut, evs, evI, evP, mThen, mPass, mBreak, mCont, R.bind, R.map, mOpO, ownNo, ownR, ownRun, applyPost, swp, sw2, gBool, gNotB, gLen_ok, Bo.own, Bo.op, Bo.ci, opEither, opA, opI2, fSub, fPow, fLt, fLe, fGt, fGe, powOk, opAdd, elF, szOk, Sh.flat, evNil, evCons, evTail, refix, T.isB, mV, mC, mNot, mAnd, mOr, mIfE, mIf, mRet, outV, mDrop, slotOf, setSlot, fr_un, fr_fz, fr_bo, fr_ow, asgT, asgTs, asI, asItem, aTp, aNil, aCons, fgT, mkV_f, mkV_i, mkV_b, mkV_s, mkV_n, mkV_t, mkV_l, mkV_d, mkV_o, T.sub, mkT, Sh.sub, frzV, frzAll, opLst, opTup, opSz, opIx, opLen, opList, opTuple, opInt, opAbs, opMax, opMin, opSl, partsOf, opNeg, opIsN, isN_n, isN_b, isN_i, isN_s, isN_l, isN_t, isN_d, isN_o, opIsT, opIsC, isD_int_n, isD_int_b, isD_int_i, isD_int_s, isD_int_l, isD_int_t, isD_int_d, isD_int_o, isD_bool_n, isD_bool_b, isD_bool_i, isD_bool_s, isD_bool_l, isD_bool_t, isD_bool_d, isD_bool_o, isD_str_n, isD_str_b, isD_str_i, isD_str_s, isD_str_l, isD_str_t, isD_str_d, isD_str_o, isD_list_n, isD_list_b, isD_list_i, isD_list_s, isD_list_l, isD_list_t, isD_list_d, isD_list_o, isD_tuple_n, isD_tuple_b, isD_tuple_i, isD_tuple_s, isD_tuple_l, isD_tuple_t, isD_tuple_d, isD_tuple_o, isD_dict_n, isD_dict_b, isD_dict_i, isD_dict_s, isD_dict_l, isD_dict_t, isD_dict_d, isD_dict_o, isC, opEq, shp_i, shp_b, shp_n, eq_ii, eq_bb, opFld, T.fsub, Sh.fsub, mSetI, mSetF, getAt, putAt, ownAt, setOwn, pathS, pathD, putS, putD, mpV, mpF, mpI, gEither, gSetL, gSetD, callV, takes, argSlots, argSlot, backs, outT, runC, fill, mCallD, methV, mMeth, mNew, runN, newV, partV, putFld, Sh.snoc, Sh.putN, Sh.nth, Ex.p, Exs.p, Exs.len, mChn, mMid, mLast, mMut, Mo.g, gAppend, opDNew, at_i, at_b, at_s, at_n, at_l, at_t, at_d, at_o, opInD, opIn_l, opIn_d, opIxD, dPut, ev1, ev2, atI_0, atI_1, atI_2, atI_3, atI_4, ixN, mSeqI, seqI, srcT, mRng1, mRng2, mRng3, mEnum, enumI, mZip, zipI, wipeE, restoreE, unlockE, unlock, plainS, R.w, Ow, Oz, finEnv, keepMu, mul_ok, mul_ok2, div_ok, mod_ok, mRaise, initR, raiseF, xInit, xFl, mTry, mHand, hsRun, freeO, clrO, HcT.v, HsT.v, hxV, hxVs, hFld, hTup, hAll, *])
local macro_rules | `(tactic| walk_at "nil") => `(tactic| (refine w_nil ?_; try dsimp only))
local macro_rules | `(tactic| walk_at "s") => `(tactic| refine w_nx (by walk_at "py"; rfl) ?_)
local macro_rules | `(tactic| walk_at "q") => `(tactic| (first | rfl | exact ⟨rfl, rfl⟩ | exact ⟨rfl, rfl, rfl⟩))
local macro_rules | `(tactic| walk_at "t") => `(tactic| (refine w_ite (q := true) (by walk_at "py"; walk_at "q") (fun _ => ?_) (fun z => by cases z)))
local macro_rules | `(tactic| walk_at "f") => `(tactic| (refine w_ite (q := false) (by walk_at "py"; walk_at "q") (fun z => by cases z) (fun _ => ?_)))
local macro_rules | `(tactic| walk_at "r") => `(tactic| refine w_rt (by walk_at "py"; walk_at "q") ?_)
local macro_rules | `(tactic| walk_at "x") => `(tactic| refine w_xx (by walk_at "py"; walk_at "q") ?_)
local macro_rules | `(tactic| walk_at "fnx") => `(tactic| (refine w_fnx ?_; simp only [List.length_cons, List.length_nil, Nat.zero_add, Nat.reduceAdd, Nat.reduceSub, Nat.sub_self, List.replicate_succ, List.replicate_zero, List.cons_append, List.nil_append, List.append_nil]))
local macro_rules | `(tactic| walk_at "fn") => `(tactic| (refine w_fn ?_; simp only [List.length_cons, List.length_nil, Nat.zero_add, Nat.reduceAdd, Nat.reduceSub, Nat.sub_self, List.replicate_succ, List.replicate_zero, List.cons_append, List.nil_append, List.append_nil]))
theorem pp_of (p : P2) : isPP (pD p) = (decide (0 ≤ p.1) && decide (p.1 ≤ 7) && (decide (0 ≤ p.2) && decide (p.2 ≤ 7))) := rfl
/-- one part's test -/
theorem part_ok {T : Tab} {Φ Ψ : Nat → FM} (d : D) (s : Slot) : ev T Φ Ψ (.or (.not (.op (.isT .int) (.cons (.v 1) .nil))) (.or (.op (.isT .bool) (.cons (.v 1) .nil)) (.or (.op .lt (.cons (.v 1) (.cons (.c (.int 0)) .nil))) (.op .gt (.cons (.v 1) (.cons (.c (.int 7)) .nil)))))) [s, .fz d] = .ok ⟨.f, .bl (!btw 0 7 d)⟩ [s, .fz d] := by
  cases d with
  | int i =>
    by_cases h : i < 0
    · have : btw 0 7 (.int i) = false := by simp [btw]; omega
      rw [this]; walk_at "py"
    · have : btw 0 7 (.int i) = !decide (7 < i) := by
        by_cases h7 : 7 < i
        · simp [btw, h7]
        · simp [btw, h7]; omega
      rw [this]; walk_at "py"
  | _ => (rw [show btw 0 7 _ = false from rfl]; walk_at "py")
theorem f121 {T : Tab} [H121 T] (k : Nat) (d : D) : Fn T (k + 2) 121 [.fz d] = .ok ⟨.f, .bl (isPP d)⟩ [.un] := by
  refine FR.eq_of ?_
  rw [fq121]
  walk_at "fn"
  have po := part_ok (T := T) (Φ := Fn T (k + 1)) (Ψ := Fn T k)
  unfold B121
  refine w_seq ?_
  by_cases h : ∃ a b, d = .tup [a, b]
  · obtain ⟨a, b, rfl⟩ := h
    walk_at "f"
    walk_at "nil"
    refine w_seq ?_
    refine w_for (I := fun i e => ∃ s, e = [.fz (.tup [a, b]), s] ∧ free (some s) = true ∧ (1 ≤ i → btw 0 7 a = true) ∧ (2 ≤ i → btw 0 7 b = true)) (its := [.one ⟨.f, a⟩, .one ⟨.f, b⟩]) (e1 := [.fz (.tup [a, b]), .un]) (by walk_at "py") ⟨_, rfl, rfl, fun h => by omega, fun h => by omega⟩ ?_ ?_
    · rintro i it e hit ⟨s, rfl, hs, h1, h2⟩
      match i, hit with
      | 0, hit =>
        simp at hit
        subst hit
        refine ⟨[.fz (.tup [a, b]), .fz a], by walk_at "py", ?_⟩
        refine w_seq ?_
        cases hb : btw 0 7 a
        · refine w_ite (q := true) (t := .f) (by rw [po, hb]; rfl) (fun _ => ?_) (fun z => by cases z)
          walk_at "r"
          exact ⟨rfl, by simp [isPP, hb], rfl⟩
        · refine w_ite (q := false) (t := .f) (by rw [po, hb]; rfl) (fun z => by cases z) (fun _ => ?_)
          exact w_nil (w_nil ⟨_, rfl, rfl, fun _ => rfl, fun h => by omega⟩)
      | 1, hit =>
        simp at hit
        subst hit
        have h1 := h1 (by omega)
        refine ⟨[.fz (.tup [a, b]), .fz b], by walk_at "py", ?_⟩
        refine w_seq ?_
        cases hb : btw 0 7 b
        · refine w_ite (q := true) (t := .f) (by rw [po, hb]; rfl) (fun _ => ?_) (fun z => by cases z)
          walk_at "r"
          exact ⟨rfl, by simp [isPP, hb], rfl⟩
        · refine w_ite (q := false) (t := .f) (by rw [po, hb]; rfl) (fun z => by cases z) (fun _ => ?_)
          exact w_nil (w_nil ⟨_, rfl, rfl, fun _ => h1, fun _ => rfl⟩)
      | i + 2, hit => simp at hit
    · rintro e ⟨s, rfl, hs, h1, h2⟩
      dsimp only
      have h1 := h1 (by simp)
      have h2 := h2 (by simp)
      walk_at "r"
      exact ⟨rfl, by simp [isPP, h1, h2], rfl⟩
  · have e : isPP d = false := by
      cases hp : isPP d with
      | false => rfl
      | true => obtain ⟨i, j, rfl, _⟩ := isPP_spot hp; exact absurd ⟨_, _, rfl⟩ h
    rw [e]
    cases d with
    | tup l =>
      have hl : ¬ (l.length : Int) = 2 := fun z => by
        match l, z with
        | [a, b], _ => exact h ⟨a, b, rfl⟩
        | [], z => simp at z
        | [a], z => simp at z
        | a :: b :: c :: r, z => simp at z; omega
      clear h
      walk_at "t"
      walk_at "r"
      exact ⟨rfl, rfl, rfl⟩
    | _ =>
      clear h
      walk_at "t"
      walk_at "r"
      exact ⟨rfl, rfl, rfl⟩
theorem in_p (p : P2) (l : List P2) : inD (pD p) (l.map pD) = decide (p ∈ l) := by
  induction l with
  | nil => simp [inD]
  | cons q r ih =>
    simp only [inD, List.map_cons, List.any_cons] at ih ⊢
    rw [ih, eqvD_p]
    by_cases h : q = p
    · subst h; simp
    · have : ¬ p = q := fun z => h z.symm
      simp [h, this]
def told : D := .tup [.str "told", .int 0]
def refused (i : Int) : D := .tup [.str "refused", .int i]
theorem f122 {T : Tab} [H121 T] [H122 T] (k : Nat) (ds : List D) (hl : ds.length ≤ 64) : FR.is (Fn T (k + 3) 122 [.fz (.lst ds)]) fun v e => e = [.un] ∧ (((∀ i < ds.length, okAt ds i) ∧ v = ⟨.f, told⟩) ∨ ∃ i < ds.length, (∀ j < i, okAt ds j) ∧ ¬ okAt ds i ∧ v = ⟨.f, refused i⟩) := by
  rw [fq122]
  walk_at "fn"
  have la : (ds.length : Int) ≤ 64 := by omega
  unfold B122
  refine w_seq ?_
  walk_at "f"
  walk_at "nil"
  refine w_seq ?_
  refine w_for (I := fun i e => ∃ s, e = [.fz (.lst ds), s] ∧ free (some s) = true ∧ ∀ j < i, okAt ds j) (its := rangeItems 0 1 ds.length) (e1 := [.fz (.lst ds), .un]) ?_ ⟨_, rfl, rfl, fun j hj => by omega⟩ ?_ ?_
  · refine evI_r1 (j := (ds.length : Int)) (okR_of (by omega) (by omega)) ?_
    walk_at "py"
  · rintro i it e hit ⟨s, rfl, hs, hok⟩
    obtain ⟨hi, rfl⟩ := range_get hit
    have e0 : (0 : Int) + (i : Int) * 1 = i := by omega
    rw [e0]
    clear hit e0
    obtain ⟨d, hd⟩ : ∃ d, ds[i]? = some d := ⟨ds[i], by simp [hi]⟩
    have ha : atI ds (i : Int) = some d := by rw [atI_nat]; exact hd
    obtain ⟨l, l1, l2, l3, l4⟩ := take_pD (by omega) hok
    have hcut : cutL ds none (some (i : Int)) = l.map pD := by rw [cutL_to _ (by omega), Int.toNat_natCast, l1]
    refine ⟨[.fz (.lst ds), .fz (.int i)], by clear ha hcut; walk_at "py", ?_⟩
    replace hd : Hid _ := ⟨hd⟩
    replace hok : Hid _ := ⟨hok⟩
    replace l1 : Hid _ := ⟨l1⟩
    have hi : Hid _ := ⟨hi⟩
    clear l2 l3 l4
    have f1 := f121 (T := T) k d
    refine w_seq ?_
    cases hp : isPP d
    · rw [hp] at f1
      walk_at "t"
      walk_at "r"
      refine ⟨rfl, rfl, .inr ⟨i, hi.out, hok.out, fun z => ?_, rfl⟩⟩
      obtain ⟨p, q1, q2, _⟩ := z
      rw [hd.out] at q1
      cases q1
      rw [hp] at q2
      cases q2
    · rw [hp] at f1
      obtain ⟨a, b, rfl, _⟩ := isPP_spot hp
      have hin := in_p (a, b) l
      have s1 := shp_p (a, b)
      have s2 := shp_l l
      unfold pD at hin s1
      have iff : pD (a, b) ∈ ds.take i ↔ (a, b) ∈ l := by
        rw [l1.out]
        exact ⟨fun h => by obtain ⟨q, hq, e⟩ := List.mem_map.mp h; rw [← pD_inj e]; exact hq, fun h => List.mem_map.mpr ⟨_, h, rfl⟩⟩
      replace iff : Hid _ := ⟨iff⟩
      replace hin : inD (.tup [.int a, .int b]) (l.map pD) = decide ((a, b) ∈ l) := hin
      generalize l.map pD = L at *
      by_cases hm : (a, b) ∈ l
      · rw [decide_eq_true hm] at hin
        replace hm : Hid _ := ⟨hm⟩
        walk_at "t"
        walk_at "r"
        refine ⟨rfl, rfl, .inr ⟨i, hi.out, hok.out, fun z => ?_, rfl⟩⟩
        obtain ⟨p, q1, q2, q3⟩ := z
        rw [hd.out] at q1
        have e : pD (a, b) = pD p := by injection q1
        rw [← pD_inj e] at q3
        exact q3 (iff.out.mpr hm.out)
      · rw [decide_eq_false hm] at hin
        replace hm : Hid _ := ⟨hm⟩
        walk_at "f"
        refine w_nil (w_nil ⟨_, rfl, rfl, fun j hj => ?_⟩)
        by_cases hji : j < i
        · exact hok.out j hji
        · obtain rfl : j = i := by omega
          exact ⟨(a, b), hd.out, hp, fun z => hm.out (iff.out.mp z)⟩
  · rintro e ⟨s, rfl, hs, hok⟩
    rw [range_len] at hok
    dsimp only
    replace hok : Hid _ := ⟨hok⟩
    walk_at "r"
    exact ⟨rfl, rfl, .inl ⟨hok.out, rfl⟩⟩
theorem f122b {T : Tab} [H121 T] [H122 T] (k : Nat) (ds : List D) (hl : ds.length ≤ 64) : FR.is (Fn T (k + 3) 122 [.bo (.l .f) (.lst ds)]) fun v e => e = [.un] ∧ (((∀ i < ds.length, okAt ds i) ∧ v = ⟨.f, told⟩) ∨ ∃ i < ds.length, (∀ j < i, okAt ds j) ∧ ¬ okAt ds i ∧ v = ⟨.f, refused i⟩) := by
  rw [fq122]
  walk_at "fn"
  have la : (ds.length : Int) ≤ 64 := by omega
  unfold B122
  refine w_seq ?_
  walk_at "f"
  walk_at "nil"
  refine w_seq ?_
  refine w_for (I := fun i e => ∃ s, e = [.bo (.l .f) (.lst ds), s] ∧ free (some s) = true ∧ ∀ j < i, okAt ds j) (its := rangeItems 0 1 ds.length) (e1 := [.bo (.l .f) (.lst ds), .un]) ?_ ⟨_, rfl, rfl, fun j hj => by omega⟩ ?_ ?_
  · refine evI_r1 (j := (ds.length : Int)) (okR_of (by omega) (by omega)) ?_
    walk_at "py"
  · rintro i it e hit ⟨s, rfl, hs, hok⟩
    obtain ⟨hi, rfl⟩ := range_get hit
    have e0 : (0 : Int) + (i : Int) * 1 = i := by omega
    rw [e0]
    clear hit e0
    obtain ⟨d, hd⟩ : ∃ d, ds[i]? = some d := ⟨ds[i], by simp [hi]⟩
    have ha : atI ds (i : Int) = some d := by rw [atI_nat]; exact hd
    obtain ⟨l, l1, l2, l3, l4⟩ := take_pD (by omega) hok
    have hcut : cutL ds none (some (i : Int)) = l.map pD := by rw [cutL_to _ (by omega), Int.toNat_natCast, l1]
    refine ⟨[.bo (.l .f) (.lst ds), .fz (.int i)], by clear ha hcut; walk_at "py", ?_⟩
    replace hd : Hid _ := ⟨hd⟩
    replace hok : Hid _ := ⟨hok⟩
    replace l1 : Hid _ := ⟨l1⟩
    have hi : Hid _ := ⟨hi⟩
    clear l2 l3 l4
    have f1 := f121 (T := T) k d
    refine w_seq ?_
    cases hp : isPP d
    · rw [hp] at f1
      walk_at "t"
      walk_at "r"
      refine ⟨rfl, rfl, .inr ⟨i, hi.out, hok.out, fun z => ?_, rfl⟩⟩
      obtain ⟨p, q1, q2, _⟩ := z
      rw [hd.out] at q1
      cases q1
      rw [hp] at q2
      cases q2
    · rw [hp] at f1
      obtain ⟨a, b, rfl, _⟩ := isPP_spot hp
      have hin := in_p (a, b) l
      have s1 := shp_p (a, b)
      have s2 := shp_l l
      unfold pD at hin s1
      have iff : pD (a, b) ∈ ds.take i ↔ (a, b) ∈ l := by
        rw [l1.out]
        exact ⟨fun h => by obtain ⟨q, hq, e⟩ := List.mem_map.mp h; rw [← pD_inj e]; exact hq, fun h => List.mem_map.mpr ⟨_, h, rfl⟩⟩
      replace iff : Hid _ := ⟨iff⟩
      replace hin : inD (.tup [.int a, .int b]) (l.map pD) = decide ((a, b) ∈ l) := hin
      generalize l.map pD = L at *
      by_cases hm : (a, b) ∈ l
      · rw [decide_eq_true hm] at hin
        replace hm : Hid _ := ⟨hm⟩
        walk_at "t"
        walk_at "r"
        refine ⟨rfl, rfl, .inr ⟨i, hi.out, hok.out, fun z => ?_, rfl⟩⟩
        obtain ⟨p, q1, q2, q3⟩ := z
        rw [hd.out] at q1
        have e : pD (a, b) = pD p := by injection q1
        rw [← pD_inj e] at q3
        exact q3 (iff.out.mpr hm.out)
      · rw [decide_eq_false hm] at hin
        replace hm : Hid _ := ⟨hm⟩
        walk_at "f"
        refine w_nil (w_nil ⟨_, rfl, rfl, fun j hj => ?_⟩)
        by_cases hji : j < i
        · exact hok.out j hji
        · obtain rfl : j = i := by omega
          exact ⟨(a, b), hd.out, hp, fun z => hm.out (iff.out.mp z)⟩
  · rintro e ⟨s, rfl, hs, hok⟩
    rw [range_len] at hok
    dsimp only
    replace hok : Hid _ := ⟨hok⟩
    walk_at "r"
    exact ⟨rfl, rfl, .inl ⟨hok.out, rfl⟩⟩
theorem f122n {T : Tab} [H121 T] [H122 T] (k : Nat) (d : D) (h : isD .list d = false ∨ ∃ ds, d = .lst ds ∧ 64 < ds.length) : Fn T (k + 3) 122 [.fz d] = .ok ⟨.f, refused (-1)⟩ [.un] := by
  refine FR.eq_of ?_
  rw [fq122]
  walk_at "fn"
  unfold B122
  refine w_seq ?_
  rcases h with h | ⟨ds, rfl, h⟩
  · walk_at "t"
    walk_at "r"
    exact ⟨rfl, rfl, rfl⟩
  · have h2 : (64 : Int) < (ds.length : Int) := by omega
    walk_at "t"
    walk_at "r"
    exact ⟨rfl, rfl, rfl⟩
theorem f122c {T : Tab} [H121 T] [H122 T] (k : Nat) (ds : List D) (h : 64 < ds.length) : Fn T (k + 3) 122 [.bo (.l .f) (.lst ds)] = .ok ⟨.f, refused (-1)⟩ [.un] := by
  refine FR.eq_of ?_
  rw [fq122]
  walk_at "fn"
  unfold B122
  refine w_seq ?_
  have h2 : (64 : Int) < (ds.length : Int) := by omega
  walk_at "t"
  walk_at "r"
  exact ⟨rfl, rfl, rfl⟩
theorem f14n {T : Tab} [H0 T] [H1 T] [H2 T] [H3 T] [H4 T] [H13 T] [H14 T] [M14 T] [C2 T] [X3 T] (k : Nat) (d : D) (s : Slot) (hs : Rd s d) (h : isD .list d = false ∨ ∃ ds, d = .lst ds ∧ 64 < ds.length) : Fn T (k + 5) 14 [.mu (.n .f) (.obj 2 []), s] = .ex 3 [.int (-1)] [.mu (.n .f) (.obj 2 []), .un] := by
  have key : FR.q (Fn T (k + 5) 14 [.mu (.n .f) (.obj 2 []), s]) (fun _ _ => False) fun c fs e => c = 3 ∧ fs = [.int (-1)] ∧ e = [.mu (.n .f) (.obj 2 []), .un] := by
    rw [fq14]
    walk_at "fnx"
    unfold B14
    refine w_seq ?_
    rcases h with h | ⟨ds, rfl, h⟩
    · cases hs <;> (walk_at "t"; walk_at "x"; exact ⟨rfl, rfl, rfl⟩)
    · have h2 : (64 : Int) < (ds.length : Int) := by omega
      cases hs <;> (walk_at "t"; walk_at "x"; exact ⟨rfl, rfl, rfl⟩)
  obtain ⟨c, fs, e, h1, rfl, rfl, rfl⟩ := FR.ex_of key
  exact h1
mutual
theorem canLay_pl : ∀ (d : D), pl d = true → (toP d).canLay0 = true
  | .non, _ => by simp [toP, PyData.canLay0]
  | .bl _, _ => by simp [toP, PyData.canLay0]
  | .int _, _ => by simp [toP, PyData.canLay0]
  | .str s, h => by
    unfold pl at h
    unfold shp SeqAt.shaped at h
    exact (Bool.and_eq_true_iff.mp h).1
  | .lst ds, h => by
    unfold pl at h
    simp only [toP, PyData.canLay0]
    exact canLay_pls ds (Bool.and_eq_true_iff.mp h).2
  | .tup ds, h => by
    unfold pl at h
    simp only [toP, PyData.canLay0]
    exact canLay_pls ds (Bool.and_eq_true_iff.mp h).2
  | .dic _ _, h => by unfold pl at h; cases h
  | .obj _ _, h => by unfold pl at h; cases h
theorem canLay_pls : ∀ (ds : List D), pls ds = true → PyData.canLayAll0 (toPs ds) = true
  | [], _ => by simp [toPs, PyData.canLayAll0]
  | d :: r, h => by
    unfold pls at h
    obtain ⟨h1, h2⟩ := Bool.and_eq_true_iff.mp h
    simp only [toPs, PyData.canLayAll0, canLay_pl d h1, canLay_pls r h2, Bool.and_self]
end
mutual
theorem dep_dp : ∀ (d : D), pl d = true → (toP d).depth ≤ dp d
  | .non, _ => by simp [toP, PyData.depth]
  | .bl _, _ => by simp [toP, PyData.depth]
  | .int _, _ => by simp [toP, PyData.depth]
  | .str s, h => by simp [toP, PyData.depth]
  | .lst ds, h => by
    unfold pl at h
    simp only [toP, PyData.depth, dp]
    have := dep_dps ds (Bool.and_eq_true_iff.mp h).2
    omega
  | .tup ds, h => by
    unfold pl at h
    simp only [toP, PyData.depth, dp]
    have := dep_dps ds (Bool.and_eq_true_iff.mp h).2
    omega
  | .dic _ _, h => by unfold pl at h; cases h
  | .obj _ _, h => by unfold pl at h; cases h
theorem dep_dps : ∀ (ds : List D), pls ds = true → PyData.depthAll (toPs ds) ≤ dps ds
  | [], _ => by simp [toPs, PyData.depthAll]
  | d :: r, h => by
    unfold pls at h
    obtain ⟨h1, h2⟩ := Bool.and_eq_true_iff.mp h
    have := dep_dp d h1
    have := dep_dps r h2
    simp only [toPs, PyData.depthAll, dps]
    omega
end
theorem shp_of {d : D} (h : pl d = true) (hd : dp d ≤ 64) : shp d = true := by
  unfold shp SeqAt.shaped
  rw [canLay_pl d h, Bool.true_and]
  exact decide_eq_true (by have := dep_dp d h; omega)
theorem eqv_self {d : D} (h : pl d = true) : eqvD d d = true := SeqAt.eqv_refl _ (canLay_pl d h)
theorem dps_pD (l : List P2) : dps (l.map pD) ≤ 1 := by
  induction l with
  | nil => simp [dps]
  | cons p r ih => simp only [List.map_cons, dps, pD, dp]; omega
theorem pls_pD (l : List P2) : pls (l.map pD) = true := by
  induction l with
  | nil => simp [pls]
  | cons p r ih => simp [pls, pl, pD, ih]
theorem pl_lP (l : List P2) (h : l.length ≤ 1000000) : pl (.lst (l.map pD)) = true := by
  unfold pl
  rw [pls_pD, Bool.and_true]
  exact decide_eq_true (by simpa using h)
theorem s48 {T : Tab} [H48 T] (k n : Nat) {a b : D} {sa sb : Slot} (h : dp b ≤ n) (hb : pl b = true) (ha : pl a = true) (ra : Rf sa a) (rb : Rf sb b) : Fn T (k + 2 + n) 48 [sa, sb] = .ok ⟨.f, .bl (same a b)⟩ [.un, .un] := same_ok 48 H48.h n a b h hb ha k sa sb ra rb
theorem f123 {T : Tab} [H0 T] [H1 T] [H2 T] [H3 T] [H20 T] [H21 T] [H22 T] [H23 T] [H48 T] [H63 T] [H123 T] [H125 T] [H126 T] [M20 T] [M22 T] [M23 T] [M125 T] [M126 T] [C2 T] [X4 T] [X5 T] (k : Nat) (l : List P2) (hl : l.length ≤ 64) (hn : l.Nodup) : Fn T (k + 8) 123 [.fz (oP l), .fz (.lst (l.map pD))] = .ok ⟨.f, .bl true⟩ [.un, .un] := by
  refine FR.eq_of ?_
  rw [fq123]
  walk_at "fn"
  have q1 := s48 (T := T) (k + 3) 2 (a := .lst (l.map pD)) (b := .lst (l.map pD)) (sa := .ow (.l .f) (.lst (l.map pD))) (sb := .fz (.lst (l.map pD))) (by have := dps_pD l; simp only [dp]; omega) (pl_lP l (by omega)) (pl_lP l (by omega)) .ow .fz
  have q2 : ∀ i j : Int, Fn T (k + 7) 48 [.fz (.int i), .fz (.int j)] = .ok ⟨.f, .bl (decide (i = j))⟩ [.un, .un] := fun i j => by
    have := s48 (T := T) (k + 5) 0 (a := .int i) (b := .int j) (by simp [dp]) rfl rfl .fz .fz
    rw [same_ii] at this
    exact this
  have q3 : ∀ i j : Bool, Fn T (k + 7) 48 [.fz (.bl i), .fz (.bl j)] = .ok ⟨.f, .bl (i == j)⟩ [.un, .un] := fun i j => by
    have := s48 (T := T) (k + 5) 0 (a := .bl i) (b := .bl j) (by simp [dp]) rfl rfl .fz .fz
    rw [same_bb] at this
    exact this
  have q4 : ∀ p : P2, Fn T (k + 7) 48 [.fz (.tup [.int p.1, .int p.2]), .fz (.tup [.int p.1, .int p.2])] = .ok ⟨.f, .bl true⟩ [.un, .un] := fun p => by
    have := s48 (T := T) (k + 4) 1 (a := pD p) (b := pD p) (sa := .fz (pD p)) (sb := .fz (pD p)) (by simp [dp, dps, pD]) (by simp [pl, pls, pD]) (by simp [pl, pls, pD]) .fz .fz
    rw [same_refl] at this
    exact this
  rw [same_refl] at q1
  have m1 := f125 (T := T) (k + 5) (l.map pD)
  have m2 := f20 (T := T) (k + 4) (l.map pD)
  have ll : (l.map pD).length = l.length := List.length_map ..
  have l6 : l.length ≤ 1000000 := by omega
  have hin := fun p => in_p p l
  have shl := shp_l l
  have m3 := f23 (T := T) (k + 3) l
  have m4 := fun i p h => f22 (T := T) (k + 2) (l.map pD) i (pD p) h
  have m5 := fun i p h => f126 (T := T) (k + 3) l hn i p h
  replace m4 : Hid _ := ⟨m4⟩
  replace m5 : Hid _ := ⟨m5⟩
  unfold B123
  unfold oP at *
  have gA : ∀ (i : Nat) p, l[i]? = some p → atI (l.map pD) (i : Int) = some (pD p) := fun i p h => by rw [atI_nat, List.getElem?_map, h]; rfl
  replace gA : Hid _ := ⟨gA⟩
  have gB : ∀ (i : Nat) p, l[i]? = some p → (l.map pD)[i]? = some (pD p) := fun i p h => by rw [List.getElem?_map, h]; rfl
  replace gB : Hid _ := ⟨gB⟩
  generalize hL : l.map pD = L at *
  replace hL : Hid _ := ⟨hL⟩
  unfold oD at *
  generalize ixs L = kvs at *
  replace hin : Hid _ := ⟨hin⟩
  replace m3 : Hid _ := ⟨m3⟩
  refine w_seq ?_
  walk_at "f"
  walk_at "nil"
  refine w_seq ?_
  refine w_for (I := fun i e => ∃ s, e = [.fz (.obj 2 [.lst L, .dic true kvs]), .fz (.lst L), s, .un, .un] ∧ free (some s) = true) (its := rangeItems 0 1 l.length) (e1 := [.fz (.obj 2 [.lst L, .dic true kvs]), .fz (.lst L), .un, .un, .un]) ?_ ⟨_, rfl, rfl⟩ ?_ ?_
  · refine evI_r1 (j := (l.length : Int)) (okR_of (by omega) (by omega)) ?_
    walk_at "py"
  · rintro i it e hit ⟨s, rfl, hs⟩
    obtain ⟨hi, rfl⟩ := range_get hit
    have e0 : (0 : Int) + (i : Int) * 1 = i := by omega
    rw [e0]
    clear hit e0
    obtain ⟨p, hp⟩ : ∃ p, l[i]? = some p := ⟨l[i], by simp [hi]⟩
    have w1 := gA.out i p hp
    have w2 := m4.out i p (gB.out i p hp)
    have w3 := m5.out i p hp
    unfold pD at w1 w2 w3
    clear hp
    refine ⟨[.fz (.obj 2 [.lst L, .dic true kvs]), .fz (.lst L), .fz (.int i), .un, .un], by walk_at "py", ?_⟩
    refine w_seq ?_
    walk_at "f"
    exact w_nil (w_nil ⟨_, rfl, rfl⟩)
  · rintro e ⟨s, rfl, hs⟩
    dsimp only
    refine w_seq ?_
    refine w_for (I := fun i e => ∃ s3 s4, e = [.fz (.obj 2 [.lst L, .dic true kvs]), .fz (.lst L), s, s3, s4] ∧ free (some s3) = true ∧ free (some s4) = true) (its := rangeItems 0 1 9) (e1 := [.fz (.obj 2 [.lst L, .dic true kvs]), .fz (.lst L), s, .un, .un]) ?_ ⟨_, _, rfl, rfl, rfl⟩ ?_ ?_
    · exact evI_r1 (j := 9) (okR_of (by omega) (by omega)) (by walk_at "py")
    · rintro i it e hit ⟨s3, s4, rfl, h3, h4⟩
      obtain ⟨hi, rfl⟩ := range_get hit
      have e0 : (0 : Int) + (i : Int) * 1 = i := by omega
      rw [e0]
      clear hit e0
      refine ⟨[.fz (.obj 2 [.lst L, .dic true kvs]), .fz (.lst L), s, .fz (.int i), s4], by walk_at "py", ?_⟩
      refine w_seq ?_
      refine w_for (I := fun j e => ∃ s4, e = [.fz (.obj 2 [.lst L, .dic true kvs]), .fz (.lst L), s, .fz (.int i), s4] ∧ free (some s4) = true) (its := rangeItems 0 1 9) (e1 := [.fz (.obj 2 [.lst L, .dic true kvs]), .fz (.lst L), s, .fz (.int i), s4]) ?_ ⟨_, rfl, h4⟩ ?_ ?_
      · exact evI_r1 (j := 9) (okR_of (by omega) (by omega)) (by walk_at "py")
      · clear h4 s4
        rintro j it e hit ⟨s4, rfl, h4⟩
        obtain ⟨hj, rfl⟩ := range_get hit
        have e0 : (0 : Int) + (j : Int) * 1 = j := by omega
        rw [e0]
        clear hit e0
        refine ⟨[.fz (.obj 2 [.lst L, .dic true kvs]), .fz (.lst L), s, .fz (.int i), .fz (.int j)], by walk_at "py", ?_⟩
        have w1 := m3.out ((i : Int), (j : Int))
        have w2 := hin.out ((i : Int), (j : Int))
        have w3 := shp_p ((i : Int), (j : Int))
        unfold pD at w1 w2 w3
        dsimp only at w1 w2 w3
        generalize decide (((i : Int), (j : Int)) ∈ l) = bb at *
        clear m3 hin q1 m1
        refine w_seq ?_
        walk_at "f"
        exact w_nil (w_nil ⟨_, rfl, rfl⟩)
      · rintro e ⟨s4, rfl, h4⟩
        exact w_nil ⟨_, _, rfl, rfl, h4⟩
    · rintro e ⟨s3, s4, rfl, h3, h4⟩
      dsimp only
      walk_at "r"
      exact ⟨rfl, rfl, rfl⟩
/-- a plain thing -/
structure Pn (d : D) : Prop where
  p : pl d = true
  d : dp d ≤ 1
theorem pn_pD (p : P2) : Pn (pD p) := ⟨by simp [pl, pls, pD], by simp [dp, dps, pD]⟩
theorem pls_all : ∀ {ds : List D}, (∀ d ∈ ds, Pn d) → pls ds = true ∧ dps ds ≤ 1
  | [], _ => by simp [pls, dps]
  | d :: r, h => by
    obtain ⟨h1, h2⟩ := pls_all (ds := r) fun e he => h e (List.mem_cons_of_mem _ he)
    have h3 := h d List.mem_cons_self
    simp only [pls, dps, h1, h3.p, Bool.and_true, true_and]
    have := h3.d
    omega
/-- what may come of a spoiled list -/
def Res (v : Val) : Prop := (∃ ds, v = ⟨.o (.l .f), .lst ds⟩ ∧ ds.length ≤ 200 ∧ ∀ d ∈ ds, Pn d) ∨ (v.t = .f ∧ isD .list v.d = false ∧ pl v.d = true ∧ dp v.d ≤ 3)
theorem pn_cut {l : List D} {lo hi : Option Int} (h : ∀ d ∈ l, Pn d) : ∀ d ∈ cutL l lo hi, Pn d := fun d hd => h d (List.mem_of_mem_drop (List.mem_of_mem_take hd))
theorem f120 {T : Tab} [H6 T] [H7 T] [H120 T] (k : Nat) (p : Pool) (ds : List D) (hl : ds.length ≤ 64) (hp : ∀ d ∈ ds, Pn d) (ch : Int) : FR.is (Fn T (k + 4) 120 [.mu (.l .f) p.d, .ow (.l .f) (.lst ds), .fz (.int ch)]) fun v e => (∃ q : Pool, e = [.mu (.l .f) q.d, .un, .un]) ∧ Res v := by
  rw [fq120]
  walk_at "fn"
  unfold B120
  have z1 : (ds.length : Int) + 1 < 18446744073709551616 := by omega
  have z2 : (0 : Int) < (ds.length : Int) + 1 := by omega
  have lim : Hid _ := ⟨hl⟩
  obtain ⟨a0, a1⟩ := draw_lt p z2
  walk_at "s"
  generalize drawV p ((ds.length : Int) + 1) = at_ at *
  generalize drawN p ((ds.length : Int) + 1) = p1 at *
  obtain ⟨b0, b1⟩ := draw_lt p1 z2
  walk_at "s"
  generalize drawV p1 ((ds.length : Int) + 1) = ot at *
  generalize drawN p1 ((ds.length : Int) + 1) = p2 at *
  clear z1 z2
  walk_at "s"
  generalize drawV p2 8 = low at *
  generalize drawN p2 8 = p3 at *
  walk_at "s"
  obtain ⟨r0, r1⟩ := draw_lt p3 (z := 8) (by decide)
  obtain ⟨bad, hb1, hb2⟩ := at_some (ds := [D.tup [D.int low, D.int 8], D.tup [D.int (-1), D.int low], D.tup [D.bl true, D.int low], D.lst [D.int low, D.int low], D.tup [D.int low, D.int low, D.int low], D.str "00", D.non, D.tup [D.int low, D.int 100000000000000000000]]) (i := drawV p3 8) r0 (by simpa using r1)
  have hbad : Pn bad := by
    have hm := List.mem_of_getElem? hb2
    simp only [List.mem_cons, List.not_mem_nil, or_false] at hm
    rcases hm with rfl | rfl | rfl | rfl | rfl | rfl | rfl | rfl
    all_goals constructor
    all_goals first | (simp [pl, pls]; done) | (simp [dp, dps]; done) | (unfold pl; decide +kernel)
  clear hb2
  walk_at "s"
  clear hb1
  generalize drawN p3 8 = p4 at *
  clear r0 r1
  have fin : ∀ (q : Pool) (s1 s2 s3 s4 s5 s6 s7 : Slot), finEnv [.mu (.l .f) p.d, .ow (.l .f) (.lst ds), .fz (.int ch)] [.mu (.l .f) q.d, s1, s2, s3, s4, s5, s6, s7] = [.mu (.l .f) q.d, .un, .un] := fun q s1 s2 s3 s4 s5 s6 s7 => rfl
  have hbad : Hid _ := ⟨hbad⟩
  have hp : Hid _ := ⟨hp⟩
  have c1 := cutL_len ds none (some at_)
  have c2 := cutL_len ds (some at_) none
  have s1 : (cutL ds none (some at_)).length ≤ 999999 := by omega
  have s2 : (cutL ds none (some at_)).length + 1 + (cutL ds (some at_) none).length ≤ 1000000 := by omega
  have big : ∀ e : D, Pn e → ∀ d ∈ cutL ds none (some at_) ++ [e] ++ cutL ds (some at_) none, Pn d := fun e he d hd => by
    rcases List.mem_append.mp hd with hd | hd
    · rcases List.mem_append.mp hd with hd | hd
      · exact pn_cut hp.out d hd
      · obtain rfl : d = e := by simpa using hd
        exact he
    · exact pn_cut hp.out d hd
  have big : Hid _ := ⟨big⟩
  have len3 : ∀ e : D, (cutL ds none (some at_) ++ [e] ++ cutL ds (some at_) none).length ≤ 200 := fun e => by simp; omega
  have len3 : Hid _ := ⟨len3⟩
  clear c1 c2
  refine w_seq ?_
  by_cases h4 : ch = 4 ∧ ot < (ds.length : Int)
  · obtain ⟨rfl, h4⟩ := h4
    obtain ⟨x, hx1, hx2⟩ := at_some (ds := ds) (i := ot) b0 h4
    have hx2 : Hid _ := ⟨List.mem_of_getElem? hx2⟩
    walk_at "t"
    walk_at "r"
    refine ⟨rfl, ⟨_, fin _ _ _ _ _ _ _ _⟩, .inl ⟨_, rfl, ?_, ?_⟩⟩
    · simpa using len3.out x
    · simpa using big.out x (hp.out x hx2.out)
  · have h4f : ev T (Fn T (k + 3)) (Fn T (k + 2)) (.and (.op .eq (.cons (.v 2) (.cons (.c (.int 4)) .nil))) (.op .lt (.cons (.v 4) (.cons (.op .len (.cons (.v 1) .nil)) .nil)))) [.mu (.l .f) p4.d, .ow (.l .f) (.lst ds), .fz (.int ch), .fz (.int at_), .fz (.int ot), .fz (.int low), .fz bad, .un] = .ok ⟨.f, .bl false⟩ [.mu (.l .f) p4.d, .ow (.l .f) (.lst ds), .fz (.int ch), .fz (.int at_), .fz (.int ot), .fz (.int low), .fz bad, .un] := by
      by_cases h : ch = 4
      · have : ¬ ot < (ds.length : Int) := fun z => h4 ⟨h, z⟩
        subst h
        walk_at "py"
      · walk_at "py"
    refine w_ite (q := false) h4f (fun z => by cases z) (fun _ => ?_)
    clear h4f h4
    walk_at "nil"
    refine w_seq ?_
    by_cases h5 : ch = 5
    · subst h5
      walk_at "t"
      walk_at "r"
      refine ⟨rfl, ⟨_, fin _ _ _ _ _ _ _ _⟩, .inl ⟨_, rfl, ?_, ?_⟩⟩
      · simpa using len3.out bad
      · simpa using big.out bad hbad.out
    · by_cases h6 : ch = 6
      · subst h6
        walk_at "t"
        walk_at "r"
        refine ⟨rfl, ⟨_, fin _ _ _ _ _ _ _ _⟩, .inl ⟨_, rfl, ?_, ?_⟩⟩
        · simpa using len3.out bad
        · simpa using big.out bad hbad.out
      · walk_at "f"
        walk_at "nil"
        refine w_seq ?_
        by_cases h7 : ch = 7
        · subst h7
          have la : (ds.length : Int) ≤ 64 := by omega
          have hc := comp_is (T := T) (Φ := Fn T (k + 3)) (Ψ := Fn T (k + 2)) (s := .r1 (.cons (.op .sub (.cons (.c (.int 65)) (.cons (.op .len (.cons (.v 1) .nil)) .nil))) .nil)) (vs := [7]) (t := .nm 7) (u := .c (.bl true)) (e := .v 6) (env := [.mu (.l .f) p4.d, .ow (.l .f) (.lst ds), .fz (.int 7), .fz (.int at_), .fz (.int ot), .fz (.int low), .fz bad, .un])
            (its := rangeItems 0 1 (65 - (ds.length : Int)).toNat) (ls := []) (e1 := [.mu (.l .f) p4.d, .ow (.l .f) (.lst ds), .fz (.int 7), .fz (.int at_), .fz (.int ot), .fz (.int low), .fz bad, .un]) (evI_r1 (j := 65 - (ds.length : Int)) (okR_of (by omega) (by omega)) (by walk_at "py")) rfl (comp_map2 (fun _ => bad) (by rw [range_len]; omega) ?_)
          · simp only [unlockE, restoreE] at hc
            have ll : ((rangeItems 0 1 (65 - (ds.length : Int)).toNat).map fun _ => bad).length = 65 - ds.length := by rw [List.length_map, range_len]; omega
            have hm : ∀ d ∈ ((rangeItems 0 1 (65 - (ds.length : Int)).toNat).map fun _ => bad), d = bad := fun d hd => by
              obtain ⟨_, _, rfl⟩ := List.mem_map.mp hd; rfl
            have hm : Hid _ := ⟨hm⟩
            generalize ((rangeItems 0 1 (65 - (ds.length : Int)).toNat).map fun _ => bad) = RR at *
            have s3 : ds.length + (65 - ds.length) ≤ 1000000 := by omega
            walk_at "t"
            walk_at "r"
            refine ⟨rfl, ⟨_, fin _ _ _ _ _ _ _ _⟩, .inl ⟨_, rfl, by simp [ll]; omega, fun d hd => ?_⟩⟩
            rcases List.mem_append.mp hd with hd | hd
            · exact hp.out d hd
            · rw [hm.out d hd]; exact hbad.out
          · intro it hit
            simp only [rangeItems, List.mem_map, List.mem_range] at hit
            obtain ⟨j, hj, rfl⟩ := hit
            clear s1 s2
            walk_at "py"
        · walk_at "f"
          walk_at "nil"
          refine w_seq ?_
          by_cases h8 : ch = 8
          · subst h8
            obtain ⟨r0, r1⟩ := draw_lt p4 (z := 3) (by decide)
            obtain ⟨x, hx1, hx2⟩ := at_some (ds := [D.tup ds, D.non, D.int 7]) (i := drawV p4 3) r0 (by simpa using r1)
            have hx : isD .list x = false ∧ pl x = true ∧ dp x ≤ 3 := by
              have hm := List.mem_of_getElem? hx2
              simp only [List.mem_cons, List.not_mem_nil, or_false] at hm
              obtain ⟨w1, w2⟩ := pls_all hp.out
              rcases hm with rfl | rfl | rfl
              · refine ⟨rfl, ?_, ?_⟩
                · unfold pl
                  rw [w1, Bool.and_true]
                  exact decide_eq_true (by omega)
                · simp only [dp]; omega
              · exact ⟨rfl, rfl, by simp [dp]⟩
              · exact ⟨rfl, rfl, by simp [dp]⟩
            have hx : Hid _ := ⟨hx⟩
            clear hx2
            walk_at "t"
            walk_at "r"
            exact ⟨rfl, ⟨_, fin _ _ _ _ _ _ _ _⟩, .inr ⟨rfl, hx.out.1, hx.out.2.1, hx.out.2.2⟩⟩
          · walk_at "f"
            walk_at "nil"
            walk_at "r"
            exact ⟨rfl, ⟨_, fin _ _ _ _ _ _ _ _⟩, .inl ⟨_, rfl, by omega, hp.out⟩⟩
end T08
end Py

set_option Elab.async false
set_option linter.all false
set_option maxRecDepth 100000
set_option maxHeartbeats 1000000
namespace Py
namespace T08
open PySem L2 Cat
local macro_rules | `(tactic| walk_at "py") => `(tactic| simp [run_try, runs_1, runs_nil, run_pass, run_brk, run_cont, run_ret, run_set, run_ex, run_ite, run_seti, run_setf, run_aug, mSet, fAug, mOp, tyL, ev_c, ev_v, ev_op, ev_not, ev_and, ev_or, ev_ife, ev_cee, ev_cet, ev_cte, ev_ctt, ev_call, ev_meth, ev_new, ev_mut, evs, evI, evP, mThen, mPass, mBreak, mCont, R.bind, R.map, mOpO, ownNo, ownR, ownRun, applyPost, swp, sw2, gBool, gNotB, gLen_ok, Bo.own, Bo.op, Bo.ci, opEither, opA, opI2, fSub, fPow, fLt, fLe, fGt, fGe, powOk, opAdd, elF, szOk, Sh.flat, evNil, evCons, evTail, refix, T.isB, mV, mC, mNot, mAnd, mOr, mIfE, mIf, mRet, outV, mDrop, slotOf, setSlot, fr_un, fr_fz, fr_bo, fr_ow, asgT, asgTs, asI, asItem, aTp, aNil, aCons, fgT, mkV_f, mkV_i, mkV_b, mkV_s, mkV_n, mkV_t, mkV_l, mkV_d, mkV_o, T.sub, mkT, Sh.sub, frzV, frzAll, opLst, opTup, opSz, opIx, opLen, opList, opTuple, opInt, opAbs, opMax, opMin, opSl, partsOf, opNeg, opIsN, isN_n, isN_b, isN_i, isN_s, isN_l, isN_t, isN_d, isN_o, opIsT, opIsC, isD_int_n, isD_int_b, isD_int_i, isD_int_s, isD_int_l, isD_int_t, isD_int_d, isD_int_o, isD_bool_n, isD_bool_b, isD_bool_i, isD_bool_s, isD_bool_l, isD_bool_t, isD_bool_d, isD_bool_o, isD_str_n, isD_str_b, isD_str_i, isD_str_s, isD_str_l, isD_str_t, isD_str_d, isD_str_o, isD_list_n, isD_list_b, isD_list_i, isD_list_s, isD_list_l, isD_list_t, isD_list_d, isD_list_o, isD_tuple_n, isD_tuple_b, isD_tuple_i, isD_tuple_s, isD_tuple_l, isD_tuple_t, isD_tuple_d, isD_tuple_o, isD_dict_n, isD_dict_b, isD_dict_i, isD_dict_s, isD_dict_l, isD_dict_t, isD_dict_d, isD_dict_o, isC, opEq, shp_i, shp_b, shp_n, eq_ii, eq_bb, opFld, T.fsub, Sh.fsub, mSetI, mSetF, getAt, putAt, ownAt, setOwn, pathS, pathD, putS, putD, mpV, mpF, mpI, gEither, gSetL, gSetD, callV, takes, argSlots, argSlot, backs, outT, runC, fill, mCallD, methV, mMeth, mNew, runN, newV, partV, putFld, Sh.snoc, Sh.putN, Sh.nth, Ex.p, Exs.p, Exs.len, mChn, mMid, mLast, mMut, Mo.g, gAppend, opDNew, at_i, at_b, at_s, at_n, at_l, at_t, at_d, at_o, opInD, opIn_l, opIn_d, opIxD, dPut, ev1, ev2, atI_0, atI_1, atI_2, atI_3, atI_4, ixN, mSeqI, seqI, srcT, mRng1, mRng2, mRng3, mEnum, enumI, mZip, zipI, wipeE, restoreE, unlockE, unlock, plainS, R.w, Ow, Oz, finEnv, keepMu, mul_ok, mul_ok2, div_ok, mod_ok, mRaise, initR, raiseF, xInit, xFl, mTry, mHand, hsRun, freeO, clrO, HcT.v, HsT.v, hxV, hxVs, hFld, hTup, hAll, *])
local macro_rules | `(tactic| walk_at "nil") => `(tactic| (refine w_nil ?_; try dsimp only))
local macro_rules | `(tactic| walk_at "s") => `(tactic| refine w_nx (by walk_at "py"; rfl) ?_)
local macro_rules | `(tactic| walk_at "q") => `(tactic| (first | rfl | exact ⟨rfl, rfl⟩ | exact ⟨rfl, rfl, rfl⟩))
local macro_rules | `(tactic| walk_at "t") => `(tactic| (refine w_ite (q := true) (by walk_at "py"; walk_at "q") (fun _ => ?_) (fun z => by cases z)))
local macro_rules | `(tactic| walk_at "f") => `(tactic| (refine w_ite (q := false) (by walk_at "py"; walk_at "q") (fun z => by cases z) (fun _ => ?_)))
local macro_rules | `(tactic| walk_at "r") => `(tactic| refine w_rt (by walk_at "py"; walk_at "q") ?_)
local macro_rules | `(tactic| walk_at "x") => `(tactic| refine w_xx (by walk_at "py"; walk_at "q") ?_)
local macro_rules | `(tactic| walk_at "fnx") => `(tactic| (refine w_fnx ?_; simp only [List.length_cons, List.length_nil, Nat.zero_add, Nat.reduceAdd, Nat.reduceSub, Nat.sub_self, List.replicate_succ, List.replicate_zero, List.cons_append, List.nil_append, List.append_nil]))
local macro_rules | `(tactic| walk_at "fn") => `(tactic| (refine w_fn ?_; simp only [List.length_cons, List.length_nil, Nat.zero_add, Nat.reduceAdd, Nat.reduceSub, Nat.sub_self, List.replicate_succ, List.replicate_zero, List.cons_append, List.nil_append, List.append_nil]))
def allP : List P2 := (List.range 64).map fun (k : Nat) => ((k : Int) / 8, (k : Int) - (k : Int) / 8 * 8)
theorem all_f (T : Tab) (Φ Ψ : Nat → FM) (a0 a1 a2 a3 a4 a5 a6 a7 a8 a9 a10 a11 : Slot) : ev T Φ Ψ (.comp (.r1 (.cons (.c (.int 64)) .nil)) [12] (.nm 12) (.c (.bl true)) (.op .tup (.cons (.op .div (.cons (.v 12) (.cons (.c (.int 8)) .nil))) (.cons (.op .sub (.cons (.v 12) (.cons (.op .mul (.cons (.op .div (.cons (.v 12) (.cons (.c (.int 8)) .nil))) (.cons (.c (.int 8)) .nil))) .nil))) .nil)))) [a0, a1, a2, a3, a4, a5, a6, a7, a8, a9, a10, a11, .un] = .ok ⟨.o (.l .f), .lst (allP.map pD)⟩ [a0, a1, a2, a3, a4, a5, a6, a7, a8, a9, a10, a11, .un] := by
  have := comp_is (T := T) (Φ := Φ) (Ψ := Ψ) (s := .r1 (.cons (.c (.int 64)) .nil)) (vs := [12]) (t := .nm 12) (u := .c (.bl true)) (e := (.op .tup (.cons (.op .div (.cons (.v 12) (.cons (.c (.int 8)) .nil))) (.cons (.op .sub (.cons (.v 12) (.cons (.op .mul (.cons (.op .div (.cons (.v 12) (.cons (.c (.int 8)) .nil))) (.cons (.c (.int 8)) .nil))) .nil))) .nil)))) (env := [a0, a1, a2, a3, a4, a5, a6, a7, a8, a9, a10, a11, .un])
    (its := rangeItems 0 1 64) (ls := []) (e1 := [a0, a1, a2, a3, a4, a5, a6, a7, a8, a9, a10, a11, .un]) (evI_r1 (j := 64) (okR_of (by decide) (by decide)) (by walk_at "py")) rfl (comp_map2 (fun it => match itD it with | .int k => pD (k / 8, k - k / 8 * 8) | d => d) ?_ ?_)
  · rw [this]
    have e1 : (rangeItems 0 1 64).map (fun it => match itD it with | .int k => pD (k / 8, k - k / 8 * 8) | d => d) = allP.map pD := by
      unfold rangeItems allP
      rw [List.map_map, List.map_map]
      refine List.map_congr_left fun k _ => ?_
      simp [itD]
    rw [e1]
    simp [unlockE, restoreE, wipeE]
  · decide +kernel
  · intro it hit
    simp only [rangeItems, List.mem_map, List.mem_range] at hit
    obtain ⟨j, hj, rfl⟩ := hit
    have e0 : (0 : Int) + (j : Int) * 1 = j := by omega
    rw [e0]
    have h8 : ((j : Int) / 8).natAbs < 18446744073709551616 := by omega
    walk_at "py"
    simp [itD, pD]
theorem pn_all : ∀ d ∈ allP.map pD, Pn d := fun d hd => by
  obtain ⟨p, _, rfl⟩ := List.mem_map.mp hd
  exact pn_pD p
theorem s_told {T : Tab} [H48 T] (k : Nat) : Fn T (k + 3) 48 [.fz told, .fz told] = .ok ⟨.f, .bl true⟩ [.un, .un] := by
  have := s48 (T := T) k 1 (a := told) (b := told) (sa := .fz told) (sb := .fz told) (by simp [dp, dps, told]) (by unfold told pl pls; decide +kernel) (by unfold told pl pls; decide +kernel) .fz .fz
  rw [same_refl] at this
  exact this
theorem pl_ref (i : Int) : pl (refused i) = true := by
  have h : pl (.str "refused") = true := by unfold pl; decide +kernel
  simp only [refused, pl, pls] at h ⊢
  rw [h]
  rfl
theorem s_ref {T : Tab} [H48 T] (k : Nat) (i : Int) : Fn T (k + 3) 48 [.fz (refused i), .fz (refused i)] = .ok ⟨.f, .bl true⟩ [.un, .un] := by
  have := s48 (T := T) k 1 (a := refused i) (b := refused i) (sa := .fz (refused i)) (sb := .fz (refused i)) (by simp [dp, dps, refused]) (pl_ref i) (pl_ref i) .fz .fz
  rw [same_refl] at this
  exact this
theorem f124 {T : Tab} [H0 T] [H1 T] [H2 T] [H3 T] [H4 T] [H5 T] [H6 T] [H7 T] [H9 T] [H13 T] [H14 T] [H15 T] [H20 T] [H21 T] [H22 T] [H23 T] [H48 T] [H63 T] [H120 T] [H121 T] [H122 T] [H123 T] [H124 T] [H125 T] [H126 T] [M14 T] [M15 T] [M20 T] [M22 T] [M23 T] [M125 T] [M126 T] [C2 T] [X3 T] [X4 T] [X5 T] (k : Nat) (ns : List Int) (hn : ns.length ≤ 63) : FR.is (Fn T (k + 10) 124 [.fz (.lst (ns.map D.int))]) fun v _ => v = ⟨.f, .bl true⟩ := by
  rw [fq124]
  walk_at "fn"
  unfold B124
  have g5 := f5 (T := T) (k + 7) ns hn
  generalize ns.map D.int = NS at *
  walk_at "s"
  clear g5
  generalize pool0 ns = p0
  walk_at "s"
  generalize drawV p0 9 = ch
  generalize drawN p0 9 = p1
  have q1 := draw_lt p1 (z := 65) (by decide)
  walk_at "s"
  generalize drawV p1 65 = many at *
  generalize drawN p1 65 = p2
  obtain ⟨m0, m1⟩ := q1
  refine w_seq ?_
  refine w_cut (P := fun e => ∃ mm : Int, e = [.fz (.lst NS), .ow (.l .f) (drawN p2 2).d, .fz (.int ch), .fz (.int mm), .un, .un, .un, .un, .un, .un, .un, .un, .un] ∧ 0 ≤ mm) ?_ ?_
  · refine w_ite (q := decide (drawV p2 2 = 0)) (t := .f) (e1 := [.fz (.lst NS), .ow (.l .f) (drawN p2 2).d, .fz (.int ch), .fz (.int many), .un, .un, .un, .un, .un, .un, .un, .un, .un]) (by walk_at "py") ?_ ?_
    · intro hq
      walk_at "s"
      exact w_nil ⟨_, rfl, by omega⟩
    · intro hq
      exact w_nil ⟨_, rfl, by omega⟩
  rintro e ⟨mm, rfl, hm⟩
  dsimp only
  clear m0 m1
  generalize drawN p2 2 = p3
  have hall := all_f T (Fn T (k + 9)) (Fn T (k + 8)) (.fz (.lst NS)) (.ow (.l .f) p3.d) (.fz (.int ch)) (.fz (.int mm)) .un .un .un .un .un .un .un .un
  obtain ⟨v, w, g9, ev9, p4, rfl, rfl, hp9⟩ := f9x (T := T) (k + 5) p3 (allP.map pD) (.ow (.l .f) (.lst (allP.map pD))) (by decide +kernel) (.inr (.inr rfl))
  have hev : ∀ d ∈ ev9, Pn d := fun d hd => pn_all d (hp9.mem_iff.mp hd)
  have hel : ev9.length = 64 := by rw [hp9.length_eq]; decide +kernel
  generalize allP.map pD = AL at *
  clear hp9
  replace hev : Hid _ := ⟨hev⟩
  walk_at "s"
  clear hall g9
  have hc := cutL_len ev9 none (some mm)
  obtain ⟨v, w, g120, ⟨p5, rfl⟩, hr⟩ := f120 (T := T) (k + 5) p4 (cutL ev9 none (some mm)) (by omega) (pn_cut hev.out) ch
  clear hc
  rcases hr with ⟨ds, rfl, hdl, hdp⟩ | ⟨hvt, hvl, hvp, hvd⟩
  · -- a list
    obtain ⟨w1, w2⟩ := pls_all hdp
    have hpl : pl (.lst ds) = true := by unfold pl; rw [w1, Bool.and_true]; exact decide_eq_true (by omega)
    have hsh : shp (.lst ds) = true := shp_of hpl (by simp only [dp]; omega)
    have heq : eqvD (.lst ds) (.lst ds) = true := eqv_self hpl
    clear w1 w2
    replace hpl : Hid _ := ⟨hpl⟩
    replace hdp : Hid _ := ⟨hdp⟩
    walk_at "s"
    clear g120
    -- refused, by the place i
    have bad : ∀ i : Int, Fn T (k + 9) 122 [.bo (.l .f) (.lst ds)] = .ok ⟨.f, refused i⟩ [.un] → (∃ sh o, Fn T (k + 8) 14 [.mu (.n .f) (.obj 2 []), .bo (.l .f) (.lst ds)] = .ex 3 [.int i] [.mu sh o, .un]) →
        Fl.w (runs T (Fn T (k + 9)) (Fn T (k + 8)) (match B124 with | .cons _ (.cons _ (.cons _ (.cons _ (.cons _ (.cons _ r))))) => r | r => r) [.fz (.lst NS), .ow (.l .f) p5.d, .fz (.int ch), .fz (.int mm), .ow (.l .f) (.lst ev9), .ow (.l .f) (.lst ds), .un, .un, .un, .un, .un, .un, .un]) { n := fun e => (⟨.f, .non⟩ : Val) = ⟨.f, .bl true⟩, r := fun v e => outT v.t = true ∧ v = ⟨.f, .bl true⟩ } := by
      intro i c1 c2
      obtain ⟨sh, o, c2⟩ := c2
      have c3 := s_ref (T := T) (k + 6) i
      unfold refused at c1 c3
      unfold B124
      dsimp only
      walk_at "s"
      walk_at "s"
      refine w_seq ?_
      walk_at "t"
      walk_at "s"
      walk_at "nil"
      walk_at "s"
      walk_at "s"
      walk_at "s"
      refine w_seq ?_
      walk_at "f"
      walk_at "nil"
      refine w_seq ?_
      walk_at "t"
      walk_at "r"
      exact ⟨rfl, rfl⟩
    by_cases hbig : 64 < ds.length
    · exact bad (-1) (f122c (T := T) (k + 6) ds hbig) ⟨_, _, f14n (T := T) (k + 3) (.lst ds) (.bo (.l .f) (.lst ds)) .bo (.inr ⟨ds, rfl, hbig⟩)⟩
    · obtain ⟨v, w, c1, rfl, h1⟩ := f122b (T := T) (k + 6) ds (by omega)
      rcases h1 with ⟨hok, rfl⟩ | ⟨i, hi, hj, hb, rfl⟩
      · clear bad
        obtain ⟨l, l1, l2, l3, l4⟩ := take_pD (ds := ds) (i := ds.length) (by omega) hok
        rw [List.take_length] at l1
        have n1 : FR.q (Fn T (k + 8) 14 [.mu (.n .f) (.obj 2 []), .bo (.l .f) (.lst ds)]) (fun v e => v = ⟨.f, .non⟩ ∧ e = [.mu shO (oD ds), .un]) fun _ _ _ => False := f14w (T := T) (k + 3) ds (by omega) (.bo (.l .f) (.lst ds)) (.inr (.inl rfl)) (fun _ => ⟨rfl, rfl⟩) (fun i hi _ hb _ _ => hb (hok i hi))
        obtain ⟨v, w, c2, rfl, rfl⟩ := FR.ok_of n1
        have n2 : FR.q (Fn T (k + 8) 14 [.mu (.n .f) (.obj 2 []), .ow (.l .f) (.lst ds)]) (fun v e => v = ⟨.f, .non⟩ ∧ e = [.mu shO (oD ds), .un]) fun _ _ _ => False := f14w (T := T) (k + 3) ds (by omega) (.ow (.l .f) (.lst ds)) (.inr (.inr rfl)) (fun _ => ⟨rfl, rfl⟩) (fun i hi _ hb _ _ => hb (hok i hi))
        obtain ⟨v, w, c3, rfl, rfl⟩ := FR.ok_of n2
        have c4 := s_told (T := T) (k + 6)
        have c5 := f123 (T := T) (k + 1) l (by omega) l3
        have c6 := f125 (T := T) (k + 7) ds
        have c7 := f15 (T := T) (k + 7) l l
        unfold oP at c5 c7
        rw [← l1] at c5 c7
        simp only [decide_true] at c7
        clear l1 l2 l3 l4 hok n1 n2
        unfold told at c1 c4
        unfold oD at *
        generalize ixs ds = kvs at *
        have lz : ds.length ≤ 1000000 := by omega
        walk_at "s"
        walk_at "s"
        refine w_seq ?_
        walk_at "t"
        walk_at "s"
        walk_at "nil"
        walk_at "s"
        walk_at "s"
        walk_at "s"
        refine w_seq ?_
        walk_at "f"
        walk_at "nil"
        refine w_seq ?_
        walk_at "f"
        walk_at "nil"
        refine w_seq ?_
        walk_at "f"
        walk_at "nil"
        walk_at "s"
        walk_at "s"
        walk_at "s"
        walk_at "s"
        walk_at "s"
        walk_at "r"
        exact ⟨rfl, rfl⟩
      · refine bad i c1 ?_
        have n1 : FR.q (Fn T (k + 8) 14 [.mu (.n .f) (.obj 2 []), .bo (.l .f) (.lst ds)]) (fun _ _ => False) fun c fs e => c = 3 ∧ fs = [.int i] ∧ ∃ sh o, e = [.mu sh o, .un] := f14w (T := T) (k + 3) ds (by omega) (.bo (.l .f) (.lst ds)) (.inr (.inl rfl)) (fun h => hb (h i hi)) (fun j hjl hjo hjb sh o => by
          have : j = i := by
            rcases Nat.lt_trichotomy j i with h | h | h
            · exact absurd (hj j h) hjb
            · exact h
            · exact absurd (hjo i h) hb
          subst this
          exact ⟨rfl, rfl, sh, o, rfl⟩)
        obtain ⟨c, fs, e, h1, rfl, rfl, sh, o, rfl⟩ := FR.ex_of n1
        exact ⟨sh, o, h1⟩
  · obtain ⟨t, d⟩ := v
    dsimp only at hvt hvl hvp hvd
    subst hvt
    have hsh : shp d = true := shp_of hvp (by omega)
    have heq : eqvD d d = true := eqv_self hvp
    have c1 := f122n (T := T) (k + 6) d (.inl hvl)
    have c2 := f14n (T := T) (k + 3) d (.fz d) .fz (.inl hvl)
    have c3 := s_ref (T := T) (k + 6) (-1)
    unfold refused at c1 c3
    clear hvd
    walk_at "s"
    clear g120
    walk_at "s"
    walk_at "s"
    refine w_seq ?_
    walk_at "f"
    walk_at "nil"
    walk_at "s"
    walk_at "s"
    walk_at "s"
    refine w_seq ?_
    cases d with
    | dic b q => unfold pl at hvp; cases hvp
    | obj b q => unfold pl at hvp; cases hvp
    | _ =>
      walk_at "f"
      walk_at "nil"
      refine w_seq ?_
      walk_at "t"
      walk_at "r"
      exact ⟨rfl, rfl⟩
end T08
end Py

theorem PySem.Challenge.cw_pairorder_k08_orders_made_holds : PySem.Challenge.rw_pairorder_k08_orders_made.Holds :=
  Tk08.holds_of 40 ⟨rfl, by decide +kernel, by decide +kernel⟩ fun ns h _ => by
    obtain ⟨v, w, g, rfl⟩ := Py.T08.f124 (T := Tk08.tbl) 30 ns h
    exact ⟨w, g⟩

#print axioms PySem.Challenge.cw_pairorder_k08_orders_made_holds
