import PyProof.Rows.All
import HandS.ForExc
import KE.KNest
import HandS.ForMost
import HandS.Lambda
import HandS.TupAny
import HandS.TupMul
import HandS.TupLe
import HandS.Deep
import HandS.Conv
import HandS.CallSlots
import HandS.Comp
import HandS.ExcInit
import HandS.ExcSuper
import KE.KExcSuper
import HandS.ExcField
import HandS.TupSets
import KE.DataCmp
import KE.DataMinMax
import KE.DataAny
import KE.SortData
import HandS.Walk
import HandS.ForDict
import HandS.WordsExc
import HandS.HeadEnd
import HandS.HeadHook1
import HandS.Head2
import PyProof.P3In
import HandS.HeadHook4
import HandS.Style
import HandS.More
import HandS.EndTab
import PySem.Challenge.RW_callsheets_k51_ways_and_distances
section S_A1
set_option Elab.async false
set_option linter.all false
open PySem PySem.Spec L2
namespace A2
/-- the name of the law's lambdas -/
def lamQ : Str := "law.<locals>.<lambda>"
/-- the tables of code objects that the law's lambdas write: the law's own -/
def tabsOf (K : PySem.W.Frag) : List Addr := match PySem.W.tabIn K "law" with
  | some (_, P) => [P]
  | none => []
end A2
end S_A1
section S_A2a
set_option Elab.async false
set_option linter.all false
set_option maxRecDepth 100000
set_option maxHeartbeats 4000000
open PySem PySem.Spec L2
open PyProof.Rows hiding St
namespace A2
/-! ## data -/
inductive D where
  | non | bl (b : Bool) | int (i : Int) | str (s : Str)
  | tup (ds : List D) | lst (ds : List D) | flst (ds : List D)
  | dct (kvs : List (D × D)) | fdct (kvs : List (D × D))
  | ins (c : Str) (fs : List (Str × D))
  deriving Inhabited
mutual
def D.imm : D → Bool
  | .non => true | .bl _ => true | .int _ => true | .str _ => true
  | .tup ds => D.imms ds
  | .flst ds => D.imms ds
  | .lst _ => false | .dct _ => false | .fdct _ => false | .ins _ _ => false
def D.imms : List D → Bool
  | [] => true
  | d :: ds => d.imm && D.imms ds
end
inductive Step where
  | ix (k : Nat) | fl (f : Str) | ky (d : D)
inductive RV where
  | tmp (d : D) | plc (s : Nat) (p : List Step)
structure Exc where
  cls : Str
  fs : List (Str × D)
abbrev DSt := List (Option D)
inductive Res (α : Type) where
  | ok (a : α) (σ : DSt) | err (x : Exc) (σ : DSt) | bad
def Res.bind {α β : Type} (r : Res α) (f : α → DSt → Res β) : Res β :=
  match r with
  | .ok a σ => f a σ
  | .err x σ => .err x σ
  | .bad => .bad
/-! ## how data lie in the heap -/
structure Gv where
  K : PySem.W.Frag
  mg : Str → Option Value
  T : List Addr
def Mutb : HO → Prop
  | .lst _ => True | .dK _ => True | .dT _ => True | .set _ _ => True | .ins _ _ _ => True | _ => False
/-- all but F's own stays; tables of code objects only grow -/
structure Keep (F : Addr → Prop) (H H' : Hp) : Prop where
  at_ : ∀ a o, H a = some o → (∀ ps, o ≠ .tbl ps) → (¬ F a ∨ ¬ Mutb o) → H' a = some o
  tbl : ∀ a ps, H a = some (.tbl ps) → ∃ more, H' a = some (.tbl (ps ++ more))
  tab : ∀ P, LamX.TabS H P lamQ → LamX.TabS H' P lamQ
theorem Keep.of {F : Addr → Prop} {H H' : Hp} (k : ∀ a o, H a = some o → (¬ F a ∨ ¬ Mutb o) → H' a = some o) : Keep F H H' where
  at_ := fun a o e _ q => k a o e q
  tbl := fun a ps e => ⟨#[], by rw [Array.append_empty]; exact k a _ e (.inr fun z => z)⟩
  tab := fun P ⟨ps, h1, h2, h3⟩ => ⟨ps, k _ _ h1 (.inr fun z => z), h2, fun pos cv hc => let ⟨c, e1, e2⟩ := h3 pos cv hc; ⟨c, e1, k _ _ e2 (.inr fun z => z)⟩⟩
def Dj (f g : List Addr) : Prop := ∀ a, a ∈ f → a ∉ g
def keyD : Key → D
  | .inl i => .int i
  | .inr x => .str x
mutual
def Rep (G : Gv) (H : Hp) : D → V → List Addr → Prop
  | .non, v, fp => v = .non ∧ fp = []
  | .bl b, v, fp => v = .bl b ∧ fp = []
  | .int i, v, fp => v = .int i ∧ fp = []
  | .str x, v, fp => v = .str x ∧ fp = []
  | .tup ds, v, fp => ∃ a vs, v = .ref a ∧ SqT G.K H a vs ∧ Reps G H ds vs fp
  | .lst ds, v, fp => ∃ a vs f1, v = .ref a ∧ H a = some (.lst vs) ∧ Reps G H ds vs f1 ∧ a ∉ f1 ∧ fp = a :: f1
  | .flst ds, v, fp => ∃ a o vs, v = .ref a ∧ H a = some (.frz o (.lst vs)) ∧ Reps G H ds vs [] ∧ fp = []
  | .dct kvs, v, fp => ∃ a ws f1, v = .ref a ∧ H a = some (.dK ws) ∧ RepK G H kvs ws f1 ∧ (a ∉ f1 ∧ (ws.map (·.1)).Nodup) ∧ fp = a :: f1
  | .fdct kvs, v, fp => ∃ a o ws, v = .ref a ∧ H a = some (.frz o (.dK ws)) ∧ RepK G H kvs ws [] ∧ (ws.map (·.1)).Nodup ∧ fp = []
  | .ins c fs, v, fp => ∃ a C dx ws f1, v = .ref a ∧ G.mg c = some (.ref C) ∧ H a = some (.ins C dx ws) ∧ RepF G H fs ws f1 ∧ a ∉ f1 ∧ fp = a :: f1
def Reps (G : Gv) (H : Hp) : List D → List V → List Addr → Prop
  | [], vs, fp => vs = [] ∧ fp = []
  | d :: ds, vs, fp => ∃ v r f1 f2, vs = v :: r ∧ Rep G H d v f1 ∧ Reps G H ds r f2 ∧ Dj f1 f2 ∧ fp = f1 ++ f2
def RepK (G : Gv) (H : Hp) : List (D × D) → List (Key × V) → List Addr → Prop
  | [], ws, fp => ws = [] ∧ fp = []
  | (k, d) :: ds, ws, fp => ∃ kk v r f1 f2, ws = (kk, v) :: r ∧ k = keyD kk ∧ Rep G H d v f1 ∧ RepK G H ds r f2 ∧ Dj f1 f2 ∧ fp = f1 ++ f2
def RepF (G : Gv) (H : Hp) : List (Str × D) → List (Str × V) → List Addr → Prop
  | [], ws, fp => ws = [] ∧ fp = []
  | (k, d) :: ds, ws, fp => ∃ v r f1 f2, ws = (k, v) :: r ∧ Rep G H d v f1 ∧ RepF G H ds r f2 ∧ Dj f1 f2 ∧ fp = f1 ++ f2
end
theorem Keep.refl {F : Addr → Prop} {H : Hp} : Keep F H H := .of fun _ _ h _ => h
theorem Keep.mono {F F' : Addr → Prop} {H H' : Hp} (k : Keep F H H') (h : ∀ a, F a → F' a) : Keep F' H H' := ⟨fun a o e t q => k.at_ a o e t (q.imp (fun n z => n (h a z)) id), k.tbl, k.tab⟩
theorem Keep.trans {F F1 F2 : Addr → Prop} {H H1 H2 : Hp} (k1 : Keep F1 H H1) (k2 : Keep F2 H1 H2) (h1 : ∀ a, F1 a → F a) (h2 : ∀ a o, H a = some o → (¬ F a ∨ ¬ Mutb o) → (¬ F2 a ∨ ¬ Mutb o)) : Keep F H H2 where
  at_ := fun a o e t q => k2.at_ a o (k1.at_ a o e t (q.imp (fun n z => n (h1 a z)) id)) t (h2 a o e q)
  tbl := fun a ps e => by
    obtain ⟨m1, e1⟩ := k1.tbl a ps e
    obtain ⟨m2, e2⟩ := k2.tbl a _ e1
    exact ⟨m1 ++ m2, by rw [← Array.append_assoc]; exact e2⟩
  tab := fun P t => k2.tab P (k1.tab P t)
theorem Keep.trans0 {H H1 H2 : Hp} (k1 : Keep (fun _ => False) H H1) (k2 : Keep (fun _ => False) H1 H2) : Keep (fun _ => False) H H2 := k1.trans k2 (fun _ h => h) fun _ _ _ _ => .inl id
theorem Keep.dom' {F : Addr → Prop} {H H' : Hp} (k : Keep F H H') {a : Addr} {o : HO} (e : H a = some o) (q : ¬ F a ∨ ¬ Mutb o) : H' a ≠ none := by
  by_cases t : ∃ ps, o = .tbl ps
  · obtain ⟨ps, rfl⟩ := t
    obtain ⟨m, e1⟩ := k.tbl a ps e
    rw [e1]
    exact fun z => nomatch z
  · rw [k.at_ a o e (fun ps z => t ⟨ps, z⟩) q]
    exact fun z => nomatch z
theorem SqT.keep {F : Addr → Prop} {K : PySem.W.Frag} {H H' : Hp} {a : Addr} {vs : List V} (k : Keep F H H') (h : SqT K H a vs) : SqT K H' a vs := by
  rcases h with (h | ⟨o, h⟩) | h
  · exact .inl (.inl (k.at_ _ _ h (fun _ z => nomatch z) (.inr (fun z => z))))
  · exact .inl (.inr ⟨o, k.at_ _ _ h (fun _ z => nomatch z) (.inr (fun z => z))⟩)
  · exact .inr h
mutual
theorem Rep.keep {G : Gv} {F : Addr → Prop} {H H' : Hp} (k : Keep F H H') : ∀ (d : D) (v : V) (fp : List Addr), (∀ a ∈ fp, ¬ F a) → Rep G H d v fp → Rep G H' d v fp
  | .non, _, _, _, h => h
  | .bl _, _, _, _, h => h
  | .int _, _, _, _, h => h
  | .str _, _, _, _, h => h
  | .tup ds, v, fp, n, ⟨a, vs, e, s, r⟩ => ⟨a, vs, e, SqT.keep k s, Reps.keep k ds vs fp n r⟩
  | .lst ds, v, fp, n, ⟨a, vs, f1, e, s, r, na, ef⟩ => by
    subst ef
    exact ⟨a, vs, f1, e, k.at_ _ _ s (fun _ z => nomatch z) (.inl (n a (List.mem_cons_self ..))), Reps.keep k ds vs f1 (fun b hb => n b (List.mem_cons_of_mem _ hb)) r, na, rfl⟩
  | .flst ds, v, fp, n, ⟨a, o, vs, e, s, r, ef⟩ => ⟨a, o, vs, e, k.at_ _ _ s (fun _ z => nomatch z) (.inr (fun z => z)), Reps.keep k ds vs [] (fun _ hb => nomatch hb) r, ef⟩
  | .dct ds, v, fp, n, ⟨a, vs, f1, e, s, r, na, ef⟩ => by
    subst ef
    exact ⟨a, vs, f1, e, k.at_ _ _ s (fun _ z => nomatch z) (.inl (n a (List.mem_cons_self ..))), RepK.keep k ds vs f1 (fun b hb => n b (List.mem_cons_of_mem _ hb)) r, na, rfl⟩
  | .fdct ds, v, fp, n, ⟨a, o, vs, e, s, r, nd, ef⟩ => ⟨a, o, vs, e, k.at_ _ _ s (fun _ z => nomatch z) (.inr (fun z => z)), RepK.keep k ds vs [] (fun _ hb => nomatch hb) r, nd, ef⟩
  | .ins c ds, v, fp, n, ⟨a, C, dx, vs, f1, e, g, s, r, na, ef⟩ => by
    subst ef
    exact ⟨a, C, dx, vs, f1, e, g, k.at_ _ _ s (fun _ z => nomatch z) (.inl (n a (List.mem_cons_self ..))), RepF.keep k ds vs f1 (fun b hb => n b (List.mem_cons_of_mem _ hb)) r, na, rfl⟩
theorem Reps.keep {G : Gv} {F : Addr → Prop} {H H' : Hp} (k : Keep F H H') : ∀ (ds : List D) (vs : List V) (fp : List Addr), (∀ a ∈ fp, ¬ F a) → Reps G H ds vs fp → Reps G H' ds vs fp
  | [], _, _, _, h => h
  | d :: ds, vs, fp, n, ⟨v, r, f1, f2, e, p, q, dj, ef⟩ => by
    subst ef
    exact ⟨v, r, f1, f2, e, Rep.keep k d v f1 (fun b hb => n b (List.mem_append_left _ hb)) p, Reps.keep k ds r f2 (fun b hb => n b (List.mem_append_right _ hb)) q, dj, rfl⟩
theorem RepK.keep {G : Gv} {F : Addr → Prop} {H H' : Hp} (k : Keep F H H') : ∀ (ds : List (D × D)) (vs : List (Key × V)) (fp : List Addr), (∀ a ∈ fp, ¬ F a) → RepK G H ds vs fp → RepK G H' ds vs fp
  | [], _, _, _, h => h
  | (_, d) :: ds, vs, fp, n, ⟨kk, v, r, f1, f2, e, ek, p, q, dj, ef⟩ => by
    subst ef
    exact ⟨kk, v, r, f1, f2, e, ek, Rep.keep k d v f1 (fun b hb => n b (List.mem_append_left _ hb)) p, RepK.keep k ds r f2 (fun b hb => n b (List.mem_append_right _ hb)) q, dj, rfl⟩
theorem RepF.keep {G : Gv} {F : Addr → Prop} {H H' : Hp} (k : Keep F H H') : ∀ (ds : List (Str × D)) (vs : List (Str × V)) (fp : List Addr), (∀ a ∈ fp, ¬ F a) → RepF G H ds vs fp → RepF G H' ds vs fp
  | [], _, _, _, h => h
  | (_, d) :: ds, vs, fp, n, ⟨v, r, f1, f2, e, p, q, dj, ef⟩ => by
    subst ef
    exact ⟨v, r, f1, f2, e, Rep.keep k d v f1 (fun b hb => n b (List.mem_append_left _ hb)) p, RepF.keep k ds r f2 (fun b hb => n b (List.mem_append_right _ hb)) q, dj, rfl⟩
end
mutual
theorem Rep.dom {G : Gv} {H : Hp} : ∀ (d : D) (v : V) (fp : List Addr), Rep G H d v fp → ∀ a ∈ fp, ∃ o, H a = some o ∧ Mutb o
  | .non, _, _, ⟨_, e⟩, a, h => by subst e; cases h
  | .bl _, _, _, ⟨_, e⟩, a, h => by subst e; cases h
  | .int _, _, _, ⟨_, e⟩, a, h => by subst e; cases h
  | .str _, _, _, ⟨_, e⟩, a, h => by subst e; cases h
  | .tup ds, v, fp, ⟨_, vs, _, _, r⟩, a, h => Reps.dom ds vs fp r a h
  | .lst ds, v, fp, ⟨b, vs, f1, e, s, r, na, ef⟩, a, h => by
    subst ef
    rcases List.mem_cons.mp h with rfl | h
    · exact ⟨_, s, trivial⟩
    · exact Reps.dom ds vs f1 r a h
  | .flst ds, v, fp, ⟨b, o, vs, e, s, r, ef⟩, a, h => by subst ef; cases h
  | .dct ds, v, fp, ⟨b, vs, f1, e, s, r, na, ef⟩, a, h => by
    subst ef
    rcases List.mem_cons.mp h with rfl | h
    · exact ⟨_, s, trivial⟩
    · exact RepK.dom ds vs f1 r a h
  | .fdct ds, v, fp, ⟨b, o, vs, e, s, r, nd, ef⟩, a, h => by subst ef; cases h
  | .ins c ds, v, fp, ⟨b, C, dx, vs, f1, e, g, s, r, na, ef⟩, a, h => by
    subst ef
    rcases List.mem_cons.mp h with rfl | h
    · exact ⟨_, s, trivial⟩
    · exact RepF.dom ds vs f1 r a h
theorem Reps.dom {G : Gv} {H : Hp} : ∀ (ds : List D) (vs : List V) (fp : List Addr), Reps G H ds vs fp → ∀ a ∈ fp, ∃ o, H a = some o ∧ Mutb o
  | [], _, _, ⟨_, e⟩, a, h => by subst e; cases h
  | d :: ds, vs, fp, ⟨v, r, f1, f2, e, p, q, dj, ef⟩, a, h => by
    subst ef
    rcases List.mem_append.mp h with h | h
    · exact Rep.dom d v f1 p a h
    · exact Reps.dom ds r f2 q a h
theorem RepK.dom {G : Gv} {H : Hp} : ∀ (ds : List (D × D)) (vs : List (Key × V)) (fp : List Addr), RepK G H ds vs fp → ∀ a ∈ fp, ∃ o, H a = some o ∧ Mutb o
  | [], _, _, ⟨_, e⟩, a, h => by subst e; cases h
  | (_, d) :: ds, vs, fp, ⟨kk, v, r, f1, f2, e, ek, p, q, dj, ef⟩, a, h => by
    subst ef
    rcases List.mem_append.mp h with h | h
    · exact Rep.dom d v f1 p a h
    · exact RepK.dom ds r f2 q a h
theorem RepF.dom {G : Gv} {H : Hp} : ∀ (ds : List (Str × D)) (vs : List (Str × V)) (fp : List Addr), RepF G H ds vs fp → ∀ a ∈ fp, ∃ o, H a = some o ∧ Mutb o
  | [], _, _, ⟨_, e⟩, a, h => by subst e; cases h
  | (_, d) :: ds, vs, fp, ⟨v, r, f1, f2, e, p, q, dj, ef⟩, a, h => by
    subst ef
    rcases List.mem_append.mp h with h | h
    · exact Rep.dom d v f1 p a h
    · exact RepF.dom ds r f2 q a h
end
mutual
theorem Rep.imm {G : Gv} {H : Hp} : ∀ (d : D) (v : V) (fp : List Addr), d.imm = true → Rep G H d v fp → fp = []
  | .non, _, _, _, h => h.2
  | .bl _, _, _, _, h => h.2
  | .int _, _, _, _, h => h.2
  | .str _, _, _, _, h => h.2
  | .tup ds, v, fp, i, ⟨a, vs, e, s, r⟩ => Reps.imm ds vs fp i r
  | .flst ds, v, fp, i, ⟨a, o, vs, e, s, r, ef⟩ => ef
  | .lst _, _, _, i, _ => nomatch i
  | .dct _, _, _, i, _ => nomatch i
  | .fdct _, _, _, i, _ => nomatch i
  | .ins _ _, _, _, i, _ => nomatch i
theorem Reps.imm {G : Gv} {H : Hp} : ∀ (ds : List D) (vs : List V) (fp : List Addr), D.imms ds = true → Reps G H ds vs fp → fp = []
  | [], _, _, _, h => h.2
  | d :: ds, vs, fp, i, ⟨v, r, f1, f2, e, p, q, dj, ef⟩ => by
    have i' := Bool.and_eq_true_iff.mp i
    rw [ef, Rep.imm d v f1 i'.1 p, Reps.imm ds r f2 i'.2 q]
    rfl
end
end A2
end S_A2a
section S_A2b
set_option Elab.async false
set_option linter.all false
set_option maxRecDepth 100000
set_option maxHeartbeats 4000000
open PySem PySem.Spec L2
open PyProof.Rows hiding St
namespace A2
/-! ## places within data -/
def lookD : List (D × D) → Key → Option D
  | [], _ => none
  | (k, d) :: r, q => match k, q with
    | .int i, .inl j => if i = j then some d else lookD r q
    | .str x, .inr y => if x = y then some d else lookD r q
    | _, _ => lookD r q
def setD : List (D × D) → Key → D → List (D × D)
  | [], q, d' => [(keyD q, d')]
  | (k, d) :: r, q, d' => match k, q with
    | .int i, .inl j => if i = j then (k, d') :: r else (k, d) :: setD r q d'
    | .str x, .inr y => if x = y then (k, d') :: r else (k, d) :: setD r q d'
    | _, _ => (k, d) :: setD r q d'
def lookF : List (Str × D) → Str → Option D
  | [], _ => none
  | (k, d) :: r, q => if k = q then some d else lookF r q
def setF : List (Str × D) → Str → D → List (Str × D)
  | [], q, d' => [(q, d')]
  | (k, d) :: r, q, d' => if k = q then (k, d') :: r else (k, d) :: setF r q d'
def keyOf : D → Option Key
  | .int i => some (.inl i)
  | .str x => some (.inr x)
  | _ => none
def getP : D → List Step → Option D
  | d, [] => some d
  | .lst ds, .ix k :: p => match ds[k]? with
    | some d => getP d p
    | none => none
  | .ins _ fs, .fl f :: p => match lookF fs f with
    | some d => getP d p
    | none => none
  | .dct kvs, .ky k :: p => match keyOf k with
    | some k => (match lookD kvs k with
      | some d => getP d p
      | none => none)
    | none => none
  | _, _ => none
def setP : D → List Step → D → D
  | _, [], d' => d'
  | .lst ds, .ix k :: p, d' => match ds[k]? with
    | some d => .lst (ds.set k (setP d p d'))
    | none => .lst ds
  | .ins c fs, .fl f :: p, d' => match lookF fs f with
    | some d => .ins c (setF fs f (setP d p d'))
    | none => .ins c fs
  | .dct kvs, .ky k :: p, d' => match keyOf k with
    | some k => (match lookD kvs k with
      | some d => .dct (setD kvs k (setP d p d'))
      | none => .dct kvs)
    | none => .dct kvs
  | d, _, _ => d
def lookV : List (Key × V) → Key → Option V
  | [], _ => none
  | (k, v) :: r, q => if k = q then some v else lookV r q
def lookFV : List (Str × V) → Str → Option V
  | [], _ => none
  | (k, v) :: r, q => if k = q then some v else lookFV r q
def At (H : Hp) : V → List Step → V → Prop
  | v, [], w => w = v
  | v, .ix k :: p, w => ∃ a vs u, v = .ref a ∧ H a = some (.lst vs) ∧ vs[k]? = some u ∧ At H u p w
  | v, .fl f :: p, w => ∃ a C dx fs u, v = .ref a ∧ H a = some (.ins C dx fs) ∧ lookFV fs f = some u ∧ At H u p w
  | v, .ky k :: p, w => ∃ a kvs q u, v = .ref a ∧ H a = some (.dK kvs) ∧ keyOf k = some q ∧ lookV kvs q = some u ∧ At H u p w
theorem djnil {f : List Addr} : Dj [] f := fun _ h => nomatch h
/-- one item of a row stands out: the rest stays as it is where the item is changed -/
theorem Reps.focus {G : Gv} {H : Hp} : ∀ (ds : List D) (vs : List V) (fp : List Addr) (k : Nat) (d : D), Reps G H ds vs fp → ds[k]? = some d →
    ∃ v fL fM fR, vs[k]? = some v ∧ Rep G H d v fM ∧ fp = fL ++ (fM ++ fR) ∧ Dj fL fM ∧ Dj fM fR ∧ Dj fL fR ∧
      ∀ (H' : Hp) (d' : D) (fM' : List Addr), Keep (· ∈ fM) H H' → Rep G H' d' v fM' → Dj fL fM' → Dj fM' fR → Reps G H' (ds.set k d') vs (fL ++ (fM' ++ fR))
  | [], _, _, k, d, _, e => by simp at e
  | d0 :: ds, vs, fp, 0, d, ⟨v, r, f1, f2, ev, p, q, dj, ef⟩, e => by
    have e' : d0 = d := by simpa using e
    subst e'
    subst ev ef
    refine ⟨v, [], f1, f2, rfl, p, rfl, djnil, dj, djnil, fun H' d' fM' k r' _ dj' => ?_⟩
    exact ⟨v, r, fM', f2, rfl, r', Reps.keep k ds r f2 (fun a ha h => dj a h ha) q, dj', rfl⟩
  | d0 :: ds, vs, fp, k + 1, d, ⟨v, r, f1, f2, ev, p, q, dj, ef⟩, e => by
    obtain ⟨w, fL, fM, fR, g1, g2, g3, g4, g5, g6, g7⟩ := Reps.focus ds r f2 k d q (by simpa using e)
    subst ev ef g3
    have x1 : Dj f1 fL := fun a h z => dj a h (List.mem_append_left _ z)
    have x2 : Dj f1 fM := fun a h z => dj a h (List.mem_append_right _ (List.mem_append_left _ z))
    have x3 : Dj f1 fR := fun a h z => dj a h (List.mem_append_right _ (List.mem_append_right _ z))
    refine ⟨w, f1 ++ fL, fM, fR, by simpa using g1, g2, by simp, ?_, g5, ?_, fun H' d' fM' k r' dj1 dj2 => ?_⟩
    · intro a h z
      rcases List.mem_append.mp h with h | h
      · exact x2 a h z
      · exact g4 a h z
    · intro a h z
      rcases List.mem_append.mp h with h | h
      · exact x3 a h z
      · exact g6 a h z
    · have y := g7 H' d' fM' k r' (fun a h z => dj1 a (List.mem_append_right _ h) z) dj2
      refine ⟨v, r, f1, fL ++ (fM' ++ fR), rfl, Rep.keep k d0 v f1 (fun a ha h => x2 a ha h) p, y, ?_, by simp⟩
      intro a h z
      rcases List.mem_append.mp z with z | z
      · exact x1 a h z
      · rcases List.mem_append.mp z with z | z
        · exact dj1 a (List.mem_append_left _ h) z
        · exact x3 a h z
theorem RepK.focus {G : Gv} {H : Hp} : ∀ (ds : List (D × D)) (vs : List (Key × V)) (fp : List Addr) (k : Key) (d : D), RepK G H ds vs fp → lookD ds k = some d →
    ∃ v fL fM fR, lookV vs k = some v ∧ Rep G H d v fM ∧ fp = fL ++ (fM ++ fR) ∧ Dj fL fM ∧ Dj fM fR ∧ Dj fL fR ∧
      ∀ (H' : Hp) (d' : D) (fM' : List Addr), Keep (· ∈ fM) H H' → Rep G H' d' v fM' → Dj fL fM' → Dj fM' fR → RepK G H' (setD ds k d') vs (fL ++ (fM' ++ fR))
  | [], _, _, k, d, _, e => by simp [lookD] at e
  | (k0, d0) :: ds, vs, fp, k, d, ⟨kk, v, r, f1, f2, ev, ek, p, q, dj, ef⟩, e => by
    subst ev ef ek
    have key : lookD ((keyD kk, d0) :: ds) k = (if kk = k then some d0 else lookD ds k) ∧ (∀ d', setD ((keyD kk, d0) :: ds) k d' = (if kk = k then (keyD kk, d') :: ds else (keyD kk, d0) :: setD ds k d')) := by
      cases kk <;> cases k <;> simp [lookD, setD, keyD]
    rw [key.1] at e
    by_cases hk : kk = k
    · subst hk
      rw [if_pos rfl] at e
      have e' : d0 = d := Option.some.inj e
      subst e'
      refine ⟨v, [], f1, f2, by simp [lookV], p, rfl, djnil, dj, djnil, fun H' d' fM' k r' _ dj' => ?_⟩
      rw [key.2, if_pos rfl]
      exact ⟨kk, v, r, fM', f2, rfl, rfl, r', RepK.keep k ds r f2 (fun a ha h => dj a h ha) q, dj', rfl⟩
    · rw [if_neg hk] at e
      obtain ⟨w, fL, fM, fR, g1, g2, g3, g4, g5, g6, g7⟩ := RepK.focus ds r f2 k d q e
      subst g3
      have x1 : Dj f1 fL := fun a h z => dj a h (List.mem_append_left _ z)
      have x2 : Dj f1 fM := fun a h z => dj a h (List.mem_append_right _ (List.mem_append_left _ z))
      have x3 : Dj f1 fR := fun a h z => dj a h (List.mem_append_right _ (List.mem_append_right _ z))
      refine ⟨w, f1 ++ fL, fM, fR, by simp [lookV, hk, g1], g2, by simp, ?_, g5, ?_, fun H' d' fM' k r' dj1 dj2 => ?_⟩
      · intro a h z
        rcases List.mem_append.mp h with h | h
        · exact x2 a h z
        · exact g4 a h z
      · intro a h z
        rcases List.mem_append.mp h with h | h
        · exact x3 a h z
        · exact g6 a h z
      · have y := g7 H' d' fM' k r' (fun a h z => dj1 a (List.mem_append_right _ h) z) dj2
        rw [key.2, if_neg hk]
        refine ⟨kk, v, r, f1, fL ++ (fM' ++ fR), rfl, rfl, Rep.keep k d0 v f1 (fun a ha h => x2 a ha h) p, y, ?_, by simp⟩
        intro a h z
        rcases List.mem_append.mp z with z | z
        · exact x1 a h z
        · rcases List.mem_append.mp z with z | z
          · exact dj1 a (List.mem_append_left _ h) z
          · exact x3 a h z
theorem RepF.focus {G : Gv} {H : Hp} : ∀ (ds : List (Str × D)) (vs : List (Str × V)) (fp : List Addr) (k : Str) (d : D), RepF G H ds vs fp → lookF ds k = some d →
    ∃ v fL fM fR, lookFV vs k = some v ∧ Rep G H d v fM ∧ fp = fL ++ (fM ++ fR) ∧ Dj fL fM ∧ Dj fM fR ∧ Dj fL fR ∧
      ∀ (H' : Hp) (d' : D) (fM' : List Addr), Keep (· ∈ fM) H H' → Rep G H' d' v fM' → Dj fL fM' → Dj fM' fR → RepF G H' (setF ds k d') vs (fL ++ (fM' ++ fR))
  | [], _, _, k, d, _, e => by simp [lookF] at e
  | (kk, d0) :: ds, vs, fp, k, d, ⟨v, r, f1, f2, ev, p, q, dj, ef⟩, e => by
    subst ev ef
    unfold lookF at e
    by_cases hk : kk = k
    · subst hk
      rw [if_pos rfl] at e
      have e' : d0 = d := Option.some.inj e
      subst e'
      refine ⟨v, [], f1, f2, by simp [lookFV], p, rfl, djnil, dj, djnil, fun H' d' fM' k r' _ dj' => ?_⟩
      unfold setF
      rw [if_pos rfl]
      exact ⟨v, r, fM', f2, rfl, r', RepF.keep k ds r f2 (fun a ha h => dj a h ha) q, dj', rfl⟩
    · rw [if_neg hk] at e
      obtain ⟨w, fL, fM, fR, g1, g2, g3, g4, g5, g6, g7⟩ := RepF.focus ds r f2 k d q e
      subst g3
      have x1 : Dj f1 fL := fun a h z => dj a h (List.mem_append_left _ z)
      have x2 : Dj f1 fM := fun a h z => dj a h (List.mem_append_right _ (List.mem_append_left _ z))
      have x3 : Dj f1 fR := fun a h z => dj a h (List.mem_append_right _ (List.mem_append_right _ z))
      refine ⟨w, f1 ++ fL, fM, fR, by simp [lookFV, hk, g1], g2, by simp, ?_, g5, ?_, fun H' d' fM' k r' dj1 dj2 => ?_⟩
      · intro a h z
        rcases List.mem_append.mp h with h | h
        · exact x2 a h z
        · exact g4 a h z
      · intro a h z
        rcases List.mem_append.mp h with h | h
        · exact x3 a h z
        · exact g6 a h z
      · have y := g7 H' d' fM' k r' (fun a h z => dj1 a (List.mem_append_right _ h) z) dj2
        unfold setF
        rw [if_neg hk]
        refine ⟨v, r, f1, fL ++ (fM' ++ fR), rfl, Rep.keep k d0 v f1 (fun a ha h => x2 a ha h) p, y, ?_, by simp⟩
        intro a h z
        rcases List.mem_append.mp z with z | z
        · exact x1 a h z
        · rcases List.mem_append.mp z with z | z
          · exact dj1 a (List.mem_append_left _ h) z
          · exact x3 a h z
theorem Dj.symm {f g : List Addr} (h : Dj f g) : Dj g f := fun a x y => h a y x
theorem Dj.sub {f g f' g' : List Addr} (h : Dj f g) (hf : ∀ a ∈ f', a ∈ f) (hg : ∀ a ∈ g', a ∈ g) : Dj f' g' := fun a x y => h a (hf a x) (hg a y)
theorem Dj.app {f g1 g2 : List Addr} (h1 : Dj f g1) (h2 : Dj f g2) : Dj f (g1 ++ g2) := fun a x y => by
  rcases List.mem_append.mp y with y | y
  · exact h1 a x y
  · exact h2 a x y
/-- what stands at a place, and the rest around it -/
theorem Rep.focus {G : Gv} {H : Hp} : ∀ (p : List Step) (d : D) (v : V) (fp : List Addr) (e : D), Rep G H d v fp → getP d p = some e →
    ∃ w fM, At H v p w ∧ Rep G H e w fM ∧ (∀ a ∈ fM, a ∈ fp) ∧
      ∀ (H' : Hp) (e' : D) (fM' : List Addr), Keep (· ∈ fM) H H' → Rep G H' e' w fM' → (∀ a ∈ fM', a ∈ fM ∨ a ∉ fp) →
        ∃ fp', Rep G H' (setP d p e') v fp' ∧ (∀ a ∈ fp', a ∈ fp ∨ a ∈ fM') ∧ (∀ a ∈ fM', a ∈ fp') ∧ (∀ a ∈ fp, a ∈ fp' ∨ a ∈ fM) := by
  intro p
  induction p with
  | nil =>
    intro d v fp e r g
    have g' : d = e := by simpa [getP] using g
    subst g'
    exact ⟨v, fp, rfl, r, fun _ h => h, fun H' e' fM' _ r' _ => ⟨fM', by simpa [setP] using r', fun a h => .inr h, fun a h => h, fun a h => .inr h⟩⟩
  | cons st p ih =>
    intro d v fp e r g
    have fin : ∀ {fL fM0 fR fM fp0 fM' : List Addr} {a : Addr}, a ∉ fL ++ (fM0 ++ fR) → Dj fL fM0 → Dj fM0 fR → Dj fL fR → (∀ b ∈ fM, b ∈ fM0) → (∀ b ∈ fM', b ∈ fM ∨ b ∉ a :: (fL ++ (fM0 ++ fR))) → (∀ b ∈ fp0, b ∈ fM0 ∨ b ∈ fM') →
        Dj fL fp0 ∧ Dj fp0 fR ∧ a ∉ fL ++ (fp0 ++ fR) := by
      intro fL fM0 fR fM fp0 fM' a na d1 d2 d3 sub hM' hp
      have key : ∀ b ∈ fp0, b ∈ fM0 ∨ b ∉ a :: (fL ++ (fM0 ++ fR)) := fun b hb => by
        rcases hp b hb with h | h
        · exact .inl h
        · exact (hM' b h).imp (sub b) id
      refine ⟨fun b h z => ?_, fun b z h => ?_, fun h => ?_⟩
      · rcases key b z with q | q
        · exact d1 b h q
        · exact q (List.mem_cons_of_mem _ (List.mem_append_left _ h))
      · rcases key b z with q | q
        · exact d2 b q h
        · exact q (List.mem_cons_of_mem _ (List.mem_append_right _ (List.mem_append_right _ h)))
      · rcases List.mem_append.mp h with h | h
        · exact na (List.mem_append_left _ h)
        · rcases List.mem_append.mp h with h | h
          · rcases key a h with q | q
            · exact na (List.mem_append_right _ (List.mem_append_left _ q))
            · exact q (List.mem_cons_self ..)
          · exact na (List.mem_append_right _ (List.mem_append_right _ h))
    cases d with
    | lst ds =>
      cases st with
      | ix k =>
        unfold getP at g
        obtain ⟨a, vs, f1, ev, s, rs, na, ef⟩ := r
        subst ev ef
        cases hk : ds[k]? with
        | none => rw [hk] at g; cases g
        | some d0 =>
          rw [hk] at g
          dsimp only at g
          obtain ⟨u, fL, fM0, fR, g1, g2, g3, g4, g5, g6, g7⟩ := Reps.focus ds vs f1 k d0 rs hk
          obtain ⟨w, fM, at1, r1, sub, upd1⟩ := ih d0 u fM0 e g2 g
          subst g3
          refine ⟨w, fM, ⟨a, vs, u, rfl, s, g1, at1⟩, r1, fun b h => List.mem_cons_of_mem _ (List.mem_append_right _ (List.mem_append_left _ (sub b h))), fun H' e' fM' kp r' hM' => ?_⟩
          obtain ⟨fp0, r2, p1, p2, p3⟩ := upd1 H' e' fM' kp r' (fun b h => (hM' b h).imp id (fun n z => n (List.mem_cons_of_mem _ (List.mem_append_right _ (List.mem_append_left _ z)))))
          obtain ⟨q1, q2, q3⟩ := fin na g4 g5 g6 sub hM' p1
          have y := g7 H' (setP d0 p e') fp0 (kp.mono (fun b h => sub b h)) r2 q1 q2
          refine ⟨a :: (fL ++ (fp0 ++ fR)), ?_, ?_, ?_, ?_⟩
          · unfold setP
            rw [hk]
            refine ⟨a, vs, _, rfl, kp.at_ _ _ s (fun _ z => nomatch z) (.inl fun h => na (List.mem_append_right _ (List.mem_append_left _ (sub a h)))), y, q3, rfl⟩
          · intro b h
            simp only [List.mem_cons, List.mem_append] at h ⊢
            rcases h with h | h | h | h
            · exact .inl (.inl h)
            · exact .inl (.inr (.inl h))
            · exact (p1 b h).imp (fun z => .inr (.inr (.inl z))) id
            · exact .inl (.inr (.inr (.inr h)))
          · intro b h
            exact List.mem_cons_of_mem _ (List.mem_append_right _ (List.mem_append_left _ (p2 b h)))
          · intro b h
            simp only [List.mem_cons, List.mem_append] at h ⊢
            rcases h with h | h | h | h
            · exact .inl (.inl h)
            · exact .inl (.inr (.inl h))
            · exact (p3 b h).imp (fun z => .inr (.inr (.inl z))) id
            · exact .inl (.inr (.inr (.inr h)))
      | fl f => simp [getP] at g
      | ky k => simp [getP] at g
    | dct ds =>
      cases st with
      | ky k0 =>
        unfold getP at g
        cases hkk : keyOf k0 with
        | none => rw [hkk] at g; cases g
        | some k =>
        rw [hkk] at g
        dsimp only at g
        obtain ⟨a, vs, f1, ev, s, rs, na, ef⟩ := r
        subst ev ef
        cases hk : lookD ds k with
        | none => rw [hk] at g; cases g
        | some d0 =>
          rw [hk] at g
          dsimp only at g
          obtain ⟨u, fL, fM0, fR, g1, g2, g3, g4, g5, g6, g7⟩ := RepK.focus ds vs f1 k d0 rs hk
          obtain ⟨w, fM, at1, r1, sub, upd1⟩ := ih d0 u fM0 e g2 g
          subst g3
          refine ⟨w, fM, ⟨a, vs, k, u, rfl, s, hkk, g1, at1⟩, r1, fun b h => List.mem_cons_of_mem _ (List.mem_append_right _ (List.mem_append_left _ (sub b h))), fun H' e' fM' kp r' hM' => ?_⟩
          obtain ⟨fp0, r2, p1, p2, p3⟩ := upd1 H' e' fM' kp r' (fun b h => (hM' b h).imp id (fun n z => n (List.mem_cons_of_mem _ (List.mem_append_right _ (List.mem_append_left _ z)))))
          obtain ⟨q1, q2, q3⟩ := fin na.1 g4 g5 g6 sub hM' p1
          have y := g7 H' (setP d0 p e') fp0 (kp.mono (fun b h => sub b h)) r2 q1 q2
          refine ⟨a :: (fL ++ (fp0 ++ fR)), ?_, ?_, ?_, ?_⟩
          · unfold setP
            rw [hkk]
            dsimp only
            rw [hk]
            refine ⟨a, vs, _, rfl, kp.at_ _ _ s (fun _ z => nomatch z) (.inl fun h => na.1 (List.mem_append_right _ (List.mem_append_left _ (sub a h)))), y, ⟨q3, na.2⟩, rfl⟩
          · intro b h
            simp only [List.mem_cons, List.mem_append] at h ⊢
            rcases h with h | h | h | h
            · exact .inl (.inl h)
            · exact .inl (.inr (.inl h))
            · exact (p1 b h).imp (fun z => .inr (.inr (.inl z))) id
            · exact .inl (.inr (.inr (.inr h)))
          · intro b h
            exact List.mem_cons_of_mem _ (List.mem_append_right _ (List.mem_append_left _ (p2 b h)))
          · intro b h
            simp only [List.mem_cons, List.mem_append] at h ⊢
            rcases h with h | h | h | h
            · exact .inl (.inl h)
            · exact .inl (.inr (.inl h))
            · exact (p3 b h).imp (fun z => .inr (.inr (.inl z))) id
            · exact .inl (.inr (.inr (.inr h)))
      | fl f => simp [getP] at g
      | ix k => simp [getP] at g
    | ins c ds =>
      cases st with
      | fl k =>
        unfold getP at g
        obtain ⟨a, C, dx, vs, f1, ev, mgc, s, rs, na, ef⟩ := r
        subst ev ef
        cases hk : lookF ds k with
        | none => rw [hk] at g; cases g
        | some d0 =>
          rw [hk] at g
          dsimp only at g
          obtain ⟨u, fL, fM0, fR, g1, g2, g3, g4, g5, g6, g7⟩ := RepF.focus ds vs f1 k d0 rs hk
          obtain ⟨w, fM, at1, r1, sub, upd1⟩ := ih d0 u fM0 e g2 g
          subst g3
          refine ⟨w, fM, ⟨a, C, dx, vs, u, rfl, s, g1, at1⟩, r1, fun b h => List.mem_cons_of_mem _ (List.mem_append_right _ (List.mem_append_left _ (sub b h))), fun H' e' fM' kp r' hM' => ?_⟩
          obtain ⟨fp0, r2, p1, p2, p3⟩ := upd1 H' e' fM' kp r' (fun b h => (hM' b h).imp id (fun n z => n (List.mem_cons_of_mem _ (List.mem_append_right _ (List.mem_append_left _ z)))))
          obtain ⟨q1, q2, q3⟩ := fin na g4 g5 g6 sub hM' p1
          have y := g7 H' (setP d0 p e') fp0 (kp.mono (fun b h => sub b h)) r2 q1 q2
          refine ⟨a :: (fL ++ (fp0 ++ fR)), ?_, ?_, ?_, ?_⟩
          · unfold setP
            rw [hk]
            refine ⟨a, C, dx, vs, _, rfl, mgc, kp.at_ _ _ s (fun _ z => nomatch z) (.inl fun h => na (List.mem_append_right _ (List.mem_append_left _ (sub a h)))), y, q3, rfl⟩
          · intro b h
            simp only [List.mem_cons, List.mem_append] at h ⊢
            rcases h with h | h | h | h
            · exact .inl (.inl h)
            · exact .inl (.inr (.inl h))
            · exact (p1 b h).imp (fun z => .inr (.inr (.inl z))) id
            · exact .inl (.inr (.inr (.inr h)))
          · intro b h
            exact List.mem_cons_of_mem _ (List.mem_append_right _ (List.mem_append_left _ (p2 b h)))
          · intro b h
            simp only [List.mem_cons, List.mem_append] at h ⊢
            rcases h with h | h | h | h
            · exact .inl (.inl h)
            · exact .inl (.inr (.inl h))
            · exact (p3 b h).imp (fun z => .inr (.inr (.inl z))) id
            · exact .inl (.inr (.inr (.inr h)))
      | ky f => simp [getP] at g
      | ix k => simp [getP] at g
    | non => cases st <;> simp [getP] at g
    | bl b => cases st <;> simp [getP] at g
    | int b => cases st <;> simp [getP] at g
    | str b => cases st <;> simp [getP] at g
    | tup b => cases st <;> simp [getP] at g
    | flst b => cases st <;> simp [getP] at g
    | fdct b => cases st <;> simp [getP] at g
theorem At.fun {H : Hp} : ∀ (p : List Step) (v w w' : V), At H v p w → At H v p w' → w = w'
  | [], v, w, w', e, e' => e.trans e'.symm
  | .ix k :: p, v, w, w', ⟨a, vs, u, ev, s, g, t⟩, ⟨a', vs', u', ev', s', g', t'⟩ => by
    subst ev
    cases ev'
    rw [s] at s'
    cases s'
    rw [g] at g'
    cases g'
    exact At.fun p u w w' t t'
  | .fl k :: p, v, w, w', ⟨a, _, _, vs, u, ev, s, g, t⟩, ⟨a', _, _, vs', u', ev', s', g', t'⟩ => by
    subst ev
    cases ev'
    rw [s] at s'
    cases s'
    rw [g] at g'
    cases g'
    exact At.fun p u w w' t t'
  | .ky k :: p, v, w, w', ⟨a, vs, q, u, ev, s, eq, g, t⟩, ⟨a', vs', q', u', ev', s', eq', g', t'⟩ => by
    subst ev
    cases ev'
    rw [s] at s'
    cases s'
    rw [eq] at eq'
    cases eq'
    rw [g] at g'
    cases g'
    exact At.fun p u w w' t t'
theorem At.same {H H' : Hp} (k : ∀ a o, H a = some o → (∀ ps, o ≠ .tbl ps) → H' a = some o) : ∀ (p : List Step) (v w : V), At H v p w → At H' v p w
  | [], v, w, e => e
  | .ix i :: p, v, w, ⟨a, vs, u, ev, s, g, t⟩ => ⟨a, vs, u, ev, k _ _ s (fun _ z => nomatch z), g, At.same k p u w t⟩
  | .fl i :: p, v, w, ⟨a, c, x, vs, u, ev, s, g, t⟩ => ⟨a, c, x, vs, u, ev, k _ _ s (fun _ z => nomatch z), g, At.same k p u w t⟩
  | .ky i :: p, v, w, ⟨a, vs, q, u, ev, s, eq, g, t⟩ => ⟨a, vs, q, u, ev, k _ _ s (fun _ z => nomatch z), eq, g, At.same k p u w t⟩
end A2
end S_A2b
section S_A2c
set_option Elab.async false
set_option linter.all false
set_option maxRecDepth 100000
set_option maxHeartbeats 4000000
open PySem PySem.Spec L2
open PyProof.Rows hiding St
namespace A2
abbrev gv (X : Cx) : Gv := ⟨X.K, X.mg, tabsOf X.K⟩
/-- the tables are such -/
def Tbs (G : Gv) (H : Hp) : Prop := ∀ p ∈ G.T, LamX.TabS H p lamQ
theorem Tbs.keep {G : Gv} {F : Addr → Prop} {H H' : Hp} (t : Tbs G H) (k : Keep F H H') : Tbs G H' := fun p hp => k.tab _ (t p hp)
structure EnvR (G : Gv) (H : Hp) (σd : DSt) (σ : St) (fps : Nat → List Addr) : Prop where
  len : σd.length = σ.length
  rep : ∀ (i : Nat) (d : D), σd[i]? = some (some d) → ∃ v, σ[i]? = some (some v) ∧ Rep G H d v (fps i)
  dj : ∀ (i j : Nat), i ≠ j → Dj (fps i) (fps j)
  ded : ∀ (i : Nat), (∀ d, σd[i]? ≠ some (some d)) → fps i = []
  tb : Tbs G H
def RV.get (σd : DSt) : RV → Option D
  | .tmp d => some d
  | .plc s p => match σd[s]? with
    | some (some d) => getP d p
    | _ => none
def RvR (G : Gv) (H : Hp) (σ : St) (fps : Nat → List Addr) : RV → V → List Addr → Prop
  | .tmp d, v, f => Rep G H d v f ∧ ∀ i, Dj f (fps i)
  | .plc s p, v, f => f = [] ∧ ∃ v0, σ[s]? = some (some v0) ∧ At H v0 p v
structure Stp (rw : List Nat) (tf : List Addr) (H : Hp) (σd : DSt) (fps : Nat → List Addr) (H' : Hp) (σd' : DSt) (fps' : Nat → List Addr) (ex : List Addr) : Prop where
  keep : Keep (fun a => (∃ j, j ∈ rw ∧ a ∈ fps j) ∨ a ∈ tf) H H'
  new : ∀ a, (a ∈ ex ∨ ∃ j, a ∈ fps' j) → (∃ j, a ∈ fps j) ∨ a ∈ tf ∨ H a = none
  same : ∀ j, j ∉ rw → σd'[j]? = σd[j]? ∧ fps' j = fps j
  dom : ∀ a, H a ≠ none → H' a ≠ none
section
variable {G : Gv} {H H1 H2 H' : Hp} {σd σd1 σd2 σd' : DSt} {σ : St} {fps fps1 fps2 fps' : Nat → List Addr} {r r1 r2 : List Nat} {tf tf' e1 e2 ex : List Addr}
theorem EnvR.dom (E : EnvR G H σd σ fps) {a : Addr} {i : Nat} (h : a ∈ fps i) : ∃ o, H a = some o ∧ Mutb o := by
  cases q : σd[i]? with
  | none =>
    rw [E.ded i (fun d e => by rw [q] at e; cases e)] at h
    cases h
  | some x =>
    cases x with
    | none =>
      rw [E.ded i (fun d e => by rw [q] at e; cases e)] at h
      cases h
    | some d =>
      obtain ⟨v, _, r⟩ := E.rep i d q
      exact Rep.dom d v _ r a h
theorem EnvR.keep (E : EnvR G H σd σ fps) {F : Addr → Prop} (k : Keep F H H') (n : ∀ i, ∀ a ∈ fps i, ¬ F a) : EnvR G H' σd σ fps :=
  ⟨E.len, fun i d e => let ⟨v, e1, r⟩ := E.rep i d e; ⟨v, e1, Rep.keep k d v _ (n i) r⟩, E.dj, E.ded, E.tb.keep k⟩
theorem EnvR.all (E : EnvR G H σd σ fps) (k : Keep (fun _ => False) H H') : EnvR G H' σd σ fps := E.keep k fun _ _ _ h => h
theorem Keep.dom (k : Keep (fun _ => False) H H') : ∀ a, H a ≠ none → H' a ≠ none := fun a h => by
  cases q : H a with
  | none => exact absurd q h
  | some o => exact k.dom' q (.inl id)
theorem Stp.refl (h : ∀ a ∈ ex, (∃ j, a ∈ fps j) ∨ a ∈ tf) : Stp r tf H σd fps H σd fps ex :=
  ⟨Keep.refl, fun a q => by
    rcases q with q | q
    · exact (h a q).imp id .inl
    · exact .inl q, fun _ _ => ⟨rfl, rfl⟩, fun _ h => h⟩
/-- the heap only grows -/
theorem Stp.grow (k : Keep (fun _ => False) H H') (h : ∀ a ∈ ex, (∃ j, a ∈ fps j) ∨ a ∈ tf ∨ H a = none) : Stp r tf H σd fps H' σd fps ex :=
  ⟨k.mono (fun _ z => z.elim), fun a q => by
    rcases q with q | q
    · exact h a q
    · exact .inl q, fun _ _ => ⟨rfl, rfl⟩, k.dom⟩
theorem Stp.wk (s : Stp r tf H σd fps H' σd' fps' ex) {r' : List Nat} {ex' : List Addr} (hr : ∀ j ∈ r, j ∈ r') (ht : ∀ a ∈ tf, a ∈ tf') (he : ∀ a ∈ ex', a ∈ ex ∨ a ∈ tf') : Stp r' tf' H σd fps H' σd' fps' ex' :=
  ⟨s.keep.mono fun a h => h.imp (fun ⟨j, q, z⟩ => ⟨j, hr j q, z⟩) (ht a), fun a q => by
    have q' : (a ∈ ex ∨ ∃ j, a ∈ fps' j) ∨ a ∈ tf' := by
      rcases q with q | q
      · exact (he a q).imp .inl id
      · exact .inl (.inr q)
    rcases q' with q' | q'
    · exact (s.new a q').imp id (fun z => z.imp (ht a) id)
    · exact .inr (.inl q'), fun j n => s.same j (fun z => n (hr j z)), s.dom⟩
theorem Stp.then (s1 : Stp r1 tf H σd fps H1 σd1 fps1 e1) (E1 : ∀ i j, i ≠ j → Dj (fps1 i) (fps1 j)) (d1 : ∀ j, Dj e1 (fps1 j)) (s2 : Stp r2 e1 H1 σd1 fps1 H2 σd2 fps2 e2) (h1 : ∀ j ∈ r1, j ∈ r) (h2 : ∀ j ∈ r2, j ∈ r) :
    Stp r tf H σd fps H2 σd2 fps2 e2 where
  keep := by
    refine s1.keep.trans s2.keep (fun a z => z.imp (fun ⟨j, x, y⟩ => ⟨j, h1 j x, y⟩) id) fun a o e q => (q.imp (fun n z => ?_) id)
    have hne : H a ≠ none := by rw [e]; exact fun z => nomatch z
    have old : ∀ i, a ∈ fps i → a ∈ fps1 i := fun i hi => by
      by_cases hr : i ∈ r1
      · exact absurd (.inl ⟨i, h1 i hr, hi⟩) n
      · rw [(s1.same i hr).2]; exact hi
    rcases z with ⟨j, hj, z⟩ | z
    · rcases s1.new a (.inr ⟨j, z⟩) with ⟨i, hi⟩ | hi | hi
      · by_cases e : i = j
        · subst e; exact n (.inl ⟨i, h2 i hj, hi⟩)
        · exact E1 i j e a (old i hi) z
      · exact n (.inr hi)
      · exact hne hi
    · rcases s1.new a (.inl z) with ⟨i, hi⟩ | hi | hi
      · exact d1 i a z (old i hi)
      · exact n (.inr hi)
      · exact hne hi
  new := fun a q => by
    rcases s2.new a q with z | z | z
    · exact s1.new a (.inr z)
    · exact s1.new a (.inl z)
    · refine .inr (.inr ?_)
      cases e : H a with
      | none => rfl
      | some o => exact absurd z (s1.dom a (by rw [e]; exact fun z => nomatch z))
  same := fun j n => by
    have a := s1.same j (fun z => n (h1 j z))
    have b := s2.same j (fun z => n (h2 j z))
    exact ⟨b.1.trans a.1, b.2.trans a.2⟩
  dom := fun a h => s2.dom a (s1.dom a h)
def stab : RV → List Nat → Bool
  | .tmp _, _ => true
  | .plc _ [], _ => true
  | .plc _ _, r => r.isEmpty
theorem RvR.step {rv : RV} {v : V} {f : List Addr} (h : RvR G H σ fps rv v f) (s : Stp r [] H σd fps H' σd' fps' ex) (st : stab rv r = true) : RvR G H' σ fps' rv v f ∧ Dj f ex := by
  cases rv with
  | tmp d =>
    obtain ⟨q, dj⟩ := h
    have key : ∀ a, a ∈ f → ¬ (a ∈ ex ∨ ∃ j, a ∈ fps' j) := fun a ha z => by
      rcases s.new a z with ⟨j, hj⟩ | hj | hj
      · exact dj j a ha hj
      · cases hj
      · obtain ⟨o, e, _⟩ := Rep.dom d v f q a ha
        rw [e] at hj
        cases hj
    refine ⟨⟨Rep.keep s.keep d v f (fun a ha z => ?_) q, fun i a ha z => key a ha (.inr ⟨i, z⟩)⟩, fun a ha z => key a ha (.inl z)⟩
    rcases z with ⟨j, _, hj⟩ | hj
    · exact dj j a ha hj
    · cases hj
  | plc s0 p =>
    obtain ⟨e, v0, g, t⟩ := h
    subst e
    refine ⟨⟨rfl, v0, g, ?_⟩, djnil⟩
    cases p with
    | nil => exact t
    | cons x p =>
      have hr : r = [] := by
        cases r with
        | nil => rfl
        | cons _ _ => exact nomatch st
      subst hr
      exact At.same (fun a o e nt => s.keep.at_ a o e nt (.inl fun z => z.elim (fun ⟨_, q, _⟩ => nomatch q) (fun q => nomatch q))) _ _ _ t
theorem RvR.rep {rv : RV} {v : V} {f : List Addr} {d : D} (E : EnvR G H σd σ fps) (h : RvR G H σ fps rv v f) (g : rv.get σd = some d) : ∃ f', Rep G H d v f' ∧ ∀ a ∈ f', a ∈ f ∨ ∃ i p, rv = .plc i p ∧ a ∈ fps i := by
  cases rv with
  | tmp d0 =>
    have e : d0 = d := Option.some.inj g
    subst e
    exact ⟨f, h.1, fun a h => .inl h⟩
  | plc s p =>
    obtain ⟨e, v0, g0, t⟩ := h
    unfold RV.get at g
    dsimp only at g
    split at g
    · rename_i d0 hd
      obtain ⟨v1, e1, r1⟩ := E.rep s d0 hd
      rw [g0] at e1
      cases e1
      obtain ⟨w, fM, at1, r2, sub, _⟩ := Rep.focus p d0 v0 (fps s) d r1 g
      have ew := At.fun p v0 w v at1 t
      subst ew
      exact ⟨fM, r2, fun a h => .inr ⟨s, p, rfl, sub a h⟩⟩
    · cases g
end
def ExR (G : Gv) (H : Hp) (x : Exc) (c : Value) (dx : Option Addr) : Prop := ∃ C d ws, G.mg x.cls = some (.ref C) ∧ c = .ref C ∧ dx = some d ∧ H d = some (.xd ws) ∧ RepF G H x.fs ws []
structure EC where
  run : DSt → Res RV
  rw : List Nat
structure AC where
  run : DSt → Res (List RV)
  rw : List Nat
def RvsR (G : Gv) (H : Hp) (σ : St) (fps : Nat → List Addr) : List RV → List V → List Addr → Prop
  | [], vs, f => vs = [] ∧ f = []
  | rv :: rvs, vs, f => ∃ v r f1 f2, vs = v :: r ∧ RvR G H σ fps rv v f1 ∧ RvsR G H σ fps rvs r f2 ∧ Dj f1 f2 ∧ f = f1 ++ f2
def rdr (G : Gv) (W : WX) (rw : List Nat) (tf : List Addr) (σ : St) (H : Hp) (σd : DSt) (fps : Nat → List Addr) (r : Res RV) (Q : VK) : Prop :=
  match r with
  | .ok rv σd' => ∀ v H' fps' f, EnvR G H' σd' σ fps' → RvR G H' σ fps' rv v f → Stp rw tf H σd fps H' σd' fps' f → Q v H'
  | .err x σd' => ∀ c dx H' fps', EnvR G H' σd' σ fps' → ExR G H' x c dx → Stp rw tf H σd fps H' σd' fps' [] → W c dx σ H'
  | .bad => False
def rdrA (G : Gv) (W : WX) (rw : List Nat) (tf : List Addr) (σ : St) (H : Hp) (σd : DSt) (fps : Nat → List Addr) (r : Res (List RV)) (Q : List V → Hp → Prop) : Prop :=
  match r with
  | .ok rvs σd' => ∀ vs H' fps' f, EnvR G H' σd' σ fps' → RvsR G H' σ fps' rvs vs f → Stp rw tf H σd fps H' σd' fps' f → Q vs H'
  | .err x σd' => ∀ c dx H' fps', EnvR G H' σd' σ fps' → ExR G H' x c dx → Stp rw tf H σd fps H' σd' fps' [] → W c dx σ H'
  | .bad => False
def rd (G : Gv) (W : WX) (c : EC) : TE := fun σ H Q => ∃ σd fps, EnvR G H σd σ fps ∧ rdr G W c.rw [] σ H σd fps (c.run σd) Q
def rdA (G : Gv) (W : WX) (c : AC) : TA := fun σ H Q => ∃ σd fps, EnvR G H σd σ fps ∧ rdrA G W c.rw [] σ H σd fps (c.run σd) Q
abbrev DE (X : Cx) (W : WX) (e : Expr) (c : EC) : Prop := PE X e (rd (gv X) W c)
abbrev DA (X : Cx) (W : WX) (es : List Expr) (c : AC) : Prop := PA X es (rdA (gv X) W c)
theorem _root_.L2.PE.le {X : Cx} {e : Expr} {t t' : TE} (h : PE X e t) (k : ∀ σ H Q, t' σ H Q → t σ H Q) : PE X e t' := ⟨fun pins s σ H Q I q => h.run pins s σ H Q I (k σ H Q q)⟩
theorem _root_.L2.PA.le {X : Cx} {e : List Expr} {t t' : TA} (h : PA X e t) (k : ∀ σ H Q, t' σ H Q → t σ H Q) : PA X e t' := ⟨fun pos pins s σ H Q I q => h.run pos pins s σ H Q I (k σ H Q q)⟩
section
variable {G : Gv} {W : WX} {H H1 H2 H' : Hp} {σd σd1 σd2 σd' : DSt} {σ : St} {fps fps1 fps2 fps' : Nat → List Addr} {r r1 r2 : List Nat} {tf tf' e1 e2 ex : List Addr}
/-- behind a step, the same end is still wanted -/
theorem rdr.push {R : Res RV} {Q : VK} (s1 : Stp r1 tf H σd fps H1 σd1 fps1 e1) (E1 : EnvR G H1 σd1 σ fps1) (d1 : ∀ j, Dj e1 (fps1 j)) (h1 : ∀ j ∈ r1, j ∈ r) (h2 : ∀ j ∈ r2, j ∈ r) (q : rdr G W r tf σ H σd fps R Q) : rdr G W r2 e1 σ H1 σd1 fps1 R Q := by
  cases R with
  | ok rv σ' => exact fun v H' fps' f E rr s => q v H' fps' f E rr (s1.then E1.dj d1 s h1 h2)
  | err x σ' => exact fun c dx H' fps' E rr s => q c dx H' fps' E rr (s1.then E1.dj d1 s h1 h2)
  | bad => exact q
theorem rdrA.push {R : Res (List RV)} {Q : List V → Hp → Prop} (s1 : Stp r1 tf H σd fps H1 σd1 fps1 e1) (E1 : EnvR G H1 σd1 σ fps1) (d1 : ∀ j, Dj e1 (fps1 j)) (h1 : ∀ j ∈ r1, j ∈ r) (h2 : ∀ j ∈ r2, j ∈ r) (q : rdrA G W r tf σ H σd fps R Q) : rdrA G W r2 e1 σ H1 σd1 fps1 R Q := by
  cases R with
  | ok rv σ' => exact fun v H' fps' f E rr s => q v H' fps' f E rr (s1.then E1.dj d1 s h1 h2)
  | err x σ' => exact fun c dx H' fps' E rr s => q c dx H' fps' E rr (s1.then E1.dj d1 s h1 h2)
  | bad => exact q
theorem RvR.dj {rv : RV} {v : V} {f : List Addr} (h : RvR G H σ fps rv v f) : ∀ j, Dj f (fps j) := by
  cases rv with
  | tmp d => exact h.2
  | plc s p => rw [h.1]; exact fun _ => djnil
theorem RvR.dom {rv : RV} {v : V} {f : List Addr} (h : RvR G H σ fps rv v f) : ∀ a ∈ f, H a ≠ none := fun a ha => by
  cases rv with
  | tmp d =>
    obtain ⟨o, e, _⟩ := Rep.dom d v f h.1 a ha
    rw [e]
    exact fun z => nomatch z
  | plc s p => rw [h.1] at ha; cases ha
theorem RvsR.dj : ∀ {rvs : List RV} {vs : List V} {f : List Addr}, RvsR G H σ fps rvs vs f → ∀ j, Dj f (fps j)
  | [], _, _, h => by rw [h.2]; exact fun _ => djnil
  | rv :: rvs, _, _, ⟨v, r, f1, f2, e, p, q, dj, ef⟩ => by
    subst ef
    intro j a ha
    rcases List.mem_append.mp ha with ha | ha
    · exact p.dj j a ha
    · exact RvsR.dj q j a ha
theorem RvsR.dom : ∀ {rvs : List RV} {vs : List V} {f : List Addr}, RvsR G H σ fps rvs vs f → ∀ a ∈ f, H a ≠ none
  | [], _, _, h, a, ha => by rw [h.2] at ha; cases ha
  | rv :: rvs, _, _, ⟨v, r, f1, f2, e, p, q, dj, ef⟩, a, ha => by
    subst ef
    rcases List.mem_append.mp ha with ha | ha
    · exact p.dom a ha
    · exact RvsR.dom q a ha
/-- an expression behind another one -/
theorem rd_one {a : EC} {f : RV → DSt → Res RV} {R : VK} {Q : VK} (E : EnvR G H σd σ fps) (ha : ∀ j ∈ a.rw, j ∈ r) (q : rdr G W r tf σ H σd fps ((a.run σd).bind f) Q)
    (k : ∀ rv σd1 v H1 fps1 f1, EnvR G H1 σd1 σ fps1 → RvR G H1 σ fps1 rv v f1 → Stp a.rw [] H σd fps H1 σd1 fps1 f1 → (∀ r2 : List Nat, (∀ j ∈ r2, j ∈ r) → rdr G W r2 (f1 ++ tf) σ H1 σd1 fps1 (f rv σd1) Q) → R v H1) (tfd : ∀ j, Dj tf (fps j)) (tfn : ∀ a ∈ tf, H a ≠ none) : rd G W a σ H R := by
  refine ⟨σd, fps, E, ?_⟩
  cases hr : a.run σd with
  | ok rv σd1 =>
    rw [hr] at q
    intro v H1 fps1 f1 E1 R1 S1
    refine k rv σd1 v H1 fps1 f1 E1 R1 S1 fun r2 h2 => ?_
    have S1' : Stp a.rw tf H σd fps H1 σd1 fps1 (f1 ++ tf) := S1.wk (fun _ h => h) (fun _ h => nomatch h) (fun x h => List.mem_append.mp h)
    refine rdr.push S1' E1 (fun j x hx => ?_) ha h2 q
    rcases List.mem_append.mp hx with hx | hx
    · exact R1.dj j x hx
    · intro z
      rcases S1.new x (.inr ⟨j, z⟩) with ⟨i, hi⟩ | hi | hi
      · exact tfd i x hx hi
      · cases hi
      · exact tfn x hx hi
  | err x σd1 =>
    rw [hr] at q
    exact fun c dx H' fps' E' R' S' => q c dx H' fps' E' R' (S'.wk ha (fun _ h => nomatch h) (fun _ h => nomatch h))
  | bad =>
    rw [hr] at q
    exact q
end
end A2
end S_A2c
section S_A2d
set_option Elab.async false
set_option linter.all false
set_option maxRecDepth 100000
set_option maxHeartbeats 4000000
open PySem PySem.Spec L2
open PyProof.Rows hiding St
namespace A2
/-! ## tests -/
structure TC where
  run : DSt → Res Bool
  rw : List Nat
def rdrT (G : Gv) (W : WX) (rw : List Nat) (tf : List Addr) (σ : St) (H : Hp) (σd : DSt) (fps : Nat → List Addr) (r : Res Bool) (Q : Bool → Hp → Prop) : Prop :=
  match r with
  | .ok b σd' => ∀ H' fps', EnvR G H' σd' σ fps' → Stp rw tf H σd fps H' σd' fps' [] → Q b H'
  | .err x σd' => ∀ c dx H' fps', EnvR G H' σd' σ fps' → ExR G H' x c dx → Stp rw tf H σd fps H' σd' fps' [] → W c dx σ H'
  | .bad => False
def rdT (G : Gv) (W : WX) (c : TC) : TT := fun σ H Q => ∃ σd fps, EnvR G H σd σ fps ∧ rdrT G W c.rw [] σ H σd fps (c.run σd) Q
abbrev DT (X : Cx) (W : WX) (e : Expr) (c : TC) : Prop := PT X e (rdT (gv X) W c)
abbrev DW (X : Cx) (W : WX) (e : Expr) (c : TC) : Prop := PW X e (rdT (gv X) W c)
theorem _root_.L2.PT.le {X : Cx} {e : Expr} {t t' : TT} (h : PT X e t) (k : ∀ σ H Q, t' σ H Q → t σ H Q) : PT X e t' := ⟨fun pins s σ H Q I q => h.run pins s σ H Q I (k σ H Q q)⟩
theorem _root_.L2.PW.le {X : Cx} {e : Expr} {t t' : TT} (h : PW X e t) (k : ∀ σ H Q, t' σ H Q → t σ H Q) : PW X e t' := ⟨fun w pins s σ H Q I q => h.run w pins s σ H Q I (k σ H Q q)⟩
section
variable {G : Gv} {W : WX} {H H1 H2 H' : Hp} {σd σd1 σd2 σd' : DSt} {σ : St} {fps fps1 fps2 fps' : Nat → List Addr} {r r1 r2 : List Nat} {tf tf' e1 e2 ex : List Addr}
theorem rdrT.push {R : Res Bool} {Q : Bool → Hp → Prop} (s1 : Stp r1 tf H σd fps H1 σd1 fps1 e1) (E1 : EnvR G H1 σd1 σ fps1) (d1 : ∀ j, Dj e1 (fps1 j)) (h1 : ∀ j ∈ r1, j ∈ r) (h2 : ∀ j ∈ r2, j ∈ r) (q : rdrT G W r tf σ H σd fps R Q) : rdrT G W r2 e1 σ H1 σd1 fps1 R Q := by
  cases R with
  | ok rv σ' => exact fun H' fps' E s => q H' fps' E (s1.then E1.dj d1 s h1 h2)
  | err x σ' => exact fun c dx H' fps' E rr s => q c dx H' fps' E rr (s1.then E1.dj d1 s h1 h2)
  | bad => exact q
/-- a reading of any kind, by what it does with each outcome: used for all sequences -/
theorem seqE {a : EC} {R : VK} (E : EnvR G H σd σ fps) (ha : ∀ j ∈ a.rw, j ∈ r)
    (kok : ∀ rv σd1, a.run σd = .ok rv σd1 → ∀ v H1 fps1 f1, EnvR G H1 σd1 σ fps1 → RvR G H1 σ fps1 rv v f1 → Stp a.rw [] H σd fps H1 σd1 fps1 f1 → R v H1)
    (kerr : ∀ x σd1, a.run σd = .err x σd1 → ∀ c dx H' fps', EnvR G H' σd1 σ fps' → ExR G H' x c dx → Stp r tf H σd fps H' σd1 fps' [] → W c dx σ H') (kbad : a.run σd ≠ .bad) : rd G W a σ H R := by
  refine ⟨σd, fps, E, ?_⟩
  cases hr : a.run σd with
  | ok rv σd1 => exact fun v H' fps' f E' R' S' => kok rv σd1 hr v H' fps' f E' R' S'
  | err x σd1 => exact fun c dx H' fps' E' R' S' => kerr x σd1 hr c dx H' fps' E' R' (S'.wk ha (fun _ h => nomatch h) (fun _ h => nomatch h))
  | bad => exact absurd hr kbad
theorem seqT {a : TC} {R : Bool → Hp → Prop} (E : EnvR G H σd σ fps) (ha : ∀ j ∈ a.rw, j ∈ r)
    (kok : ∀ b σd1, a.run σd = .ok b σd1 → ∀ H1 fps1, EnvR G H1 σd1 σ fps1 → Stp a.rw [] H σd fps H1 σd1 fps1 [] → R b H1)
    (kerr : ∀ x σd1, a.run σd = .err x σd1 → ∀ c dx H' fps', EnvR G H' σd1 σ fps' → ExR G H' x c dx → Stp r tf H σd fps H' σd1 fps' [] → W c dx σ H') (kbad : a.run σd ≠ .bad) : rdT G W a σ H R := by
  refine ⟨σd, fps, E, ?_⟩
  cases hr : a.run σd with
  | ok rv σd1 => exact fun H' fps' E' S' => kok rv σd1 hr H' fps' E' S'
  | err x σd1 => exact fun c dx H' fps' E' R' S' => kerr x σd1 hr c dx H' fps' E' R' (S'.wk ha (fun _ h => nomatch h) (fun _ h => nomatch h))
  | bad => exact absurd hr kbad
/-- temps that stand beside a step that does not know them -/
theorem Stp.beside (s : Stp r [] H σd fps H1 σd1 fps1 e1) (td : ∀ j, Dj tf (fps j)) (tn : ∀ a ∈ tf, H a ≠ none) : Stp r tf H σd fps H1 σd1 fps1 (e1 ++ tf) ∧ (∀ j, Dj tf (fps1 j)) ∧ (∀ a ∈ tf, H1 a ≠ none) ∧ Dj tf e1 := by
  have key : ∀ a, a ∈ tf → ¬ (a ∈ e1 ∨ ∃ j, a ∈ fps1 j) := fun a ha z => by
    rcases s.new a z with ⟨j, hj⟩ | hj | hj
    · exact td j a ha hj
    · cases hj
    · exact tn a ha hj
  exact ⟨s.wk (fun _ h => h) (fun _ h => nomatch h) (fun x h => List.mem_append.mp h), fun j a ha z => key a ha (.inr ⟨j, z⟩), fun a ha => s.dom a (tn a ha), fun a ha z => key a ha (.inl z)⟩
end
/-! ## names and constants -/
def cVar (i : Nat) : EC := ⟨fun σd => match σd[i]? with
  | some (some d) => if d.imm then .ok (.tmp d) σd else .ok (.plc i []) σd
  | _ => .bad, []⟩
theorem de_var {X : Cx} {W : WX} {x : Str} {pos : Pos} (i : Nat) (hN : X.N[i]? = some x := by rfl) (hv : Vis X.env.scope x := by first | exact Or.inl rfl | exact Or.inr (Or.inl rfl) | exact Or.inr (Or.inr rfl)) (hd : (x == ("__debug__" : Str)) = false := by decide)
    (hcd : (x == ("__classdict__" : Str)) = false := by decide) : DE X W (.Name x pos) (cVar i) := (pe_var hN hv hd hcd).le fun σ H Q h => by
  obtain ⟨σd, fps, E, q⟩ := h
  unfold cVar at q
  dsimp only at q
  split at q
  · rename_i d hd
    obtain ⟨v, e, r⟩ := E.rep i d hd
    refine ⟨v, e, ?_⟩
    split at q
    · rename_i im
      have ef := Rep.imm d v _ im r
      refine q v H fps [] E ⟨ef ▸ r, fun _ => djnil⟩ (Stp.refl fun _ h => nomatch h)
    · exact q v H fps [] E ⟨rfl, v, e, rfl⟩ (Stp.refl fun _ h => nomatch h)
  · exact q.elim
def cK (d : D) : EC := ⟨fun σd => .ok (.tmp d) σd, []⟩
theorem cK_end {G : Gv} {W : WX} {σ : St} {H : Hp} {Q : VK} {d : D} {v : V} (r : ∀ H, Rep G H d v []) (h : rd G W (cK d) σ H Q) : Q v H := by
  obtain ⟨σd, fps, E, q⟩ := h
  exact q v H fps [] E ⟨r H, fun _ => djnil⟩ (Stp.refl fun _ h => nomatch h)
section
variable {X : Cx} {W : WX} {pos : Pos}
theorem de_int {i j} : DE X W (.Constant (.int i) j pos) (cK (.int i)) := pe_int.le fun _ _ _ h => cK_end (d := .int i) (fun _ => ⟨rfl, rfl⟩) h
theorem de_bl {b j} : DE X W (.Constant (.bool b) j pos) (cK (.bl b)) := pe_bl.le fun _ _ _ h => cK_end (d := .bl b) (fun _ => ⟨rfl, rfl⟩) h
theorem de_non {j} : DE X W (.Constant .none j pos) (cK .non) := pe_non.le fun _ _ _ h => cK_end (d := .non) (fun _ => ⟨rfl, rfl⟩) h
theorem de_str {x j} : DE X W (.Constant (.str x) j pos) (cK (.str x)) := pe_str.le fun _ _ _ h => cK_end (d := .str x) (fun _ => ⟨rfl, rfl⟩) h
/-- a module's constant -/
theorem de_glob {x : Str} {d : D} {v : V} {u : Value} (hg : Gl X x) (hm : X.mg x = some u) (rv : RelV v u) (r : ∀ H, Rep (gv X) H d v []) (hd : (x == ("__debug__" : Str)) = false := by decide) : DE X W (.Name x pos) (cK d) :=
  (pe_glob hg hm rv hd).le fun _ _ _ h => cK_end r h
end
/-! ## operators on values -/
def POp2 (G : Gv) (r : R2) (g : D → D → Option D) : Prop := ∀ (d1 d2 d : D) (v1 v2 : V) (f1 f2 : List Addr) (H : Hp) (Q : VK), g d1 d2 = some d → Rep G H d1 v1 f1 → Rep G H d2 v2 f2 →
  (∀ v H' fp, Keep (fun _ => False) H H' → Rep G H' d v fp → (∀ a ∈ fp, H a = none) → Q v H') → r v1 v2 H Q
def fin1 (g : D → Option D) (x : RV) (σd : DSt) : Res RV := match x.get σd with
  | some d1 => (match g d1 with
    | some d => .ok (.tmp d) σd
    | none => .bad)
  | none => .bad
def fin2 (g : D → D → Option D) (x y : RV) (σd : DSt) : Res RV := match x.get σd, y.get σd with
  | some d1, some d2 => (match g d1 d2 with
    | some d => .ok (.tmp d) σd
    | none => .bad)
  | _, _ => .bad
def run2 (a b : EC) (f : RV → RV → DSt → Res RV) (σd : DSt) : Res RV := (a.run σd).bind fun x σ1 => (b.run σ1).bind fun y σ2 => if stab x b.rw then f x y σ2 else .bad
def cBin (g : D → D → Option D) (a b : EC) : EC := ⟨run2 a b (fin2 g), a.rw ++ b.rw⟩
section
variable {G : Gv} {W : WX} {H H1 H2 H' : Hp} {σd σd1 σd2 σd' : DSt} {σ : St} {fps fps1 fps2 fps' : Nat → List Addr} {r r1 r2 : List Nat} {tf tf' e1 e2 ex : List Addr}
/-- two expressions one behind the other -/
theorem rd_two {a b : EC} {f : RV → RV → DSt → Res RV} {R : V → V → Hp → Prop} {Q : VK} (E : EnvR G H σd σ fps) (ha : ∀ j ∈ a.rw, j ∈ r) (hb : ∀ j ∈ b.rw, j ∈ r)
    (q : rdr G W r tf σ H σd fps (run2 a b f σd) Q) (td : ∀ j, Dj tf (fps j)) (tn : ∀ a ∈ tf, H a ≠ none)
    (k : ∀ x y σd2 v1 v2 H2 fps2 f1 f2, EnvR G H2 σd2 σ fps2 → RvR G H2 σ fps2 x v1 f1 → RvR G H2 σ fps2 y v2 f2 → Dj f1 f2 → Stp r tf H σd fps H2 σd2 fps2 (f2 ++ (f1 ++ tf)) → ((∀ a o, a ∈ tf → H a = some o → (∀ ps, o ≠ .tbl ps) → H2 a = some o) ∧ ∀ j, Dj tf (fps2 j)) →
      rdr G W r (f2 ++ (f1 ++ tf)) σ H2 σd2 fps2 (f x y σd2) Q → R v1 v2 H2) : rd G W a σ H fun x H1 => rd G W b σ H1 fun y H2 => R x y H2 := by
  unfold run2 at q
  refine seqE (r := r) (tf := tf) E ha (fun x σd1 h1 v1 H1 fps1 f1 E1 R1 S1 => ?_) (fun x σd1 h1 => ?_) (fun h1 => ?_)
  · rw [h1] at q
    obtain ⟨S1', td1, tn1, dj1⟩ := Stp.beside S1 td tn
    have tA : ∀ j, Dj (f1 ++ tf) (fps1 j) := fun j a ha => by
      rcases List.mem_append.mp ha with ha | ha
      · exact R1.dj j a ha
      · exact td1 j a ha
    have tB : ∀ a ∈ f1 ++ tf, H1 a ≠ none := fun a ha => by
      rcases List.mem_append.mp ha with ha | ha
      · exact R1.dom a ha
      · exact tn1 a ha
    have q1 := rdr.push (r2 := r) S1' E1 tA ha (fun _ h => h) q
    refine seqE (r := r) (tf := f1 ++ tf) E1 hb (fun y σd2 h2 v2 H2 fps2 f2 E2 R2 S2 => ?_) (fun y σd2 h2 => ?_) (fun h2 => ?_)
    · change rdr G W r (f1 ++ tf) σ H1 σd1 fps1 ((b.run σd1).bind _) Q at q1
      rw [h2] at q1
      change rdr G W r (f1 ++ tf) σ H1 σd1 fps1 (if stab x b.rw = true then f x y σd2 else .bad) Q at q1
      split at q1
      · rename_i st
        obtain ⟨S2', td2, tn2, dj2⟩ := Stp.beside S2 tA tB
        obtain ⟨R1', d12⟩ := R1.step S2 st
        have tC : ∀ j, Dj (f2 ++ (f1 ++ tf)) (fps2 j) := fun j a ha => by
          rcases List.mem_append.mp ha with ha | ha
          · exact R2.dj j a ha
          · exact td2 j a ha
        exact k x y σd2 v1 v2 H2 fps2 f1 f2 E2 R1' R2 d12 (S1'.then E1.dj tA S2' ha hb) ⟨fun a o hat e nt => S2.keep.at_ a o (S1.keep.at_ a o e nt (.inl fun z => z.elim (fun ⟨j, _, q⟩ => td j a hat q) (fun q => nomatch q))) nt (.inl fun z => z.elim (fun ⟨j, _, q⟩ => td1 j a hat q) (fun q => nomatch q)), fun j a hat => td2 j a (List.mem_append_right _ hat)⟩ (rdr.push S2' E2 tC hb (fun _ h => h) q1)
      · exact q1.elim
    · change rdr G W r (f1 ++ tf) σ H1 σd1 fps1 ((b.run σd1).bind _) Q at q1
      rw [h2] at q1
      exact q1
    · change rdr G W r (f1 ++ tf) σ H1 σd1 fps1 ((b.run σd1).bind _) Q at q1
      rw [h2] at q1
      exact q1
  · rw [h1] at q
    exact q
  · rw [h1] at q
    exact q
/-- a new value, nothing else -/
theorem fin_new {d : D} {v : V} {fp : List Addr} {Q : VK} (E : EnvR G H σd σ fps) (q : rdr G W r tf σ H σd fps (.ok (.tmp d) σd) Q) (k : Keep (fun _ => False) H H') (rp : Rep G H' d v fp) (fr : ∀ a ∈ fp, H a = none) : Q v H' := by
  refine q v H' fps fp (E.all k) ⟨rp, fun i a ha z => ?_⟩ (Stp.grow k fun a h => .inr (.inr (fr a h)))
  obtain ⟨o, e, _⟩ := E.dom z
  rw [fr a ha] at e
  cases e
theorem fin2_end {g : D → D → Option D} {rr : R2} {x y : RV} {v1 v2 : V} {f1 f2 : List Addr} {Q : VK} (P : POp2 G rr g) (E : EnvR G H σd σ fps) (R1 : RvR G H σ fps x v1 f1) (R2 : RvR G H σ fps y v2 f2)
    (q : rdr G W r tf σ H σd fps (fin2 g x y σd) Q) : rr v1 v2 H Q := by
  unfold fin2 at q
  split at q
  · rename_i d1 d2 h1 h2
    obtain ⟨g1, r1, _⟩ := R1.rep E h1
    obtain ⟨g2, r2, _⟩ := R2.rep E h2
    split at q
    · rename_i d hd
      exact P d1 d2 d v1 v2 g1 g2 H Q hd r1 r2 fun v H' fp k rp fr => fin_new E q k rp fr
    · exact q.elim
  · exact q.elim
theorem mem_l {a b : List Nat} : ∀ j ∈ a, j ∈ a ++ b := fun _ h => List.mem_append_left _ h
theorem mem_r {a b : List Nat} : ∀ j ∈ b, j ∈ a ++ b := fun _ h => List.mem_append_right _ h
theorem nilD : ∀ (j : Nat), Dj [] (fps j) := fun _ => djnil
theorem nilN : ∀ a ∈ ([] : List Addr), H a ≠ none := fun _ h => nomatch h
theorem bin_rd {g : D → D → Option D} {rr : R2} {a b : EC} {Q : VK} (P : POp2 G rr g) (h : rd G W (cBin g a b) σ H Q) : tOp rr (rd G W a) (rd G W b) σ H Q := by
  obtain ⟨σd, fps, E, q⟩ := h
  exact rd_two (r := a.rw ++ b.rw) (tf := []) E mem_l mem_r q nilD nilN fun x y σd2 v1 v2 H2 fps2 f1 f2 E2 R1 R2 _ _ _ q2 => fin2_end P E2 R1 R2 q2
end
section
variable {X : Cx} {W : WX} {pos : Pos} {a b : Expr} {ca cb : EC} {r : R2} {g : D → D → Option D}
theorem de_bin {op : Operator} (ho : OpR X (binaryOp op) r) (P : POp2 (gv X) r g) (ha : DE X W a ca) (hb : DE X W b cb) : DE X W (.BinOp a op b pos) (cBin g ca cb) :=
  (pe_op ho ha hb).le fun _ _ _ h => bin_rd P h
theorem de_cmp {op : CmpOp} (ho : OpR X (compareOp op) r) (P : POp2 (gv X) r g) (ha : DE X W a ca) (hb : DE X W b cb) (hm : behindInMarks op b = false) : DE X W (.Compare a [op] [b] pos) (cBin g ca cb) :=
  (pe_cmpR ho ha hb hm).le fun _ _ _ h => bin_rd P h
end
def tstOf : RV → DSt → Res Bool
  | .tmp (.bl k), σ1 => .ok k σ1
  | _, _ => .bad
def cTst (c : EC) : TC := ⟨fun σd => (c.run σd).bind tstOf, c.rw⟩
theorem tst_rd {G : Gv} {W : WX} {c : EC} {σ : St} {H : Hp} {Q : Bool → Hp → Prop} (h : rdT G W (cTst c) σ H Q) : rd G W c σ H fun x H' => ∃ k, x = .bl k ∧ Q k H' := by
  obtain ⟨σd, fps, E, q⟩ := h
  refine ⟨σd, fps, E, ?_⟩
  unfold cTst at q
  dsimp only at q
  cases hr : c.run σd with
  | ok rv σd1 =>
    rw [hr] at q
    change rdrT G W c.rw [] σ H σd fps (tstOf rv σd1) Q at q
    intro v H' fps' f E' R' S'
    cases rv with
    | plc s p => exact q.elim
    | tmp d =>
      cases d with
      | bl k => exact ⟨k, R'.1.1, q H' fps' E' (S'.wk (fun _ h => h) (fun _ h => h) (fun _ h => nomatch h))⟩
      | _ => exact q.elim
  | err x σd1 =>
    rw [hr] at q
    exact q
  | bad =>
    rw [hr] at q
    exact q
section
variable {X : Cx} {W : WX} {pos : Pos} {a b : Expr} {ca cb : EC} {r : R2} {g : D → D → Option D}
theorem dt_cmp {op : CmpOp} (ho : OpR X (compareOp op) r) (P : POp2 (gv X) r g) (ha : DE X W a ca) (hb : DE X W b cb) (hm : behindInMarks op b = false) : DT X W (.Compare a [op] [b] pos) (cTst (cBin g ca cb)) :=
  (pt_cmpR ho ha hb hm).le fun _ _ _ h => bin_rd P (tst_rd h)
end
end A2
end S_A2d
section S_A2e
set_option Elab.async false
set_option linter.all false
set_option maxRecDepth 100000
set_option maxHeartbeats 4000000
open PySem PySem.Spec L2
open PyProof.Rows hiding St
namespace A2
/-! ## lists of data -/
theorem Reps.len {G : Gv} {H : Hp} : ∀ {ds : List D} {vs : List V} {fp : List Addr}, Reps G H ds vs fp → vs.length = ds.length
  | [], _, _, h => by rw [h.1]; rfl
  | d :: ds, vs, fp, ⟨v, r, f1, f2, e, p, q, dj, ef⟩ => by
    subst e
    simp [Reps.len q]
theorem imms_app : ∀ (a b : List D), D.imms (a ++ b) = (D.imms a && D.imms b)
  | [], b => by simp [D.imms]
  | x :: a, b => by simp [D.imms, imms_app a b, Bool.and_assoc]
theorem Reps.app {G : Gv} {H : Hp} {b : List D} {ws : List V} : ∀ {a : List D} {vs : List V} {f g : List Addr}, D.imms a = true → D.imms b = true → Reps G H a vs f → Reps G H b ws g → Reps G H (a ++ b) (vs ++ ws) []
  | [], vs, f, g, i, j, r, s => by
    have eg := Reps.imm b ws g j s
    subst eg
    rw [r.1]
    exact s
  | d :: a, vs, f, g, i, j, ⟨v, r, f1, f2, e, p, q, dj, ef⟩, s => by
    have i' := Bool.and_eq_true_iff.mp i
    have e1 := Rep.imm d v f1 i'.1 p
    subst e1 e
    exact ⟨v, _, [], [], rfl, p, Reps.app i'.2 j q s, djnil, rfl⟩
theorem imms_get : ∀ {a : List D} {k : Nat} {d : D}, D.imms a = true → a[k]? = some d → d.imm = true
  | [], k, d, i, e => by simp at e
  | x :: a, 0, d, i, e => by
    have e' : x = d := by simpa using e
    rw [← e']
    exact (Bool.and_eq_true_iff.mp i).1
  | x :: a, k + 1, d, i, e => imms_get (Bool.and_eq_true_iff.mp i).2 (by simpa using e)
theorem keepF {H : Hp} {p : Addr} {o : HO} (n : H p = none) : Keep (fun _ => False) H (upd H p o) := .of fun a u e _ => by
  rw [upd_ne (ne_of_none e n)]
  exact e
/-- a new tuple of what can't change -/
theorem new_tup {G : Gv} {H : Hp} {ds : List D} {vs : List V} {f : List Addr} {p : Addr} (i : D.imms ds = true) (r : Reps G H ds vs f) (n : H p = none) : Rep G (upd H p (.tup vs)) (.tup ds) (.ref p) [] := by
  have e := Reps.imm ds vs f i r
  subst e
  exact ⟨p, vs, rfl, .inl (.inl upd_same), Reps.keep (keepF n) ds vs [] (fun _ h => nomatch h) r⟩
/-- a new list of what can't change -/
theorem new_lst {G : Gv} {H : Hp} {ds : List D} {vs : List V} {f : List Addr} {p : Addr} (i : D.imms ds = true) (r : Reps G H ds vs f) (n : H p = none) : Rep G (upd H p (.lst vs)) (.lst ds) (.ref p) [p] := by
  have e := Reps.imm ds vs f i r
  subst e
  exact ⟨p, vs, [], rfl, upd_same, Reps.keep (keepF n) ds vs [] (fun _ h => nomatch h) r, List.not_mem_nil, rfl⟩
theorem fr1 {H : Hp} {p : Addr} (n : H p = none) : ∀ a ∈ [p], H a = none := fun a h => by
  rw [List.mem_singleton.mp h]
  exact n
theorem fr0 {H : Hp} : ∀ a ∈ ([] : List Addr), H a = none := fun _ h => nomatch h
/-! ## + - * // % -/
def gAdd : D → D → Option D
  | .int i, .int j => some (.int (i + j))
  | .str x, .str y => if x.length + y.length ≤ sizeLine then some (.str (x ++ y)) else none
  | .tup a, .tup b => if a.length + b.length ≤ sizeLine ∧ D.imms a = true ∧ D.imms b = true then some (.tup (a ++ b)) else none
  | .lst a, .lst b => if a.length + b.length ≤ sizeLine ∧ D.imms a = true ∧ D.imms b = true then some (.lst (a ++ b)) else none
  | _, _ => none
def rAddAll (K : PySem.W.Frag) : R2 := fun x y H Q => ((rI0 fun i j => .int (i + j)) x y H Q ∨ (∃ i j, x = .str i ∧ y = .str j ∧ i.length + j.length ≤ sizeLine ∧ Q (.str (i ++ j)) H)) ∨ (rCatA K x y H Q ∨ rCat x y H Q)
theorem op_addAll {X : Cx} : OpR X (binaryOp .Add) (rAddAll X.K) := (op_add.or op_add_str).or (op_catA.or op_cat)
theorem pAdd {G : Gv} : POp2 G (rAddAll G.K) gAdd := by
  intro d1 d2 d v1 v2 f1 f2 H Q g r1 r2 q
  unfold gAdd at g
  split at g
  · cases g
    refine .inl (.inl ⟨_, _, r1.1, r2.1, q _ H [] Keep.refl ⟨rfl, rfl⟩ fr0⟩)
  · split at g
    · rename_i hl
      cases g
      exact .inl (.inr ⟨_, _, r1.1, r2.1, hl, q _ H [] Keep.refl ⟨rfl, rfl⟩ fr0⟩)
    · cases g
  · split at g
    · rename_i a b hl
      cases g
      obtain ⟨p1, vs, e1, s1, q1⟩ := r1
      obtain ⟨p2, ws, e2, s2, q2⟩ := r2
      have ap := Reps.app hl.2.1 hl.2.2 q1 q2
      refine .inr (.inl ⟨p1, p2, vs, ws, e1, e2, s1, s2, by rw [q1.len, q2.len]; exact hl.1, fun ev => ?_, fun _ ev => ?_, fun _ _ p n => ?_⟩)
      · subst ev
        exact q _ H [] Keep.refl ⟨p2, ws, rfl, s2, ap⟩ fr0
      · subst ev
        rw [List.append_nil] at ap
        exact q _ H [] Keep.refl ⟨p1, vs, rfl, s1, ap⟩ fr0
      · exact q _ _ [] (keepF n) (new_tup (by rw [imms_app, hl.2.1, hl.2.2]; rfl) ap n) fr0
    · cases g
  · split at g
    · rename_i a b hl
      cases g
      obtain ⟨p1, vs, g1, e1, s1, q1, _⟩ := r1
      obtain ⟨p2, ws, g2, e2, s2, q2, _⟩ := r2
      have ap := Reps.app hl.2.1 hl.2.2 q1 q2
      exact .inr (.inr ⟨p1, p2, vs, ws, e1, e2, s1, s2, by rw [q1.len, q2.len]; exact hl.1, fun p n => q _ _ [p] (keepF n) (new_lst (by rw [imms_app, hl.2.1, hl.2.2]; rfl) ap n) (fr1 n)⟩)
    · cases g
  · cases g
/-- ints alone, under a condition -/
def gI (c : Int → Int → Bool) (f : Int → Int → Int) : D → D → Option D
  | .int i, .int j => if c i j = true then some (.int (f i j)) else none
  | _, _ => none
theorem pI {G : Gv} {c : Int → Int → Bool} {C : Int → Int → Prop} {f : Int → Int → Int} (h : ∀ i j, c i j = true → C i j) : POp2 G (rI C fun i j => .int (f i j)) (gI c f) := by
  intro d1 d2 d v1 v2 f1 f2 H Q g r1 r2 q
  unfold gI at g
  split at g
  · split at g
    · rename_i hc
      cases g
      exact ⟨_, _, r1.1, r2.1, h _ _ hc, q _ H [] Keep.refl ⟨rfl, rfl⟩ fr0⟩
    · cases g
  · cases g
def gSub : D → D → Option D
  | .int i, .int j => some (.int (i - j))
  | _, _ => none
theorem pSub {G : Gv} : POp2 G (rI0 fun i j => .int (i - j)) gSub := by
  intro d1 d2 d v1 v2 f1 f2 H Q g r1 r2 q
  unfold gSub at g
  split at g
  · cases g
    exact ⟨_, _, r1.1, r2.1, q _ H [] Keep.refl ⟨rfl, rfl⟩ fr0⟩
  · cases g
def repD : Nat → List D → List D
  | 0, _ => []
  | n + 1, ds => ds ++ repD n ds
def repV : Nat → List V → List V
  | 0, _ => []
  | n + 1, ds => ds ++ repV n ds
theorem repV_eq : ∀ (n : Nat) (vs : List V), (List.replicate n vs).flatten = repV n vs
  | 0, _ => rfl
  | n + 1, vs => by rw [List.replicate_succ, List.flatten_cons, repV_eq n vs]; rfl
theorem imms_rep : ∀ (n : Nat) (ds : List D), D.imms ds = true → D.imms (repD n ds) = true
  | 0, _, _ => rfl
  | n + 1, ds, h => by
    show D.imms (ds ++ repD n ds) = true
    rw [imms_app, h, imms_rep n ds h]
    rfl
theorem Reps.rep {G : Gv} {H : Hp} {ds : List D} {vs : List V} {f : List Addr} (i : D.imms ds = true) (r : Reps G H ds vs f) : ∀ n : Nat, Reps G H (repD n ds) (repV n vs) []
  | 0 => ⟨rfl, rfl⟩
  | n + 1 => Reps.app i (imms_rep n ds i) r (Reps.rep i r n)
def mulC (i j : Int) : Bool := (decide (-(2 ^ 64) < i) && decide (i < 2 ^ 64)) || (decide (-(2 ^ 64) < j) && decide (j < 2 ^ 64))
def gMul : D → D → Option D
  | .int i, .int j => if mulC i j = true then some (.int (i * j)) else none
  | .lst a, .int k => if -(2 ^ 63) ≤ k ∧ k < 2 ^ 63 ∧ a.length * k.toNat ≤ sizeLine ∧ D.imms a = true then some (.lst (repD k.toNat a)) else none
  | .tup a, .int k => if a ≠ [] ∧ 2 ≤ k ∧ k ≤ 1000 ∧ a.length ≤ 1000 ∧ D.imms a = true then some (.tup (repD k.toNat a)) else none
  | _, _ => none
def rMulAll (K : PySem.W.Frag) : R2 := fun x y H Q => (rI CMul fun i j => .int (i * j)) x y H Q ∨ (rRep x y H Q ∨ rRepT K x y H Q)
theorem op_mulAll {X : Cx} : OpR X (binaryOp .Mult) (rMulAll X.K) := op_mul.or (op_rep.or op_repT)
theorem mulC_ok {i j : Int} (h : mulC i j = true) : CMul i j := by
  unfold mulC at h
  simp only [Bool.or_eq_true, Bool.and_eq_true, decide_eq_true_eq] at h
  exact h
theorem pMul {G : Gv} : POp2 G (rMulAll G.K) gMul := by
  intro d1 d2 d v1 v2 f1 f2 H Q g r1 r2 q
  unfold gMul at g
  split at g
  · split at g
    · rename_i hc
      cases g
      exact .inl ⟨_, _, r1.1, r2.1, mulC_ok hc, q _ H [] Keep.refl ⟨rfl, rfl⟩ fr0⟩
    · cases g
  · split at g
    · rename_i a k hl
      cases g
      obtain ⟨p1, vs, g1, e1, s1, q1, _⟩ := r1
      refine .inr (.inl ⟨p1, _, vs, e1, r2.1, s1, hl.1, hl.2.1, by rw [q1.len]; exact hl.2.2.1, fun p n => ?_⟩)
      rw [repV_eq]
      exact q _ _ [p] (keepF n) (new_lst (imms_rep _ _ hl.2.2.2) (Reps.rep hl.2.2.2 q1 _) n) (fr1 n)
    · cases g
  · split at g
    · rename_i a k hl
      cases g
      obtain ⟨p1, vs, e1, s1, q1⟩ := r1
      refine .inr (.inr ⟨p1, _, vs, e1, r2.1, s1, fun z => hl.1 ?_, hl.2.1, hl.2.2.1, by rw [q1.len]; exact hl.2.2.2.1, fun p n => ?_⟩)
      · have := q1.len
        rw [z] at this
        exact List.eq_nil_of_length_eq_zero this.symm
      rw [repV_eq]
      exact q _ _ [] (keepF n) (new_tup (imms_rep _ _ hl.2.2.2.2) (Reps.rep hl.2.2.2.2 q1 _) n) fr0
    · cases g
  · cases g
def divC (_ j : Int) : Bool := decide (0 < j) && decide (j < 1073741824)
def gDiv : D → D → Option D := gI divC fun i j => i / j
def gMod : D → D → Option D := gI (fun _ j => decide (0 < j)) fun i j => i % j
def powC (i j : Int) : Bool := decide (0 ≤ j) && (decide (j ≤ 1000000) && decide (i.natAbs < 2 ^ 64))
def gPow : D → D → Option D := gI powC fun i j => i ^ j.toNat
theorem pDiv {G : Gv} : POp2 G (rI CDiv fun i j => .int (i / j)) gDiv := pI fun i j h => by
  unfold divC at h
  simp only [Bool.and_eq_true, decide_eq_true_eq] at h
  exact h
theorem pMod {G : Gv} : POp2 G (rI (fun _ j => 0 < j) fun i j => .int (i % j)) gMod := pI fun i j h => of_decide_eq_true h
theorem pPow {G : Gv} : POp2 G (rI CPow fun i j => .int (i ^ j.toNat)) gPow := pI fun i j h => by
  unfold powC at h
  simp only [Bool.and_eq_true, decide_eq_true_eq] at h
  exact h
/-! ## comparisons -/
def gB (f : Int → Int → Bool) : D → D → Option D
  | .int i, .int j => some (.bl (f i j))
  | _, _ => none
theorem pB {G : Gv} {f : Int → Int → Bool} : POp2 G (rI0 fun i j => .bl (f i j)) (gB f) := by
  intro d1 d2 d v1 v2 f1 f2 H Q g r1 r2 q
  unfold gB at g
  split at g
  · cases g
    exact ⟨_, _, r1.1, r2.1, q _ H [] Keep.refl ⟨rfl, rfl⟩ fr0⟩
  · cases g
def gLt : D → D → Option D := gB fun i j => decide (i < j)
def gLe : D → D → Option D := gB fun i j => decide (i ≤ j)
def gGt : D → D → Option D := gB fun i j => decide (j < i)
def gGe : D → D → Option D := gB fun i j => decide (j ≤ i)
mutual
def toPy : D → PyData
  | .non => .none | .bl b => .bool b | .int i => .int i | .str x => .str x
  | .tup ds => .tuple (toPys ds) | .lst ds => .list (toPys ds) | .flst ds => .list (toPys ds)
  | .dct _ => .dict [] | .fdct _ => .dict [] | .ins _ _ => .dict []
def toPys : List D → List PyData
  | [] => []
  | d :: ds => toPy d :: toPys ds
end
mutual
theorem Rep.dp {G : Gv} {H : Hp} : ∀ (d : D) (v : V) (fp : List Addr), Rep G H d v fp → (toPy d).canLay0 = true → Dp G.K H v (toPy d)
  | .non, _, _, h, _ => by rw [h.1]; exact .non
  | .bl _, _, _, h, _ => by rw [h.1]; exact .bl _
  | .int _, _, _, h, _ => by rw [h.1]; exact .int _
  | .str _, _, _, h, _ => by rw [h.1]; exact .str _
  | .tup ds, v, fp, ⟨a, vs, e, s, r⟩, c => by rw [e]; exact .tup s (Reps.dp ds vs fp r (by simpa [toPy, PyData.canLay0] using c))
  | .lst ds, v, fp, ⟨a, vs, f1, e, s, r, na, ef⟩, c => by rw [e]; exact .lst (.inl (.inl s)) (Reps.dp ds vs f1 r (by simpa [toPy, PyData.canLay0] using c))
  | .flst ds, v, fp, ⟨a, o, vs, e, s, r, ef⟩, c => by rw [e]; exact .lst (.inl (.inr ⟨o, s⟩)) (Reps.dp ds vs [] r (by simpa [toPy, PyData.canLay0] using c))
  | .dct _, _, _, _, c => by simp [toPy, PyData.canLay0] at c
  | .fdct _, _, _, _, c => by simp [toPy, PyData.canLay0] at c
  | .ins _ _, _, _, _, c => by simp [toPy, PyData.canLay0] at c
theorem Reps.dp {G : Gv} {H : Hp} : ∀ (ds : List D) (vs : List V) (fp : List Addr), Reps G H ds vs fp → PyData.canLayAll0 (toPys ds) = true → DpAll G.K H vs (toPys ds)
  | [], _, _, h, _ => by rw [h.1]; exact .nil
  | d :: ds, vs, fp, ⟨v, r, f1, f2, e, p, q, dj, ef⟩, c => by
    have c' : (toPy d).canLay0 = true ∧ PyData.canLayAll0 (toPys ds) = true := by simpa [toPys, PyData.canLayAll0] using c
    rw [e]
    exact .cons (Rep.dp d v f1 p c'.1) (Reps.dp ds r f2 q c'.2)
end
def okEq (d : D) : Bool := SeqAt.shaped (toPy d)
theorem okEq_lay {d : D} (h : okEq d = true) : (toPy d).canLay0 = true := (Bool.and_eq_true_iff.mp h).1
/-- == of data -/
def eqD (a b : D) : Option Bool := match a, b with
  | .int i, .int j => some (decide (i = j))
  | .str x, .str y => some (decide (x = y))
  | .bl x, .bl y => some (decide (x = y))
  | .non, .non => some true
  | .non, .int _ => some false
  | .int _, .non => some false
  | .non, .str _ => some false
  | .str _, .non => some false
  | .non, .bl _ => some false
  | .bl _, .non => some false
  | .int _, .str _ => some false
  | .str _, .int _ => some false
  | a, b => if okEq a = true ∧ okEq b = true then some (PyData.eqv (toPy a) (toPy b)) else none
def gEq (a b : D) : Option D := (eqD a b).map .bl
def gNe (a b : D) : Option D := (eqD a b).map fun k => .bl (!k)
theorem eqD_cases {G : Gv} {H : Hp} {a b : D} {v w : V} {f g : List Addr} {k : Bool} (r : Rep G H a v f) (s : Rep G H b w g) (e : eqD a b = some k) :
    (scal v w = true ∧ decide (v = w) = k) ∨ (Dp G.K H v (toPy a) ∧ Dp G.K H w (toPy b) ∧ okEq a = true ∧ okEq b = true ∧ PyData.eqv (toPy a) (toPy b) = k) := by
  unfold eqD at e
  split at e
  all_goals first
    | (cases e; have e1 := r.1; have e2 := s.1; subst e1 e2; refine .inl ⟨rfl, ?_⟩; simp <;> done)
    | (split at e
       · rename_i h
         cases e
         exact .inr ⟨Rep.dp _ _ _ r (okEq_lay h.1), Rep.dp _ _ _ s (okEq_lay h.2), h.1, h.2, rfl⟩
       · cases e)
def rEqA (K : PySem.W.Frag) : R2 := fun x y H Q => rEq x y H Q ∨ rEqD K x y H Q
def rNeA (K : PySem.W.Frag) : R2 := fun x y H Q => rNe x y H Q ∨ rNeD K x y H Q
theorem op_eqA {X : Cx} (hu : X.A.units + 64 < cLine) : OpR X (compareOp .Eq) (rEqA X.K) := op_eq.or (op_eqD hu)
theorem op_neA {X : Cx} (hu : X.A.units + 64 < cLine) : OpR X (compareOp .NotEq) (rNeA X.K) := op_ne.or (op_neD hu)
theorem pEq {G : Gv} : POp2 G (rEqA G.K) gEq := by
  intro d1 d2 d v1 v2 f1 f2 H Q g r1 r2 q
  unfold gEq at g
  cases e : eqD d1 d2 with
  | none => rw [e] at g; cases g
  | some k =>
    rw [e] at g
    cases g
    have q' := q (.bl k) H [] Keep.refl ⟨rfl, rfl⟩ fr0
    rcases eqD_cases r1 r2 e with ⟨h1, h2⟩ | ⟨h1, h2, h3, h4, h5⟩
    · exact .inl ⟨h1, by rw [h2]; exact q'⟩
    · exact .inr ⟨_, _, h1, h2, h3, h4, by rw [h5]; exact q'⟩
theorem pNe {G : Gv} : POp2 G (rNeA G.K) gNe := by
  intro d1 d2 d v1 v2 f1 f2 H Q g r1 r2 q
  unfold gNe at g
  cases e : eqD d1 d2 with
  | none => rw [e] at g; cases g
  | some k =>
    rw [e] at g
    cases g
    have q' := q (.bl (!k)) H [] Keep.refl ⟨rfl, rfl⟩ fr0
    rcases eqD_cases r1 r2 e with ⟨h1, h2⟩ | ⟨h1, h2, h3, h4, h5⟩
    · exact .inl ⟨h1, by rw [h2]; exact q'⟩
    · exact .inr ⟨_, _, h1, h2, h3, h4, by rw [h5]; exact q'⟩
def isNon : D → Bool
  | .non => true
  | _ => false
theorem isNon_rep {G : Gv} {H : Hp} : ∀ {d : D} {v : V} {f : List Addr}, Rep G H d v f → decide (v = .non) = isNon d
  | .non, _, _, h => by rw [h.1]; rfl
  | .bl _, _, _, h => by rw [h.1]; rfl
  | .int _, _, _, h => by rw [h.1]; rfl
  | .str _, _, _, h => by rw [h.1]; rfl
  | .tup ds, v, fp, ⟨a, vs, e, _⟩ => by rw [e]; rfl
  | .lst ds, v, fp, ⟨a, vs, f1, e, _⟩ => by rw [e]; rfl
  | .flst ds, v, fp, ⟨a, o, vs, e, _⟩ => by rw [e]; rfl
  | .dct _, v, fp, ⟨a, vs, f1, e, _⟩ => by rw [e]; rfl
  | .fdct _, v, fp, ⟨a, o, vs, e, _⟩ => by rw [e]; rfl
  | .ins _ _, v, fp, ⟨a, C, dx, vs, f1, e, _⟩ => by rw [e]; rfl
def gIs : D → D → Option D
  | d, .non => some (.bl (isNon d))
  | .bl a, .bl b => some (.bl (decide (a = b)))
  | _, _ => none
def gIsNot : D → D → Option D
  | d, .non => some (.bl (!isNon d))
  | .bl a, .bl b => some (.bl (!decide (a = b)))
  | _, _ => none
def rIsA : R2 := fun x y H Q => (y = .non ∧ Q (.bl (decide (x = .non))) H) ∨ (∃ a b, x = .bl a ∧ y = .bl b ∧ Q (.bl (decide (a = b))) H)
def rIsNotA : R2 := fun x y H Q => (y = .non ∧ Q (.bl (!decide (x = .non))) H) ∨ (∃ a b, x = .bl a ∧ y = .bl b ∧ Q (.bl (!decide (a = b))) H)
theorem op_isA {X : Cx} : OpR X (compareOp .Is) rIsA := op_isN.or op_is_bl
theorem op_isNotA {X : Cx} : OpR X (compareOp .IsNot) rIsNotA := op_notN.or op_isnot_bl
theorem pIs {G : Gv} : POp2 G rIsA gIs := by
  intro d1 d2 d v1 v2 f1 f2 H Q g r1 r2 q
  unfold gIs at g
  split at g
  · cases g
    exact .inl ⟨r2.1, by rw [isNon_rep r1]; exact q _ H [] Keep.refl ⟨rfl, rfl⟩ fr0⟩
  · cases g
    exact .inr ⟨_, _, r1.1, r2.1, q _ H [] Keep.refl ⟨rfl, rfl⟩ fr0⟩
  · cases g
theorem pIsNot {G : Gv} : POp2 G rIsNotA gIsNot := by
  intro d1 d2 d v1 v2 f1 f2 H Q g r1 r2 q
  unfold gIsNot at g
  split at g
  · cases g
    exact .inl ⟨r2.1, by rw [isNon_rep r1]; exact q _ H [] Keep.refl ⟨rfl, rfl⟩ fr0⟩
  · cases g
    exact .inr ⟨_, _, r1.1, r2.1, q _ H [] Keep.refl ⟨rfl, rfl⟩ fr0⟩
  · cases g
end A2
end S_A2e
section S_A2f
set_option Elab.async false
set_option linter.all false
set_option maxRecDepth 100000
set_option maxHeartbeats 4000000
open PySem PySem.Spec L2
open PyProof.Rows hiding St
namespace A2
/-! ## arguments -/
def aNil : AC := ⟨fun σd => .ok [] σd, []⟩
def aCons (c : EC) (a : AC) : AC := ⟨fun σd => (c.run σd).bind fun x σ1 => (a.run σ1).bind fun xs σ2 => if stab x a.rw then .ok (x :: xs) σ2 else .bad, c.rw ++ a.rw⟩
section
variable {G : Gv} {W : WX} {H H1 H2 H' : Hp} {σd σd1 σd2 σd' : DSt} {σ : St} {fps fps1 fps2 fps' : Nat → List Addr} {r r1 r2 : List Nat} {tf tf' e1 e2 ex : List Addr}
theorem seqA {a : AC} {R : List V → Hp → Prop} (E : EnvR G H σd σ fps) (ha : ∀ j ∈ a.rw, j ∈ r)
    (kok : ∀ rv σd1, a.run σd = .ok rv σd1 → ∀ v H1 fps1 f1, EnvR G H1 σd1 σ fps1 → RvsR G H1 σ fps1 rv v f1 → Stp a.rw [] H σd fps H1 σd1 fps1 f1 → R v H1)
    (kerr : ∀ x σd1, a.run σd = .err x σd1 → ∀ c dx H' fps', EnvR G H' σd1 σ fps' → ExR G H' x c dx → Stp r tf H σd fps H' σd1 fps' [] → W c dx σ H') (kbad : a.run σd ≠ .bad) : rdA G W a σ H R := by
  refine ⟨σd, fps, E, ?_⟩
  cases hr : a.run σd with
  | ok rv σd1 => exact fun v H' fps' f E' R' S' => kok rv σd1 hr v H' fps' f E' R' S'
  | err x σd1 => exact fun c dx H' fps' E' R' S' => kerr x σd1 hr c dx H' fps' E' R' (S'.wk ha (fun _ h => nomatch h) (fun _ h => nomatch h))
  | bad => exact absurd hr kbad
theorem Stp.beside' (s : Stp r [] H σd fps H1 σd1 fps1 e1) (td : ∀ j, Dj tf (fps j)) (tn : ∀ a ∈ tf, H a ≠ none) : Stp r tf H σd fps H1 σd1 fps1 (tf ++ e1) :=
  (s.beside td tn).1.wk (fun _ h => h) (fun _ h => h) (fun a h => .inl (List.mem_append.mpr (List.mem_append.mp h).symm))
theorem cons_rd {c : EC} {a : AC} {Q : List V → Hp → Prop} (h : rdA G W (aCons c a) σ H Q) : tCons (rd G W c) (rdA G W a) σ H Q := by
  obtain ⟨σd, fps, E, q⟩ := h
  unfold aCons at q
  dsimp only at q
  refine seqE (r := c.rw ++ a.rw) (tf := []) E mem_l (fun x σd1 h1 v1 H1 fps1 f1 E1 R1 S1 => ?_) (fun x σd1 h1 => ?_) (fun h1 => ?_)
  · rw [h1] at q
    change rdrA G W (c.rw ++ a.rw) [] σ H σd fps ((a.run σd1).bind fun xs σ2 => if stab x a.rw then .ok (x :: xs) σ2 else .bad) Q at q
    have q1 := rdrA.push (r2 := c.rw ++ a.rw) S1 E1 R1.dj mem_l (fun _ h => h) q
    refine seqA (r := c.rw ++ a.rw) (tf := f1) E1 mem_r (fun y σd2 h2 v2 H2 fps2 f2 E2 R2 S2 => ?_) (fun y σd2 h2 => ?_) (fun h2 => ?_)
    · rw [h2] at q1
      change rdrA G W (c.rw ++ a.rw) f1 σ H1 σd1 fps1 (if stab x a.rw = true then .ok (x :: y) σd2 else .bad) Q at q1
      split at q1
      · rename_i st
        obtain ⟨R1', d12⟩ := R1.step S2 st
        exact q1 (v1 :: v2) H2 fps2 (f1 ++ f2) E2 ⟨v1, v2, f1, f2, rfl, R1', R2, d12, rfl⟩ ((Stp.beside' S2 R1.dj R1.dom).wk mem_r (fun _ h => h) (fun _ h => .inl h))
      · exact q1.elim
    · rw [h2] at q1
      exact q1
    · rw [h2] at q1
      exact q1
  · rw [h1] at q
    exact q
  · rw [h1] at q
    exact q
end
section
variable {X : Cx} {W : WX} {pos : Pos} {e : Expr} {es : List Expr} {c : EC} {a : AC}
theorem da_nil : DA X W [] aNil := pa_nil.le fun σ H Q h => by
  obtain ⟨σd, fps, E, q⟩ := h
  exact q [] H fps [] E ⟨rfl, rfl⟩ (Stp.refl fun _ h => nomatch h)
theorem da_cons (h : DE X W e c) (hr : DA X W es a) (hs : starEach (e :: es) X.env = (false, eval e X.env) :: starEach es X.env := by rfl) : DA X W (e :: es) (aCons c a) :=
  (pa_cons h hr hs).le fun _ _ _ h => cons_rd h
end
/-! ## taking what a name holds -/
def takeOf (t : Option Nat) (x : RV) (σd : DSt) : Res RV := match x with
  | .tmp d => .ok (.tmp d) σd
  | .plc s p => match p with
    | [] => match σd[s]? with
      | some (some d) => if t = some s then .ok (.tmp d) (σd.set s none) else .bad
      | _ => .bad
    | _ :: _ => .bad
def tkrw : Option Nat → List Nat
  | some s => [s]
  | none => []
def cTake (t : Option Nat) (c : EC) : EC := ⟨fun σd => (c.run σd).bind (takeOf t), c.rw ++ tkrw t⟩
def setFp (fps : Nat → List Addr) (s : Nat) (f : List Addr) : Nat → List Addr := fun i => if i = s then f else fps i
section
variable {G : Gv} {W : WX} {H H1 H2 H' : Hp} {σd σd1 σd2 σd' : DSt} {σ : St} {fps fps1 fps2 fps' : Nat → List Addr} {r r1 r2 : List Nat} {tf tf' e1 e2 ex : List Addr}
theorem getset {α : Type} {l : List α} {i j : Nat} {x : α} (h : i ≠ j) : (l.set i x)[j]? = l[j]? := by
  rw [List.getElem?_set_ne h]
theorem EnvR.kill (E : EnvR G H σd σ fps) (s : Nat) : EnvR G H (σd.set s none) σ (setFp fps s []) where
  tb := E.tb
  len := by rw [List.length_set]; exact E.len
  rep := fun i d e => by
    by_cases hi : i = s
    · subst hi
      rw [List.getElem?_set] at e
      simp at e
    · rw [getset (Ne.symm hi)] at e
      obtain ⟨v, e1, r⟩ := E.rep i d e
      exact ⟨v, e1, by unfold setFp; rw [if_neg hi]; exact r⟩
  dj := fun i j n => by
    unfold setFp
    split
    · exact djnil
    · split
      · exact djnil.symm
      · exact E.dj i j n
  ded := fun i n => by
    unfold setFp
    split
    · rfl
    · rename_i hi
      exact E.ded i fun d => by rw [← getset (x := (none : Option D)) (Ne.symm hi)]; exact n d
theorem take_end {t : Option Nat} {x : RV} {v : V} {f : List Addr} {Q : VK} (E : EnvR G H σd σ fps) (R : RvR G H σ fps x v f) (hr : ∀ j ∈ tkrw t, j ∈ r) (q : rdr G W r f σ H σd fps (takeOf t x σd) Q) : Q v H := by
  cases x with
  | tmp d => exact q v H fps f E R (Stp.refl fun _ h => .inr h)
  | plc s p =>
    cases p with
    | cons _ _ => exact q.elim
    | nil =>
      unfold takeOf at q
      dsimp only at q
      split at q
      · rename_i d hd
        split at q
        · rename_i ht
          subst ht
          obtain ⟨v1, e1, r1⟩ := E.rep s d hd
          obtain ⟨ef, v0, e0, at0⟩ := R
          rw [e1] at e0
          cases e0
          have ev : v = v1 := at0
          subst ev
          refine q v H (setFp fps s []) (fps s) (E.kill s) ⟨r1, fun i => ?_⟩ ⟨Keep.refl, fun a z => ?_, fun j n => ?_, fun _ h => h⟩
          · unfold setFp
            split
            · exact djnil.symm
            · rename_i hi
              exact E.dj s i (Ne.symm hi)
          · rcases z with z | ⟨j, z⟩
            · exact .inl ⟨s, z⟩
            · unfold setFp at z
              split at z
              · cases z
              · exact .inl ⟨j, z⟩
          · have hs : j ≠ s := fun z => n (by rw [z]; exact hr s (List.mem_singleton.mpr rfl))
            exact ⟨getset (Ne.symm hs), by unfold setFp; rw [if_neg hs]⟩
        · exact q.elim
      · exact q.elim
/-- one expression, then a step on its value -/
theorem rd_then {a : EC} {f : RV → DSt → Res RV} {rw' : List Nat} {R Q : VK} (h : rd G W ⟨fun σd => (a.run σd).bind f, a.rw ++ rw'⟩ σ H Q)
    (k : ∀ x σd1 v H1 fps1 f1, EnvR G H1 σd1 σ fps1 → RvR G H1 σ fps1 x v f1 → rdr G W (a.rw ++ rw') f1 σ H1 σd1 fps1 (f x σd1) Q → R v H1) : rd G W a σ H R := by
  obtain ⟨σd, fps, E, q⟩ := h
  dsimp only at q
  refine seqE (r := a.rw ++ rw') (tf := []) E mem_l (fun x σd1 h1 v1 H1 fps1 f1 E1 R1 S1 => ?_) (fun x σd1 h1 => ?_) (fun h1 => ?_)
  · rw [h1] at q
    exact k x σd1 v1 H1 fps1 f1 E1 R1 (rdr.push (R := f x σd1) S1 E1 R1.dj mem_l (fun _ h => h) q)
  · rw [h1] at q
    exact q
  · rw [h1] at q
    exact q
theorem rdA_then {a : AC} {f : List RV → DSt → Res RV} {rw' : List Nat} {R : List V → Hp → Prop} {Q : VK} (h : rd G W ⟨fun σd => (a.run σd).bind f, a.rw ++ rw'⟩ σ H Q)
    (k : ∀ x σd1 v H1 fps1 f1, EnvR G H1 σd1 σ fps1 → RvsR G H1 σ fps1 x v f1 → rdr G W (a.rw ++ rw') f1 σ H1 σd1 fps1 (f x σd1) Q → R v H1) : rdA G W a σ H R := by
  obtain ⟨σd, fps, E, q⟩ := h
  dsimp only at q
  refine seqA (r := a.rw ++ rw') (tf := []) E mem_l (fun x σd1 h1 v1 H1 fps1 f1 E1 R1 S1 => ?_) (fun x σd1 h1 => ?_) (fun h1 => ?_)
  · rw [h1] at q
    exact k x σd1 v1 H1 fps1 f1 E1 R1 (rdr.push (R := f x σd1) S1 E1 R1.dj mem_l (fun _ h => h) q)
  · rw [h1] at q
    exact q
  · rw [h1] at q
    exact q
end
theorem de_take {X : Cx} {W : WX} {e : Expr} {c : EC} (t : Option Nat) (h : DE X W e c) : DE X W e (cTake t c) := h.le fun σ H Q h => rd_then h fun x σd1 v H1 fps1 f1 E1 R1 q => take_end E1 R1 mem_r q
/-! ## displays -/
def tmps : List RV → Option (List D)
  | [] => some []
  | .tmp d :: r => (tmps r).map (d :: ·)
  | .plc _ _ :: _ => none
theorem tmps_rep {G : Gv} {H : Hp} {σ : St} {fps : Nat → List Addr} : ∀ {rvs : List RV} {ds : List D} {vs : List V} {f : List Addr}, tmps rvs = some ds → RvsR G H σ fps rvs vs f → Reps G H ds vs f
  | [], ds, vs, f, e, h => by
    cases e
    exact h
  | .plc _ _ :: _, _, _, _, e, _ => by cases e
  | .tmp d :: rvs, ds, vs, f, e, ⟨v, r, f1, f2, ev, p, q, dj, ef⟩ => by
    obtain ⟨ds', e1, e2⟩ := Option.map_eq_some_iff.mp e
    subst e2
    exact ⟨v, r, f1, f2, ev, p.1, tmps_rep e1 q, dj, ef⟩
def dispOf (mk : List D → D) (xs : List RV) (σd : DSt) : Res RV := match tmps xs with
  | some ds => if ds.length ≤ sizeLine then .ok (.tmp (mk ds)) σd else .bad
  | none => .bad
def cTup (a : AC) : EC := ⟨fun σd => (a.run σd).bind (dispOf .tup), a.rw ++ []⟩
def cLst (a : AC) : EC := ⟨fun σd => (a.run σd).bind (dispOf .lst), a.rw ++ []⟩
section
variable {X : Cx} {W : WX} {pos : Pos} {e : Expr} {es : List Expr} {c : EC} {a : AC}
theorem new_ne {H : Hp} {p a : Addr} (h : H a ≠ none) (n : H p = none) : a ≠ p := fun z => h (z ▸ n)
theorem de_tup {x1} (h : DA X W es a) : DE X W (.Tuple es x1 pos) (cTup a) := (pe_tup h).le fun σ H Q h => rdA_then h fun x σd1 vs H1 fps1 f1 E1 R1 q => by
  unfold dispOf at q
  split at q
  · rename_i ds hd
    have rp := tmps_rep hd R1
    split at q
    · rename_i hl
      refine ⟨by rw [rp.len]; exact hl, fun p n => ?_⟩
      have k := keepF (o := .tup vs) n
      exact q (.ref p) _ fps1 f1 (E1.all k) ⟨⟨p, vs, rfl, .inl (.inl upd_same), Reps.keep k ds vs f1 (fun _ _ z => z) rp⟩, R1.dj⟩ (Stp.grow k fun a h => .inr (.inl h))
    · exact q.elim
  · exact q.elim
theorem de_lst (h : DA X W es a) : DE X W (.List es pos) (cLst a) := (pe_lst h).le fun σ H Q h => rdA_then h fun x σd1 vs H1 fps1 f1 E1 R1 q => by
  unfold dispOf at q
  split at q
  · rename_i ds hd
    have rp := tmps_rep hd R1
    split at q
    · rename_i hl
      refine ⟨by rw [rp.len]; exact hl, fun p n => ?_⟩
      have k := keepF (o := .lst vs) n
      refine q (.ref p) _ fps1 (p :: f1) (E1.all k) ⟨⟨p, vs, f1, rfl, upd_same, Reps.keep k ds vs f1 (fun _ _ z => z) rp, fun z => R1.dom p z n, rfl⟩, fun j b hb z => ?_⟩ (Stp.grow k fun b hb => ?_)
      · rcases List.mem_cons.mp hb with rfl | hb
        · obtain ⟨o, e, _⟩ := E1.dom z
          rw [n] at e
          cases e
        · exact R1.dj j b hb z
      · rcases List.mem_cons.mp hb with rfl | hb
        · exact .inr (.inr n)
        · exact .inr (.inl hb)
    · exact q.elim
  · exact q.elim
end
/-! ## x[i] -/
theorem Reps.at {G : Gv} {H : Hp} {ds : List D} {vs : List V} {fp : List Addr} {k : Nat} {d : D} (r : Reps G H ds vs fp) (e : ds[k]? = some d) : ∃ v f, vs[k]? = some v ∧ Rep G H d v f ∧ ∀ a ∈ f, a ∈ fp := by
  obtain ⟨v, fL, fM, fR, g1, g2, g3, _⟩ := Reps.focus ds vs fp k d r e
  exact ⟨v, fM, g1, g2, fun a h => by rw [g3]; exact List.mem_append_right _ (List.mem_append_left _ h)⟩
theorem Reps.atI {G : Gv} {H : Hp} {ds : List D} {vs : List V} {fp : List Addr} {i : Int} {d : D} (r : Reps G H ds vs fp) (e : L2.atI ds i = some d) : ∃ v f, L2.atI vs i = some v ∧ Rep G H d v f ∧ ∀ a ∈ f, a ∈ fp := by
  unfold L2.atI at e
  cases hj : ixN ds.length i with
  | none => rw [hj] at e; cases e
  | some j =>
    rw [hj] at e
    obtain ⟨v, f, h1, h2, h3⟩ := Reps.at r (show ds[j]? = some d from e)
    refine ⟨v, f, ?_, h2, h3⟩
    unfold L2.atI
    rw [r.len, hj]
    exact h1
def itemOf (x : RV) (st : Step) (d : D) (σd : DSt) : Res RV := if d.imm then .ok (.tmp d) σd else match x with
  | .tmp _ => .ok (.tmp d) σd
  | .plc s p => .ok (.plc s (p ++ [st])) σd
def ixOf (x y : RV) (σd : DSt) : Res RV := match x.get σd, y.get σd with
  | some (.tup ds), some (.int i) => (match L2.atI ds i with
    | some d => (if d.imm then .ok (.tmp d) σd else match x with
      | .tmp _ => .ok (.tmp d) σd
      | .plc _ _ => .bad)
    | none => .bad)
  | some (.lst ds), some (.int i) => (match ixN ds.length i with
    | some j => (match ds[j]? with
      | some d => itemOf x (.ix j) d σd
      | none => .bad)
    | none => .bad)
  | some (.flst ds), some (.int i) => (match L2.atI ds i with
    | some d => (if d.imm then .ok (.tmp d) σd else .bad)
    | none => .bad)
  | some (.str z), some (.int i) => if z.length ≤ sizeLine then (match L2.atI z.cps.toList i with
    | some c => .ok (.tmp (.str ⟨#[c]⟩)) σd
    | none => .bad) else .bad
  | some (.dct kvs), some k => (match keyOf k with
    | some q => (match lookD kvs q with
      | some d => itemOf x (.ky k) d σd
      | none => .bad)
    | none => .bad)
  | some (.fdct kvs), some k => (match keyOf k with
    | some q => (match lookD kvs q with
      | some d => (if d.imm then .ok (.tmp d) σd else .bad)
      | none => .bad)
    | none => .bad)
  | _, _ => .bad
def cIx (a b : EC) : EC := ⟨run2 a b ixOf, a.rw ++ b.rw⟩
def rIxD : R2 := fun x y H Q => ∃ a v, x = .ref a ∧ DGet H a y (some v) ∧ Q v H
theorem ix_dict {X : Cx} (hu : X.A.units + 1 < cLine) : IxR X rIxD := by
  intro value slice pins s σ H x y v u Q I rx ry h hs
  obtain ⟨a, w, ex, g, q⟩ := h
  subst ex
  obtain rfl : v = Value.ref a := rx
  exact tail_any (dict_typeIs I g) PySem.F.slot_dict_getitem.lookup (d_getItem hu I g ry fun w' s3 I3 rw' => ⟨w, H, I3, rw', q⟩) hs
def rIxA (K : PySem.W.Frag) : R2 := fun x y H Q => rIx K x y H Q ∨ rIxD x y H Q
theorem At.app {H : Hp} : ∀ (p : List Step) (v w u : V) (st : Step), At H v p w → At H w [st] u → At H v (p ++ [st]) u
  | [], v, w, u, st, e, h => by
    have e' : w = v := e
    subst e'
    exact h
  | .ix k :: p, v, w, u, st, ⟨a, vs, x, ev, s, g, t⟩, h => ⟨a, vs, x, ev, s, g, At.app p x w u st t h⟩
  | .fl k :: p, v, w, u, st, ⟨a, c, dx, vs, x, ev, s, g, t⟩, h => ⟨a, c, dx, vs, x, ev, s, g, At.app p x w u st t h⟩
  | .ky k :: p, v, w, u, st, ⟨a, vs, q, x, ev, s, eq, g, t⟩, h => ⟨a, vs, q, x, ev, s, eq, g, At.app p x w u st t h⟩
theorem lookV_valV (kvs : List (Key × V)) (k : Key) : valV kvs k = lookV kvs k := by
  induction kvs with
  | nil => rfl
  | cons p r ih =>
    obtain ⟨k0, v⟩ := p
    unfold lookV
    rw [← ih]
    unfold valV
    by_cases h : k0 = k
    · simp [h]
    · simp [h]
end A2
end S_A2f
section S_A2g
set_option Elab.async false
set_option linter.all false
set_option maxRecDepth 100000
set_option maxHeartbeats 4000000
open PySem PySem.Spec L2
open PyProof.Rows hiding St
namespace A2
section
variable {G : Gv} {W : WX} {H H1 H2 H' : Hp} {σd σd1 σd2 σd' : DSt} {σ : St} {fps fps1 fps2 fps' : Nat → List Addr} {r r1 r2 : List Nat} {tf tf' e1 e2 ex : List Addr}
/-- a part of a value that is there: nothing changes -/
theorem part_end {x : RV} {st : Step} {d : D} {v w : V} {f f' : List Addr} {Q : VK} (E : EnvR G H σd σ fps) (R : RvR G H σ fps x v f) (rp : Rep G H d w f') (sub : ∀ d0, x = .tmp d0 → ∀ a ∈ f', a ∈ f) (at1 : ∀ s p, x = .plc s p → At H v [st] w)
    (q : rdr G W r (f ++ tf) σ H σd fps (itemOf x st d σd) Q) : Q w H := by
  unfold itemOf at q
  split at q
  · rename_i im
    have ef := Rep.imm d w f' im rp
    subst ef
    exact q w H fps [] E ⟨rp, fun _ => djnil⟩ (Stp.refl fun _ h => nomatch h)
  · split at q
    · rename_i d0
      have sb := sub d0 rfl
      exact q w H fps f' E ⟨rp, fun j a h => R.2 j a (sb a h)⟩ (Stp.refl fun a h => .inr (List.mem_append_left _ (sb a h)))
    · rename_i s p
      obtain ⟨_, v0, e0, a0⟩ := R
      exact q w H fps [] E ⟨rfl, v0, e0, At.app p v0 v w st a0 (at1 s p rfl)⟩ (Stp.refl fun _ h => nomatch h)
theorem Rep.sub_of_tmp {x : RV} {d : D} {v : V} {f : List Addr} (R : RvR G H σ fps x v f) (g : x.get σd = some d) (E : EnvR G H σd σ fps) : ∃ f', Rep G H d v f' ∧ ∀ d0, x = .tmp d0 → f' = f := by
  cases x with
  | tmp d0 =>
    have e : d0 = d := Option.some.inj g
    subst e
    exact ⟨f, R.1, fun _ _ => rfl⟩
  | plc s p =>
    obtain ⟨f', r, _⟩ := R.rep E g
    exact ⟨f', r, fun d0 z => nomatch z⟩
theorem ix_end {x y : RV} {v1 v2 : V} {f1 f2 : List Addr} {Q : VK} (E : EnvR G H σd σ fps) (R1 : RvR G H σ fps x v1 f1) (R2 : RvR G H σ fps y v2 f2)
    (q : rdr G W r (f2 ++ (f1 ++ tf)) σ H σd fps (ixOf x y σd) Q) : rIxA G.K v1 v2 H Q := by
  have q' : rdr G W r (f1 ++ (f2 ++ tf)) σ H σd fps (ixOf x y σd) Q := by
    revert q
    generalize ixOf x y σd = R
    intro q
    have sw : ∀ a, a ∈ f1 ++ (f2 ++ tf) → a ∈ f2 ++ (f1 ++ tf) := fun a h => by
      simp only [List.mem_append] at h ⊢
      rcases h with h | h | h
      · exact .inr (.inl h)
      · exact .inl h
      · exact .inr (.inr h)
    cases R with
    | ok rv σ' => exact fun v H' fps' f E rr s => q v H' fps' f E rr (s.wk (fun _ h => h) sw (fun _ h => .inl h))
    | err z σ' => exact fun c dx H' fps' E rr s => q c dx H' fps' E rr (s.wk (fun _ h => h) sw (fun _ h => .inl h))
    | bad => exact q
  clear q
  unfold ixOf at q'
  split at q'
  · rename_i ds i h1 h2
    obtain ⟨g1, ⟨a, vs, ev, s, rs⟩, t1⟩ := Rep.sub_of_tmp R1 h1 E
    obtain ⟨g2, s2, _⟩ := R2.rep E h2
    split at q'
    · rename_i d hd
      obtain ⟨w, f', ew, rw', sb⟩ := Reps.atI rs hd
      refine .inl (.inr (.inl ⟨a, vs, i, w, ev, s2.1, s, ew, ?_⟩))
      split at q'
      · rename_i im
        have ef := Rep.imm d w f' im rw'
        subst ef
        exact q' w H fps [] E ⟨rw', fun _ => djnil⟩ (Stp.refl fun _ h => nomatch h)
      · split at q'
        · rename_i d0
          have eg := t1 d0 rfl
          subst eg
          exact q' w H fps f' E ⟨rw', fun j b h => R1.2 j b (sb b h)⟩ (Stp.refl fun b h => .inr (List.mem_append_left _ (sb b h)))
        · exact q'.elim
    · exact q'.elim
  · rename_i ds i h1 h2
    obtain ⟨g1, ⟨a, vs, f0, ev, s, rs, na, ef⟩, t1⟩ := Rep.sub_of_tmp R1 h1 E
    obtain ⟨g2, s2, _⟩ := R2.rep E h2
    split at q'
    · rename_i j hj
      split at q'
      · rename_i d hd
        obtain ⟨w, f', ew, rw', sb⟩ := Reps.at rs hd
        refine .inl (.inl ⟨a, vs, i, w, ev, s2.1, .inl (.inl s), ?_, ?_⟩)
        · unfold L2.atI
          rw [rs.len, hj]
          exact ew
        · refine part_end (st := .ix j) E R1 rw' (fun d0 z b h => ?_) (fun s' p z => ⟨a, vs, w, ev, s, ew, rfl⟩) q'
          rw [← t1 d0 z, ef]
          exact List.mem_cons_of_mem _ (sb b h)
      · exact q'.elim
    · exact q'.elim
  · rename_i ds i h1 h2
    obtain ⟨g1, ⟨a, o, vs, ev, s, rs, ef⟩, t1⟩ := Rep.sub_of_tmp R1 h1 E
    obtain ⟨g2, s2, _⟩ := R2.rep E h2
    split at q'
    · rename_i d hd
      obtain ⟨w, f', ew, rw', sb⟩ := Reps.atI rs hd
      refine .inl (.inl ⟨a, vs, i, w, ev, s2.1, .inl (.inr ⟨o, s⟩), ew, ?_⟩)
      split at q'
      · rename_i im
        have ef := Rep.imm d w f' im rw'
        subst ef
        exact q' w H fps [] E ⟨rw', fun _ => djnil⟩ (Stp.refl fun _ h => nomatch h)
      · exact q'.elim
    · exact q'.elim
  · rename_i z i h1 h2
    obtain ⟨g1, s1, _⟩ := R1.rep E h1
    obtain ⟨g2, s2, _⟩ := R2.rep E h2
    split at q'
    · rename_i hz
      split at q'
      · rename_i c hc
        exact .inl (.inr (.inr ⟨z, i, c, s1.1, s2.1, hz, hc, q' _ H fps [] E ⟨⟨rfl, rfl⟩, fun _ => djnil⟩ (Stp.refl fun _ h => nomatch h)⟩))
      · exact q'.elim
    · exact q'.elim
  · rename_i kvs k h1 h2
    obtain ⟨g1, ⟨a, ws, f0, ev, s, rs, na, ef⟩, t1⟩ := Rep.sub_of_tmp R1 h1 E
    obtain ⟨g2, s2, _⟩ := R2.rep E h2
    split at q'
    · rename_i kk hk
      split at q'
      · rename_i d hd
        obtain ⟨w, fL, fM, fR, l1, rw', e3, _⟩ := RepK.focus kvs ws f0 kk d rs hd
        have ey : v2 = kV kk := by
          cases k <;> simp [keyOf] at hk
          · subst hk
            exact s2.1
          · subst hk
            exact s2.1
        refine .inr ⟨a, w, ev, ?_, ?_⟩
        · have := DGet.k (k := kk) s
          rw [ey]
          rwa [lookV_valV, l1] at this
        · refine part_end (st := .ky k) E R1 rw' (fun d0 z b h => ?_) (fun s' p z => ⟨a, ws, kk, w, ev, s, hk, l1, rfl⟩) q'
          rw [← t1 d0 z, ef, e3]
          exact List.mem_cons_of_mem _ (List.mem_append_right _ (List.mem_append_left _ h))
      · exact q'.elim
    · exact q'.elim
  · rename_i kvs k h1 h2
    obtain ⟨g1, ⟨a, o, ws, ev, s, rs, nd, ef⟩, t1⟩ := Rep.sub_of_tmp R1 h1 E
    obtain ⟨g2, s2, _⟩ := R2.rep E h2
    split at q'
    · rename_i kk hk
      split at q'
      · rename_i d hd
        obtain ⟨w, fL, fM, fR, l1, rw', e3, _⟩ := RepK.focus kvs ws [] kk d rs hd
        have ey : v2 = kV kk := by
          cases k <;> simp [keyOf] at hk
          · subst hk
            exact s2.1
          · subst hk
            exact s2.1
        refine .inr ⟨a, w, ev, ?_, ?_⟩
        · rw [ey]
          exact .inl ⟨ws, kk, .inr ⟨o, s⟩, rfl, by rw [lookV_valV, l1]⟩
        · split at q'
          · rename_i im
            have ef := Rep.imm d w fM im rw'
            subst ef
            exact q' w H fps [] E ⟨rw', fun _ => djnil⟩ (Stp.refl fun _ h => nomatch h)
          · exact q'.elim
      · exact q'.elim
    · exact q'.elim
  · exact q'.elim
end
section
variable {X : Cx} {W : WX} {pos : Pos} {a b : Expr} {ca cb : EC}
theorem de_ix (hu : X.A.units + 1 < cLine) (ha : DE X W a ca) (hb : DE X W b cb) (hs : PlainIx b := by intro _ _; rfl) : DE X W (.Subscript a b pos) (cIx ca cb) :=
  (pe_ix (ix_seq.or (ix_dict hu)) ha hb hs).le fun σ H Q ⟨σd, fps, E, q⟩ => rd_two (r := ca.rw ++ cb.rw) (tf := []) E mem_l mem_r q nilD nilN fun x y σd2 v1 v2 H2 fps2 f1 f2 E2 R1 R2 _ _ _ q2 => ix_end E2 R1 R2 q2
end
/-! ## built-in functions of values -/
def PFun (G : Gv) (r : List V → Hp → VK → Prop) (g : List D → Option D) : Prop := ∀ (ds : List D) (d : D) (vs : List V) (H : Hp) (Q : VK), g ds = some d → Paired (fun d v => ∃ f, Rep G H d v f) ds vs →
  (∀ v H' fp, Keep (fun _ => False) H H' → Rep G H' d v fp → (∀ a ∈ fp, H a = none) → Q v H') → r vs H Q
def getAll (σd : DSt) : List RV → Option (List D)
  | [] => some []
  | x :: r => match x.get σd, getAll σd r with
    | some d, some ds => some (d :: ds)
    | _, _ => none
theorem getAll_rep {G : Gv} {H : Hp} {σd : DSt} {σ : St} {fps : Nat → List Addr} (E : EnvR G H σd σ fps) : ∀ {rvs : List RV} {ds : List D} {vs : List V} {f : List Addr}, getAll σd rvs = some ds → RvsR G H σ fps rvs vs f → Paired (fun d v => ∃ f, Rep G H d v f) ds vs
  | [], ds, vs, f, e, h => by
    cases e
    rw [h.1]
    exact .nil
  | x :: rvs, ds, vs, f, e, ⟨v, r, f1, f2, ev, p, q, dj, ef⟩ => by
    unfold getAll at e
    split at e
    · rename_i d ds' h1 h2
      cases e
      subst ev
      obtain ⟨f', rp, _⟩ := p.rep E h1
      exact .cons ⟨f', rp⟩ (getAll_rep E h2 q)
    · cases e
def finA (g : List D → Option D) (xs : List RV) (σd : DSt) : Res RV := match getAll σd xs with
  | some ds => (match g ds with
    | some d => .ok (.tmp d) σd
    | none => .bad)
  | none => .bad
def cFn (g : List D → Option D) (a : AC) : EC := ⟨fun σd => (a.run σd).bind (finA g), a.rw ++ []⟩
section
variable {X : Cx} {W : WX} {p pos : Pos} {e : Expr} {es : List Expr} {a : AC} {x : Str} {id T : String} {r : List V → Hp → VK → Prop} {g : List D → Option D}
theorem fn_rd {G : Gv} {a : AC} {σ : St} {H : Hp} {Q : VK} (P : PFun G r g) (h : rd G W (cFn g a) σ H Q) : rdA G W a σ H fun vs H1 => r vs H1 Q :=
  rdA_then h fun x σd1 vs H1 fps1 f1 E1 R1 q => by
    unfold finA at q
    split at q
    · rename_i ds hd
      split at q
      · rename_i d hg
        exact P ds d vs H1 Q hg (getAll_rep E1 hd R1) fun v H' fp k rp fr => fin_new E1 q k rp fr
      · exact q.elim
    · exact q.elim
theorem de_fnB (hc : CallR X (.builtin id) r) (P : PFun (gv X) r g) (hg : Gl X x) (hm : X.mg x = none) (hv : bootBuiltins x = some (.builtin id)) (ha : DA X W (e :: es) a) (hn : x ≠ "__name__" := by decide) (hdb : (x == ("__debug__" : Str)) = false := by decide)
    (he : starEach (e :: es) X.env = (false, eval e X.env) :: starEach es X.env := by rfl) (hpl : (backTo pos (starEach es X.env)).any (·.1) = false := by rfl) : DE X W (.Call (.Name x p) (e :: es) [] pos) (cFn g a) :=
  (pe_callB hc hg hm hv ha hn hdb he hpl).le fun _ _ _ h => fn_rd P h
theorem de_fnT (hc : CallR X (.type T) r) (P : PFun (gv X) r g) (hg : Gl X x) (hm : X.mg x = none) (hv : bootBuiltins x = some (.type T)) (ha : DA X W (e :: es) a) (hn : x ≠ "__name__" := by decide) (hdb : (x == ("__debug__" : Str)) = false := by decide)
    (he : starEach (e :: es) X.env = (false, eval e X.env) :: starEach es X.env := by rfl) (hpl : (backTo pos (starEach es X.env)).any (·.1) = false := by rfl) : DE X W (.Call (.Name x p) (e :: es) [] pos) (cFn g a) :=
  (pe_callTy hc hg hm hv ha hn hdb he hpl).le fun _ _ _ h => fn_rd P h
end
theorem paired1 {P : D → V → Prop} {d : D} {vs : List V} (h : Paired P [d] vs) : ∃ v, vs = [v] ∧ P d v := by
  cases h with
  | cons p t => cases t; exact ⟨_, rfl, p⟩
theorem paired2 {P : D → V → Prop} {d e : D} {vs : List V} (h : Paired P [d, e] vs) : ∃ v w, vs = [v, w] ∧ P d v ∧ P e w := by
  cases h with
  | cons p t => cases t with
    | cons q u => cases u; exact ⟨_, _, rfl, p, q⟩
def gLen : List D → Option D
  | [.str z] => if z.length ≤ sizeLine then some (.int z.length) else none
  | [.tup ds] => some (.int ds.length)
  | [.lst ds] => some (.int ds.length)
  | [.flst ds] => some (.int ds.length)
  | [.dct kvs] => some (.int kvs.length)
  | _ => none
def gAbs : List D → Option D
  | [.int i] => some (.int (if i < 0 then -i else i))
  | _ => none
def gInt : List D → Option D
  | [.int i] => some (.int i)
  | [.bl k] => some (.int (if k then 1 else 0))
  | _ => none
def gStr : List D → Option D
  | [.int i] => if i.natAbs.log2 < 1920 then some (.str (toString i)) else none
  | _ => none
def gMin2 : List D → Option D
  | [.int i, .int j] => some (.int (if j < i then j else i))
  | _ => none
def gMax2 : List D → Option D
  | [.int i, .int j] => some (.int (if j > i then j else i))
  | _ => none
def gList : List D → Option D
  | [.tup ds] => if D.imms ds = true then some (.lst ds) else none
  | [.lst ds] => if D.imms ds = true then some (.lst ds) else none
  | [.flst ds] => if D.imms ds = true then some (.lst ds) else none
  | _ => none
def gTuple : List D → Option D
  | [.tup ds] => if D.imms ds = true then some (.tup ds) else none
  | [.lst ds] => if D.imms ds = true then some (.tup ds) else none
  | [.flst ds] => if D.imms ds = true then some (.tup ds) else none
  | _ => none
theorem RepK.len {G : Gv} {H : Hp} : ∀ {ds : List (D × D)} {vs : List (Key × V)} {fp : List Addr}, RepK G H ds vs fp → vs.length = ds.length
  | [], _, _, h => by rw [h.1]; rfl
  | (_, d) :: ds, vs, fp, ⟨_, v, r, f1, f2, e, ek, p, q, dj, ef⟩ => by
    subst e
    simp [RepK.len q]
def rLenA (K : PySem.W.Frag) : List V → Hp → VK → Prop := fun xs H Q => (∃ x n, xs = [x] ∧ LenV K x H n ∧ Q (.int n) H) ∨ (∃ a kvs, xs = [.ref a] ∧ H a = some (.dK kvs) ∧ Q (.int kvs.length) H)
theorem CallR.or {X : Cx} {f : Value} {r r' : List V → Hp → VK → Prop} (h : CallR X f r) (h' : CallR X f r') : CallR X f (fun xs H Q => r xs H Q ∨ r' xs H Q) := by
  intro pins s σ H xs us Q I rv q
  rcases q with q | q
  · exact h pins s σ H xs us Q I rv q
  · exact h' pins s σ H xs us Q I rv q
theorem call_lenK {X : Cx} : CallR X (.builtin "len") (fun xs H Q => ∃ a kvs, xs = [.ref a] ∧ H a = some (.dK kvs) ∧ Q (.int kvs.length) H) := by
  intro pins s σ H xs us Q I rv q
  obtain ⟨a, kvs, e, hd, q⟩ := q
  subst e
  obtain ⟨u, eu, ru⟩ := vals1 rv
  subst eu
  obtain rfl : u = Value.ref a := ru
  exact d_len I (.inl hd) fun t s1 I1 => ⟨.int kvs.length, H, I1, ⟨t, rfl⟩, q⟩
theorem call_lenA {X : Cx} : CallR X (.builtin "len") (rLenA X.K) := CallR.or call_len call_lenK
theorem pLen {G : Gv} : PFun G (rLenA G.K) gLen := by
  intro ds d vs H Q g pr q
  unfold gLen at g
  split at g
  · obtain ⟨v, e, f, r⟩ := paired1 pr
    split at g
    · rename_i hz
      cases g
      subst e
      exact .inl ⟨v, _, rfl, by rw [r.1]; exact ⟨hz, rfl⟩, q _ H [] Keep.refl ⟨rfl, rfl⟩ fr0⟩
    · cases g
  · obtain ⟨v, e, f, a, vs', ev, s, r⟩ := paired1 pr
    cases g
    subst e ev
    exact .inl ⟨_, _, rfl, .inr ⟨vs', s, rfl⟩, q _ H [] Keep.refl ⟨by rw [r.len], rfl⟩ fr0⟩
  · obtain ⟨v, e, f, a, vs', f1, ev, s, r, _⟩ := paired1 pr
    cases g
    subst e ev
    exact .inl ⟨_, _, rfl, .inl ⟨vs', .inl (.inl s), rfl⟩, q _ H [] Keep.refl ⟨by rw [r.len], rfl⟩ fr0⟩
  · obtain ⟨v, e, f, a, o, vs', ev, s, r, _⟩ := paired1 pr
    cases g
    subst e ev
    exact .inl ⟨_, _, rfl, .inl ⟨vs', .inl (.inr ⟨o, s⟩), rfl⟩, q _ H [] Keep.refl ⟨by rw [r.len], rfl⟩ fr0⟩
  · obtain ⟨v, e, f, a, vs', f1, ev, s, r, _⟩ := paired1 pr
    cases g
    subst e ev
    exact .inr ⟨a, vs', rfl, s, q _ H [] Keep.refl ⟨by rw [r.len], rfl⟩ fr0⟩
  · cases g
theorem pAbs {G : Gv} : PFun G (fun xs H Q => ∃ i, xs = [.int i] ∧ Q (.int (if i < 0 then -i else i)) H) gAbs := by
  intro ds d vs H Q g pr q
  unfold gAbs at g
  split at g
  · obtain ⟨v, e, f, r⟩ := paired1 pr
    cases g
    subst e
    exact ⟨_, by rw [r.1], q _ H [] Keep.refl ⟨rfl, rfl⟩ fr0⟩
  · cases g
theorem pInt {G : Gv} : PFun G (fun xs H Q => (∃ i, xs = [.int i] ∧ Q (.int i) H) ∨ ∃ k, xs = [.bl k] ∧ Q (.int (if k then 1 else 0)) H) gInt := by
  intro ds d vs H Q g pr q
  unfold gInt at g
  split at g
  · obtain ⟨v, e, f, r⟩ := paired1 pr
    cases g
    subst e
    exact .inl ⟨_, by rw [r.1], q _ H [] Keep.refl ⟨rfl, rfl⟩ fr0⟩
  · obtain ⟨v, e, f, r⟩ := paired1 pr
    cases g
    subst e
    exact .inr ⟨_, by rw [r.1], q _ H [] Keep.refl ⟨rfl, rfl⟩ fr0⟩
  · cases g
theorem pStr {G : Gv} : PFun G (fun xs H Q => ∃ i, xs = [.int i] ∧ i.natAbs.log2 < 1920 ∧ Q (.str (toString i)) H) gStr := by
  intro ds d vs H Q g pr q
  unfold gStr at g
  split at g
  · obtain ⟨v, e, f, r⟩ := paired1 pr
    split at g
    · rename_i hz
      cases g
      subst e
      exact ⟨_, by rw [r.1], hz, q _ H [] Keep.refl ⟨rfl, rfl⟩ fr0⟩
    · cases g
  · cases g
theorem pMin2 {G : Gv} : PFun G (fun xs H Q => ∃ i j, xs = [.int i, .int j] ∧ Q (.int (if j < i then j else i)) H) gMin2 := by
  intro ds d vs H Q g pr q
  unfold gMin2 at g
  split at g
  · obtain ⟨v, w, e, ⟨f, r⟩, ⟨f', r'⟩⟩ := paired2 pr
    cases g
    subst e
    exact ⟨_, _, by rw [r.1, r'.1], q _ H [] Keep.refl ⟨rfl, rfl⟩ fr0⟩
  · cases g
theorem pMax2 {G : Gv} : PFun G (fun xs H Q => ∃ i j, xs = [.int i, .int j] ∧ Q (.int (if j > i then j else i)) H) gMax2 := by
  intro ds d vs H Q g pr q
  unfold gMax2 at g
  split at g
  · obtain ⟨v, w, e, ⟨f, r⟩, ⟨f', r'⟩⟩ := paired2 pr
    cases g
    subst e
    exact ⟨_, _, by rw [r.1, r'.1], q _ H [] Keep.refl ⟨rfl, rfl⟩ fr0⟩
  · cases g
theorem pList {G : Gv} : PFun G (fun xs H Q => ∃ p ys, xs = [.ref p] ∧ (SqL G.K H p ys ∨ SqT G.K H p ys) ∧ ∀ l, H l = none → Q (.ref l) (upd H l (.lst ys))) gList := by
  intro ds d vs H Q g pr q
  unfold gList at g
  split at g
  · obtain ⟨v, e, f, a, vs', ev, s, r⟩ := paired1 pr
    split at g
    · rename_i im
      cases g
      subst e ev
      exact ⟨a, vs', rfl, .inr s, fun l n => q _ _ [l] (keepF n) (new_lst im r n) (fr1 n)⟩
    · cases g
  · obtain ⟨v, e, f, a, vs', f1, ev, s, r, _⟩ := paired1 pr
    split at g
    · rename_i im
      cases g
      subst e ev
      exact ⟨a, vs', rfl, .inl (.inl (.inl s)), fun l n => q _ _ [l] (keepF n) (new_lst im r n) (fr1 n)⟩
    · cases g
  · obtain ⟨v, e, f, a, o, vs', ev, s, r, _⟩ := paired1 pr
    split at g
    · rename_i im
      cases g
      subst e ev
      exact ⟨a, vs', rfl, .inl (.inl (.inr ⟨o, s⟩)), fun l n => q _ _ [l] (keepF n) (new_lst im r n) (fr1 n)⟩
    · cases g
  · cases g
theorem pTuple {G : Gv} : PFun G (fun xs H Q => ∃ p ys, xs = [.ref p] ∧ ((SqL G.K H p ys ∧ ∀ l, H l = none → Q (.ref l) (upd H l (.tup ys))) ∨ (SqT G.K H p ys ∧ Q (.ref p) H))) gTuple := by
  intro ds d vs H Q g pr q
  unfold gTuple at g
  split at g
  · obtain ⟨v, e, f, a, vs', ev, s, r⟩ := paired1 pr
    split at g
    · rename_i im
      cases g
      subst e ev
      have ef := Reps.imm _ _ _ im r
      subst ef
      exact ⟨a, vs', rfl, .inr ⟨s, q _ H [] Keep.refl ⟨a, vs', rfl, s, r⟩ fr0⟩⟩
    · cases g
  · obtain ⟨v, e, f, a, vs', f1, ev, s, r, _⟩ := paired1 pr
    split at g
    · rename_i im
      cases g
      subst e ev
      exact ⟨a, vs', rfl, .inl ⟨.inl (.inl s), fun l n => q _ _ [] (keepF n) (new_tup im r n) fr0⟩⟩
    · cases g
  · obtain ⟨v, e, f, a, o, vs', ev, s, r, _⟩ := paired1 pr
    split at g
    · rename_i im
      cases g
      subst e ev
      exact ⟨a, vs', rfl, .inl ⟨.inl (.inr ⟨o, s⟩), fun l n => q _ _ [] (keepF n) (new_tup im r n) fr0⟩⟩
    · cases g
  · cases g
end A2
end S_A2g
section S_A2h
set_option Elab.async false
set_option linter.all false
set_option maxRecDepth 100000
set_option maxHeartbeats 4000000
open PySem PySem.Spec L2
open PyProof.Rows hiding St
namespace A2
/-! ## and, or, not, if .. else, chains -/
def cAndT (a b : TC) : TC := ⟨fun σd => (a.run σd).bind fun c σ1 => if c then b.run σ1 else .ok false σ1, a.rw ++ b.rw⟩
def cOrT (a b : TC) : TC := ⟨fun σd => (a.run σd).bind fun c σ1 => if c then .ok true σ1 else b.run σ1, a.rw ++ b.rw⟩
def cNotT (a : TC) : TC := ⟨fun σd => (a.run σd).bind fun c σ1 => .ok (!c) σ1, a.rw⟩
def cIfE (t : TC) (a b : EC) : EC := ⟨fun σd => (t.run σd).bind fun c σ1 => if c then a.run σ1 else b.run σ1, t.rw ++ (a.rw ++ b.rw)⟩
/-- a test as a value -/
def cVal (t : TC) : EC := ⟨fun σd => (t.run σd).bind fun c σ1 => .ok (.tmp (.bl c)) σ1, t.rw⟩
section
variable {G : Gv} {W : WX} {H H1 H2 H' : Hp} {σd σd1 σd2 σd' : DSt} {σ : St} {fps fps1 fps2 fps' : Nat → List Addr} {r r1 r2 : List Nat} {tf tf' e1 e2 ex : List Addr}
/-- a test, then another test -/
theorem rdT_seq {a : TC} {f : Bool → DSt → Res Bool} {R Q : Bool → Hp → Prop} {rr : List Nat} (ha : ∀ j ∈ a.rw, j ∈ rr) (h : rdT G W ⟨fun σd => (a.run σd).bind f, rr⟩ σ H Q)
    (k : ∀ b σd1 H1 fps1, EnvR G H1 σd1 σ fps1 → rdrT G W rr [] σ H1 σd1 fps1 (f b σd1) Q → R b H1) : rdT G W a σ H R := by
  obtain ⟨σd, fps, E, q⟩ := h
  dsimp only at q
  refine seqT (r := rr) (tf := []) E ha (fun x σd1 h1 H1 fps1 E1 S1 => ?_) (fun x σd1 h1 => ?_) (fun h1 => ?_)
  · rw [h1] at q
    exact k x σd1 H1 fps1 E1 (rdrT.push (R := f x σd1) S1 E1 nilD ha (fun _ h => h) q)
  · rw [h1] at q
    exact q
  · rw [h1] at q
    exact q
/-- a test, then an expression -/
theorem rdT_then {a : TC} {f : Bool → DSt → Res RV} {R : Bool → Hp → Prop} {Q : VK} {rr : List Nat} (ha : ∀ j ∈ a.rw, j ∈ rr) (h : rd G W ⟨fun σd => (a.run σd).bind f, rr⟩ σ H Q)
    (k : ∀ b σd1 H1 fps1, EnvR G H1 σd1 σ fps1 → rdr G W rr [] σ H1 σd1 fps1 (f b σd1) Q → R b H1) : rdT G W a σ H R := by
  obtain ⟨σd, fps, E, q⟩ := h
  dsimp only at q
  refine seqT (r := rr) (tf := []) E ha (fun x σd1 h1 H1 fps1 E1 S1 => ?_) (fun x σd1 h1 => ?_) (fun h1 => ?_)
  · rw [h1] at q
    exact k x σd1 H1 fps1 E1 (rdr.push (R := f x σd1) S1 E1 nilD ha (fun _ h => h) q)
  · rw [h1] at q
    exact q
  · rw [h1] at q
    exact q
theorem rdr.sub {R : Res RV} {Q : VK} (h : ∀ j ∈ r1, j ∈ r) (q : rdr G W r tf σ H σd fps R Q) : rdr G W r1 tf σ H σd fps R Q := by
  cases R with
  | ok rv σ' => exact fun v H' fps' f E rr s => q v H' fps' f E rr (s.wk h (fun _ h => h) (fun _ h => .inl h))
  | err x σ' => exact fun c dx H' fps' E rr s => q c dx H' fps' E rr (s.wk h (fun _ h => h) (fun _ h => .inl h))
  | bad => exact q
theorem rdrT.sub {R : Res Bool} {Q : Bool → Hp → Prop} (h : ∀ j ∈ r1, j ∈ r) (q : rdrT G W r tf σ H σd fps R Q) : rdrT G W r1 tf σ H σd fps R Q := by
  cases R with
  | ok rv σ' => exact fun H' fps' E s => q H' fps' E (s.wk h (fun _ h => h) (fun _ h => .inl h))
  | err x σ' => exact fun c dx H' fps' E rr s => q c dx H' fps' E rr (s.wk h (fun _ h => h) (fun _ h => .inl h))
  | bad => exact q
theorem and_rd {a b : TC} {Q : Bool → Hp → Prop} (h : rdT G W (cAndT a b) σ H Q) : tAnd (rdT G W a) (rdT G W b) σ H Q :=
  rdT_seq mem_l h fun c σd1 H1 fps1 E1 q => by
    cases c with
    | true => exact ⟨σd1, fps1, E1, rdrT.sub mem_r q⟩
    | false => exact q H1 fps1 E1 (Stp.refl fun _ h => nomatch h)
theorem or_rd {a b : TC} {Q : Bool → Hp → Prop} (h : rdT G W (cOrT a b) σ H Q) : tOr (rdT G W a) (rdT G W b) σ H Q :=
  rdT_seq mem_l h fun c σd1 H1 fps1 E1 q => by
    cases c with
    | false => exact ⟨σd1, fps1, E1, rdrT.sub mem_r q⟩
    | true => exact q H1 fps1 E1 (Stp.refl fun _ h => nomatch h)
theorem not_rd {a : TC} {Q : Bool → Hp → Prop} (h : rdT G W (cNotT a) σ H Q) : tNot (rdT G W a) σ H Q :=
  rdT_seq (fun _ h => h) h fun c σd1 H1 fps1 E1 q => q H1 fps1 E1 (Stp.refl fun _ h => nomatch h)
theorem ife_rd {t : TC} {a b : EC} {Q : VK} (h : rd G W (cIfE t a b) σ H Q) : tIf (rdT G W t) (rd G W a) (rd G W b) σ H Q :=
  rdT_then mem_l h fun c σd1 H1 fps1 E1 q => by
    cases c with
    | true => exact ⟨σd1, fps1, E1, rdr.sub (fun j h => mem_r j (mem_l j h)) q⟩
    | false => exact ⟨σd1, fps1, E1, rdr.sub (fun j h => mem_r j (mem_r j h)) q⟩
/-- the value of a test, as a bool -/
theorem val_rd {t : TC} {Q : VK} (h : rd G W (cVal t) σ H Q) : rdT G W t σ H fun c H1 => Q (.bl c) H1 :=
  rdT_then (fun _ h => h) h fun c σd1 H1 fps1 E1 q => q (.bl c) H1 fps1 [] E1 ⟨⟨rfl, rfl⟩, fun _ => djnil⟩ (Stp.refl fun _ h => nomatch h)
/-- an expression whose value is a bool: as a test, then back -/
theorem cTst_rd {a : EC} {R : VK} (h : rdT G W (cTst a) σ H fun c H1 => R (.bl c) H1) : rd G W a σ H R := by
  have h' := tst_rd h
  obtain ⟨σd, fps, E, q⟩ := h'
  refine ⟨σd, fps, E, ?_⟩
  cases hr : a.run σd with
  | ok rv σd1 =>
    rw [hr] at q
    intro v H' fps' f E' R' S'
    obtain ⟨k, e, q'⟩ := q v H' fps' f E' R' S'
    rw [e]
    exact q'
  | err x σd1 => rw [hr] at q; exact q
  | bad => rw [hr] at q; exact q
end
section
variable {X : Cx} {W : WX} {pos : Pos} {a b c : Expr} {rest : List Expr} {ta tb : TC} {ca cb cc : EC}
theorem dw_and1 (ha : DT X W a ta) : DW X W (.BoolOp .And [a] pos) ta := pw_and1 ha
theorem dw_or1 (ha : DT X W a ta) : DW X W (.BoolOp .Or [a] pos) ta := pw_or1 ha
theorem dw_and (ha : DT X W a ta) (hb : DW X W (.BoolOp .And (b :: rest) pos) tb) : DW X W (.BoolOp .And (a :: b :: rest) pos) (cAndT ta tb) := (pw_and ha hb).le fun _ _ _ h => and_rd h
theorem dw_or (ha : DT X W a ta) (hb : DW X W (.BoolOp .Or (b :: rest) pos) tb) : DW X W (.BoolOp .Or (a :: b :: rest) pos) (cOrT ta tb) := (pw_or ha hb).le fun _ _ _ h => or_rd h
theorem dt_w (h : DW X W a ta) : DT X W a ta := PW.pt h
theorem dt_not (ha : DT X W a ta) : DT X W (.UnaryOp .Not a pos) (cNotT ta) := (pt_not ha).le fun _ _ _ h => not_rd h
theorem de_ife (hc : DT X W c ta) (ha : DE X W a ca) (hb : DE X W b cb) : DE X W (.IfExp c a b pos) (cIfE ta ca cb) := (pe_ifExp hc ha hb).le fun _ _ _ h => ife_rd h
/-- and, or, not as values: of bools -/
theorem de_and1 (ha : DE X W a ca) : DE X W (.BoolOp .And [a] pos) ca := pe_one ha
theorem de_or1 (ha : DE X W a ca) : DE X W (.BoolOp .Or [a] pos) ca := pe_one ha
def cAndV (a : EC) (b : EC) : EC := cIfE (cTst a) b (cK (.bl false))
def cOrV (a : EC) (b : EC) : EC := cIfE (cTst a) (cK (.bl true)) b
theorem andV_rd {G : Gv} {σ : St} {H : Hp} {Q : VK} {a b : EC} (h : rd G W (cAndV a b) σ H Q) : tAndV (rd G W a) (rd G W b) σ H Q := by
  have h1 : rdT G W (cTst a) σ H fun c H1 => if c = true then rd G W b σ H1 Q else Q (.bl false) H1 :=
    rdT_then mem_l h fun c σd1 H1 fps1 E1 q => by
      cases c with
      | true => exact ⟨σd1, fps1, E1, rdr.sub (fun j h => mem_r j (mem_l j h)) q⟩
      | false => exact q (.bl false) H1 fps1 [] E1 ⟨⟨rfl, rfl⟩, fun _ => djnil⟩ (Stp.refl fun _ h => nomatch h)
  exact tst_rd h1
theorem orV_rd {G : Gv} {σ : St} {H : Hp} {Q : VK} {a b : EC} (h : rd G W (cOrV a b) σ H Q) : tOrV (rd G W a) (rd G W b) σ H Q := by
  have h1 : rdT G W (cTst a) σ H fun c H1 => if c = true then Q (.bl true) H1 else rd G W b σ H1 Q :=
    rdT_then mem_l h fun c σd1 H1 fps1 E1 q => by
      cases c with
      | false => exact ⟨σd1, fps1, E1, rdr.sub (fun j h => mem_r j (mem_r j h)) q⟩
      | true => exact q (.bl true) H1 fps1 [] E1 ⟨⟨rfl, rfl⟩, fun _ => djnil⟩ (Stp.refl fun _ h => nomatch h)
  exact tst_rd h1
theorem de_and (ha : DE X W a ca) (hb : DE X W (.BoolOp .And (b :: rest) pos) cb) : DE X W (.BoolOp .And (a :: b :: rest) pos) (cAndV ca cb) := (pe_and ha hb).le fun _ _ _ h => andV_rd h
theorem de_or (ha : DE X W a ca) (hb : DE X W (.BoolOp .Or (b :: rest) pos) cb) : DE X W (.BoolOp .Or (a :: b :: rest) pos) (cOrV ca cb) := (pe_or ha hb).le fun _ _ _ h => orV_rd h
def cNotV (a : EC) : EC := cVal (cNotT (cTst a))
theorem de_not (ha : DE X W a ca) : DE X W (.UnaryOp .Not a pos) (cNotV ca) := (pe_not ha).le fun σ H Q h => tst_rd (not_rd (Q := fun c H1 => Q (.bl c) H1) (val_rd h))
end
/-! ## truth -/
def truD : D → Option Bool
  | .non => some false
  | .bl b => some b
  | .int i => some (i != 0)
  | .str y => if y.length ≤ sizeLine then some ((y.length : Int) != 0) else none
  | .tup ds => some (!ds.isEmpty)
  | .lst ds => some (!ds.isEmpty)
  | .flst ds => some (!ds.isEmpty)
  | .dct kvs => some (!kvs.isEmpty)
  | _ => none
def truOf (x : RV) (σd : DSt) : Res Bool := match x.get σd with
  | some d => (match truD d with
    | some k => .ok k σd
    | none => .bad)
  | none => .bad
def cTru (c : EC) : TC := ⟨fun σd => (c.run σd).bind truOf, c.rw⟩
theorem empty_of {α β : Type} {a : List α} {b : List β} (h : a.length = b.length) : (!a.isEmpty) = !b.isEmpty := by
  cases a <;> cases b <;> simp at h ⊢
theorem truD_rep {G : Gv} {H : Hp} {d : D} {v : V} {f : List Addr} {k : Bool} (r : Rep G H d v f) (e : truD d = some k) : TruV G.K v H k := by
  cases d with
  | non => cases e; rw [r.1]; rfl
  | bl b => cases e; rw [r.1]; rfl
  | int i => cases e; rw [r.1]; rfl
  | str y =>
    unfold truD at e
    dsimp only at e
    split at e
    · rename_i h
      cases e
      rw [r.1]
      exact ⟨h, rfl⟩
    · cases e
  | tup ds =>
    obtain ⟨a, vs, ev, s, rs⟩ := r
    cases e
    rw [ev]
    exact .inr (.inl ⟨vs, s, (empty_of rs.len).symm⟩)
  | lst ds =>
    obtain ⟨a, vs, f1, ev, s, rs, _⟩ := r
    cases e
    rw [ev]
    exact .inl ⟨vs, .inl (.inl s), (empty_of rs.len).symm⟩
  | flst ds =>
    obtain ⟨a, o, vs, ev, s, rs, _⟩ := r
    cases e
    rw [ev]
    exact .inl ⟨vs, .inl (.inr ⟨o, s⟩), (empty_of rs.len).symm⟩
  | dct ds =>
    obtain ⟨a, vs, f1, ev, s, rs, _⟩ := r
    cases e
    rw [ev]
    exact .inr (.inr ⟨vs, s, (empty_of rs.len).symm⟩)
  | ins c fs => cases e
  | fdct fs => cases e
theorem dt_tru {X : Cx} {W : WX} {a : Expr} {ca : EC} (ha : DE X W a ca) (he : ∀ whole, isTrue a X.env whole = (do let v ← whole; standAt a.pos; holding [v] (truthy v)) := by intro _; rfl) : DT X W a (cTru ca) :=
  (pt_truth ha he).le fun σ H Q h => by
    obtain ⟨σd, fps, E, q⟩ := h
    refine ⟨σd, fps, E, ?_⟩
    unfold cTru at q
    dsimp only at q
    cases hr : ca.run σd with
    | ok rv σd1 =>
      rw [hr] at q
      change rdrT (gv X) W ca.rw [] σ H σd fps (truOf rv σd1) Q at q
      intro v H' fps' f E' R' S'
      unfold truOf at q
      split at q
      · rename_i d hd
        obtain ⟨f', rp, _⟩ := R'.rep E' hd
        split at q
        · rename_i k hk
          exact ⟨k, truD_rep rp hk, q H' fps' E' (S'.wk (fun _ h => h) (fun _ h => h) (fun _ h => nomatch h))⟩
        · exact q.elim
      · exact q.elim
    | err x σd1 => rw [hr] at q; exact q
    | bad => rw [hr] at q; exact q
end A2
end S_A2h
section S_A2i
set_option Elab.async false
set_option linter.all false
set_option maxRecDepth 100000
set_option maxHeartbeats 4000000
open PySem PySem.Spec L2
open PyProof.Rows hiding St
namespace A2
/-! ## a op b op c -/
def chainK (g1 g2 : D → D → Option D) (c : EC) (x y : RV) (σd : DSt) : Res RV := match x.get σd, y.get σd with
  | some d1, some d2 => (match g1 d1 d2 with
    | some (.bl true) => (c.run σd).bind fun z σ3 => if stab y c.rw then fin2 g2 y z σ3 else .bad
    | some (.bl false) => .ok (.tmp (.bl false)) σd
    | _ => .bad)
  | _, _ => .bad
def cChain (g1 g2 : D → D → Option D) (a b c : EC) : EC := ⟨run2 a b (chainK g1 g2 c), (a.rw ++ b.rw) ++ c.rw⟩
section
variable {G : Gv} {W : WX} {H H1 H2 H' : Hp} {σd σd1 σd2 σd' : DSt} {σ : St} {fps fps1 fps2 fps' : Nat → List Addr} {r r1 r2 : List Nat} {tf tf' e1 e2 ex : List Addr}
theorem RvR.grow {x : RV} {v : V} {f : List Addr} (k : Keep (fun _ => False) H H') (h : RvR G H σ fps x v f) : RvR G H' σ fps x v f := by
  cases x with
  | tmp d => exact ⟨Rep.keep k d v f (fun _ _ z => z) h.1, h.2⟩
  | plc s p =>
    obtain ⟨e, v0, e0, t⟩ := h
    exact ⟨e, v0, e0, At.same (fun a o q nt => k.at_ a o q nt (.inl id)) p v0 v t⟩
theorem chain_rd {g1 g2 : D → D → Option D} {rr rr' : R2} {a b c : EC} {Q : VK} (P1 : POp2 G rr g1) (P2 : POp2 G rr' g2) (h : rd G W (cChain g1 g2 a b c) σ H Q) : tChain rr rr' (rd G W a) (rd G W b) (rd G W c) σ H Q := by
  obtain ⟨σd, fps, E, q⟩ := h
  refine rd_two (r := (a.rw ++ b.rw) ++ c.rw) (tf := []) E (fun j h => mem_l j (mem_l j h)) (fun j h => mem_l j (mem_r j h)) q nilD nilN fun x y σd2 v1 v2 H2 fps2 f1 f2 E2 R1 R2 d12 S2 _ q2 => ?_
  unfold chainK at q2
  split at q2
  · rename_i d1 d2 h1 h2
    obtain ⟨g1', r1, _⟩ := R1.rep E2 h1
    obtain ⟨g2', r2, _⟩ := R2.rep E2 h2
    split at q2
    · rename_i hg
      refine P1 d1 d2 _ v1 v2 g1' g2' H2 _ hg r1 r2 fun v H3 fp k rp fr => ⟨true, rp.1, ?_⟩
      rw [if_pos rfl]
      have E3 := E2.all k
      have q3 := rdr.push (r2 := (a.rw ++ b.rw) ++ c.rw) (Stp.grow (r := (a.rw ++ b.rw) ++ c.rw) k fun a h => .inr (.inl h)) E3 (e1 := f2 ++ (f1 ++ [])) (fun j b hb => by
        simp only [List.mem_append] at hb
        rcases hb with hb | hb | hb
        · exact R2.dj j b hb
        · exact R1.dj j b hb
        · cases hb) (fun _ h => h) (fun _ h => h) q2
      have R2' := R2.grow k
      refine seqE (r := (a.rw ++ b.rw) ++ c.rw) (tf := f2 ++ (f1 ++ [])) E3 mem_r (fun z σd4 h4 w H4 fps4 f4 E4 R4 S4 => ?_) (fun z σd4 h4 => ?_) (fun h4 => ?_)
      · change rdr G W _ _ σ H3 σd2 fps2 ((c.run σd2).bind _) Q at q3
        rw [h4] at q3
        change rdr G W _ _ σ H3 σd2 fps2 (if stab y c.rw = true then fin2 g2 y z σd4 else .bad) Q at q3
        split at q3
        · rename_i st
          have tD : ∀ j, Dj (f2 ++ (f1 ++ [])) (fps2 j) := fun j b hb => by
            simp only [List.mem_append] at hb
            rcases hb with hb | hb | hb
            · exact R2.dj j b hb
            · exact R1.dj j b hb
            · cases hb
          have tN : ∀ b ∈ f2 ++ (f1 ++ []), H3 b ≠ none := fun b hb => by
            have : H2 b ≠ none := by
              simp only [List.mem_append] at hb
              rcases hb with hb | hb | hb
              · exact R2.dom b hb
              · exact R1.dom b hb
              · cases hb
            exact k.dom b this
          obtain ⟨S4', td4, tn4, dj4⟩ := Stp.beside S4 tD tN
          obtain ⟨R2'', _⟩ := R2'.step S4 st
          have q4 := rdr.push (r2 := (a.rw ++ b.rw) ++ c.rw) S4' E4 (fun j b hb => by
            rcases List.mem_append.mp hb with hb | hb
            · exact R4.dj j b hb
            · exact td4 j b hb) mem_r (fun _ h => h) q3
          exact fin2_end P2 E4 R2'' R4 q4
        · exact q3.elim
      · change rdr G W _ _ σ H3 σd2 fps2 ((c.run σd2).bind _) Q at q3
        rw [h4] at q3
        exact q3
      · change rdr G W _ _ σ H3 σd2 fps2 ((c.run σd2).bind _) Q at q3
        rw [h4] at q3
        exact q3
    · rename_i hg
      refine P1 d1 d2 _ v1 v2 g1' g2' H2 _ hg r1 r2 fun v H3 fp k rp fr => ⟨false, rp.1, ?_⟩
      rw [if_neg Bool.false_ne_true]
      exact fin_new E2 q2 k ⟨rfl, rfl⟩ fr0
    · exact q2.elim
  · exact q2.elim
end
section
variable {X : Cx} {W : WX} {pos : Pos} {a b c : Expr} {ca cb cc : EC} {r r' : R2} {g g' : D → D → Option D} {op op' : CmpOp}
theorem de_chain (ho : OpR X (compareOp op) r) (P : POp2 (gv X) r g) (ho' : OpR X (compareOp op') r') (P' : POp2 (gv X) r' g') (ha : DE X W a ca) (hb : DE X W b cb) (hc : DE X W c cc) (hm : lastMarks [op, op'] [b, c] = false := by with_unfolding_all rfl) :
    DE X W (.Compare a [op, op'] [b, c] pos) (cChain g g' ca cb cc) := (pe_chain ho ho' ha hb hc hm).le fun _ _ _ h => chain_rd P P' h
theorem dt_chain (ho : OpR X (compareOp op) r) (P : POp2 (gv X) r g) (ho' : OpR X (compareOp op') r') (P' : POp2 (gv X) r' g') (ha : DE X W a ca) (hb : DE X W b cb) (hc : DE X W c cc) (hm : lastMarks [op, op'] [b, c] = false := by with_unfolding_all rfl) :
    DT X W (.Compare a [op, op'] [b, c] pos) (cTst (cChain g g' ca cb cc)) := (pt_chain ho ho' ha hb hc hm).le fun _ _ _ h => chain_rd P P' (tst_rd h)
end
/-! ## statements -/
inductive SRes where
  | nx (σ : DSt) | rt (d : D) (σ : DSt) | bk (σ : DSt) | ct (σ : DSt) | er (x : Exc) (σ : DSt) | bad
structure SC where
  run : DSt → SRes
  rw : List Nat
  asg : List Nat
def SameV (asg : List Nat) (σ σ' : St) : Prop := σ'.length = σ.length ∧ ∀ j, j ∉ asg → σ'[j]? = σ[j]?
theorem SameV.mono {a b : List Nat} {σ σ' : St} (h : SameV a σ σ') (s : ∀ j ∈ a, j ∈ b) : SameV b σ σ' := ⟨h.1, fun j n => h.2 j fun z => n (s j z)⟩
def rdsr (G : Gv) (W : WX) (rw asg : List Nat) (tf : List Addr) (σ : St) (H : Hp) (σd : DSt) (fps : Nat → List Addr) (r : SRes) (D : Ends) : Prop :=
  match r with
  | .nx σd' => ∀ σ' H' fps', EnvR G H' σd' σ' fps' → Stp rw tf H σd fps H' σd' fps' [] → SameV asg σ σ' → D.nx σ' H'
  | .rt d σd' => ∀ v σ' H' fps' f, EnvR G H' σd' σ' fps' → Rep G H' d v f → (∀ j, Dj f (fps' j)) → Stp rw tf H σd fps H' σd' fps' f → SameV asg σ σ' → D.rt v H'
  | .bk σd' => ∀ σ' H' fps', EnvR G H' σd' σ' fps' → Stp rw tf H σd fps H' σd' fps' [] → SameV asg σ σ' → D.bk σ' H'
  | .ct σd' => ∀ σ' H' fps', EnvR G H' σd' σ' fps' → Stp rw tf H σd fps H' σd' fps' [] → SameV asg σ σ' → D.ct σ' H'
  | .er x σd' => ∀ c dx σ' H' fps', EnvR G H' σd' σ' fps' → ExR G H' x c dx → Stp rw tf H σd fps H' σd' fps' [] → SameV asg σ σ' → W c dx σ' H'
  | .bad => False
def rdS (G : Gv) (W : WX) (c : SC) : TS := fun D σ H => ∃ σd fps, EnvR G H σd σ fps ∧ rdsr G W c.rw c.asg [] σ H σd fps (c.run σd) D
abbrev DS (X : Cx) (W : WX) (st : Stmt) (c : SC) : Prop := PS X st (rdS (gv X) W c)
abbrev DSs (X : Cx) (W : WX) (st : List Stmt) (c : SC) : Prop := PSs X st (rdS (gv X) W c)
theorem _root_.L2.PS.le {X : Cx} {e : Stmt} {t t' : TS} (h : PS X e t) (k : ∀ D σ H, t' D σ H → t D σ H) : PS X e t' := ⟨fun pins s σ H D I q => h.run pins s σ H D I (k D σ H q)⟩
theorem _root_.L2.PSs.le {X : Cx} {e : List Stmt} {t t' : TS} (h : PSs X e t) (k : ∀ D σ H, t' D σ H → t D σ H) : PSs X e t' := ⟨fun pins s σ H D I q => h.run pins s σ H D I (k D σ H q)⟩
section
variable {G : Gv} {W : WX} {H H1 H2 H' : Hp} {σd σd1 σd2 σd' : DSt} {σ σ1 σ' : St} {fps fps1 fps2 fps' : Nat → List Addr} {r r1 r2 a0 a1 a2 : List Nat} {tf tf' e1 e2 ex : List Addr} {D : Ends}
theorem SameV.refl : SameV a0 σ σ := ⟨rfl, fun _ _ => rfl⟩
theorem SameV.then (h : SameV a1 σ σ1) (h' : SameV a2 σ1 σ') (s1 : ∀ j ∈ a1, j ∈ a0) (s2 : ∀ j ∈ a2, j ∈ a0) : SameV a0 σ σ' := ⟨h'.1.trans h.1, fun j n => (h'.2 j fun z => n (s2 j z)).trans (h.2 j fun z => n (s1 j z))⟩
theorem rdsr.push {R : SRes} (s1 : Stp r1 tf H σd fps H1 σd1 fps1 e1) (v1 : SameV a1 σ σ1) (E1 : EnvR G H1 σd1 σ1 fps1) (d1 : ∀ j, Dj e1 (fps1 j)) (h1 : ∀ j ∈ r1, j ∈ r) (h2 : ∀ j ∈ r2, j ∈ r) (g1 : ∀ j ∈ a1, j ∈ a0) (g2 : ∀ j ∈ a2, j ∈ a0)
    (q : rdsr G W r a0 tf σ H σd fps R D) : rdsr G W r2 a2 e1 σ1 H1 σd1 fps1 R D := by
  cases R with
  | nx σ' => exact fun σ' H' fps' E s v => q σ' H' fps' E (s1.then E1.dj d1 s h1 h2) (v1.then v g1 g2)
  | rt d σ' => exact fun v σ' H' fps' f E rp dj s sv => q v σ' H' fps' f E rp dj (s1.then E1.dj d1 s h1 h2) (v1.then sv g1 g2)
  | bk σ' => exact fun σ' H' fps' E s v => q σ' H' fps' E (s1.then E1.dj d1 s h1 h2) (v1.then v g1 g2)
  | ct σ' => exact fun σ' H' fps' E s v => q σ' H' fps' E (s1.then E1.dj d1 s h1 h2) (v1.then v g1 g2)
  | er x σ' => exact fun c dx σ' H' fps' E rr s v => q c dx σ' H' fps' E rr (s1.then E1.dj d1 s h1 h2) (v1.then v g1 g2)
  | bad => exact q
theorem rdsr.sub {R : SRes} (h : ∀ j ∈ r1, j ∈ r) (g : ∀ j ∈ a1, j ∈ a0) (q : rdsr G W r a0 tf σ H σd fps R D) : rdsr G W r1 a1 tf σ H σd fps R D := by
  have sv : ∀ {σ'}, SameV a1 σ σ' → SameV a0 σ σ' := fun s => s.mono g
  cases R with
  | nx σ' => exact fun σ' H' fps' E s v => q σ' H' fps' E (s.wk h (fun _ h => h) (fun _ h => .inl h)) (sv v)
  | rt d σ' => exact fun v σ' H' fps' f E rp dj s w => q v σ' H' fps' f E rp dj (s.wk h (fun _ h => h) (fun _ h => .inl h)) (sv w)
  | bk σ' => exact fun σ' H' fps' E s v => q σ' H' fps' E (s.wk h (fun _ h => h) (fun _ h => .inl h)) (sv v)
  | ct σ' => exact fun σ' H' fps' E s v => q σ' H' fps' E (s.wk h (fun _ h => h) (fun _ h => .inl h)) (sv v)
  | er x σ' => exact fun c dx σ' H' fps' E rr s v => q c dx σ' H' fps' E rr (s.wk h (fun _ h => h) (fun _ h => .inl h)) (sv v)
  | bad => exact q
/-- temps may be forgotten -/
theorem rdsr.less {R : SRes} (q : rdsr G W r a0 tf σ H σd fps R D) : rdsr G W r a0 [] σ H σd fps R D := by
  cases R with
  | nx σ' => exact fun σ' H' fps' E s v => q σ' H' fps' E (s.wk (fun _ h => h) (fun _ h => nomatch h) (fun _ h => .inl h)) v
  | rt d σ' => exact fun v σ' H' fps' f E rp dj s w => q v σ' H' fps' f E rp dj (s.wk (fun _ h => h) (fun _ h => nomatch h) (fun _ h => .inl h)) w
  | bk σ' => exact fun σ' H' fps' E s v => q σ' H' fps' E (s.wk (fun _ h => h) (fun _ h => nomatch h) (fun _ h => .inl h)) v
  | ct σ' => exact fun σ' H' fps' E s v => q σ' H' fps' E (s.wk (fun _ h => h) (fun _ h => nomatch h) (fun _ h => .inl h)) v
  | er x σ' => exact fun c dx σ' H' fps' E rr s v => q c dx σ' H' fps' E rr (s.wk (fun _ h => h) (fun _ h => nomatch h) (fun _ h => .inl h)) v
  | bad => exact q
/-- an expression, then a statement's step on its value -/
def bindS {α : Type} (r : Res α) (f : α → DSt → SRes) : SRes := match r with
  | .ok a σ => f a σ
  | .err x σ => .er x σ
  | .bad => .bad
theorem rdS_E {a : EC} {f : RV → DSt → SRes} {R : VK} {rr aa : List Nat} (ha : ∀ j ∈ a.rw, j ∈ rr) (h : rdS G W ⟨fun σd => bindS (a.run σd) f, rr, aa⟩ D σ H)
    (k : ∀ x σd1 v H1 fps1 f1, EnvR G H1 σd1 σ fps1 → RvR G H1 σ fps1 x v f1 → rdsr G W rr aa f1 σ H1 σd1 fps1 (f x σd1) D → R v H1) : rd G W a σ H R := by
  obtain ⟨σd, fps, E, q⟩ := h
  dsimp only at q
  refine seqE (r := rr) (tf := []) E ha (fun x σd1 h1 v1 H1 fps1 f1 E1 R1 S1 => ?_) (fun x σd1 h1 => ?_) (fun h1 => ?_)
  · rw [h1] at q
    exact k x σd1 v1 H1 fps1 f1 E1 R1 (rdsr.push (R := f x σd1) S1 SameV.refl E1 R1.dj ha (fun _ h => h) (fun _ h => h) (fun _ h => h) q)
  · rw [h1] at q
    exact fun c dx H' fps' E' R' S' => q c dx σ H' fps' E' R' S' SameV.refl
  · rw [h1] at q
    exact q
theorem rdS_T {a : TC} {f : Bool → DSt → SRes} {R : Bool → Hp → Prop} {rr aa : List Nat} (ha : ∀ j ∈ a.rw, j ∈ rr) (h : rdS G W ⟨fun σd => bindS (a.run σd) f, rr, aa⟩ D σ H)
    (k : ∀ b σd1 H1 fps1, EnvR G H1 σd1 σ fps1 → rdsr G W rr aa [] σ H1 σd1 fps1 (f b σd1) D → R b H1) : rdT G W a σ H R := by
  obtain ⟨σd, fps, E, q⟩ := h
  dsimp only at q
  refine seqT (r := rr) (tf := []) E ha (fun x σd1 h1 H1 fps1 E1 S1 => ?_) (fun x σd1 h1 => ?_) (fun h1 => ?_)
  · rw [h1] at q
    exact k x σd1 H1 fps1 E1 (rdsr.push (R := f x σd1) S1 SameV.refl E1 nilD ha (fun _ h => h) (fun _ h => h) (fun _ h => h) q)
  · rw [h1] at q
    exact fun c dx H' fps' E' R' S' => q c dx σ H' fps' E' R' S' SameV.refl
  · rw [h1] at q
    exact q
end
def sNil : SC := ⟨fun σd => .nx σd, [], []⟩
def sSeq (a b : SC) : SC := ⟨fun σd => match a.run σd with
  | .nx σ1 => b.run σ1
  | r => r, a.rw ++ b.rw, a.asg ++ b.asg⟩
def sIf (t : TC) (a b : SC) : SC := ⟨fun σd => bindS (t.run σd) fun c σ1 => if c then a.run σ1 else b.run σ1, t.rw ++ (a.rw ++ b.rw), a.asg ++ b.asg⟩
def sExpr (c : EC) : SC := ⟨fun σd => bindS (c.run σd) fun _ σ1 => .nx σ1, c.rw, []⟩
def sRet (c : EC) : SC := ⟨fun σd => bindS (c.run σd) fun x σ1 => match x with
  | .tmp d => .rt d σ1
  | .plc _ _ => .bad, c.rw, []⟩
def sRetN : SC := ⟨fun σd => .rt .non σd, [], []⟩
def sBreak : SC := ⟨fun σd => .bk σd, [], []⟩
def sCont : SC := ⟨fun σd => .ct σd, [], []⟩
section
variable {X : Cx} {W : WX} {pos : Pos} {st : Stmt} {rest : List Stmt} {e : Expr} {c : EC} {a b : SC} {t : TC}
theorem dss_nil : DSs X W [] sNil := pss_nil.le fun D σ H ⟨σd, fps, E, q⟩ => q σ H fps E (Stp.refl fun _ h => nomatch h) SameV.refl
theorem ds_pass : DS X W (.Pass pos) sNil := ps_pass.le fun D σ H ⟨σd, fps, E, q⟩ => q σ H fps E (Stp.refl fun _ h => nomatch h) SameV.refl
theorem ds_break : DS X W (.Break pos) sBreak := ps_break.le fun D σ H ⟨σd, fps, E, q⟩ => q σ H fps E (Stp.refl fun _ h => nomatch h) SameV.refl
theorem ds_continue : DS X W (.Continue pos) sCont := ps_continue.le fun D σ H ⟨σd, fps, E, q⟩ => q σ H fps E (Stp.refl fun _ h => nomatch h) SameV.refl
theorem seq_rd {G : Gv} {D : Ends} {σ : St} {H : Hp} (h : rdS G W (sSeq a b) D σ H) : tSeq (rdS G W a) (rdS G W b) D σ H := by
  obtain ⟨σd, fps, E, q⟩ := h
  refine ⟨σd, fps, E, ?_⟩
  unfold sSeq at q
  dsimp only at q
  cases hr : a.run σd with
  | nx σ1 =>
    rw [hr] at q
    exact fun σ' H' fps' E' S' V' => ⟨σ1, fps', E', rdsr.push S' V' E' nilD mem_l mem_r mem_l mem_r q⟩
  | rt d σ1 => rw [hr] at q; exact rdsr.sub (R := .rt d σ1) mem_l mem_l q
  | bk σ1 => rw [hr] at q; exact rdsr.sub (R := .bk σ1) mem_l mem_l q
  | ct σ1 => rw [hr] at q; exact rdsr.sub (R := .ct σ1) mem_l mem_l q
  | er x σ1 => rw [hr] at q; exact rdsr.sub (R := .er x σ1) mem_l mem_l q
  | bad => rw [hr] at q; exact q
theorem dss_cons (h1 : DS X W st a) (h2 : DSs X W rest b) : DSs X W (st :: rest) (sSeq a b) := (pss_cons h1 h2).le fun _ _ _ h => seq_rd h
theorem dss_one (h1 : DS X W st a) : DSs X W [st] a := pss_one h1
theorem ds_if {s1 s2 : List Stmt} (hc : DT X W e t) (ha : DSs X W s1 a) (hb : DSs X W s2 b) : DS X W (.If e s1 s2 pos) (sIf t a b) := (ps_if hc ha hb).le fun D σ H h =>
  rdS_T mem_l h fun k σd1 H1 fps1 E1 q => by
    cases k with
    | true => exact ⟨σd1, fps1, E1, rdsr.sub (fun j h => mem_r j (mem_l j h)) mem_l q⟩
    | false => exact ⟨σd1, fps1, E1, rdsr.sub (fun j h => mem_r j (mem_r j h)) mem_r q⟩
theorem ds_expr (h : DE X W e c) (hs : swapsWith e none pos.line X.env = pure false := by rfl) : DS X W (.Expr e pos) (sExpr c) := (ps_expr h hs).le fun D σ H h =>
  rdS_E (fun _ h => h) h fun x σd1 v H1 fps1 f1 E1 R1 q => q σ H1 fps1 E1 (Stp.refl fun _ h => nomatch h) SameV.refl
theorem ds_ret (h : DE X W e c) : DS X W (.Return (some e) pos) (sRet c) := (ps_ret h).le fun D σ H h =>
  rdS_E (fun _ h => h) h fun x σd1 v H1 fps1 f1 E1 R1 q => by
    cases x with
    | tmp d => exact q v σ H1 fps1 f1 E1 R1.1 R1.2 (Stp.refl fun _ h => .inr h) SameV.refl
    | plc s p => exact q.elim
theorem ds_retN : DS X W (.Return none pos) sRetN := ps_retN.le fun D σ H ⟨σd, fps, E, q⟩ => q .non σ H fps [] E ⟨rfl, rfl⟩ nilD (Stp.refl fun _ h => nomatch h) SameV.refl
end
/-! ## x = e -/
section
variable {G : Gv} {W : WX} {H H1 H2 H' : Hp} {σd σd1 σd2 σd' : DSt} {σ σ1 σ' : St} {fps fps1 fps2 fps' : Nat → List Addr} {r r1 r2 a0 a1 a2 : List Nat} {tf tf' e1 e2 ex : List Addr} {D : Ends}
theorem EnvR.put {i : Nat} {d : A2.D} {v : V} {f : List Addr} (E : EnvR G H σd σ fps) (hi : i < σd.length) (r : Rep G H d v f) (dj : ∀ j, Dj f (fps j)) : EnvR G H (σd.set i (some d)) (σ.set i (some v)) (setFp fps i f) where
  tb := E.tb
  len := by rw [List.length_set, List.length_set]; exact E.len
  rep := fun j e he => by
    by_cases hj : j = i
    · subst hj
      rw [List.getElem?_set_self hi] at he
      cases he
      refine ⟨v, by rw [List.getElem?_set_self (by rw [← E.len]; exact hi)], ?_⟩
      unfold setFp
      rw [if_pos rfl]
      exact r
    · rw [getset (Ne.symm hj)] at he
      obtain ⟨w, e1, q⟩ := E.rep j e he
      refine ⟨w, by rw [getset (Ne.symm hj)]; exact e1, ?_⟩
      unfold setFp
      rw [if_neg hj]
      exact q
  dj := fun j k n => by
    unfold setFp
    by_cases h1 : j = i
    · rw [if_pos h1, if_neg (fun z => n (h1.trans z.symm))]
      exact dj k
    · rw [if_neg h1]
      by_cases h2 : k = i
      · rw [if_pos h2]
        exact (dj j).symm
      · rw [if_neg h2]
        exact E.dj j k n
  ded := fun j n => by
    by_cases hj : j = i
    · subst hj
      exact absurd (List.getElem?_set_self hi) (n d)
    · unfold setFp
      rw [if_neg hj]
      exact E.ded j fun e => by rw [← getset (x := some d) (Ne.symm hj)]; exact n e
theorem Stp.put {i : Nat} {d : Option A2.D} {f : List Addr} (hi : i ∈ r) (hf : ∀ a ∈ f, a ∈ tf) : Stp r tf H σd fps H (σd.set i d) (setFp fps i f) [] where
  keep := Keep.refl
  new := fun a z => by
    rcases z with z | ⟨j, z⟩
    · cases z
    · unfold setFp at z
      split at z
      · exact .inr (.inl (hf a z))
      · exact .inl ⟨j, z⟩
  same := fun j n => by
    have hj : j ≠ i := fun z => n (z ▸ hi)
    exact ⟨getset (Ne.symm hj), by unfold setFp; rw [if_neg hj]⟩
  dom := fun _ h => h
theorem SameV.put {i : Nat} {v : Option V} (hi : i ∈ a0) : SameV a0 σ (σ.set i v) := ⟨List.length_set .., fun j n => getset fun z => n (z ▸ hi)⟩
end
def setOf (i : Nat) (x : RV) (σd : DSt) : SRes := match x with
  | .tmp d => if i < σd.length then .nx (σd.set i (some d)) else .bad
  | .plc _ _ => .bad
def sSet (i : Nat) (c : EC) : SC := ⟨fun σd => bindS (c.run σd) (setOf i), i :: c.rw, [i]⟩
theorem ds_set {X : Cx} {W : WX} {x : Str} {e : Expr} {c : EC} {pos pos' : Pos} (i : Nat) (hN : X.N.Nodup) (h : DE X W e c) (hi : X.N[i]? = some x := by rfl) (hx : Loc X.env.scope x := by first | exact Or.inl rfl | exact Or.inr rfl) (hs : swapsWith e (some (.Name x pos')) pos.line X.env = pure false := by rfl)
    (hf : X.fn x = true ∨ X.env.scope.names.lookup x = some .local := by first | exact .inl rfl | exact .inr rfl | assumption) : DS X W (.Assign [.Name x pos'] e pos) (sSet i c) := (ps_set hN hi hx h hs hf).le fun D σ H h =>
  rdS_E (fun j h => List.mem_cons_of_mem _ h) h fun y σd1 v H1 fps1 f1 E1 R1 q => by
    cases y with
    | plc s p => exact q.elim
    | tmp d =>
      unfold setOf at q
      dsimp only at q
      split at q
      · rename_i hl
        exact q _ H1 (setFp fps1 i f1) (E1.put hl R1.1 R1.2) (Stp.put (List.mem_cons_self ..) (fun _ h => h)) (SameV.put (List.mem_singleton.mpr rfl))
      · exact q.elim
end A2
end S_A2i
section S_A2j
set_option Elab.async false
set_option linter.all false
set_option maxRecDepth 100000
set_option maxHeartbeats 4000000
open PySem PySem.Spec L2
open PyProof.Rows hiding St
namespace A2
/-! ## defs by their data -/
inductive CRes where
  | ok (d : D) (outs : DSt) | err (x : Exc) | bad
structure FnC where
  n : Nat
  run : List D → CRes
  rw : List Nat
def crd (G : Gv) (rw : List Nat) (H : Hp) (ds : List D) (vs : List V) (fps : Nat → List Addr) (r : CRes) (Q : VK) (E : XK) : Prop :=
  match r with
  | .ok d outs => ∀ v H' fps' g, EnvR G H' outs (vs.map some) fps' → Rep G H' d v g → (∀ j, Dj g (fps' j)) → Stp rw [] H (ds.map some) fps H' outs fps' g → Q v H'
  | .err x => ∀ c dx H', ExR G H' x c dx → Keep (fun a => ∃ j, j ∈ rw ∧ a ∈ fps j) H H' → (∀ a, H a ≠ none → H' a ≠ none) → E c dx H'
  | .bad => False
def spF (G : Gv) (f : FnC) : Sp := fun vs H Q E => vs.length = f.n ∧ ∃ ds fps, EnvR G H (ds.map some) (vs.map some) fps ∧ crd G f.rw H ds vs fps (f.run ds) Q E
/-! ### the arguments as the callee's names -/
def places : List RV → List Nat
  | [] => []
  | .tmp _ :: r => places r
  | .plc s _ :: r => s :: places r
theorem mem_places {s : Nat} {p : List Step} : ∀ {rvs : List RV} {k : Nat}, rvs[k]? = some (.plc s p) → s ∈ places rvs
  | [], _, e => by simp at e
  | x :: r, 0, e => by
    have e' : x = .plc s p := by simpa using e
    subst e'
    exact List.mem_cons_self ..
  | .tmp _ :: r, k + 1, e => mem_places (rvs := r) (by simpa using e)
  | .plc _ _ :: r, k + 1, e => List.mem_cons_of_mem _ (mem_places (rvs := r) (by simpa using e))
def consF (f : List Addr) (g : Nat → List Addr) : Nat → List Addr
  | 0 => f
  | k + 1 => g k
section
variable {G : Gv} {W : WX} {H H1 H2 H' : Hp} {σd σd1 σd2 σd' : DSt} {σ σ1 σ' : St} {fps fps1 fps2 fps' : Nat → List Addr} {r r1 r2 a0 a1 a2 : List Nat} {tf tf' e1 e2 ex : List Addr}
theorem envr_nil (t : Tbs G H) : EnvR G H [] [] (fun _ => []) := ⟨rfl, fun i d e => by simp at e, fun _ _ _ => djnil, fun _ _ => rfl, t⟩
theorem envr_cons {d : D} {v : V} {f : List Addr} {g : Nat → List Addr} (E : EnvR G H σd σ g) (r : Rep G H d v f) (dj : ∀ j, Dj f (g j)) : EnvR G H (some d :: σd) (some v :: σ) (consF f g) where
  tb := E.tb
  len := by simp [E.len]
  rep := fun i e he => by
    cases i with
    | zero =>
      have e' : d = e := by simpa using he
      subst e'
      exact ⟨v, rfl, r⟩
    | succ i =>
      obtain ⟨w, e1, q⟩ := E.rep i e (by simpa using he)
      exact ⟨w, by simpa using e1, q⟩
  dj := fun i j n => by
    cases i with
    | zero =>
      cases j with
      | zero => exact absurd rfl n
      | succ j => exact dj j
    | succ i =>
      cases j with
      | zero => exact (dj i).symm
      | succ j => exact E.dj i j (fun z => n (by rw [z]))
  ded := fun i n => by
    cases i with
    | zero => exact absurd (by simp) (n d)
    | succ i => exact E.ded i (fun d => by simpa using n d)
theorem args_env (E : EnvR G H σd σ fps) : ∀ {rvs : List RV} {vs : List V} {f : List Addr} {ds : List D}, RvsR G H σ fps rvs vs f → getAll σd rvs = some ds → (places rvs).Nodup →
    ∃ fc, EnvR G H (ds.map some) (vs.map some) fc ∧ (∀ k a, a ∈ fc k → a ∈ f ∨ ∃ s p, rvs[k]? = some (.plc s p) ∧ a ∈ fps s) ∧ (∀ k s, rvs[k]? = some (.plc s []) → fc k = fps s ∧ ∃ v, vs[k]? = some v ∧ σ[s]? = some (some v) ∧ ∃ d, σd[s]? = some (some d))
  | [], vs, f, ds, h, g, _ => by
    cases g
    rw [h.1]
    exact ⟨fun _ => [], envr_nil E.tb, fun _ _ h => (nomatch h), fun k s e => by simp at e⟩
  | x :: rvs, vs, f, ds, ⟨v, r, f1, f2, ev, p, q, dj, ef⟩, g, nd => by
    subst ev ef
    unfold getAll at g
    split at g
    · rename_i d ds' h1 h2
      cases g
      cases x with
      | tmp d0 =>
        obtain ⟨fc, E', P1, P2⟩ := args_env E q h2 nd
        have e0 : d0 = d := Option.some.inj h1
        subst e0
        refine ⟨consF f1 fc, envr_cons E' p.1 (fun j a ha z => ?_), fun k a ha => ?_, fun k s e => ?_⟩
        · rcases P1 j a z with h | ⟨s, pp, _, h⟩
          · exact dj a ha h
          · exact p.2 s a ha h
        · cases k with
          | zero => exact .inl (List.mem_append_left _ ha)
          | succ k =>
            rcases P1 k a ha with h | ⟨s, pp, h, z⟩
            · exact .inl (List.mem_append_right _ h)
            · exact .inr ⟨s, pp, by simpa using h, z⟩
        · cases k with
          | zero => simp at e
          | succ k =>
            obtain ⟨z1, w, z2, z3⟩ := P2 k s (by simpa using e)
            exact ⟨z1, w, by simpa using z2, z3⟩
      | plc s0 p0 =>
        have nd' := List.nodup_cons.mp nd
        obtain ⟨fc, E', P1, P2⟩ := args_env E q h2 nd'.2
        obtain ⟨e1, v0, e0, at0⟩ := p
        subst e1
        unfold RV.get at h1
        dsimp only at h1
        split at h1
        · rename_i d0 hd
          obtain ⟨v1, ev1, r1⟩ := E.rep s0 d0 hd
          rw [e0] at ev1
          cases ev1
          obtain ⟨w, fM, at1, r2, sub, _⟩ := Rep.focus p0 d0 v0 (fps s0) d r1 h1
          have ew := At.fun p0 v0 w v at1 at0
          subst ew
          refine ⟨consF (if p0 = [] then fps s0 else fM) fc, envr_cons E' ?_ (fun j a ha z => ?_), fun k a ha => ?_, fun k s e => ?_⟩
          · by_cases hp : p0 = []
            · subst hp
              rw [if_pos rfl]
              have e2 : d0 = d := by simpa [getP] using h1
              subst e2
              have e3 : w = v0 := at0
              rw [e3]
              exact r1
            · rw [if_neg hp]
              exact r2
          · have ha' : a ∈ fps s0 := by
              by_cases hp : p0 = []
              · rwa [if_pos hp] at ha
              · rw [if_neg hp] at ha
                exact sub a ha
            rcases P1 j a z with h | ⟨s, pp, h, z'⟩
            · exact RvsR.dj q s0 a h ha'
            · have hs : s ∈ places rvs := mem_places h
              have ne : s0 ≠ s := fun z => nd'.1 (z ▸ hs)
              exact E.dj s0 s ne a ha' z'
          · cases k with
            | zero =>
              refine .inr ⟨s0, p0, rfl, ?_⟩
              change a ∈ (if p0 = [] then fps s0 else fM) at ha
              by_cases hp : p0 = []
              · rwa [if_pos hp] at ha
              · rw [if_neg hp] at ha
                exact sub a ha
            | succ k =>
              rcases P1 k a ha with h | ⟨s, pp, h, z⟩
              · exact .inl (List.mem_append_right _ h)
              · exact .inr ⟨s, pp, by simpa using h, z⟩
          · cases k with
            | zero =>
              have e' : s0 = s ∧ p0 = [] := by simpa using e
              obtain ⟨rfl, rfl⟩ := e'
              have e3 : w = v0 := at0
              exact ⟨rfl, w, rfl, by rw [e3]; exact e0, d0, hd⟩
            | succ k =>
              obtain ⟨z1, w, z2, z3⟩ := P2 k s (by simpa using e)
              exact ⟨z1, w, by simpa using z2, z3⟩
        · cases h1
    · cases g
/-- what was lent comes back -/
def wb (rw : List Nat) : Nat → List RV → DSt → DSt → DSt
  | k, x :: r, o :: os, σd => wb rw (k + 1) r os (match x with
    | .plc s [] => if k ∈ rw then σd.set s o else σd
    | _ => σd)
  | _, _, _, σd => σd
/-- only whole names are lent to be changed, and these are told -/
def lendOk (rw lw : List Nat) : Nat → List RV → Bool
  | _, [] => true
  | k, x :: r => (match x with
    | .plc s [] => decide (k ∈ rw → s ∈ lw)
    | .plc _ _ => decide (k ∉ rw)
    | .tmp _ => true) && lendOk rw lw (k + 1) r
def target (rw : List Nat) : Nat → List RV → Nat → Option Nat
  | _, [], _ => none
  | k, .plc s [] :: r, i => if s = i ∧ k ∈ rw then some k else target rw (k + 1) r i
  | k, _ :: r, i => target rw (k + 1) r i
theorem target_some {rw : List Nat} : ∀ {rvs : List RV} {k i m : Nat}, target rw k rvs i = some m → k ≤ m ∧ rvs[m - k]? = some (.plc i []) ∧ m ∈ rw
  | [], k, i, m, e => by cases e
  | .tmp _ :: r, k, i, m, e => by
    obtain ⟨h1, h2, h3⟩ := target_some (rvs := r) (k := k + 1) e
    exact ⟨by omega, by rw [show m - k = (m - (k + 1)) + 1 by omega]; simpa using h2, h3⟩
  | .plc s [] :: r, k, i, m, e => by
    unfold target at e
    split at e
    · rename_i h
      cases e
      exact ⟨Nat.le_refl _, by rw [Nat.sub_self, h.1]; rfl, h.2⟩
    · obtain ⟨h1, h2, h3⟩ := target_some (rvs := r) (k := k + 1) e
      exact ⟨by omega, by rw [show m - k = (m - (k + 1)) + 1 by omega]; simpa using h2, h3⟩
  | .plc s (_ :: _) :: r, k, i, m, e => by
    obtain ⟨h1, h2, h3⟩ := target_some (rvs := r) (k := k + 1) e
    exact ⟨by omega, by rw [show m - k = (m - (k + 1)) + 1 by omega]; simpa using h2, h3⟩
theorem target_none {rw : List Nat} : ∀ {rvs : List RV} {k i m : Nat}, target rw k rvs i = none → rvs[m]? = some (.plc i []) → k + m ∉ rw
  | [], k, i, m, _, e => by simp at e
  | x :: r, k, i, 0, t, e => by
    have e' : x = .plc i [] := by simpa using e
    subst e'
    unfold target at t
    split at t
    · cases t
    · rename_i h
      exact fun z => h ⟨rfl, z⟩
  | x :: r, k, i, m + 1, t, e => by
    have t' : target rw (k + 1) r i = none := by
      cases x with
      | tmp _ => exact t
      | plc s p =>
        cases p with
        | cons _ _ => exact t
        | nil =>
          unfold target at t
          split at t
          · cases t
          · exact t
    have := target_none (rvs := r) (k := k + 1) (m := m) t' (by simpa using e)
    rwa [show k + (m + 1) = k + 1 + m by omega]
theorem wb_get {rw : List Nat} : ∀ {rvs : List RV} {k : Nat} {os σd : DSt} {i : Nat}, rvs.length = os.length → (places rvs).Nodup → (∀ m, target rw k rvs i = some m → i < σd.length) →
    (wb rw k rvs os σd)[i]? = match target rw k rvs i with
      | some m => os[m - k]?
      | none => σd[i]?
  | [], k, os, σd, i, hl, _, _ => by
    cases os with
    | nil => rfl
    | cons _ _ => simp at hl
  | x :: r, k, [], σd, i, hl, _, _ => by simp at hl
  | .tmp d :: r, k, o :: os, σd, i, hl, nd, hi => by
    have ih := wb_get (rw := rw) (rvs := r) (k := k + 1) (os := os) (σd := σd) (i := i) (by simpa using hl) nd hi
    change (wb rw (k + 1) r os σd)[i]? = match target rw (k + 1) r i with | some m => (o :: os)[m - k]? | none => σd[i]?
    rw [ih]
    cases ht : target rw (k + 1) r i with
    | none => rfl
    | some m =>
      obtain ⟨h1, _, _⟩ := target_some ht
      dsimp only
      rw [show m - k = (m - (k + 1)) + 1 by omega]
      rfl
  | .plc s [] :: r, k, o :: os, σd, i, hl, nd, hi => by
    have nd' := List.nodup_cons.mp nd
    change (wb rw (k + 1) r os (if k ∈ rw then σd.set s o else σd))[i]? = match (if s = i ∧ k ∈ rw then some k else target rw (k + 1) r i) with | some m => (o :: os)[m - k]? | none => σd[i]?
    by_cases h : s = i ∧ k ∈ rw
    · obtain ⟨rfl, hk⟩ := h
      have tn : target rw (k + 1) r s = none := by
        cases ht : target rw (k + 1) r s with
        | none => rfl
        | some m =>
          obtain ⟨_, h2, _⟩ := target_some ht
          exact absurd (mem_places h2) nd'.1
      have hl' : s < σd.length := hi k (by unfold target; rw [if_pos ⟨rfl, hk⟩])
      rw [if_pos hk, wb_get (by simpa using hl) nd'.2 (fun m e => by rw [tn] at e; cases e), tn, if_pos ⟨rfl, hk⟩]
      dsimp only
      rw [Nat.sub_self, List.getElem?_set_self hl']
      rfl
    · have hi' : ∀ m, target rw (k + 1) r i = some m → i < (if k ∈ rw then σd.set s o else σd).length := fun m e => by
        have := hi m (by unfold target; rw [if_neg h]; exact e)
        split
        · rwa [List.length_set]
        · exact this
      rw [wb_get (by simpa using hl) nd'.2 hi', if_neg h]
      cases ht : target rw (k + 1) r i with
      | none =>
        dsimp only
        by_cases hk : k ∈ rw
        · rw [if_pos hk, getset (fun z => h ⟨z, hk⟩)]
        · rw [if_neg hk]
      | some m =>
        obtain ⟨h1, _, _⟩ := target_some ht
        dsimp only
        rw [show m - k = (m - (k + 1)) + 1 by omega]
        rfl
  | .plc s (p :: ps) :: r, k, o :: os, σd, i, hl, nd, hi => by
    have nd' := List.nodup_cons.mp nd
    have ih := wb_get (rw := rw) (rvs := r) (k := k + 1) (os := os) (σd := σd) (i := i) (by simpa using hl) nd'.2 hi
    change (wb rw (k + 1) r os σd)[i]? = match target rw (k + 1) r i with | some m => (o :: os)[m - k]? | none => σd[i]?
    rw [ih]
    cases ht : target rw (k + 1) r i with
    | none => rfl
    | some m =>
      obtain ⟨h1, _, _⟩ := target_some ht
      dsimp only
      rw [show m - k = (m - (k + 1)) + 1 by omega]
      rfl
theorem wb_len {rw : List Nat} : ∀ {rvs : List RV} {k : Nat} {os σd : DSt}, (wb rw k rvs os σd).length = σd.length
  | [], k, os, σd => rfl
  | x :: r, k, [], σd => rfl
  | x :: r, k, o :: os, σd => by
    unfold wb
    rw [wb_len]
    split
    · split
      · exact List.length_set ..
      · rfl
    · rfl
theorem lend_get {rw lw : List Nat} : ∀ {rvs : List RV} {k m : Nat} {x : RV}, lendOk rw lw k rvs = true → rvs[m]? = some x → (∀ s, x = .plc s [] → k + m ∈ rw → s ∈ lw) ∧ (∀ s p ps, x = .plc s (p :: ps) → k + m ∉ rw)
  | [], k, m, x, _, e => by simp at e
  | y :: r, k, 0, x, h, e => by
    have e' : y = x := by simpa using e
    subst e'
    unfold lendOk at h
    have h' := (Bool.and_eq_true_iff.mp h).1
    refine ⟨fun s ex hk => ?_, fun s p ps ex => ?_⟩
    · subst ex
      exact of_decide_eq_true h' hk
    · subst ex
      exact of_decide_eq_true h'
  | y :: r, k, m + 1, x, h, e => by
    unfold lendOk at h
    have := lend_get (rvs := r) (k := k + 1) (m := m) (Bool.and_eq_true_iff.mp h).2 (by simpa using e)
    rwa [show k + (m + 1) = k + 1 + m by omega]
end
end A2
end S_A2j
section S_A2k
set_option Elab.async false
set_option linter.all false
set_option maxRecDepth 100000
set_option maxHeartbeats 4000000
open PySem PySem.Spec L2
open PyProof.Rows hiding St
namespace A2
def killO (rw : List Nat) : Nat → List D → DSt
  | _, [] => []
  | k, d :: ds => (if k ∈ rw then none else some d) :: killO rw (k + 1) ds
theorem killO_get {rw : List Nat} : ∀ {ds : List D} {k m : Nat}, (killO rw k ds)[m]? = (ds[m]?).map fun d => if k + m ∈ rw then none else some d
  | [], k, m => by simp [killO]
  | d :: ds, k, 0 => by simp [killO]
  | d :: ds, k, m + 1 => by
    have := killO_get (rw := rw) (ds := ds) (k := k + 1) (m := m)
    simp only [killO, List.getElem?_cons_succ]
    rw [this, show k + 1 + m = k + (m + 1) by omega]
theorem killO_len {rw : List Nat} : ∀ {ds : List D} {k : Nat}, (killO rw k ds).length = ds.length
  | [], k => rfl
  | d :: ds, k => by simp [killO, killO_len (ds := ds)]
theorem RvsR.len {G : Gv} {H : Hp} {σ : St} {fps : Nat → List Addr} : ∀ {rvs : List RV} {vs : List V} {f : List Addr}, RvsR G H σ fps rvs vs f → rvs.length = vs.length
  | [], vs, f, h => by rw [h.1]; rfl
  | x :: r, vs, f, ⟨v, t, f1, f2, e, p, q, _⟩ => by
    rw [e]
    simp [RvsR.len q]
section
variable {G : Gv} {W : WX} {H H1 H2 H' : Hp} {σd σd1 σd2 σd' : DSt} {σ σ1 σ' : St} {fps fps1 fps2 fps' : Nat → List Addr} {r r1 r2 a0 a1 a2 : List Nat} {tf tf' e1 e2 ex : List Addr}
def retF (t : Nat → Option Nat) (fc fps : Nat → List Addr) : Nat → List Addr := fun i => match t i with
  | some m => fc m
  | none => fps i
/-- behind a call -/
theorem call_env {rvs : List RV} {vs : List V} {f g : List Addr} {ds : List D} {outs : DSt} {fc fc' : Nat → List Addr} {rwf lw : List Nat} (E : EnvR G H σd σ fps) (R : RvsR G H σ fps rvs vs f) (nd : (places rvs).Nodup) (lo : lendOk rwf lw 0 rvs = true)
    (P1 : ∀ k a, a ∈ fc k → a ∈ f ∨ ∃ s p, rvs[k]? = some (.plc s p) ∧ a ∈ fps s) (P2 : ∀ k s, rvs[k]? = some (.plc s []) → fc k = fps s ∧ ∃ v, vs[k]? = some v ∧ σ[s]? = some (some v) ∧ ∃ d, σd[s]? = some (some d))
    (E' : EnvR G H' outs (vs.map some) fc') (dg : ∀ j, Dj g (fc' j)) (S : Stp rwf [] H (ds.map some) fc H' outs fc' g) :
    EnvR G H' (wb rwf 0 rvs outs σd) σ (retF (target rwf 0 rvs) fc' fps) ∧ Stp lw f H σd fps H' (wb rwf 0 rvs outs σd) (retF (target rwf 0 rvs) fc' fps) g ∧ (∀ j, Dj g (retF (target rwf 0 rvs) fc' fps j)) := by
  have hlen : rvs.length = outs.length := by
    rw [E'.len, List.length_map]
    exact R.len
  have hin : ∀ i m, target rwf 0 rvs i = some m → i < σd.length := fun i m e => by
    obtain ⟨_, h2, _⟩ := target_some e
    obtain ⟨_, v, _, _, d, hd⟩ := P2 (m - 0) i h2
    exact (List.getElem?_eq_some_iff.mp hd).1
  have tgt : ∀ {i m}, target rwf 0 rvs i = some m → rvs[m]? = some (.plc i []) ∧ m ∈ rwf := fun e => by
    obtain ⟨_, h2, h3⟩ := target_some e
    exact ⟨by simpa using h2, h3⟩
  have whole : ∀ {k s p}, rvs[k]? = some (.plc s p) → k ∈ rwf → p = [] ∧ s ∈ lw := fun {k s p} e hk => by
    have h := lend_get lo e
    rw [Nat.zero_add] at h
    cases p with
    | nil => exact ⟨rfl, h.1 s rfl hk⟩
    | cons q ps => exact absurd hk (h.2 s q ps rfl)
  have nodom : ∀ {a i}, a ∈ fps i → H a ≠ none := fun h => by
    obtain ⟨o, e, _⟩ := E.dom h
    rw [e]
    exact fun z => nomatch z
  -- an address of the callee's that is ours, at a name that is not lent to be changed, is at a name of the callee's that is not changed
  have ours : ∀ {a i m}, a ∈ fps i → target rwf 0 rvs i = none → a ∈ fc m → m ∉ rwf ∧ fc' m = fc m := fun {a i m} hi tn hm => by
    have h1 : m ∉ rwf := fun hw => by
      rcases P1 m a hm with h | ⟨s, p, h, z⟩
      · exact RvsR.dj R i a h hi
      · obtain ⟨hp, _⟩ := whole h hw
        subst hp
        by_cases es : s = i
        · subst es
          have := target_none tn h
          rw [Nat.zero_add] at this
          exact this hw
        · exact E.dj s i es a z hi
    exact ⟨h1, (S.same m h1).2⟩
  have mix : ∀ {a i j m}, target rwf 0 rvs i = some m → a ∈ fc' m → target rwf 0 rvs j = none → a ∈ fps j → False := fun {a i j m} ti ha tj hj => by
    rcases S.new a (.inr ⟨m, ha⟩) with ⟨n, hn⟩ | hn | hn
    · obtain ⟨h1, h2⟩ := ours hj tj hn
      have hm := (tgt ti).2
      have ne : m ≠ n := fun z => h1 (z ▸ hm)
      exact E'.dj m n ne a ha (by rw [h2]; exact hn)
    · cases hn
    · exact nodom hj hn
  refine ⟨⟨by rw [wb_len]; exact E.len, fun i d e => ?_, fun i j n => ?_, fun i n => ?_, E'.tb⟩, ⟨?kp, fun a z => ?_, fun j n => ?_, S.dom⟩, fun j a ha z => ?_⟩
  · rw [wb_get hlen nd (hin i)] at e
    unfold retF
    cases ht : target rwf 0 rvs i with
    | some m =>
      rw [ht] at e
      dsimp only at e ⊢
      rw [Nat.sub_zero] at e
      obtain ⟨v, e1, q⟩ := E'.rep m d e
      obtain ⟨_, w, e2, e3, _⟩ := P2 m i (tgt ht).1
      rw [List.getElem?_map, e2] at e1
      have e4 : w = v := by simpa using e1
      exact ⟨w, e3, by rw [e4]; exact q⟩
    | none =>
      rw [ht] at e
      dsimp only at e ⊢
      obtain ⟨v, e1, q⟩ := E.rep i d e
      refine ⟨v, e1, Rep.keep S.keep d v _ (fun a ha z => ?_) q⟩
      rcases z with ⟨m, hm, z⟩ | z
      · exact (ours ha ht z).1 hm
      · cases z
  · unfold retF
    cases hi : target rwf 0 rvs i with
    | some m =>
      cases hj : target rwf 0 rvs j with
      | some m' =>
        have ne : m ≠ m' := fun z => by
          subst z
          have := (tgt hi).1.symm.trans (tgt hj).1
          cases this
          exact n rfl
        exact E'.dj m m' ne
      | none => exact fun a ha z => mix hi ha hj z
    | none =>
      cases hj : target rwf 0 rvs j with
      | some m' => exact fun a ha z => mix hj z hi ha
      | none => exact E.dj i j n
  · unfold retF
    cases hi : target rwf 0 rvs i with
    | some m =>
      refine E'.ded m fun d z => n d ?_
      rw [wb_get hlen nd (hin i), hi]
      dsimp only
      rw [Nat.sub_zero]
      exact z
    | none =>
      refine E.ded i fun d z => n d ?_
      rw [wb_get hlen nd (hin i), hi]
      exact z
  case kp =>
    refine S.keep.mono fun a z => ?_
    rcases z with ⟨m, hm, z⟩ | z
    · rcases P1 m a z with h | ⟨s, p, h, z'⟩
      · exact .inr h
      · obtain ⟨_, hs⟩ := whole h hm
        exact .inl ⟨s, hs, z'⟩
    · cases z
  · have old : (∃ m, a ∈ fc m) ∨ H a = none → (∃ j, a ∈ fps j) ∨ a ∈ f ∨ H a = none := fun h => by
      rcases h with ⟨m, hm⟩ | h
      · rcases P1 m a hm with h | ⟨s, p, _, z'⟩
        · exact .inr (.inl h)
        · exact .inl ⟨s, z'⟩
      · exact .inr (.inr h)
    have old' : ∀ h : (∃ j, a ∈ fc j) ∨ a ∈ ([] : List Addr) ∨ H a = none, (∃ j, a ∈ fps j) ∨ a ∈ f ∨ H a = none := fun h => old (h.imp id fun z => z.elim (fun q => nomatch q) id)
    rcases z with z | ⟨j, z⟩
    · exact old' (S.new a (.inl z))
    · unfold retF at z
      split at z
      · exact old' (S.new a (.inr ⟨_, z⟩))
      · exact .inl ⟨j, z⟩
  · have tn : target rwf 0 rvs j = none := by
      cases ht : target rwf 0 rvs j with
      | none => rfl
      | some m => exact absurd (whole (tgt ht).1 (tgt ht).2).2 n
    refine ⟨?_, by unfold retF; rw [tn]⟩
    rw [wb_get hlen nd (hin j), tn]
  · unfold retF at z
    split at z
    · exact dg _ a ha z
    · rename_i tj
      rcases S.new a (.inl ha) with ⟨n, hn⟩ | hn | hn
      · obtain ⟨h1, h2⟩ := ours z tj hn
        exact dg n a ha (by rw [h2]; exact hn)
      · cases hn
      · exact nodom z hn
/-- a callee that raised: what it might change is given up -/
theorem kill_env {vs : List V} {ds : List D} {fc : Nat → List Addr} {rwf : List Nat} (E : EnvR G H (ds.map some) (vs.map some) fc) (k : Keep (fun a => ∃ j, j ∈ rwf ∧ a ∈ fc j) H H') (dm : ∀ a, H a ≠ none → H' a ≠ none) :
    ∃ fc', EnvR G H' (killO rwf 0 ds) (vs.map some) fc' ∧ Stp rwf [] H (ds.map some) fc H' (killO rwf 0 ds) fc' [] := by
  have cut : ∀ i a, a ∈ (if i ∈ rwf then ([] : List Addr) else fc i) → a ∈ fc i := fun i a h => by
    split at h
    · cases h
    · exact h
  refine ⟨fun i => if i ∈ rwf then [] else fc i, ⟨?_, fun i d e => ?_, fun i j n a h z => E.dj i j n a (cut i a h) (cut j a z), fun i n => ?_, E.tb.keep k⟩, ⟨k.mono (fun a h => .inl h), fun a z => ?_, fun j n => ⟨?_, if_neg n⟩, dm⟩⟩
  · rw [killO_len, ← E.len, List.length_map]
  · rw [killO_get, Nat.zero_add] at e
    cases hd : ds[i]? with
    | none => rw [hd] at e; cases e
    | some d0 =>
      rw [hd] at e
      by_cases hi : i ∈ rwf
      · simp [hi] at e
      · have e' : d0 = d := by simpa [hi] using e
        subst e'
        obtain ⟨v, e1, q⟩ := E.rep i d0 (by rw [List.getElem?_map, hd]; rfl)
        refine ⟨v, e1, ?_⟩
        rw [if_neg hi]
        exact Rep.keep k d0 v _ (fun a ha ⟨j, hj, z⟩ => E.dj i j (fun q => hi (q ▸ hj)) a ha z) q
  · by_cases hi : i ∈ rwf
    · exact if_pos hi
    · rw [if_neg hi]
      refine E.ded i fun d z => n d ?_
      rw [killO_get, Nat.zero_add]
      rw [List.getElem?_map] at z
      cases hd : ds[i]? with
      | none => rw [hd] at z; cases z
      | some d0 =>
        rw [hd] at z
        simp [hi]
        simpa using z
  · rcases z with z | ⟨j, z⟩
    · cases z
    · exact .inl ⟨j, cut j a z⟩
  · rw [killO_get, Nat.zero_add, List.getElem?_map]
    cases ds[j]? with
    | none => rfl
    | some d => simp [n]
end
def callOf (f : FnC) (lw : List Nat) (rvs : List RV) (σd : DSt) : Res RV := match getAll σd rvs with
  | some ds => if (places rvs).Nodup ∧ lendOk f.rw lw 0 rvs = true ∧ ds.length = f.n then (match f.run ds with
    | .ok d outs => .ok (.tmp d) (wb f.rw 0 rvs outs σd)
    | .err x => .err x (wb f.rw 0 rvs (killO f.rw 0 ds) σd)
    | .bad => .bad) else .bad
  | none => .bad
def cCall (f : FnC) (lw : List Nat) (a : AC) : EC := ⟨fun σd => (a.run σd).bind (callOf f lw), a.rw ++ lw⟩
theorem call_rd {G : Gv} {W : WX} {σ : St} {H : Hp} {Q : VK} {f : FnC} {lw : List Nat} {a : AC} (h : rd G W (cCall f lw a) σ H Q) : tCallSD (spF G f) [] (fun σ => WE W σ) (rdA G W a) σ H Q :=
  rdA_then h fun rvs σd1 vs H1 fps1 f1 E1 R1 q => by
    unfold callOf at q
    split at q
    · rename_i ds hd
      split at q
      · rename_i hc
        obtain ⟨nd, lo, hn⟩ := hc
        obtain ⟨fc, Ec, P1, P2⟩ := args_env E1 R1 hd nd
        have hv : vs.length = ds.length := by have := Ec.len; simpa using this.symm
        rw [List.append_nil]
        refine ⟨hv.trans hn, ds, fc, Ec, ?_⟩
        unfold crd
        split at q
        · rename_i d outs hr
          try rw [hr]
          intro v H' fc' g E' rp dg S
          obtain ⟨E2, S2, dj2⟩ := call_env E1 R1 nd lo P1 P2 E' dg S
          exact q v H' _ g E2 ⟨rp, dj2⟩ (S2.wk mem_r (fun _ h => h) (fun _ h => .inl h))
        · rename_i x hr
          try rw [hr]
          intro c dx H' xr k dm
          obtain ⟨fc', E', S⟩ := kill_env Ec k dm
          obtain ⟨E2, S2, dj2⟩ := call_env E1 R1 nd lo P1 P2 E' (fun _ => djnil) S
          exact q c dx H' _ E2 xr (S2.wk mem_r (fun _ h => h) (fun _ h => .inl h))
        · exact q.elim
      · exact q.elim
    · exact q.elim
section
variable {X : Cx} {W : WX} {k : Nat} {f : Addr} {fd : FuncData} {ps : List Str} {x : Str} {p pos : Pos} {e : Expr} {es : List Expr} {a : AC} {fn : FnC}
theorem de_call (lw : List Nat) (F : FnOk X.prog X.w X.K X.mg X.base (L2.CX X.prog X.w) k f fd ps (spF (gv X) fn)) (tk : Takes X W) (hr : Room k X.A) (hg : Gl X x) (hm : X.mg x = some (.ref f)) (hk : PySem.W.keepIn X.K (.ref f) = true) (hb : L2.Binds X.K fd ps [])
    (ha : DA X W (e :: es) a) (hdb : (x == ("__debug__" : Str)) = false := by decide) (he : starEach (e :: es) X.env = (false, eval e X.env) :: starEach es X.env := by rfl) (hpl : (backTo pos (starEach es X.env)).any (·.1) = false := by rfl) :
    DE X W (.Call (.Name x p) (e :: es) [] pos) (cCall fn lw a) := (pe_callSD F hr hg hm hk hb (.nil : Vals [] []) (fun σ => passAt tk σ) ha hdb he hpl).le fun _ _ _ h => call_rd h
end
/-! ## a def by its body -/
def outsOf (n : Nat) (asg : List Nat) (σd : DSt) : DSt := (List.range n).map fun i => if i ∈ asg then none else (σd[i]?).join
def fnRun (n m : Nat) (b : SC) (ds : List D) : CRes := match b.run (ds.map some ++ List.replicate (m - n) none) with
  | .nx σ => .ok .non (outsOf n b.asg σ)
  | .rt d σ => .ok d (outsOf n b.asg σ)
  | .er x _ => .err x
  | _ => .bad
def fnOf (n m : Nat) (b : SC) : FnC := ⟨n, fnRun n m b, (List.range n).filter fun i => decide (i ∈ b.rw)⟩
def subB (a b : List Nat) : Bool := a.all fun i => decide (i ∈ b)
theorem subB_ok {a b : List Nat} (h : subB a b = true) : ∀ i ∈ a, i ∈ b := fun i hi => of_decide_eq_true (List.all_eq_true.mp h i hi)
section
variable {G : Gv} {W : WX} {H H1 H2 H' : Hp} {σd σd1 σd2 σd' : DSt} {σ σ1 σ' : St} {fps fps1 fps2 fps' : Nat → List Addr} {r r1 r2 a0 a1 a2 : List Nat} {tf tf' e1 e2 ex : List Addr}
theorem EnvR.more (E : EnvR G H σd σ fps) (j : Nat) : EnvR G H (σd ++ List.replicate j none) (σ ++ List.replicate j none) fps where
  tb := E.tb
  len := by simp [E.len]
  rep := fun i d e => by
    by_cases h : i < σd.length
    · rw [List.getElem?_append_left h] at e
      obtain ⟨v, e1, q⟩ := E.rep i d e
      exact ⟨v, by rw [List.getElem?_append_left (by rw [← E.len]; exact h)]; exact e1, q⟩
    · rw [List.getElem?_append_right (by omega), List.getElem?_replicate] at e
      split at e <;> cases e
  dj := E.dj
  ded := fun i n => E.ded i fun d e => n d (by
    rw [List.getElem?_append_left (List.getElem?_eq_some_iff.mp e).1]
    exact e)
theorem outs_get {n : Nat} {asg : List Nat} {i : Nat} : (outsOf n asg σd)[i]? = if i < n then some (if i ∈ asg then none else (σd[i]?).join) else none := by
  unfold outsOf
  rw [List.getElem?_map]
  by_cases h : i < n
  · rw [if_pos h, List.getElem?_range h]
    rfl
  · rw [if_neg h, List.getElem?_eq_none (by rw [List.length_range]; omega)]
    rfl
theorem fn_end {n m : Nat} {b : SC} {ds : List D} {vs : List V} (hn : vs.length = n) (hd : ds.length = n) (hsub : subB b.asg b.rw = true) (E0 : EnvR G H (ds.map some) (vs.map some) fps)
    (E' : EnvR G H' σd' σ' fps') {g : List Addr} (dg : ∀ j, Dj g (fps' j)) (S : Stp b.rw [] H (ds.map some ++ List.replicate (m - n) none) fps H' σd' fps' g) (sv : SameV b.asg (vs.map some ++ List.replicate (m - n) none) σ') :
    ∃ fc, EnvR G H' (outsOf n b.asg σd') (vs.map some) fc ∧ (∀ j, Dj g (fc j)) ∧ Stp ((List.range n).filter fun i => decide (i ∈ b.rw)) [] H (ds.map some) fps H' (outsOf n b.asg σd') fc g := by
  have cut : ∀ i a, a ∈ (if i < n ∧ i ∉ b.asg then fps' i else ([] : List Addr)) → a ∈ fps' i := fun i a h => by
    split at h
    · exact h
    · cases h
  have small : ∀ j a, a ∈ fps j → j < n := fun j a h => by
    by_cases hj : j < n
    · exact hj
    · rw [E0.ded j fun d e => by
        rw [List.getElem?_eq_none (by rw [List.length_map]; omega)] at e
        cases e] at h
      cases h
  refine ⟨fun i => if i < n ∧ i ∉ b.asg then fps' i else [], ⟨?_, fun i d e => ?_, fun i j ne a h z => E'.dj i j ne a (cut i a h) (cut j a z), fun i nn => ?_, E'.tb⟩, fun j a h z => dg j a h (cut j a z), ⟨S.keep.mono fun a h => ?_, fun a z => ?_, fun j nn => ?_, S.dom⟩⟩
  · unfold outsOf
    simp [hn]
  · rw [outs_get] at e
    split at e
    · rename_i hi
      by_cases ha : i ∈ b.asg
      · rw [if_pos ha] at e
        cases e
      · rw [if_neg ha] at e
        have e' : σd'[i]? = some (some d) := by
          cases hq : σd'[i]? with
          | none => rw [hq] at e; cases e
          | some x => rw [hq] at e; cases x <;> simp_all
        obtain ⟨v, e1, q⟩ := E'.rep i d e'
        have e2 := sv.2 i ha
        rw [e1, List.getElem?_append_left (by rw [List.length_map]; omega)] at e2
        exact ⟨v, e2.symm, by rw [if_pos ⟨hi, ha⟩]; exact q⟩
    · cases e
  · split
    · rename_i h
      refine E'.ded i fun d e => nn d ?_
      rw [outs_get, if_pos h.1, if_neg h.2, e]
      rfl
    · rfl
  · rcases h with ⟨j, hj, h⟩ | h
    · exact .inl ⟨j, List.mem_filter.mpr ⟨List.mem_range.mpr (small j a h), decide_eq_true hj⟩, h⟩
    · exact .inr h
  · rcases z with z | ⟨j, z⟩
    · exact S.new a (.inl z)
    · exact S.new a (.inr ⟨j, cut j a z⟩)
  · by_cases hj : j < n
    · have hr : j ∉ b.rw := fun z => nn (List.mem_filter.mpr ⟨List.mem_range.mpr hj, decide_eq_true z⟩)
      have ha : j ∉ b.asg := fun z => hr (subB_ok hsub j z)
      obtain ⟨s1, s2⟩ := S.same j hr
      refine ⟨?_, by rw [if_pos ⟨hj, ha⟩]; exact s2⟩
      rw [outs_get, if_pos hj, if_neg ha, s1, List.getElem?_append_left (by rw [List.length_map]; omega)]
      cases hq : (ds.map some)[j]? with
      | none =>
        rw [List.getElem?_eq_none_iff, List.length_map] at hq
        omega
      | some x => rfl
    · refine ⟨?_, ?_⟩
      · rw [outs_get, if_neg hj, List.getElem?_eq_none (by rw [List.length_map]; omega)]
      · rw [if_neg (fun z => hj z.1)]
        exact (E0.ded j fun d e => by
          rw [List.getElem?_eq_none (by rw [List.length_map]; omega)] at e
          cases e).symm
end
section
variable {P : Program} {w : World} {K : PySem.W.Frag} {mg : Str → Option Value} {base : Heap}
/-- THE RULE for a def -/
theorem fn_ok {x qual : Str} {st : Stmt} {f : Addr} {fd : FuncData} {N ps : List Str} {k : Nat} {b : SC} (F : Fun K x qual st f fd) (S : FnScope N ps (defScope st)) (hsub : subB b.asg b.rw = true)
    (hbody : ∀ (cdv : Value), fd.code = cdv → ∀ (A : Around) (outer : List Env) (s : Shared) (H : Hp) (E : XK), Room k (A.deeper (envOfC qual (defScope st) s.heap.objs.size f cdv)) →
      Takes (cxOf (L2.CX P w) P w K mg base N qual (defScope st) f cdv A outer s H E) (fun cls d _ H => E cls d H) →
      DSs (cxOf (L2.CX P w) P w K mg base N qual (defScope st) f cdv A outer s H E) (fun cls d _ H => E cls d H) (defBody st) b) :
    FnOk P w K mg base (L2.CX P w) (k + 1) f fd ps (spF ⟨K, mg, tabsOf K⟩ (fnOf ps.length N.length b)) := by
  obtain ⟨oc, od, kV, doc, pm, an, cdv, ct, osl, rfl, lk, hcd⟩ := F.ex
  refine fn_of lk hcd S (fun vs H Q E h => h.1) (fun A outer s H vs Q E hr h => ?_)
  refine ⟨_, hbody cdv rfl A outer s H E hr (takes_of rfl rfl rfl rfl), ?_⟩
  obtain ⟨hn, ds, fps, E0, q⟩ := h
  have hd : ds.length = ps.length := by
    have := E0.len
    rw [List.length_map, List.length_map] at this
    exact this.trans hn
  have hst : L2.start N vs = vs.map some ++ List.replicate (N.length - ps.length) none := by
    unfold L2.start
    rw [hn]
    rfl
  refine ⟨ds.map some ++ List.replicate (N.length - ps.length) none, fps, by rw [hst]; exact E0.more _, ?_⟩
  rw [hst]
  change crd _ _ H ds vs fps (fnRun ps.length N.length b ds) Q E at q
  unfold fnRun at q
  cases hr : b.run (ds.map some ++ List.replicate (N.length - ps.length) none) with
  | nx σd' =>
    rw [hr] at q
    intro σ' H' fps' E' S' V'
    obtain ⟨fc, Ec, dc, Sc⟩ := fn_end hn hd hsub E0 E' (g := []) (fun _ => djnil) S' V'
    exact q .non H' fc [] Ec ⟨rfl, rfl⟩ dc Sc
  | rt d σd' =>
    rw [hr] at q
    intro v σ' H' fps' g E' rp dg S' V'
    obtain ⟨fc, Ec, dc, Sc⟩ := fn_end hn hd hsub E0 E' dg S' V'
    exact q v H' fc g Ec rp dc Sc
  | er z σd' =>
    rw [hr] at q
    intro c dx σ' H' fps' E' xr S' V'
    obtain ⟨fc, Ec, dc, Sc⟩ := fn_end hn hd hsub E0 E' (g := []) (fun _ => djnil) S' V'
    exact q c dx H' xr (Sc.keep.mono fun a h => h.elim id fun z => nomatch z) Sc.dom
  | bk σd' => rw [hr] at q; exact q.elim
  | ct σd' => rw [hr] at q; exact q.elim
  | bad => rw [hr] at q; exact q.elim
end
end A2
end S_A2k
section S_A2l
set_option Elab.async false
set_option linter.all false
set_option maxRecDepth 100000
set_option maxHeartbeats 4000000
open PySem PySem.Spec L2
open PyProof.Rows hiding St
namespace A2
/-! ## targets -/
structure PC where
  run : D → DSt → Option DSt
  rw : List Nat
structure PCs where
  run : List D → DSt → Option DSt
  rw : List Nat
  n : Nat
def rdgr (G : Gv) (rw : List Nat) (tf : List Addr) (σ : St) (H : Hp) (σd : DSt) (fps : Nat → List Addr) (r : Option DSt) (Q : St → Hp → Prop) : Prop :=
  match r with
  | some σd' => ∀ σ' H' fps', EnvR G H' σd' σ' fps' → Stp rw tf H σd fps H' σd' fps' [] → SameV rw σ σ' → Q σ' H'
  | none => False
def rdG (G : Gv) (c : PC) : TG := fun v σ H Q => ∃ σd fps d f, EnvR G H σd σ fps ∧ Rep G H d v f ∧ (∀ j, Dj f (fps j)) ∧ rdgr G c.rw f σ H σd fps (c.run d σd) Q
def rdGs (G : Gv) (c : PCs) : TGs := fun vs σ H Q => ∃ σd fps ds f, EnvR G H σd σ fps ∧ Reps G H ds vs f ∧ (∀ j, Dj f (fps j)) ∧ rdgr G c.rw f σ H σd fps (c.run ds σd) Q
abbrev DG (X : Cx) (e : Expr) (c : PC) : Prop := PG X e (rdG (gv X) c)
abbrev DGs (X : Cx) (e : List Expr) (c : PCs) : Prop := PGs X e (rdGs (gv X) c)
theorem _root_.L2.PG.le {X : Cx} {e : Expr} {t t' : TG} (h : PG X e t) (k : ∀ v σ H Q, t' v σ H Q → t v σ H Q) : PG X e t' := ⟨fun pins s σ H v u Q I r q => h.run pins s σ H v u Q I r (k v σ H Q q)⟩
theorem _root_.L2.PGs.le {X : Cx} {e : List Expr} {t t' : TGs} (h : PGs X e t) (k : ∀ v σ H Q, t' v σ H Q → t v σ H Q) : PGs X e t' := ⟨fun pins s σ H v u Q I r q => h.run pins s σ H v u Q I r (k v σ H Q q)⟩
def pV (i : Nat) : PC := ⟨fun d σd => if i < σd.length then some (σd.set i (some d)) else none, [i]⟩
def pNil : PCs := ⟨fun ds σd => match ds with
  | [] => some σd
  | _ => none, [], 0⟩
def pCons (p : PC) (r : PCs) : PCs := ⟨fun ds σd => match ds with
  | d :: ds => (p.run d σd).bind (r.run ds)
  | [] => none, p.rw ++ r.rw, r.n + 1⟩
def pTup (r : PCs) : PC := ⟨fun d σd => match d with
  | .tup ds => if ds.length = r.n then r.run ds σd else none
  | _ => none, r.rw⟩
section
variable {X : Cx} {pos : Pos} {e : Expr} {es : List Expr} {c : PC} {cs : PCs}
theorem dg_v {x : Str} (i : Nat) (hN : X.N.Nodup) (hi : X.N[i]? = some x := by rfl) (hx : Loc X.env.scope x := by first | exact Or.inl rfl | exact Or.inr rfl) (hf : X.fn x = true ∨ X.env.scope.names.lookup x = some .local := by first | exact .inl rfl | exact .inr rfl | assumption) : DG X (.Name x pos) (pV i) :=
  (pg_name hN hi hx hf).le fun v σ H Q ⟨σd, fps, d, f, E, r, dj, q⟩ => by
    unfold pV at q
    dsimp only at q
    split at q
    · rename_i hl
      exact q _ H (setFp fps i f) (E.put hl r dj) (Stp.put (List.mem_singleton.mpr rfl) (fun _ h => h)) (SameV.put (List.mem_singleton.mpr rfl))
    · exact q.elim
theorem dgs_nil : DGs X [] pNil := pgs_nil.le fun vs σ H Q ⟨σd, fps, ds, f, E, r, dj, q⟩ => by
  cases ds with
  | nil => exact ⟨r.1, q σ H fps E (Stp.refl fun _ h => nomatch h) SameV.refl⟩
  | cons d ds => exact q.elim
theorem dgs_cons (h1 : DG X e c) (h2 : DGs X es cs) (hs : (assignEach (e :: es) X.env).map (·.2) = assign e X.env :: (assignEach es X.env).map (·.2) := by rfl) : DGs X (e :: es) (pCons c cs) :=
  (pgs_cons h1 h2 hs).le fun vs σ H Q ⟨σd, fps, ds, f, E, r, dj, q⟩ => by
    cases ds with
    | nil => exact q.elim
    | cons d ds =>
      obtain ⟨v, rest, f1, f2, ev, rd, rs, d12, ef⟩ := r
      subst ev ef
      have j1 : ∀ j, Dj f1 (fps j) := fun j a h => dj j a (List.mem_append_left _ h)
      have j2 : ∀ j, Dj f2 (fps j) := fun j a h => dj j a (List.mem_append_right _ h)
      refine ⟨v, rest, rfl, σd, fps, d, f1, E, rd, j1, ?_⟩
      change rdgr _ _ _ σ H σd fps ((c.run d σd).bind (cs.run ds)) Q at q
      cases hr : c.run d σd with
      | none => rw [hr] at q; exact q
      | some σd1 =>
        rw [hr] at q
        intro σ1 H1 fps1 E1 S1 V1
        have tn : ∀ a ∈ f2, H a ≠ none := fun a ha => by
          obtain ⟨o, e, _⟩ := Reps.dom ds rest f2 rs a ha
          rw [e]
          exact fun z => nomatch z
        have key : ∀ a, a ∈ f2 → ∀ j, a ∉ fps1 j := fun a ha j z => by
          rcases S1.new a (.inr ⟨j, z⟩) with ⟨i, hi⟩ | hi | hi
          · exact j2 i a ha hi
          · exact d12 a hi ha
          · exact tn a ha hi
        have S1' : Stp c.rw (f1 ++ f2) H σd fps H1 σd1 fps1 f2 := S1.wk (fun _ h => h) (fun _ h => List.mem_append_left _ h) (fun a h => .inr (List.mem_append_right _ h))
        refine ⟨σd1, fps1, ds, f2, E1, Reps.keep S1.keep ds rest f2 (fun a ha z => ?_) rs, fun j a ha => key a ha j, ?_⟩
        · rcases z with ⟨j, _, hj⟩ | hj
          · exact j2 j a ha hj
          · exact d12 a hj ha
        · change rdgr _ _ _ σ H σd fps (cs.run ds σd1) Q at q
          cases hr2 : cs.run ds σd1 with
          | none => rw [hr2] at q; exact q
          | some σd2 =>
            rw [hr2] at q
            intro σ2 H2 fps2 E2 S2 V2
            exact q σ2 H2 fps2 E2 (S1'.then E1.dj (fun j a ha => key a ha j) S2 mem_l mem_r) (V1.then V2 mem_l mem_r)
theorem dg_tup {k : Nat} (hc : X.calm = true) (h : DGs X es cs) (hn : (assignEach es X.env).length = cs.n := by rfl) (hst : (assignEach es X.env).findIdx? (·.1) = none := by rfl) : DG X (.Tuple es k pos) (pTup cs) :=
  (pg_tup hc h hn hst).le fun v σ H Q ⟨σd, fps, d, f, E, r, dj, q⟩ => by
    cases d with
    | tup ds =>
      obtain ⟨a, vs, ev, s, rs⟩ := r
      unfold pTup at q
      dsimp only at q
      split at q
      · rename_i hl
        exact ⟨a, vs, ev, s, by rw [rs.len]; exact hl, σd, fps, ds, f, E, rs, dj, q⟩
      · exact q.elim
    | _ => exact q.elim
end
/-- target = e -/
def asgOf (p : PC) (x : RV) (σd : DSt) : SRes := match x with
  | .tmp d => (match p.run d σd with
    | some σ' => .nx σ'
    | none => .bad)
  | .plc _ _ => .bad
def sAsg (p : PC) (c : EC) : SC := ⟨fun σd => bindS (c.run σd) (asgOf p), p.rw ++ c.rw, p.rw⟩
theorem ds_asg {X : Cx} {W : WX} {tg e : Expr} {c : EC} {p : PC} {pos : Pos} (h : DE X W e c) (hg : DG X tg p) (hs : swapsWithSole [tg] e pos.line X.env = pure false := by rfl) (hw : swappedStores [tg] e X.env = pure none := by rfl)
    (h1 : (assignEach [tg] X.env).map (·.2) = [assign tg X.env] := by rfl) : DS X W (.Assign [tg] e pos) (sAsg p c) := (ps_asg h hg hs hw h1).le fun D σ H h =>
  rdS_E mem_r h fun x σd1 v H1 fps1 f1 E1 R1 q => by
    cases x with
    | plc s pp => exact q.elim
    | tmp d =>
      refine ⟨σd1, fps1, d, f1, E1, R1.1, R1.2, ?_⟩
      unfold asgOf at q
      dsimp only at q
      cases hr : p.run d σd1 with
      | none => rw [hr] at q; exact q
      | some σ' =>
        rw [hr] at q
        intro σ2 H2 fps2 E2 S2 V2
        exact q σ2 H2 fps2 E2 (S2.wk mem_l (fun _ h => h) (fun _ h => .inl h)) V2
/-! ## for -/
def forRun (p : PC) (b : SC) : List D → DSt → SRes
  | [], σd => .nx σd
  | d :: ds, σd => match p.run d σd with
    | some σ1 => (match b.run σ1 with
      | .nx σ2 => forRun p b ds σ2
      | .ct σ2 => forRun p b ds σ2
      | .bk σ2 => .nx σ2
      | r => r)
    | none => .bad
/-- an address that a loop leans on: a temp's, or one of a name that is not changed in it -/
def Safe (rw : List Nat) (fps : Nat → List Addr) (a : Addr) : Prop := (∀ j, a ∉ fps j) ∨ ∃ s, s ∉ rw ∧ a ∈ fps s
section
variable {G : Gv} {W : WX} {H H1 H2 H' : Hp} {σd σd1 σd2 σd' : DSt} {σ σ1 σ' : St} {fps fps1 fps2 fps' : Nat → List Addr} {r r1 r2 a0 a1 a2 : List Nat} {tf tf' e1 e2 ex : List Addr} {D : Ends}
theorem Safe.step {a : Addr} {o : HO} (E : EnvR G H σd σ fps) (h : Safe r fps a) (e : H a = some o) (S : Stp r tf H σd fps H' σd' fps' ex) (nt : a ∉ tf) (nT : ∀ ps, o ≠ .tbl ps := by intro _ z; exact nomatch z) : H' a = some o ∧ Safe r fps' a := by
  rcases h with h | ⟨s, hs, h⟩
  · refine ⟨S.keep.at_ a o e nT (.inl fun z => z.elim (fun ⟨j, _, q⟩ => h j q) nt), .inl fun j z => ?_⟩
    rcases S.new a (.inr ⟨j, z⟩) with ⟨i, q⟩ | q | q
    · exact h i q
    · exact nt q
    · rw [e] at q
      cases q
  · refine ⟨S.keep.at_ a o e nT (.inl fun z => z.elim (fun ⟨j, hj, q⟩ => E.dj s j (fun z => hs (z ▸ hj)) a h q) nt), .inr ⟨s, hs, by rw [(S.same s hs).2]; exact h⟩⟩
/-- what holds between two turns -/
def ForP (G : Gv) (W : WX) (rw asg : List Nat) (p : PC) (b : SC) (D : Ends) (Pers : (Nat → List Addr) → Hp → Prop) (items : List A2.D) (i : Nat) (σ : St) (H : Hp) : Prop :=
  ∃ σd fps, EnvR G H σd σ fps ∧ Pers fps H ∧ rdsr G W rw asg [] σ H σd fps (forRun p b (items.drop i) σd) D
theorem for_turn {p : PC} {b : SC} {Pers : (Nat → List Addr) → Hp → Prop} {items : List A2.D} {i : Nat} {d : A2.D} {x : V} (hp : ∀ j ∈ p.rw, j ∈ r) (hb : ∀ j ∈ b.rw, j ∈ r) (gp : ∀ j ∈ p.rw, j ∈ a0) (gb : ∀ j ∈ b.asg, j ∈ a0)
    (pers : ∀ {σd σ fps H σd' fps' H' ex}, EnvR G H σd σ fps → Pers fps H → Stp (p.rw ++ b.rw) [] H σd fps H' σd' fps' ex → Pers fps' H')
    (hd : items[i]? = some d) (P : ForP G W r a0 p b D Pers items i σ H) (rp : Rep G H d x []) :
    rdG G p x σ H fun σ2 H2 => rdS G W b { D with nx := ForP G W r a0 p b D Pers items (i + 1), ct := ForP G W r a0 p b D Pers items (i + 1), bk := D.nx } σ2 H2 := by
  obtain ⟨σd, fps, E, pe, q⟩ := P
  have hi : i < items.length := (List.getElem?_eq_some_iff.mp hd).1
  have hdr : items.drop i = d :: items.drop (i + 1) := by
    rw [List.drop_eq_getElem_cons hi]
    congr 1
    exact (List.getElem?_eq_some_iff.mp hd).2
  rw [hdr] at q
  unfold forRun at q
  refine ⟨σd, fps, d, [], E, rp, fun _ => djnil, ?_⟩
  cases hr : p.run d σd with
  | none => rw [hr] at q; exact q
  | some σd1 =>
    rw [hr] at q
    dsimp only at q
    intro σ1 H1 fps1 E1 S1 V1
    refine ⟨σd1, fps1, E1, ?_⟩
    have go : ∀ (R : SRes), rdsr G W r a0 [] σ H σd fps R D → rdsr G W r a0 [] σ1 H1 σd1 fps1 R D := fun R q => rdsr.push S1 V1 E1 nilD hp (fun _ h => h) gp (fun _ h => h) q
    have on : ∀ σd2 σ2 H2 fps2, EnvR G H2 σd2 σ2 fps2 → Stp b.rw [] H1 σd1 fps1 H2 σd2 fps2 [] → SameV b.asg σ1 σ2 → rdsr G W r a0 [] σ H σd fps (forRun p b (items.drop (i + 1)) σd2) D → ForP G W r a0 p b D Pers items (i + 1) σ2 H2 := fun σd2 σ2 H2 fps2 E2 S2 V2 q2 =>
      ⟨σd2, fps2, E2, pers E pe (S1.then E1.dj nilD S2 mem_l mem_r), rdsr.push S2 V2 E2 nilD hb (fun _ h => h) gb (fun _ h => h) (go _ q2)⟩
    cases hr2 : b.run σd1 with
    | nx σd2 => rw [hr2] at q; exact fun σ2 H2 fps2 E2 S2 V2 => on σd2 σ2 H2 fps2 E2 S2 V2 q
    | ct σd2 => rw [hr2] at q; exact fun σ2 H2 fps2 E2 S2 V2 => on σd2 σ2 H2 fps2 E2 S2 V2 q
    | bk σd2 =>
      rw [hr2] at q
      exact fun σ2 H2 fps2 E2 S2 V2 => (go _ q) σ2 H2 fps2 E2 (S2.wk hb (fun _ h => h) (fun _ h => .inl h)) (V2.mono gb)
    | rt d2 σd2 =>
      rw [hr2] at q
      exact fun v σ2 H2 fps2 f E2 rp2 dj S2 V2 => (go _ q) v σ2 H2 fps2 f E2 rp2 dj (S2.wk hb (fun _ h => h) (fun _ h => .inl h)) (V2.mono gb)
    | er z σd2 =>
      rw [hr2] at q
      exact fun c dx σ2 H2 fps2 E2 xr S2 V2 => (go _ q) c dx σ2 H2 fps2 E2 xr (S2.wk hb (fun _ h => h) (fun _ h => .inl h)) (V2.mono gb)
    | bad => rw [hr2] at q; exact q
theorem for_done {p : PC} {b : SC} {Pers : (Nat → List Addr) → Hp → Prop} {items : List A2.D} (P : ForP G W r a0 p b D Pers items items.length σ H) : D.nx σ H := by
  obtain ⟨σd, fps, E, pe, q⟩ := P
  rw [List.drop_length] at q
  exact q σ H fps E (Stp.refl fun _ h => nomatch h) SameV.refl
end
/-! ### what is walked -/
/-- the items of a row -/
def itemsOf : D → Option (List D)
  | .lst ds => if D.imms ds = true then some ds else none
  | .tup ds => if D.imms ds = true then some ds else none
  | .flst ds => if D.imms ds = true then some ds else none
  | _ => none
def loopOk (rw : List Nat) : RV → Bool
  | .tmp _ => true
  | .plc s _ => decide (s ∉ rw)
def forOf (p : PC) (b : SC) (x : RV) (σd : DSt) : SRes := match x.get σd with
  | some d => (match itemsOf d with
    | some ds => if loopOk (p.rw ++ b.rw) x = true then forRun p b ds σd else .bad
    | none => .bad)
  | none => .bad
def sFor (p : PC) (c : EC) (b : SC) : SC := ⟨fun σd => bindS (c.run σd) (forOf p b), c.rw ++ (p.rw ++ b.rw), p.rw ++ b.asg⟩
theorem _root_.L2.PI.le {X : Cx} {tg iter : Expr} {t t' : TI} (h : PI X tg iter t) (k : ∀ σ H R, t' σ H R → t σ H R) : PI X tg iter t' := ⟨fun pins s σ H R I q => h.run pins s σ H R I (k σ H R q)⟩
theorem pi_or {X : Cx} {tg iter : Expr} {t t' : TI} (h : PI X tg iter t) (h' : PI X tg iter t') : PI X tg iter (fun σ H R => t σ H R ∨ t' σ H R) := ⟨fun pins s σ H R I q => q.elim (h.run pins s σ H R I) (h'.run pins s σ H R I)⟩
theorem Reps.all {G : Gv} {H H' : Hp} {F : Addr → Prop} {ds : List D} {vs : List V} (k : Keep F H H') (r : Reps G H ds vs []) : Reps G H' ds vs [] := Reps.keep k ds vs [] (fun _ h => nomatch h) r
/-- the walked row stays: where its object stands -/
def PersL (G : Gv) (rw : List Nat) (a : Addr) (vs : List V) (ds : List D) (fps : Nat → List Addr) (H : Hp) : Prop :=
  Reps G H ds vs [] ∧ ((H a = some (.lst vs) ∧ Safe rw fps a) ∨ ∃ o, H a = some (.frz o (.lst vs)))
def PersT (G : Gv) (a : Addr) (vs : List V) (ds : List D) (H : Hp) : Prop := Reps G H ds vs [] ∧ SqT G.K H a vs
theorem PersL.step {G : Gv} {rw : List Nat} {a : Addr} {vs : List V} {ds : List D} {σd σ fps H σd' fps' H' ex} (E : EnvR G H σd σ fps) (P : PersL G rw a vs ds fps H) (S : Stp rw [] H σd fps H' σd' fps' ex) : PersL G rw a vs ds fps' H' := by
  obtain ⟨r, P⟩ := P
  refine ⟨Reps.all S.keep r, ?_⟩
  rcases P with ⟨e, s⟩ | ⟨o, e⟩
  · exact .inl (s.step E e S (fun h => nomatch h))
  · exact .inr ⟨o, S.keep.at_ a _ e (fun _ z => nomatch z) (.inr fun z => z)⟩
theorem PersL.seq {G : Gv} {rw : List Nat} {a : Addr} {vs : List V} {ds : List D} {fps H} (P : PersL G rw a vs ds fps H) : SqL G.K H a vs := by
  rcases P.2 with ⟨e, _⟩ | ⟨o, e⟩
  · exact .inl (.inl e)
  · exact .inl (.inr ⟨o, e⟩)
theorem ds_for {X : Cx} {W : WX} {tg iter : Expr} {body : List Stmt} {c : EC} {p : PC} {b : SC} {pos : Pos} (hp : PassesOwn (model X.prog X.w) X.A X.env X.xe) (hc : X.calm = true) (hi : DE X W iter c) (hg : DG X tg p) (hb : DSs X W body b)
    (hs : ∀ x, foldedSetIterable iter X.env x = pure x := by intro _; rfl) : DS X W (.For tg iter body [] pos) (sFor p c b) :=
  (ps_for hp hc (pi_or (pi_list hi) (pi_tup hi)) hg hb hs).le fun D σ H h => by
    let R : It → Hp → Prop := fun J H1 => ∃ W' : Nat → Nat → L2.St → Hp → Prop, (∃ m, W' 0 m σ H1) ∧ ∀ i m σ H, W' i m σ H →
      (J.stop i H ∧ D.nx σ H) ∨ (J.go i H ∧ ∃ N : L2.St → Hp → Prop, (∀ σ' H', N σ' H' → ∃ m', m' < m ∧ W' (i + 1) m' σ' H') ∧ ∀ x H', J.yld i H x H' → rdG (gv X) p x σ H' fun σ2 H2 => rdS (gv X) W b { D with nx := N, ct := N, bk := D.nx } σ2 H2)
    show iList X.K (rd (gv X) W c) σ H R ∨ iTup X.K (rd (gv X) W c) σ H R
    have listCase : ∀ (a : Addr) (vs : List V) (ds : List A2.D) x σd1 H1 fps1 f1, EnvR (gv X) H1 σd1 σ fps1 → RvR (gv X) H1 σ fps1 x (.ref a) f1 → Reps (gv X) H1 ds vs [] → (H1 a = some (.lst vs) ∧ (a ∈ f1 ∨ ∃ s pp, x = .plc s pp ∧ a ∈ fps1 s) ∨ ∃ o, H1 a = some (.frz o (.lst vs))) → loopOk (p.rw ++ b.rw) x = true →
        rdsr (gv X) W (c.rw ++ (p.rw ++ b.rw)) (p.rw ++ b.asg) f1 σ H1 σd1 fps1 (forRun p b ds σd1) D → R (Itl X.K a) H1 := fun a vs ds x σd1 H1 fps1 f1 E1 R1 rs hw lk q => by
      have P0 : PersL (gv X) (p.rw ++ b.rw) a vs ds fps1 H1 := by
        refine ⟨rs, hw.imp (fun ⟨e, w⟩ => ⟨e, ?_⟩) id⟩
        rcases w with w | ⟨s, pp, ex, w⟩
        · exact .inl fun j z => R1.dj j a w z
        · subst ex
          exact .inr ⟨s, of_decide_eq_true lk, w⟩
      refine for_list (xs := vs) (ForP (gv X) W (c.rw ++ (p.rw ++ b.rw)) (p.rw ++ b.asg) p b D (PersL (gv X) (p.rw ++ b.rw) a vs ds) ds) ⟨σd1, fps1, E1, P0, rdsr.less q⟩ (fun i σ H _ P => ?_) (fun i x σ H ex P => ?_) (fun σ H P => ?_)
      · obtain ⟨_, _, _, pe, _⟩ := P
        exact pe.seq
      · have hl : vs.length = ds.length := rs.len
        have hi : i < ds.length := by
          rw [← hl]
          exact (List.getElem?_eq_some_iff.mp ex).1
        have hd : ds[i]? = some ds[i] := List.getElem?_eq_getElem hi
        obtain ⟨σd, fps, E, pe, q⟩ := P
        obtain ⟨w, f, ew, rw', sb⟩ := Reps.at pe.1 hd
        rw [ex] at ew
        cases ew
        have ef : f = [] := List.eq_nil_iff_forall_not_mem.mpr fun b hb => nomatch sb b hb
        subst ef
        exact for_turn (fun j h => mem_r j (mem_l j h)) (fun j h => mem_r j (mem_r j h)) mem_l mem_r (fun E P S => P.step E S) hd ⟨σd, fps, E, pe, q⟩ rw'
      · rw [rs.len] at P
        exact for_done P
    have tupCase : ∀ (a : Addr) (vs : List V) (ds : List A2.D) σd1 H1 fps1 f1, EnvR (gv X) H1 σd1 σ fps1 → Reps (gv X) H1 ds vs [] → SqT X.K H1 a vs →
        rdsr (gv X) W (c.rw ++ (p.rw ++ b.rw)) (p.rw ++ b.asg) f1 σ H1 σd1 fps1 (forRun p b ds σd1) D → R (Itt X.K a) H1 := fun a vs ds σd1 H1 fps1 f1 E1 rs hw q => by
      refine for_tup (xs := vs) (ForP (gv X) W (c.rw ++ (p.rw ++ b.rw)) (p.rw ++ b.asg) p b D (fun _ => PersT (gv X) a vs ds) ds) ⟨σd1, fps1, E1, ⟨rs, hw⟩, rdsr.less q⟩ (fun i σ H _ P => ?_) (fun i x σ H ex P => ?_) (fun σ H P => ?_)
      · obtain ⟨_, _, _, pe, _⟩ := P
        exact pe.2
      · have hl : vs.length = ds.length := rs.len
        have hi : i < ds.length := by
          rw [← hl]
          exact (List.getElem?_eq_some_iff.mp ex).1
        have hd : ds[i]? = some ds[i] := List.getElem?_eq_getElem hi
        obtain ⟨σd, fps, E, pe, q⟩ := P
        obtain ⟨w, f, ew, rw', sb⟩ := Reps.at pe.1 hd
        rw [ex] at ew
        cases ew
        have ef : f = [] := List.eq_nil_iff_forall_not_mem.mpr fun b hb => nomatch sb b hb
        subst ef
        exact for_turn (fun j h => mem_r j (mem_l j h)) (fun j h => mem_r j (mem_r j h)) mem_l mem_r (fun E P S => ⟨Reps.all S.keep P.1, SqT.keep S.keep P.2⟩) hd ⟨σd, fps, E, pe, q⟩ rw'
      · rw [rs.len] at P
        exact for_done P
    -- the choice is made by what the iterable comes to
    by_cases ht : ∃ σd fps x σd1 ds, EnvR (gv X) H σd σ fps ∧ c.run σd = .ok x σd1 ∧ x.get σd1 = some (.tup ds) ∧ rdsr (gv X) W (c.rw ++ (p.rw ++ b.rw)) (p.rw ++ b.asg) [] σ H σd fps ((sFor p c b).run σd) D
    · right
      obtain ⟨σd, fps, x, σd1, ds, E, hr, hx, q⟩ := ht
      change rdsr _ _ _ _ _ σ H σd fps (bindS (c.run σd) (forOf p b)) D at q
      refine seqE (r := c.rw ++ (p.rw ++ b.rw)) (tf := []) E mem_l (fun x' σd1' h1 v1 H1 fps1 f1 E1 R1 S1 => ?_) (fun x' σd1' h1 => ?_) (fun h1 => ?_)
      · rw [hr] at h1
        cases h1
        rw [hr] at q
        have q1 := rdsr.push (r2 := c.rw ++ (p.rw ++ b.rw)) (a2 := p.rw ++ b.asg) (R := forOf p b x σd1) S1 SameV.refl E1 R1.dj mem_l (fun _ h => h) (a1 := []) (fun _ h => nomatch h) (fun _ h => h) q
        unfold forOf at q1
        rw [hx] at q1
        dsimp only [itemsOf] at q1
        split at q1
        · rename_i ds' him
          split at him
          · rename_i im
            cases him
            split at q1
            · obtain ⟨f', ⟨a, vs, ev, s, rs⟩, _⟩ := R1.rep E1 hx
              have ef := Reps.imm ds vs f' im rs
              subst ef
              exact ⟨a, ev, ⟨vs, s⟩, tupCase a vs ds σd1 H1 fps1 f1 E1 rs s q1⟩
            · exact q1.elim
          · cases him
        · exact q1.elim
      · rw [hr] at h1; cases h1
      · rw [hr] at h1; cases h1
    · left
      obtain ⟨σd, fps, E, q⟩ := h
      have q0 := q
      change rdsr _ _ _ _ _ σ H σd fps (bindS (c.run σd) (forOf p b)) D at q
      refine seqE (r := c.rw ++ (p.rw ++ b.rw)) (tf := []) E mem_l (fun x σd1 h1 v1 H1 fps1 f1 E1 R1 S1 => ?_) (fun x σd1 h1 => ?_) (fun h1 => ?_)
      · rw [h1] at q
        have q1 := rdsr.push (r2 := c.rw ++ (p.rw ++ b.rw)) (a2 := p.rw ++ b.asg) (R := forOf p b x σd1) S1 SameV.refl E1 R1.dj mem_l (fun _ h => h) (a1 := []) (fun _ h => nomatch h) (fun _ h => h) q
        unfold forOf at q1
        split at q1
        · rename_i d hx
          obtain ⟨f', rp, sub⟩ := R1.rep E1 hx
          split at q1
          · rename_i ds him
            split at q1
            · rename_i lk
              cases d with
              | lst ds' =>
                unfold itemsOf at him
                dsimp only at him
                split at him
                · rename_i im
                  cases him
                  obtain ⟨a, vs, f0, ev, s, rs, na, ef⟩ := rp
                  have e0 := Reps.imm ds vs f0 im rs
                  subst e0
                  subst ev
                  exact ⟨a, rfl, ⟨vs, .inl (.inl s)⟩, listCase a vs ds x σd1 H1 fps1 f1 E1 R1 rs (.inl ⟨s, sub a (by rw [ef]; exact List.mem_cons_self ..)⟩) lk q1⟩
                · cases him
              | flst ds' =>
                unfold itemsOf at him
                dsimp only at him
                split at him
                · cases him
                  obtain ⟨a, o, vs, ev, s, rs, ef⟩ := rp
                  subst ev
                  exact ⟨a, rfl, ⟨vs, .inl (.inr ⟨o, s⟩)⟩, listCase a vs ds x σd1 H1 fps1 f1 E1 R1 rs (.inr ⟨o, s⟩) lk q1⟩
                · cases him
              | tup ds' => exact absurd ⟨σd, fps, x, σd1, ds', E, h1, hx, q0⟩ ht
              | _ => cases him
            · exact q1.elim
          · exact q1.elim
        · exact q1.elim
      · rw [h1] at q
        exact fun c dx H' fps' E' R' S' => q c dx σ H' fps' E' R' S' SameV.refl
      · rw [h1] at q
        exact q
end A2
end S_A2l
section S_A2m
set_option Elab.async false
set_option linter.all false
set_option maxRecDepth 100000
set_option maxHeartbeats 4000000
open PySem PySem.Spec L2
open PyProof.Rows hiding St
namespace A2
/-! ## for over ranges -/
def rangeD : Int → Nat → List D
  | _, 0 => []
  | lo, n + 1 => .int lo :: rangeD (lo + 1) n
theorem rangeD_len : ∀ (n : Nat) (lo : Int), (rangeD lo n).length = n
  | 0, _ => rfl
  | n + 1, lo => by simp [rangeD, rangeD_len n]
theorem rangeD_get : ∀ (n : Nat) (lo : Int) (i : Nat), i < n → (rangeD lo n)[i]? = some (.int (lo + i))
  | 0, _, i, h => absurd h (Nat.not_lt_zero i)
  | n + 1, lo, 0, _ => by simp [rangeD]
  | n + 1, lo, i + 1, h => by
    simp only [rangeD, List.getElem?_cons_succ]
    rw [rangeD_get n (lo + 1) i (by omega)]
    congr 2
    omega
def inR (i : Int) : Bool := decide (-(2 ^ 62) ≤ i) && decide (i < 2 ^ 62)
theorem inR_ok {i : Int} (h : inR i = true) : -(2 ^ 62) ≤ i ∧ i < 2 ^ 62 := by
  unfold inR at h
  simp only [Bool.and_eq_true, decide_eq_true_eq] at h
  exact h
/-- the items of range(..) -/
def rng1 : List D → Option (Int × Nat)
  | [.int j] => if inR j = true then some (0, j.toNat) else none
  | _ => none
def rng2 : List D → Option (Int × Nat)
  | [.int i, .int j] => if inR i = true ∧ inR j = true then some (i, (j - i).toNat) else none
  | _ => none
def rngOf (g : List D → Option (Int × Nat)) (σd : DSt) (rvs : List RV) : Option (Int × Nat) := (getAll σd rvs).bind g
def forROf (g : List D → Option (Int × Nat)) (p : PC) (b : SC) (rvs : List RV) (σd : DSt) : SRes := match rngOf g σd rvs with
  | some (lo, n) => forRun p b (rangeD lo n) σd
  | none => .bad
def sForR (g : List D → Option (Int × Nat)) (p : PC) (a : AC) (b : SC) : SC := ⟨fun σd => bindS (a.run σd) (forROf g p b), a.rw ++ (p.rw ++ b.rw), p.rw ++ b.asg⟩
theorem rng1_some {ds : List D} {lo : Int} {n : Nat} (h : rng1 ds = some (lo, n)) : ∃ j, ds = [.int j] ∧ inR j = true ∧ lo = 0 ∧ n = j.toNat := by
  unfold rng1 at h
  split at h
  · split at h
    · rename_i j hb
      cases h
      exact ⟨j, rfl, hb, rfl, rfl⟩
    · cases h
  · cases h
theorem rng2_some {ds : List D} {lo : Int} {n : Nat} (h : rng2 ds = some (lo, n)) : ∃ i j, ds = [.int i, .int j] ∧ (inR i = true ∧ inR j = true) ∧ lo = i ∧ n = (j - i).toNat := by
  unfold rng2 at h
  split at h
  · split at h
    · rename_i i j hb
      cases h
      exact ⟨_, j, rfl, hb, rfl, rfl⟩
    · cases h
  · cases h
section
variable {G : Gv} {W : WX} {H H1 H2 H' : Hp} {σd σd1 σd2 σd' : DSt} {σ σ1 σ' : St} {fps fps1 fps2 fps' : Nat → List Addr} {r r1 r2 a0 a1 a2 : List Nat} {tf tf' e1 e2 ex : List Addr} {D : Ends}
theorem rdS_A {a : AC} {f : List RV → DSt → SRes} {R : List V → Hp → Prop} {rr aa : List Nat} (ha : ∀ j ∈ a.rw, j ∈ rr) (h : rdS G W ⟨fun σd => bindS (a.run σd) f, rr, aa⟩ D σ H)
    (k : ∀ x σd1 v H1 fps1 f1, EnvR G H1 σd1 σ fps1 → RvsR G H1 σ fps1 x v f1 → rdsr G W rr aa f1 σ H1 σd1 fps1 (f x σd1) D → R v H1) : rdA G W a σ H R := by
  obtain ⟨σd, fps, E, q⟩ := h
  dsimp only at q
  refine seqA (r := rr) (tf := []) E ha (fun x σd1 h1 v1 H1 fps1 f1 E1 R1 S1 => ?_) (fun x σd1 h1 => ?_) (fun h1 => ?_)
  · rw [h1] at q
    exact k x σd1 v1 H1 fps1 f1 E1 R1 (rdsr.push (R := f x σd1) S1 SameV.refl E1 R1.dj ha (fun _ h => h) (fun _ h => h) (fun _ h => h) q)
  · rw [h1] at q
    exact fun c dx H' fps' E' R' S' => q c dx σ H' fps' E' R' S' SameV.refl
  · rw [h1] at q
    exact q
theorem range_core {p : PC} {a : AC} {b : SC} {lo : Int} {n : Nat} {f1 : List Addr} {K : PySem.W.Frag} (E1 : EnvR G H1 σd1 σ fps1) (q : rdsr G W (a.rw ++ (p.rw ++ b.rw)) (p.rw ++ b.asg) f1 σ H1 σd1 fps1 (forRun p b (rangeD lo n) σd1) D) :
    ∃ W' : Nat → Nat → L2.St → Hp → Prop, (∃ m, W' 0 m σ H1) ∧ ∀ i m σ H, W' i m σ H →
      ((Itr lo n).stop i H ∧ D.nx σ H) ∨ ((Itr lo n).go i H ∧ ∃ N : L2.St → Hp → Prop, (∀ σ' H', N σ' H' → ∃ m', m' < m ∧ W' (i + 1) m' σ' H') ∧ ∀ x H', (Itr lo n).yld i H x H' → rdG G p x σ H' fun σ2 H2 => rdS G W b { D with nx := N, ct := N, bk := D.nx } σ2 H2) := by
  refine for_range (ForP G W (a.rw ++ (p.rw ++ b.rw)) (p.rw ++ b.asg) p b D (fun _ _ => True) (rangeD lo n)) ⟨σd1, fps1, E1, trivial, rdsr.less q⟩ (fun i σ H hi P => ?_) (fun σ H P => ?_)
  · exact for_turn (fun j h => mem_r j (mem_l j h)) (fun j h => mem_r j (mem_r j h)) mem_l mem_r (fun _ _ _ => trivial) (rangeD_get n lo i hi) P ⟨rfl, rfl⟩
  · exact for_done (items := rangeD lo n) (by rw [rangeD_len]; exact P)
end
theorem vals_int1 {G : Gv} {H : Hp} {σd : DSt} {σ : St} {fps : Nat → List Addr} {x : List RV} {vs : List V} {f : List Addr} {j : Int} (E : EnvR G H σd σ fps) (R : RvsR G H σ fps x vs f) (h : getAll σd x = some [.int j]) : vs = [.int j] := by
  obtain ⟨v, e, f', r⟩ := paired1 (getAll_rep E h R)
  rw [e, r.1]
theorem vals_int2 {G : Gv} {H : Hp} {σd : DSt} {σ : St} {fps : Nat → List Addr} {x : List RV} {vs : List V} {f : List Addr} {i j : Int} (E : EnvR G H σd σ fps) (R : RvsR G H σ fps x vs f) (h : getAll σd x = some [.int i, .int j]) : vs = [.int i, .int j] := by
  obtain ⟨v, w, e, ⟨f', r⟩, ⟨f'', r'⟩⟩ := paired2 (getAll_rep E h R)
  rw [e, r.1, r'.1]
section
variable {X : Cx} {W : WX} {tg : Expr} {body : List Stmt} {p : PC} {b : SC} {pos pp po : Pos} {e1 e2 : Expr} {a : AC}
theorem ds_forR1 (hp : PassesOwn (model X.prog X.w) X.A X.env X.xe) (hc : X.calm = true) (hgr : Gl X "range") (hm : X.mg "range" = none) (ha : DA X W [e1] a) (hg : DG X tg p) (hb : DSs X W body b)
    (hs1 : starEach [e1] X.env = [(false, eval e1 X.env)] := by rfl) (hs : ∀ x, foldedSetIterable (.Call (.Name "range" po) [e1] [] pp) X.env x = pure x := by intro _; rfl) : DS X W (.For tg (.Call (.Name "range" po) [e1] [] pp) body [] pos) (sForR rng1 p a b) :=
  (ps_for hp hc (pi_range1 hgr hm ha hs1) hg hb hs).le fun D σ H h => rdS_A mem_l h fun x σd1 v H1 fps1 f1 E1 R1 q => by
    unfold forROf rngOf at q
    split at q
    · rename_i lo n hr
      obtain ⟨ds, hd, hg⟩ := Option.bind_eq_some_iff.mp hr
      obtain ⟨j, e, hb, el, en⟩ := rng1_some hg
      subst e el en
      exact ⟨j, vals_int1 E1 R1 hd, (inR_ok hb).1, (inR_ok hb).2, range_core (K := X.K) E1 q⟩
    · exact q.elim
theorem ds_forR2 (hp : PassesOwn (model X.prog X.w) X.A X.env X.xe) (hc : X.calm = true) (hgr : Gl X "range") (hm : X.mg "range" = none) (ha : DA X W [e1, e2] a) (hg : DG X tg p) (hb : DSs X W body b)
    (hs1 : starEach [e1, e2] X.env = [(false, eval e1 X.env), (false, eval e2 X.env)] := by rfl) (hs2 : starEach [e2] X.env = [(false, eval e2 X.env)] := by rfl) (hs : ∀ x, foldedSetIterable (.Call (.Name "range" po) [e1, e2] [] pp) X.env x = pure x := by intro _; rfl) : DS X W (.For tg (.Call (.Name "range" po) [e1, e2] [] pp) body [] pos) (sForR rng2 p a b) :=
  (ps_for hp hc (pi_range2 hgr hm ha hs1 hs2) hg hb hs).le fun D σ H h => rdS_A mem_l h fun x σd1 v H1 fps1 f1 E1 R1 q => by
    unfold forROf rngOf at q
    split at q
    · rename_i lo n hr
      obtain ⟨ds, hd, hg⟩ := Option.bind_eq_some_iff.mp hr
      obtain ⟨i, j, e, hb, el, en⟩ := rng2_some hg
      subst e el en
      exact ⟨_, j, vals_int2 E1 R1 hd, ⟨(inR_ok hb.1).1, (inR_ok hb.1).2, (inR_ok hb.2).1, (inR_ok hb.2).2⟩, range_core (K := X.K) E1 q⟩
    · exact q.elim
end
/-! ## while -/
def whileN (t : TC) (b : SC) : Nat → DSt → SRes
  | 0, _ => .bad
  | n + 1, σd => bindS (t.run σd) fun c σ1 => if c then (match b.run σ1 with
    | .nx σ2 => whileN t b n σ2
    | .ct σ2 => whileN t b n σ2
    | .bk σ2 => .nx σ2
    | r => r) else .nx σ1
open Classical in
noncomputable def whileRun (t : TC) (b : SC) (σd : DSt) : SRes := if h : ∃ n, whileN t b n σd ≠ .bad then whileN t b (choose h) σd else .bad
theorem whileN_more {t : TC} {b : SC} : ∀ (n : Nat) (σd : DSt), whileN t b n σd ≠ .bad → whileN t b (n + 1) σd = whileN t b n σd
  | 0, σd, h => absurd rfl h
  | n + 1, σd, h => by
    unfold whileN at h ⊢
    cases ht : t.run σd with
    | err x σ' => rfl
    | bad => rfl
    | ok c σ1 =>
      rw [ht] at h
      show (if c = true then _ else SRes.nx σ1) = (if c = true then _ else SRes.nx σ1)
      change (if c = true then _ else SRes.nx σ1) ≠ SRes.bad at h
      cases c with
      | false => rfl
      | true =>
        rw [if_pos rfl, if_pos rfl]
        rw [if_pos rfl] at h
        cases hb : b.run σ1 with
        | nx σ2 => rw [hb] at h; exact whileN_more n σ2 h
        | ct σ2 => rw [hb] at h; exact whileN_more n σ2 h
        | bk σ2 => rfl
        | rt d σ2 => rfl
        | er x σ2 => rfl
        | bad => rfl
theorem whileN_le {t : TC} {b : SC} {n : Nat} {σd : DSt} (h : whileN t b n σd ≠ .bad) : ∀ k, whileN t b (n + k) σd = whileN t b n σd
  | 0 => rfl
  | k + 1 => by
    have := whileN_le h k
    rw [show n + (k + 1) = n + k + 1 from rfl, whileN_more (n + k) σd (by rw [this]; exact h), this]
theorem whileRun_eq {t : TC} {b : SC} {n : Nat} {σd : DSt} (h : whileN t b n σd ≠ .bad) : whileRun t b σd = whileN t b n σd := by
  have ex : ∃ n, whileN t b n σd ≠ .bad := ⟨n, h⟩
  unfold whileRun
  rw [dif_pos ex]
  have hc := Classical.choose_spec ex
  rcases Nat.le_total (Classical.choose ex) n with hl | hl
  · obtain ⟨k, e⟩ := Nat.exists_eq_add_of_le hl
    have := whileN_le hc k
    rw [← e] at this
    exact this.symm
  · obtain ⟨k, e⟩ := Nat.exists_eq_add_of_le hl
    have := whileN_le h k
    rw [← e] at this
    exact this
theorem whileRun_bad {t : TC} {b : SC} {σd : DSt} (h : ∀ n, whileN t b n σd = .bad) : whileRun t b σd = .bad := by
  unfold whileRun
  rw [dif_neg fun ⟨n, z⟩ => z (h n)]
/-- one turn -/
theorem whileRun_step (t : TC) (b : SC) (σd : DSt) : whileRun t b σd = bindS (t.run σd) fun c σ1 => if c then (match b.run σ1 with
    | .nx σ2 => whileRun t b σ2
    | .ct σ2 => whileRun t b σ2
    | .bk σ2 => .nx σ2
    | r => r) else .nx σ1 := by
  have key : ∀ σ2 : DSt, ∀ n, whileN t b (n + 1) σd = whileN t b n σ2 → (∀ n, whileN t b (n + 1) σd = whileN t b n σ2) → whileRun t b σd = whileRun t b σ2 := fun σ2 n _ hall => by
    by_cases ex : ∃ n, whileN t b n σ2 ≠ .bad
    · obtain ⟨m, hm⟩ := ex
      rw [whileRun_eq hm, whileRun_eq (n := m + 1) (by rw [hall]; exact hm), hall]
    · rw [whileRun_bad (σd := σ2) (fun n => Classical.byContradiction fun z => ex ⟨n, z⟩)]
      refine whileRun_bad fun n => ?_
      cases n with
      | zero => rfl
      | succ n =>
        rw [hall]
        exact Classical.byContradiction fun z => ex ⟨n, z⟩
  have fin : ∀ r : SRes, (∀ n, whileN t b (n + 1) σd = r) → whileRun t b σd = r := fun r h => by
    by_cases hr : r = .bad
    · subst hr
      refine whileRun_bad fun n => ?_
      cases n with
      | zero => rfl
      | succ n => exact h n
    · rw [whileRun_eq (n := 1) (by rw [h 0]; exact hr), h 0]
  cases ht : t.run σd with
  | err x σ' => exact fin _ fun n => by unfold whileN; rw [ht]; rfl
  | bad => exact fin _ fun n => by unfold whileN; rw [ht]; rfl
  | ok c σ1 =>
    cases c with
    | false => exact fin _ fun n => by unfold whileN; rw [ht]; rfl
    | true =>
      show whileRun t b σd = match b.run σ1 with
        | .nx σ2 => whileRun t b σ2
        | .ct σ2 => whileRun t b σ2
        | .bk σ2 => .nx σ2
        | r => r
      have un : ∀ n, whileN t b (n + 1) σd = match b.run σ1 with
        | .nx σ2 => whileN t b n σ2
        | .ct σ2 => whileN t b n σ2
        | .bk σ2 => .nx σ2
        | r => r := fun n => by
        show bindS (t.run σd) _ = _
        rw [ht]
        rfl
      cases hb : b.run σ1 with
      | nx σ2 => exact key σ2 0 (by rw [un, hb]) (fun n => by rw [un, hb])
      | ct σ2 => exact key σ2 0 (by rw [un, hb]) (fun n => by rw [un, hb])
      | bk σ2 => exact fin _ fun n => by rw [un, hb]
      | rt d σ2 => exact fin _ fun n => by rw [un, hb]
      | er x σ2 => exact fin _ fun n => by rw [un, hb]
      | bad => exact fin _ fun n => by rw [un, hb]
noncomputable def sWhile (t : TC) (b : SC) : SC := ⟨whileRun t b, t.rw ++ b.rw, b.asg⟩
theorem ds_while {X : Cx} {W : WX} {c : Expr} {body : List Stmt} {t : TC} {b : SC} {pos : Pos} (hp : PassesOwn (model X.prog X.w) X.A X.env X.xe) (hc : DT X W c t) (hb : DSs X W body b) : DS X W (.While c body [] pos) (sWhile t b) :=
  (ps_while hp hc hb).le fun D σ H ⟨σd, fps, E, q⟩ => by
    have hn : ∃ n, whileN t b n σd ≠ .bad := by
      refine Classical.byContradiction fun h => ?_
      have hb : whileRun t b σd = .bad := whileRun_bad fun n => Classical.byContradiction fun z => h ⟨n, z⟩
      change rdsr _ _ _ _ _ σ H σd fps (whileRun t b σd) D at q
      rw [hb] at q
      exact q
    obtain ⟨n, hn⟩ := hn
    change rdsr _ _ _ _ _ σ H σd fps (whileRun t b σd) D at q
    rw [whileRun_eq hn] at q
    refine ⟨fun m σ H => ∃ σd fps, EnvR (gv X) H σd σ fps ∧ rdsr (gv X) W (t.rw ++ b.rw) b.asg [] σ H σd fps (whileN t b m σd) D, ⟨n, σd, fps, E, q⟩, fun m σ H P => ?_⟩
    obtain ⟨σd, fps, E, q⟩ := P
    cases m with
    | zero => exact q.elim
    | succ m =>
      unfold whileN at q
      refine rdS_T (rr := t.rw ++ b.rw) (aa := b.asg) (f := fun c σ1 => if c then (match b.run σ1 with
        | .nx σ2 => whileN t b m σ2
        | .ct σ2 => whileN t b m σ2
        | .bk σ2 => .nx σ2
        | r => r) else .nx σ1) (D := D) mem_l ⟨σd, fps, E, q⟩ fun c σd1 H1 fps1 E1 q1 => ?_
      cases c with
      | false => exact q1 σ H1 fps1 E1 (Stp.refl fun _ h => nomatch h) SameV.refl
      | true =>
        rw [if_pos rfl]
        refine ⟨fun σ' H' => ∃ σd fps, EnvR (gv X) H' σd σ' fps ∧ rdsr (gv X) W (t.rw ++ b.rw) b.asg [] σ' H' σd fps (whileN t b m σd) D, fun σ' H' P => ⟨m, Nat.lt_succ_self m, P⟩, σd1, fps1, E1, ?_⟩
        rw [if_pos rfl] at q1
        have on : ∀ σd2 σ2 H2 fps2, EnvR (gv X) H2 σd2 σ2 fps2 → Stp b.rw [] H1 σd1 fps1 H2 σd2 fps2 [] → SameV b.asg σ σ2 → rdsr (gv X) W (t.rw ++ b.rw) b.asg [] σ H1 σd1 fps1 (whileN t b m σd2) D → ∃ σd fps, EnvR (gv X) H2 σd σ2 fps ∧ rdsr (gv X) W (t.rw ++ b.rw) b.asg [] σ2 H2 σd fps (whileN t b m σd) D :=
          fun σd2 σ2 H2 fps2 E2 S2 V2 q2 => ⟨σd2, fps2, E2, rdsr.push S2 V2 E2 nilD mem_r (fun _ h => h) (fun _ h => h) (fun _ h => h) q2⟩
        cases hr2 : b.run σd1 with
        | nx σd2 => rw [hr2] at q1; exact fun σ2 H2 fps2 E2 S2 V2 => on σd2 σ2 H2 fps2 E2 S2 V2 q1
        | ct σd2 => rw [hr2] at q1; exact fun σ2 H2 fps2 E2 S2 V2 => on σd2 σ2 H2 fps2 E2 S2 V2 q1
        | bk σd2 => rw [hr2] at q1; exact fun σ2 H2 fps2 E2 S2 V2 => q1 σ2 H2 fps2 E2 (S2.wk mem_r (fun _ h => h) (fun _ h => .inl h)) V2
        | rt d2 σd2 => rw [hr2] at q1; exact fun v σ2 H2 fps2 f E2 rp2 dj S2 V2 => q1 v σ2 H2 fps2 f E2 rp2 dj (S2.wk mem_r (fun _ h => h) (fun _ h => .inl h)) V2
        | er z σd2 => rw [hr2] at q1; exact fun c dx σ2 H2 fps2 E2 xr S2 V2 => q1 c dx σ2 H2 fps2 E2 xr (S2.wk mem_r (fun _ h => h) (fun _ h => .inl h)) V2
        | bad => rw [hr2] at q1; exact q1
end A2
end S_A2m
section S_A2n
set_option Elab.async false
set_option linter.all false
set_option maxRecDepth 100000
set_option maxHeartbeats 4000000
open PySem PySem.Spec L2
open PyProof.Rows hiding St
namespace A2
/-! ## list comprehensions -/
def W0 : WX := fun _ _ _ _ => False
def wipeD (σd : DSt) : List Nat → DSt
  | [] => σd
  | v :: vs => (wipeD σd vs).set v none
def restore (σ1 σ2 : DSt) : List Nat → DSt
  | [] => σ2
  | v :: vs => (restore σ1 σ2 vs).set v ((σ1[v]?).join)
def ownOk (σd : DSt) (vs : List Nat) : Bool := vs.all fun v => match σd[v]? with
  | some (some d) => d.imm
  | _ => true
def compRun (p : PC) (t : TC) (c : EC) (vs : List Nat) : List D → List D → DSt → Res (List D)
  | [], acc, σd => .ok acc σd
  | d :: ds, acc, σd => match p.run d σd with
    | some σ1 => (match t.run σ1 with
      | .ok true σ2 => (match c.run σ2 with
        | .ok (.tmp e) σ3 => compRun p t c vs ds (acc ++ [e]) (wipeD σ3 vs)
        | _ => .bad)
      | .ok false σ2 => compRun p t c vs ds acc (wipeD σ2 vs)
      | _ => .bad)
    | none => .bad
def compEnd (p : PC) (t : TC) (c : EC) (vs : List Nat) (ds : List D) (σ1 : DSt) : Res RV := if ds.length ≤ sizeLine ∧ ownOk σ1 vs = true ∧ subB p.rw vs = true ∧ subB vs p.rw = true then (match compRun p t c vs ds [] (wipeD σ1 vs) with
  | .ok acc σ2 => .ok (.tmp (.lst acc)) (restore σ1 σ2 vs)
  | _ => .bad) else .bad
def compOf (p : PC) (t : TC) (c : EC) (vs : List Nat) (x : RV) (σd : DSt) : Res RV := match x.get σd with
  | some d => (match itemsOf d with
    | some ds => if loopOk (p.rw ++ (t.rw ++ c.rw)) x = true then compEnd p t c vs ds σd else .bad
    | none => .bad)
  | none => .bad
def cComp (vs : List Nat) (p : PC) (t : TC) (c : EC) (s : EC) : EC := ⟨fun σd => (s.run σd).bind (compOf p t c vs), s.rw ++ (p.rw ++ (t.rw ++ c.rw))⟩
def compROf (g : List D → Option (Int × Nat)) (p : PC) (t : TC) (c : EC) (vs : List Nat) (rvs : List RV) (σd : DSt) : Res RV := match rngOf g σd rvs with
  | some (lo, n) => compEnd p t c vs (rangeD lo n) σd
  | none => .bad
def cCompR (g : List D → Option (Int × Nat)) (vs : List Nat) (p : PC) (t : TC) (c : EC) (a : AC) : EC := ⟨fun σd => (a.run σd).bind (compROf g p t c vs), a.rw ++ (p.rw ++ (t.rw ++ c.rw))⟩
def cYes : TC := ⟨fun σd => .ok true σd, []⟩
abbrev DPT (X : Cx) (W : WX) (ifs : List Expr) (t : TC) : Prop := PTs X ifs (rdT (gv X) W t)
theorem dpt_nil {X : Cx} {W : WX} : DPT X W [] cYes := ⟨fun pins s σ H Q I ⟨σd, fps, E, q⟩ => (pts_nil (X := X)).run pins s σ H Q I (q H fps E (Stp.refl fun _ h => nomatch h))⟩
theorem dpt_one {X : Cx} {W : WX} {c : Expr} {t : TC} (h : DT X W c t) : DPT X W [c] t := pts_one h
section
variable {G : Gv} {W : WX} {H H1 H2 H' : Hp} {σd σd1 σd2 σd' : DSt} {σ σ1 σ' : L2.St} {fps fps1 fps2 fps' : Nat → List Addr} {r r1 r2 a0 a1 a2 vs : List Nat} {tf tf' e1 e2 ex : List Addr}
theorem wipeD_get : ∀ {vs : List Nat} {i : Nat}, (wipeD σd vs)[i]? = if i ∈ vs ∧ i < σd.length then some none else σd[i]?
  | [], i => by simp [wipeD]
  | v :: vs, i => by
    have ih := wipeD_get (vs := vs) (i := i)
    have hl : (wipeD σd vs).length = σd.length := by
      clear ih
      induction vs with
      | nil => rfl
      | cons a b ih => simp [wipeD, ih]
    unfold wipeD
    by_cases h : v = i
    · subst h
      rw [List.getElem?_set]
      by_cases hv : v < σd.length
      · simp [hl, hv]
      · simp [hl, hv]
    · rw [getset h, ih]
      have : i ∈ v :: vs ↔ i ∈ vs := by
        rw [List.mem_cons]
        exact ⟨fun z => z.elim (fun q => absurd q.symm h) id, .inr⟩
      simp only [this]
theorem wipeD_len : ∀ {vs : List Nat}, (wipeD σd vs).length = σd.length
  | [] => rfl
  | v :: vs => by simp [wipeD, wipeD_len (vs := vs)]
theorem wipe_get : ∀ {vs : List Nat} {i : Nat}, (wipe σ vs)[i]? = if i ∈ vs ∧ i < σ.length then some none else σ[i]?
  | [], i => by simp [wipe]
  | v :: vs, i => by
    have ih := wipe_get (vs := vs) (i := i)
    have hl : (wipe σ vs).length = σ.length := wipe_length σ vs
    unfold wipe
    by_cases h : v = i
    · subst h
      rw [List.getElem?_set]
      by_cases hv : v < σ.length
      · simp [hl, hv]
      · simp [hl, hv]
    · rw [getset h, ih]
      have : i ∈ v :: vs ↔ i ∈ vs := by
        rw [List.mem_cons]
        exact ⟨fun z => z.elim (fun q => absurd q.symm h) id, .inr⟩
      simp only [this]
theorem restore_get {σ1 σ2 : DSt} (hl : σ1.length = σ2.length) : ∀ {vs : List Nat} {i : Nat}, (restore σ1 σ2 vs)[i]? = if i ∈ vs then σ1[i]? else σ2[i]?
  | [], i => by simp [restore]
  | v :: vs, i => by
    have ih := restore_get hl (vs := vs) (i := i)
    have hl' : (restore σ1 σ2 vs).length = σ2.length := by
      clear ih
      induction vs with
      | nil => rfl
      | cons a b ih => simp [restore, ih]
    unfold restore
    by_cases h : v = i
    · subst h
      rw [List.getElem?_set]
      by_cases hv : v < σ2.length
      · have hv' : v < σ1.length := by rw [hl]; exact hv
        simp [hl', hv, List.getElem?_eq_getElem hv']
      · simp [hl', hv]
        rw [hl]
        exact Nat.not_lt.mp hv
    · rw [getset h, ih]
      have : i ∈ v :: vs ↔ i ∈ vs := by
        rw [List.mem_cons]
        exact ⟨fun z => z.elim (fun q => absurd q.symm h) id, .inr⟩
      simp only [this]
theorem restore_len {σ1 σ2 : DSt} : ∀ {vs : List Nat}, (restore σ1 σ2 vs).length = σ2.length
  | [] => rfl
  | v :: vs => by simp [restore, restore_len (vs := vs)]
theorem own_nil (E : EnvR G H σd σ fps) (o : ownOk σd vs = true) {v : Nat} (hv : v ∈ vs) : fps v = [] := by
  have h := List.all_eq_true.mp o v hv
  cases q : σd[v]? with
  | none => exact E.ded v fun d e => by rw [q] at e; cases e
  | some x =>
    cases x with
    | none => exact E.ded v fun d e => by rw [q] at e; cases e
    | some d =>
      rw [q] at h
      obtain ⟨w, _, r⟩ := E.rep v d q
      exact Rep.imm d w _ h r
theorem EnvR.wipe (E : EnvR G H σd σ fps) (o : ownOk σd vs = true) : EnvR G H (wipeD σd vs) (L2.wipe σ vs) fps where
  tb := E.tb
  len := by rw [wipeD_len, wipe_length]; exact E.len
  rep := fun i d e => by
    rw [wipeD_get] at e
    split at e
    · cases e
    · rename_i h
      obtain ⟨v, e1, r⟩ := E.rep i d e
      refine ⟨v, ?_, r⟩
      rw [wipe_get, if_neg (by rw [← E.len]; exact h)]
      exact e1
  dj := E.dj
  ded := fun i n => by
    by_cases h : i ∈ vs
    · exact own_nil E o h
    · exact E.ded i fun d e => n d (by rw [wipeD_get, if_neg (fun z => h z.1)]; exact e)
/-- within a block, back to the state between two turns -/
theorem EnvR.rewipe (E : EnvR G H σd σ1 fps) (hw : L2.wipe σ1 vs = L2.wipe σ vs) : EnvR G H (wipeD σd vs) (L2.wipe σ vs) (fun i => if i ∈ vs then [] else fps i) where
  tb := E.tb
  len := by
    rw [wipeD_len, ← hw, wipe_length]
    exact E.len
  rep := fun i d e => by
    rw [wipeD_get] at e
    split at e
    · cases e
    · rename_i h
      obtain ⟨v, e1, r⟩ := E.rep i d e
      have hi : i < σd.length := (List.getElem?_eq_some_iff.mp e).1
      have hn : i ∉ vs := fun z => h ⟨z, hi⟩
      refine ⟨v, ?_, by rw [if_neg hn]; exact r⟩
      rw [← hw, wipe_get, if_neg (by rw [← E.len]; exact h)]
      exact e1
  dj := fun i j n a h z => by
    split at h
    · cases h
    · split at z
      · cases z
      · exact E.dj i j n a h z
  ded := fun i n => by
    split
    · rfl
    · rename_i h
      exact E.ded i fun d e => n d (by rw [wipeD_get, if_neg (fun z => h z.1)]; exact e)
theorem wipe_same {σ1 : L2.St} (s : SameV vs (L2.wipe σ vs) σ1) : L2.wipe σ1 vs = L2.wipe σ vs := by
  have hl : σ1.length = σ.length := by rw [s.1, wipe_length]
  refine List.ext_getElem? fun i => ?_
  rw [wipe_get, wipe_get, hl]
  by_cases h : i ∈ vs
  · by_cases h2 : i < σ.length
    · rw [if_pos ⟨h, h2⟩, if_pos ⟨h, h2⟩]
    · rw [if_neg (fun z => h2 z.2), if_neg (fun z => h2 z.2), List.getElem?_eq_none (by omega), List.getElem?_eq_none (by omega)]
  · rw [if_neg (fun z => h z.1), if_neg (fun z => h z.1), s.2 i h, wipe_get, if_neg (fun z => h z.1)]
/-- the state behind the comprehension -/
theorem EnvR.back (E0 : EnvR G H σd σ fps) (E : EnvR G H' σd' (L2.wipe σ vs) fps') (o : ownOk σd vs = true) (k : ∀ (d : D) (v : V), Rep G H d v [] → Rep G H' d v []) (z : ∀ v ∈ vs, fps' v = []) : EnvR G H' (restore σd σd' vs) σ fps' := by
  have hl : σd.length = σd'.length := by
    rw [E0.len, E.len, wipe_length]
  refine ⟨by rw [restore_len, ← hl]; exact E0.len, fun i d e => ?_, E.dj, fun i n => ?_, E.tb⟩
  · rw [restore_get hl] at e
    by_cases h : i ∈ vs
    · rw [if_pos h] at e
      obtain ⟨v, e1, r⟩ := E0.rep i d e
      rw [own_nil E0 o h] at r
      exact ⟨v, e1, by rw [z i h]; exact k d v r⟩
    · rw [if_neg h] at e
      obtain ⟨v, e1, r⟩ := E.rep i d e
      refine ⟨v, ?_, r⟩
      rw [wipe_get, if_neg (fun z => h z.1)] at e1
      exact e1
  · by_cases h : i ∈ vs
    · exact z i h
    · exact E.ded i fun d e => n d (by rw [restore_get hl, if_neg h]; exact e)
end
/-! ### the turns -/
section
variable {G : Gv} {W : WX} {H H1 H2 H' : Hp} {σd σd1 σd2 σd' : DSt} {σ σ1 σ' : L2.St} {fps fps1 fps2 fps' : Nat → List Addr} {r r1 r2 a0 a1 a2 vs : List Nat} {tf tf' e1 e2 ex : List Addr}
theorem Reps.snoc {d : D} {v : V} {g : List Addr} (rp : Rep G H d v g) : ∀ {ds : List D} {us : List V} {f : List Addr}, Reps G H ds us f → Dj f g → Reps G H (ds ++ [d]) (us ++ [v]) (f ++ g)
  | [], us, f, h, dj => by
    rw [h.1, h.2]
    exact ⟨v, [], g, [], rfl, rp, ⟨rfl, rfl⟩, fun _ _ h => (nomatch h), by simp⟩
  | e :: ds, us, f, ⟨w, t, f1, f2, ev, p, q, d12, ef⟩, dj => by
    subst ev ef
    refine ⟨w, t ++ [v], f1, f2 ++ g, rfl, p, Reps.snoc rp q fun a h => dj a (List.mem_append_right _ h), fun a h z => ?_, by simp⟩
    rcases List.mem_append.mp z with z | z
    · exact d12 a h z
    · exact dj a (List.mem_append_left _ h) z
/-- what holds between two turns; q: what is wanted at the end -/
def CompP (G : Gv) (rw : List Nat) (tf : List Addr) (H1 : Hp) (σd1 : DSt) (fps1 : Nat → List Addr) (σ : L2.St) (p : PC) (t : TC) (c : EC) (vs : List Nat) (Pers : (Nat → List Addr) → Hp → Prop) (Dn : Addr) (items : List D)
    (fin : List D → DSt → Prop) (i : Nat) (H : Hp) : Prop :=
  ∃ σd fps accD acc facc, EnvR G H σd (L2.wipe σ vs) fps ∧ (∀ v ∈ vs, fps v = []) ∧ Pers fps H ∧ H Dn = some (.lst acc) ∧ Reps G H accD acc facc ∧ Dn ∉ facc ∧ (∀ j, Dj (Dn :: facc) (fps j)) ∧ accD.length ≤ i ∧
    Stp rw tf H1 (wipeD σd1 vs) fps1 H σd fps (Dn :: facc) ∧ ∃ accF σF, compRun p t c vs (items.drop i) accD σd = .ok accF σF ∧ fin accF σF
theorem comp_turn {p : PC} {t : TC} {c : EC} {Pers : (Nat → List Addr) → Hp → Prop} {Dn : Addr} {items : List D} {fin : List D → DSt → Prop} {i : Nat} {d : D} {x : V} (hp : ∀ j ∈ p.rw, j ∈ r) (ht : ∀ j ∈ t.rw, j ∈ r) (hc : ∀ j ∈ c.rw, j ∈ r) (hv : ∀ j ∈ p.rw, j ∈ vs) (hv' : ∀ j ∈ vs, j ∈ r)
    (hsz : items.length ≤ sizeLine) (pers : ∀ {σd fps σ H σd' fps' H' ex}, EnvR G H σd σ fps → Pers fps H → Stp (p.rw ++ (t.rw ++ c.rw)) [] H σd fps H' σd' fps' ex → Pers fps' H')
    (pup : ∀ {fps H acc}, Pers fps H → H Dn = some (.lst acc) → (∀ j, Dn ∉ fps j) → ∀ o', Pers fps (upd H Dn o')) (pcut : ∀ {fps H}, Pers fps H → Pers (fun i => if i ∈ vs then [] else fps i) H)
    (hd : items[i]? = some d) (P : CompP G r tf H1 σd1 fps1 σ p t c vs Pers Dn items fin i H) (rp : Rep G H d x []) :
    rdG G p x (L2.wipe σ vs) H fun σ2 H2 => L2.wipe σ2 vs = L2.wipe σ vs ∧ rdT G W0 t σ2 H2 fun b H3 => if b = true then rd G W0 c σ2 H3 fun y H4 => ∃ acc, H4 Dn = some (.lst acc) ∧ acc.length < sizeLine ∧
      CompP G r tf H1 σd1 fps1 σ p t c vs Pers Dn items fin (i + 1) (upd H4 Dn (.lst (acc ++ [y]))) else CompP G r tf H1 σd1 fps1 σ p t c vs Pers Dn items fin (i + 1) H3 := by
  obtain ⟨σd, fps, accD, acc, facc, E, zn, pe, hD, ra, nD, dA, lA, S0, accF, σF, run, fin1⟩ := P
  have hi : i < items.length := (List.getElem?_eq_some_iff.mp hd).1
  have hdr : items.drop i = d :: items.drop (i + 1) := by
    rw [List.drop_eq_getElem_cons hi]
    congr 1
    exact (List.getElem?_eq_some_iff.mp hd).2
  rw [hdr] at run
  unfold compRun at run
  refine ⟨σd, fps, d, [], E, rp, fun _ => djnil, ?_⟩
  cases hr : p.run d σd with
  | none => rw [hr] at run; cases run
  | some σd2 =>
    rw [hr] at run
    dsimp only at run
    intro σ2 H2 fps2 E2 S2 V2
    have hw : L2.wipe σ2 vs = L2.wipe σ vs := wipe_same (V2.mono hv)
    refine ⟨hw, ?_⟩
    have nDH : H Dn ≠ none := by rw [hD]; exact fun z => nomatch z
    have tN : ∀ a ∈ Dn :: facc, H a ≠ none := fun a ha => by
      rcases List.mem_cons.mp ha with rfl | ha
      · exact nDH
      · obtain ⟨o, e, _⟩ := Reps.dom accD acc facc ra a ha
        rw [e]
        exact fun z => nomatch z
    obtain ⟨S2', td2, tn2, _⟩ := Stp.beside S2 dA tN
    rw [List.nil_append] at S2'
    have nF : ∀ a ∈ Dn :: facc, ¬ ((∃ j, j ∈ p.rw ∧ a ∈ fps j) ∨ a ∈ ([] : List Addr)) := fun a ha z => z.elim (fun ⟨j, _, h⟩ => dA j a ha h) (fun h => nomatch h)
    have hD2 : H2 Dn = some (.lst acc) := S2.keep.at_ Dn _ hD (fun _ z => nomatch z) (.inl (nF Dn (List.mem_cons_self ..)))
    have ra2 : Reps G H2 accD acc facc := Reps.keep S2.keep accD acc facc (fun a ha => nF a (List.mem_cons_of_mem _ ha)) ra
    refine seqT (r := t.rw) (tf := []) E2 (fun _ h => h) (fun b σd3 h3 H3 fps3 E3 S3 => ?_) (fun z σd3 h3 => ?_) (fun h3 => ?_)
    · obtain ⟨S3', td3, tn3, _⟩ := Stp.beside S3 td2 tn2
      rw [List.nil_append] at S3'
      have nF3 : ∀ a ∈ Dn :: facc, ¬ ((∃ j, j ∈ t.rw ∧ a ∈ fps2 j) ∨ a ∈ ([] : List Addr)) := fun a ha z => z.elim (fun ⟨j, _, h⟩ => td2 j a ha h) (fun h => nomatch h)
      have hD3 : H3 Dn = some (.lst acc) := S3.keep.at_ Dn _ hD2 (fun _ z => nomatch z) (.inl (nF3 Dn (List.mem_cons_self ..)))
      have ra3 : Reps G H3 accD acc facc := Reps.keep S3.keep accD acc facc (fun a ha => nF3 a (List.mem_cons_of_mem _ ha)) ra2
      have sub3 : ∀ j ∈ p.rw, j ∈ p.rw ++ (t.rw ++ c.rw) := mem_l
      have pe3 : Pers fps3 H3 := pers E pe ((S2.wk (fun j h => mem_l j h) (fun _ h => h) (fun _ h => .inl h)).then E2.dj nilD (S3.wk (r' := p.rw ++ (t.rw ++ c.rw)) (tf' := []) (fun j h => mem_r j (mem_l j h)) (fun _ h => h) (fun _ h => .inl h)) (fun _ h => h) (fun _ h => h))
      have S23 : Stp r (Dn :: facc) H σd fps H3 σd3 fps3 (Dn :: facc) := S2'.then E2.dj td2 S3' hp ht
      cases b with
      | true =>
        rw [h3] at run
        dsimp only at run
        rw [if_pos rfl]
        refine seqE (r := c.rw) (tf := []) E3 (fun _ h => h) (fun y σd4 h4 v4 H4 fps4 f4 E4 R4 S4 => ?_) (fun y σd4 h4 => ?_) (fun h4 => ?_)
        · rw [h4] at run
          cases y with
          | plc s pp => cases run
          | tmp e =>
            dsimp only at run
            obtain ⟨S4', td4, tn4, dj4⟩ := Stp.beside S4 td3 tn3
            have nF4 : ∀ a ∈ Dn :: facc, ¬ ((∃ j, j ∈ c.rw ∧ a ∈ fps3 j) ∨ a ∈ ([] : List Addr)) := fun a ha z => z.elim (fun ⟨j, _, h⟩ => td3 j a ha h) (fun h => nomatch h)
            have hD4 : H4 Dn = some (.lst acc) := S4.keep.at_ Dn _ hD3 (fun _ z => nomatch z) (.inl (nF4 Dn (List.mem_cons_self ..)))
            have ra4 : Reps G H4 accD acc facc := Reps.keep S4.keep accD acc facc (fun a ha => nF4 a (List.mem_cons_of_mem _ ha)) ra3
            have hal : acc.length = accD.length := ra4.len
            refine ⟨acc, hD4, by rw [hal]; omega, ?_⟩
            have nDf4 : Dn ∉ f4 := dj4 Dn (List.mem_cons_self ..)
            -- the list is written
            have kU : Keep (· ∈ [Dn]) H4 (upd H4 Dn (.lst (acc ++ [v4]))) := .of fun a o e q => by
              by_cases ha : a = Dn
              · subst ha
                rw [hD4] at e
                cases e
                exact (q.elim (fun z => z (List.mem_singleton.mpr rfl)) (fun z => z trivial)).elim
              · rw [upd_ne ha]
                exact e
            have E5 : EnvR G (upd H4 Dn (.lst (acc ++ [v4]))) σd4 σ2 fps4 := E4.keep kU fun j a ha z => td4 j Dn (List.mem_cons_self ..) (List.mem_singleton.mp z ▸ ha)
            have rw5 : Rep G (upd H4 Dn (.lst (acc ++ [v4]))) e v4 f4 := Rep.keep kU e v4 f4 (fun a ha z => nDf4 (List.mem_singleton.mp z ▸ ha)) R4.1
            have ra5 : Reps G (upd H4 Dn (.lst (acc ++ [v4]))) accD acc facc := Reps.keep kU accD acc facc (fun a ha z => nD (List.mem_singleton.mp z ▸ ha)) ra4
            have d54 : Dj facc f4 := fun a h z => dj4 a (List.mem_cons_of_mem _ h) z
            have S5 : Stp r (f4 ++ (Dn :: facc)) H4 σd4 fps4 (upd H4 Dn (.lst (acc ++ [v4]))) (wipeD σd4 vs) (fun i => if i ∈ vs then [] else fps4 i) (Dn :: (facc ++ f4)) := by
              refine ⟨kU.mono fun a ha => .inr (by rw [List.mem_singleton.mp ha]; exact List.mem_append_right _ (List.mem_cons_self ..)), fun a z => ?_, fun j n => ?_, fun a ha => ?_⟩
              · rcases z with z | ⟨j, z⟩
                · refine .inr (.inl ?_)
                  simp only [List.mem_cons, List.mem_append] at z ⊢
                  rcases z with z | z | z
                  · exact .inr (.inl z)
                  · exact .inr (.inr z)
                  · exact .inl z
                · split at z
                  · cases z
                  · exact .inl ⟨j, z⟩
              · have hn : j ∉ vs := fun z => n (hv' j z)
                exact ⟨by rw [wipeD_get, if_neg (fun z => hn z.1)], if_neg hn⟩
              · by_cases hb : a = Dn
                · rw [hb, upd_same]
                  exact fun z => nomatch z
                · rw [upd_ne hb]
                  exact ha
            have dJ4 : ∀ j, Dj (f4 ++ (Dn :: facc)) (fps4 j) := fun j a ha => by
              rcases List.mem_append.mp ha with ha | ha
              · exact R4.2 j a ha
              · exact td4 j a ha
            have S05 := ((S0.then E.dj dA S23 (fun _ h => h) (r := r) (fun _ h => h)).then E3.dj td3 S4' (fun _ h => h) (r := r) hc).then E4.dj dJ4 S5 (fun _ h => h) (r := r) (fun _ h => h)
            have S24 : Stp (p.rw ++ (t.rw ++ c.rw)) [] H σd fps H4 σd4 fps4 f4 := ((S2.wk (r' := p.rw ++ (t.rw ++ c.rw)) (tf' := []) mem_l (fun _ h => h) (fun _ h => .inl h)).then E2.dj nilD (S3.wk (r' := p.rw ++ (t.rw ++ c.rw)) (tf' := []) (fun j h => mem_r j (mem_l j h)) (fun _ h => h) (fun _ h => .inl h)) (fun _ h => h) (r := p.rw ++ (t.rw ++ c.rw)) (fun _ h => h)).then E3.dj nilD S4 (fun _ h => h) (fun j h => mem_r j (mem_r j h))
            have pe4 : Pers fps4 H4 := pers E pe S24
            refine ⟨wipeD σd4 vs, fun i => if i ∈ vs then [] else fps4 i, accD ++ [e], acc ++ [v4], facc ++ f4, E5.rewipe hw, fun v hv => if_pos hv, pcut (pup pe4 hD4 (fun j => td4 j Dn (List.mem_cons_self ..)) _), upd_same, Reps.snoc rw5 ra5 d54, fun z => ?_, fun j a ha z => ?_, by rw [List.length_append, List.length_singleton]; omega, S05, accF, σF, run, fin1⟩
            · rcases List.mem_append.mp z with z | z
              · exact nD z
              · exact nDf4 z
            · dsimp only at z
              split at z
              · cases z
              · simp only [List.mem_cons, List.mem_append] at ha
                rcases ha with ha | ha | ha
                · exact td4 j a (by rw [ha]; exact List.mem_cons_self ..) z
                · exact td4 j a (List.mem_cons_of_mem _ ha) z
                · exact R4.2 j a ha z
        · rw [h4] at run; cases run
        · rw [h4] at run; cases run
      | false =>
        rw [h3] at run
        dsimp only at run
        rw [if_neg Bool.false_ne_true]
        have S5 : Stp r (Dn :: facc) H3 σd3 fps3 H3 (wipeD σd3 vs) (fun i => if i ∈ vs then [] else fps3 i) (Dn :: facc) := by
          refine ⟨Keep.refl, fun a z => ?_, fun j n => ?_, fun a ha => ha⟩
          · rcases z with z | ⟨j, z⟩
            · exact .inr (.inl z)
            · split at z
              · cases z
              · exact .inl ⟨j, z⟩
          · have hn : j ∉ vs := fun z => n (hv' j z)
            exact ⟨by rw [wipeD_get, if_neg (fun z => hn z.1)], if_neg hn⟩
        have S05 := (S0.then E.dj dA S23 (fun _ h => h) (r := r) (fun _ h => h)).then E3.dj td3 S5 (fun _ h => h) (r := r) (fun _ h => h)
        refine ⟨wipeD σd3 vs, fun i => if i ∈ vs then [] else fps3 i, accD, acc, facc, E3.rewipe hw, fun v hv => if_pos hv, pcut pe3, hD3, ra3, nD, fun j a ha z => ?_, by omega, S05, accF, σF, run, fin1⟩
        dsimp only at z
        split at z
        · cases z
        · exact td3 j a ha z
    · rw [h3] at run; cases run
    · rw [h3] at run; cases run
end
end A2
end S_A2n
section S_A2o
set_option Elab.async false
set_option linter.all false
set_option maxRecDepth 100000
set_option maxHeartbeats 4000000
open PySem PySem.Spec L2
open PyProof.Rows hiding St
namespace A2
section
variable {G : Gv} {W : WX} {H H1 H2 H' : Hp} {σd σd1 σd2 σd' : DSt} {σ σ1 σ' : L2.St} {fps fps1 fps2 fps' : Nat → List Addr} {r r1 r2 a0 a1 a2 vs : List Nat} {tf tf' e1 e2 ex : List Addr}
theorem keepW {H : Hp} {p : Addr} {acc : List V} {o : HO} (e : H p = some (.lst acc)) : Keep (· ∈ [p]) H (upd H p o) := .of fun a u q z => by
  by_cases ha : a = p
  · subst ha
    rw [e] at q
    cases q
    exact (z.elim (fun y => y (List.mem_singleton.mpr rfl)) (fun y => y trivial)).elim
  · rw [upd_ne ha]
    exact q
/-- what comprehensions lean on -/
structure PersOk (G : Gv) (rw vs : List Nat) (Dn : Addr) (Pers : (Nat → List Addr) → Hp → Prop) : Prop where
  pers : ∀ {σd fps σ H σd' fps' H' ex}, EnvR G H σd σ fps → Pers fps H → Stp rw [] H σd fps H' σd' fps' ex → Pers fps' H'
  up : ∀ {fps H acc}, Pers fps H → H Dn = some (.lst acc) → (∀ j, Dn ∉ fps j) → ∀ o', Pers fps (upd H Dn o')
  cut : ∀ {fps H}, Pers fps H → Pers (fun i => if i ∈ vs then [] else fps i) H
theorem comp_start {p : PC} {t : TC} {c : EC} {Pers : (Nat → List Addr) → Hp → Prop} {Dn : Addr} {ds : List D} {Q : VK} (E : EnvR G H1 σd1 σ fps1) (nD : H1 Dn = none) (pe : Pers fps1 (upd H1 Dn (.lst [])))
    (q : rdr G W r tf σ H1 σd1 fps1 (compEnd p t c vs ds σd1) Q) : ds.length ≤ sizeLine ∧ (∀ j ∈ p.rw, j ∈ vs) ∧ (∀ j ∈ vs, j ∈ p.rw) ∧ ownOk σd1 vs = true ∧
      CompP G r tf H1 σd1 fps1 σ p t c vs Pers Dn ds (fun accF σF => rdr G W r tf σ H1 σd1 fps1 (.ok (.tmp (.lst accF)) (restore σd1 σF vs)) Q) 0 (upd H1 Dn (.lst [])) := by
  unfold compEnd at q
  split at q
  · rename_i hc
    obtain ⟨h1, h2, h3, h4⟩ := hc
    refine ⟨h1, subB_ok h3, subB_ok h4, h2, ?_⟩
    have k := keepF (o := .lst []) nD
    have nf : ∀ j, Dn ∉ fps1 j := fun j z => by
      obtain ⟨o, e, _⟩ := E.dom z
      rw [nD] at e
      cases e
    cases hr : compRun p t c vs ds [] (wipeD σd1 vs) with
    | ok accF σF =>
      rw [hr] at q
      refine ⟨wipeD σd1 vs, fps1, [], [], [], (E.all k).wipe h2, fun v hv => own_nil E h2 hv, pe, upd_same, ⟨rfl, rfl⟩, fun h => (nomatch h), fun j a ha => ?_, Nat.le_refl _, Stp.grow k fun a ha => ?_, accF, σF, hr, q⟩
      · rw [List.mem_singleton.mp ha]
        exact nf j
      · rw [List.mem_singleton.mp ha]
        exact .inr (.inr nD)
    | err x σ' => rw [hr] at q; exact q.elim
    | bad => rw [hr] at q; exact q.elim
  · exact q.elim
theorem comp_done {p : PC} {t : TC} {c : EC} {Pers : (Nat → List Addr) → Hp → Prop} {Dn : Addr} {ds : List D} {Q : VK} (E : EnvR G H1 σd1 σ fps1) (own : ownOk σd1 vs = true) (hv : ∀ j ∈ vs, j ∈ r)
    (P : CompP G r tf H1 σd1 fps1 σ p t c vs Pers Dn ds (fun accF σF => rdr G W r tf σ H1 σd1 fps1 (.ok (.tmp (.lst accF)) (restore σd1 σF vs)) Q) ds.length H) : Q (.ref Dn) H := by
  obtain ⟨σd, fps, accD, acc, facc, E', zn, pe, hD, ra, nD, dA, lA, S0, accF, σF, run, fin1⟩ := P
  rw [List.drop_length] at run
  cases run
  have hl : σd1.length = σd.length := by rw [E.len, E'.len, wipe_length]
  refine fin1 (.ref Dn) H fps (Dn :: facc) (E.back E' own (fun d v h => Rep.keep S0.keep d v [] (fun _ h => nomatch h) h) zn) ⟨⟨Dn, acc, facc, rfl, hD, ra, nD, rfl⟩, dA⟩ ⟨S0.keep, S0.new, fun j n => ?_, S0.dom⟩
  obtain ⟨s1, s2⟩ := S0.same j n
  have hn : j ∉ vs := fun z => n (hv j z)
  refine ⟨?_, s2⟩
  rw [restore_get hl, if_neg hn, s1, wipeD_get, if_neg (fun z => hn z.1)]
end
theorem persL_ok {G : Gv} {p : PC} {rw vs : List Nat} {a Dn : Addr} {us : List V} {ds : List D} (hv : ∀ j ∈ vs, j ∈ rw) : PersOk G rw vs Dn (fun fps H => PersL G rw a us ds fps H ∧ a ≠ Dn) where
  pers := fun E P S => ⟨P.1.step E S, P.2⟩
  up := fun P e n o' => by
    obtain ⟨⟨rs, P⟩, ne⟩ := P
    refine ⟨⟨Reps.all (keepW e) rs, ?_⟩, ne⟩
    rcases P with ⟨h, s⟩ | ⟨o, h⟩
    · exact .inl ⟨by rw [upd_ne ne]; exact h, s⟩
    · exact .inr ⟨o, by rw [upd_ne ne]; exact h⟩
  cut := fun P => by
    obtain ⟨⟨rs, P⟩, ne⟩ := P
    refine ⟨⟨rs, P.imp (fun ⟨h, s⟩ => ⟨h, ?_⟩) id⟩, ne⟩
    rcases s with s | ⟨i, hi, s⟩
    · refine .inl fun j z => ?_
      dsimp only at z
      split at z
      · cases z
      · exact s j z
    · exact .inr ⟨i, hi, by dsimp only; rw [if_neg (fun z => hi (hv i z))]; exact s⟩
theorem persT_ok {G : Gv} {rw vs : List Nat} {a Dn : Addr} {us : List V} {ds : List D} : PersOk G rw vs Dn (fun _ H => PersT G a us ds H) where
  pers := fun E P S => ⟨Reps.all S.keep P.1, SqT.keep S.keep P.2⟩
  up := fun P e n o' => ⟨Reps.all (keepW e) P.1, SqT.keep (keepW e) P.2⟩
  cut := fun P => P
theorem persN_ok {G : Gv} {rw vs : List Nat} {Dn : Addr} : PersOk G rw vs Dn (fun _ _ => True) := ⟨fun _ _ _ => trivial, fun _ _ _ _ => trivial, fun _ => trivial⟩
section
variable {X : Cx} {W : WX} {elt tg iter e1 e2 : Expr} {ifs : List Expr} {scope : Scope} {pos pp po : Pos} {s c : EC} {p : PC} {t : TC} {a : AC}
/-- the block's parts in its context -/
structure Blk (X : Cx) (scope : Scope) (tg : Expr) (ifs : List Expr) (elt : Expr) (p : PC) (t : TC) (c : EC) : Prop where
  tg : ∀ (s : Shared) (H : Hp) (C : Addr) (cl : List (Str × Addr)) (fp : List Addr), PG (X.blk s H scope (compEnvC scope cl C X.env) fp) tg (rdG (gv X) p)
  ifs : ∀ (s : Shared) (H : Hp) (C : Addr) (cl : List (Str × Addr)) (fp : List Addr), PTs (X.blk s H scope (compEnvC scope cl C X.env) fp) ifs (rdT (gv X) W0 t)
  elt : ∀ (s : Shared) (H : Hp) (C : Addr) (cl : List (Str × Addr)) (fp : List Addr), PE (X.blk s H scope (compEnvC scope cl C X.env) fp) elt (rd (gv X) W0 c)
theorem comp_rd {own : List (Str × Nat)} {σ : L2.St} {H : Hp} {Q : VK} (h : rd (gv X) W (cComp (own.map (·.2)) p t c s) σ H Q) :
    tLc (fun σ H R => iList X.K (rd (gv X) W s) σ H R ∨ iTup X.K (rd (gv X) W s) σ H R) (rdG (gv X) p) (rdT (gv X) W0 t) (rd (gv X) W0 c) (own.map (·.2)) σ H Q := by
  let vs := own.map (·.2)
  let rr := s.rw ++ (p.rw ++ (t.rw ++ c.rw))
  let R : It → Hp → Prop := fun J H1 => ∀ D, H1 D = none → ∃ W : Nat → Nat → Hp → Prop, (∃ m, W 0 m (upd H1 D (.lst []))) ∧ ∀ i m H, W i m H →
    (J.stop i H ∧ Q (.ref D) H) ∨ (J.go i H ∧ ∃ Nx : Hp → Prop, (∀ H', Nx H' → ∃ m', m' < m ∧ W (i + 1) m' H') ∧ ∀ x H', J.yld i H x H' → rdG (gv X) p x (wipe σ vs) H' fun σ2 H2 => wipe σ2 vs = wipe σ vs ∧ rdT (gv X) W0 t σ2 H2 fun b H3 =>
      if b = true then rd (gv X) W0 c σ2 H3 fun y H4 => ∃ acc, H4 D = some (.lst acc) ∧ acc.length < sizeLine ∧ Nx (upd H4 D (.lst (acc ++ [y]))) else Nx H3)
  show iList X.K (rd (gv X) W s) σ H R ∨ iTup X.K (rd (gv X) W s) σ H R
  have subp : ∀ j ∈ p.rw, j ∈ rr := fun j h => mem_r j (mem_l j h)
  have subt : ∀ j ∈ t.rw, j ∈ rr := fun j h => mem_r j (mem_r j (mem_l j h))
  have subc : ∀ j ∈ c.rw, j ∈ rr := fun j h => mem_r j (mem_r j (mem_r j h))
  have listCase : ∀ (a : Addr) (us : List V) (ds : List A2.D) x σd1 H1 fps1 f1, EnvR (gv X) H1 σd1 σ fps1 → RvR (gv X) H1 σ fps1 x (.ref a) f1 → Reps (gv X) H1 ds us [] → (H1 a = some (.lst us) ∧ (a ∈ f1 ∨ ∃ s pp, x = .plc s pp ∧ a ∈ fps1 s) ∨ ∃ o, H1 a = some (.frz o (.lst us))) → loopOk (p.rw ++ (t.rw ++ c.rw)) x = true →
      rdr (gv X) W rr f1 σ H1 σd1 fps1 (compEnd p t c vs ds σd1) Q → R (Itl X.K a) H1 := fun a us ds x σd1 H1 fps1 f1 E1 R1 rs hw lk q Dn nD => by
    have k := keepF (o := .lst []) nD
    have haD : a ≠ Dn := fun z => by
      subst z
      rcases hw with ⟨e, _⟩ | ⟨o, e⟩ <;> rw [nD] at e <;> cases e
    have P0 : PersL (gv X) (p.rw ++ (t.rw ++ c.rw)) a us ds fps1 (upd H1 Dn (.lst [])) := by
      refine ⟨Reps.all k rs, hw.imp (fun ⟨e, w⟩ => ⟨by rw [upd_ne haD]; exact e, ?_⟩) fun ⟨o, e⟩ => ⟨o, by rw [upd_ne haD]; exact e⟩⟩
      rcases w with w | ⟨s, pp, ex, w⟩
      · exact .inl fun j z => R1.dj j a w z
      · subst ex
        exact .inr ⟨s, of_decide_eq_true lk, w⟩
    obtain ⟨hsz, hpv, hvp, own1, C0⟩ := comp_start (Pers := fun fps H => PersL (gv X) (p.rw ++ (t.rw ++ c.rw)) a us ds fps H ∧ a ≠ Dn) E1 nD ⟨P0, haD⟩ q
    have PO := persL_ok (G := gv X) (p := p) (rw := p.rw ++ (t.rw ++ c.rw)) (vs := vs) (a := a) (Dn := Dn) (us := us) (ds := ds) (fun j h => mem_l j (hvp j h))
    refine lc_list (xs := us) _ C0 (fun i H _ P => ?_) (fun i x H ex P => ?_) (fun H P => ?_)
    · obtain ⟨_, _, _, _, _, _, _, pe, _⟩ := P
      exact pe.1.seq
    · have hl : us.length = ds.length := rs.len
      have hi : i < ds.length := by
        rw [← hl]
        exact (List.getElem?_eq_some_iff.mp ex).1
      have hd : ds[i]? = some ds[i] := List.getElem?_eq_getElem hi
      have P' := P
      obtain ⟨_, _, _, _, _, _, _, pe, _⟩ := P'
      obtain ⟨w, f, ew, rw', sb⟩ := Reps.at pe.1.1 hd
      rw [ex] at ew
      cases ew
      have ef : f = [] := List.eq_nil_iff_forall_not_mem.mpr fun b hb => nomatch sb b hb
      subst ef
      exact comp_turn subp subt subc hpv (fun j h => subp j (hvp j h)) hsz PO.pers PO.up PO.cut hd P rw'
    · rw [show us.length = ds.length from rs.len] at P
      exact comp_done E1 own1 (fun j h => subp j (hvp j h)) P
  have tupCase : ∀ (a : Addr) (us : List V) (ds : List A2.D) σd1 H1 fps1 f1, EnvR (gv X) H1 σd1 σ fps1 → Reps (gv X) H1 ds us [] → SqT X.K H1 a us →
      rdr (gv X) W rr f1 σ H1 σd1 fps1 (compEnd p t c vs ds σd1) Q → R (Itt X.K a) H1 := fun a us ds σd1 H1 fps1 f1 E1 rs hw q Dn nD => by
    have k := keepF (o := .lst []) nD
    obtain ⟨hsz, hpv, hvp, own1, C0⟩ := comp_start (Pers := fun _ H => PersT (gv X) a us ds H) E1 nD ⟨Reps.all k rs, SqT.keep k hw⟩ q
    have PO := persT_ok (G := gv X) (rw := p.rw ++ (t.rw ++ c.rw)) (vs := vs) (a := a) (Dn := Dn) (us := us) (ds := ds)
    refine lc_tup (xs := us) _ C0 (fun i H _ P => ?_) (fun i x H ex P => ?_) (fun H P => ?_)
    · obtain ⟨_, _, _, _, _, _, _, pe, _⟩ := P
      exact pe.2
    · have hl : us.length = ds.length := rs.len
      have hi : i < ds.length := by
        rw [← hl]
        exact (List.getElem?_eq_some_iff.mp ex).1
      have hd : ds[i]? = some ds[i] := List.getElem?_eq_getElem hi
      have P' := P
      obtain ⟨_, _, _, _, _, _, _, pe, _⟩ := P'
      obtain ⟨w, f, ew, rw', sb⟩ := Reps.at pe.1 hd
      rw [ex] at ew
      cases ew
      have ef : f = [] := List.eq_nil_iff_forall_not_mem.mpr fun b hb => nomatch sb b hb
      subst ef
      exact comp_turn subp subt subc hpv (fun j h => subp j (hvp j h)) hsz PO.pers (fun {fps H acc} h e _ o' => PO.up (fps := fps) h e (by assumption) o') (fun {fps H} h => h) hd P rw'
    · rw [show us.length = ds.length from rs.len] at P
      exact comp_done E1 own1 (fun j h => subp j (hvp j h)) P
  by_cases ht : ∃ σd fps x σd1 ds, EnvR (gv X) H σd σ fps ∧ s.run σd = .ok x σd1 ∧ x.get σd1 = some (.tup ds) ∧ rdr (gv X) W rr [] σ H σd fps ((cComp vs p t c s).run σd) Q
  · right
    obtain ⟨σd, fps, x, σd1, ds, E, hr, hx, q⟩ := ht
    change rdr _ _ _ _ σ H σd fps ((s.run σd).bind (compOf p t c vs)) Q at q
    refine seqE (r := rr) (tf := []) E mem_l (fun x' σd1' h1 v1 H1 fps1 f1 E1 R1 S1 => ?_) (fun x' σd1' h1 => ?_) (fun h1 => ?_)
    · rw [hr] at h1
      cases h1
      rw [hr] at q
      have q1 := rdr.push (r2 := rr) (R := compOf p t c vs x σd1) S1 E1 R1.dj mem_l (fun _ h => h) q
      unfold compOf at q1
      rw [hx] at q1
      dsimp only [itemsOf] at q1
      split at q1
      · rename_i ds' him
        split at him
        · rename_i im
          cases him
          split at q1
          · obtain ⟨f', ⟨a, us, ev, s', rs⟩, _⟩ := R1.rep E1 hx
            have ef := Reps.imm ds us f' im rs
            subst ef
            exact ⟨a, ev, ⟨us, s'⟩, tupCase a us ds σd1 H1 fps1 f1 E1 rs s' q1⟩
          · exact q1.elim
        · cases him
      · exact q1.elim
    · rw [hr] at h1; cases h1
    · rw [hr] at h1; cases h1
  · left
    obtain ⟨σd, fps, E, q⟩ := h
    have q0 := q
    change rdr _ _ _ _ σ H σd fps ((s.run σd).bind (compOf p t c vs)) Q at q
    refine seqE (r := rr) (tf := []) E mem_l (fun x σd1 h1 v1 H1 fps1 f1 E1 R1 S1 => ?_) (fun x σd1 h1 => ?_) (fun h1 => ?_)
    · rw [h1] at q
      have q1 := rdr.push (r2 := rr) (R := compOf p t c vs x σd1) S1 E1 R1.dj mem_l (fun _ h => h) q
      unfold compOf at q1
      split at q1
      · rename_i d hx
        obtain ⟨f', rp, sub⟩ := R1.rep E1 hx
        split at q1
        · rename_i ds him
          split at q1
          · rename_i lk
            cases d with
            | lst ds' =>
              unfold itemsOf at him
              dsimp only at him
              split at him
              · rename_i im
                cases him
                obtain ⟨a, us, f0, ev, s', rs, na, ef⟩ := rp
                have e0 := Reps.imm ds us f0 im rs
                subst e0
                subst ev
                exact ⟨a, rfl, ⟨us, .inl (.inl s')⟩, listCase a us ds x σd1 H1 fps1 f1 E1 R1 rs (.inl ⟨s', sub a (by rw [ef]; exact List.mem_cons_self ..)⟩) lk q1⟩
              · cases him
            | flst ds' =>
              unfold itemsOf at him
              dsimp only at him
              split at him
              · cases him
                obtain ⟨a, o, us, ev, s', rs, ef⟩ := rp
                subst ev
                exact ⟨a, rfl, ⟨us, .inl (.inr ⟨o, s'⟩)⟩, listCase a us ds x σd1 H1 fps1 f1 E1 R1 rs (.inr ⟨o, s'⟩) lk q1⟩
              · cases him
            | tup ds' => exact absurd ⟨σd, fps, x, σd1, ds', E, h1, hx, q0⟩ ht
            | _ => cases him
          · exact q1.elim
        · exact q1.elim
      · exact q1.elim
    · rw [h1] at q
      exact q
    · rw [h1] at q
      exact q
theorem de_comp (own : List (Str × Nat)) (hc : X.calm = true) (hN : X.N.Nodup) (hi : DE X W iter s) (ok : BlkOk X.N X.env.scope scope own) (B : Blk X scope tg ifs elt p t c) (hs : ∀ x, foldedSetIterable iter X.env x = pure x := by intro _; rfl) :
    DE X W (.ListComp elt [⟨tg, iter, ifs, 0⟩] scope pos) (cComp (own.map (·.2)) p t c s) :=
  (pe_lc hc hN (pi_or (pi_list hi) (pi_tup hi)) ok B.tg B.ifs B.elt hs).le fun _ _ _ h => comp_rd h
theorem compR_rd {own : List (Str × Nat)} {g : List A2.D → Option (Int × Nat)} {σ : L2.St} {H : Hp} {Q : VK} {wi : (List V → Option (Int × Nat))} {iR : TA → TI} (hiR : ∀ {H : Hp} {R : It → Hp → Prop}, rdA (gv X) W a σ H (fun us H1 => ∃ lo n ds, g ds = some (lo, n) ∧ Paired (fun d v => ∃ f, Rep (gv X) H1 d v f) ds us ∧ R (Itr lo n) H1) → iR (rdA (gv X) W a) σ H R)
    (h : rd (gv X) W (cCompR g (own.map (·.2)) p t c a) σ H Q) : tLc (iR (rdA (gv X) W a)) (rdG (gv X) p) (rdT (gv X) W0 t) (rd (gv X) W0 c) (own.map (·.2)) σ H Q := by
  refine hiR (rdA_then h fun x σd1 us H1 fps1 f1 E1 R1 q => ?_)
  unfold compROf rngOf at q
  split at q
  · rename_i lo n hr
    obtain ⟨ds, hd, hg⟩ := Option.bind_eq_some_iff.mp hr
    refine ⟨lo, n, ds, hg, getAll_rep E1 hd R1, fun Dn nD => ?_⟩
    have subp : ∀ j ∈ p.rw, j ∈ a.rw ++ (p.rw ++ (t.rw ++ c.rw)) := fun j h => mem_r j (mem_l j h)
    have subt : ∀ j ∈ t.rw, j ∈ a.rw ++ (p.rw ++ (t.rw ++ c.rw)) := fun j h => mem_r j (mem_r j (mem_l j h))
    have subc : ∀ j ∈ c.rw, j ∈ a.rw ++ (p.rw ++ (t.rw ++ c.rw)) := fun j h => mem_r j (mem_r j (mem_r j h))
    obtain ⟨hsz, hpv, hvp, own1, C0⟩ := comp_start (Pers := fun _ _ => True) E1 nD trivial q
    have PO := persN_ok (G := gv X) (rw := p.rw ++ (t.rw ++ c.rw)) (vs := own.map (·.2)) (Dn := Dn)
    refine lc_range (lo := lo) (n := n) _ C0 (fun i H hi P => ?_) (fun H P => ?_)
    · exact comp_turn subp subt subc hpv (fun j h => subp j (hvp j h)) hsz (fun _ _ _ => trivial) (fun _ _ _ _ => trivial) (fun _ => trivial) (rangeD_get n lo i hi) P ⟨rfl, rfl⟩
    · exact comp_done (ds := rangeD lo n) E1 own1 (fun j h => subp j (hvp j h)) (by rw [rangeD_len]; exact P)
  · exact q.elim
theorem de_compR1 (own : List (Str × Nat)) (hc : X.calm = true) (hN : X.N.Nodup) (hgr : Gl X "range") (hm : X.mg "range" = none) (ha : DA X W [e1] a) (ok : BlkOk X.N X.env.scope scope own) (B : Blk X scope tg ifs elt p t c)
    (hs1 : starEach [e1] X.env = [(false, eval e1 X.env)] := by rfl) (hs : ∀ x, foldedSetIterable (.Call (.Name "range" po) [e1] [] pp) X.env x = pure x := by intro _; rfl) :
    DE X W (.ListComp elt [⟨tg, .Call (.Name "range" po) [e1] [] pp, ifs, 0⟩] scope pos) (cCompR rng1 (own.map (·.2)) p t c a) :=
  (pe_lc hc hN (pi_range1 hgr hm ha hs1) ok B.tg B.ifs B.elt hs).le fun σ H Q h => compR_rd (wi := fun _ => none) (iR := iRng1) (fun {H R} q => by
    obtain ⟨σd, fps, E, q⟩ := q
    refine ⟨σd, fps, E, ?_⟩
    cases hr : a.run σd with
    | ok rv σ1 =>
      rw [hr] at q
      intro us H' fps' f E' R' S'
      obtain ⟨lo, n, ds, hg, pr, q1⟩ := q us H' fps' f E' R' S'
      obtain ⟨j, e, hb, el, en⟩ := rng1_some hg
      subst e el en
      obtain ⟨v, e, f', rp⟩ := paired1 pr
      exact ⟨j, by rw [e, rp.1], (inR_ok hb).1, (inR_ok hb).2, q1⟩
    | err x σ1 => rw [hr] at q; exact q
    | bad => rw [hr] at q; exact q) h
theorem de_compR2 (own : List (Str × Nat)) (hc : X.calm = true) (hN : X.N.Nodup) (hgr : Gl X "range") (hm : X.mg "range" = none) (ha : DA X W [e1, e2] a) (ok : BlkOk X.N X.env.scope scope own) (B : Blk X scope tg ifs elt p t c)
    (hs1 : starEach [e1, e2] X.env = [(false, eval e1 X.env), (false, eval e2 X.env)] := by rfl) (hs2 : starEach [e2] X.env = [(false, eval e2 X.env)] := by rfl) (hs : ∀ x, foldedSetIterable (.Call (.Name "range" po) [e1, e2] [] pp) X.env x = pure x := by intro _; rfl) :
    DE X W (.ListComp elt [⟨tg, .Call (.Name "range" po) [e1, e2] [] pp, ifs, 0⟩] scope pos) (cCompR rng2 (own.map (·.2)) p t c a) :=
  (pe_lc hc hN (pi_range2 hgr hm ha hs1 hs2) ok B.tg B.ifs B.elt hs).le fun σ H Q h => compR_rd (wi := fun _ => none) (iR := iRng2) (fun {H R} q => by
    obtain ⟨σd, fps, E, q⟩ := q
    refine ⟨σd, fps, E, ?_⟩
    cases hr : a.run σd with
    | ok rv σ1 =>
      rw [hr] at q
      intro us H' fps' f E' R' S'
      obtain ⟨lo, n, ds, hg, pr, q1⟩ := q us H' fps' f E' R' S'
      obtain ⟨i, j, e, hb, el, en⟩ := rng2_some hg
      subst e el en
      obtain ⟨v, w, e, ⟨f', rp⟩, ⟨f'', rp'⟩⟩ := paired2 pr
      exact ⟨_, j, by rw [e, rp.1, rp'.1], ⟨(inR_ok hb.1).1, (inR_ok hb.1).2, (inR_ok hb.2).1, (inR_ok hb.2).2⟩, q1⟩
    | err x σ1 => rw [hr] at q; exact q
    | bad => rw [hr] at q; exact q) h
end
end A2
end S_A2o
section S_A2p
set_option Elab.async false
set_option linter.all false
set_option maxRecDepth 100000
set_option maxHeartbeats 4000000
open PySem PySem.Spec L2
open PyProof.Rows hiding St
namespace A2
/-! ## what is changed at a place -/
section
variable {G : Gv} {W : WX} {H H1 H2 H' : Hp} {σd σd1 σd2 σd' : DSt} {σ σ1 σ' : L2.St} {fps fps1 fps2 fps' : Nat → List Addr} {r r1 r2 a0 a1 a2 vs : List Nat} {tf tf' e1 e2 ex : List Addr}
theorem place_upd {s : Nat} {p : List Step} {d0 e : D} {v : V} {f : List Addr} (E : EnvR G H σd σ fps) (hd : σd[s]? = some (some d0)) (hp : getP d0 p = some e) (R : RvR G H σ fps (.plc s p) v f) :
    ∃ fM, Rep G H e v fM ∧ (∀ a ∈ fM, a ∈ fps s) ∧ ∀ (H' : Hp) (e' : D) (fM' : List Addr), Keep (· ∈ fM) H H' → Rep G H' e' v fM' → (∀ a ∈ fM', a ∈ fM ∨ ∀ j, a ∉ fps j) → (∀ a ∈ fM', a ∈ fM ∨ a ∈ tf ∨ H a = none) → (∀ a, H a ≠ none → H' a ≠ none) →
      ∃ fps', EnvR G H' (σd.set s (some (setP d0 p e'))) σ fps' ∧ Stp [s] tf H σd fps H' (σd.set s (some (setP d0 p e'))) fps' [] ∧ ∀ a j, a ∈ fps' j → a ∈ fps j ∨ a ∈ fM' := by
  obtain ⟨v0, e0, r0⟩ := E.rep s d0 hd
  obtain ⟨_, v1, e1, at1⟩ := R
  rw [e0] at e1
  cases e1
  obtain ⟨w, fM, at2, rM, sub, up⟩ := Rep.focus p d0 v0 (fps s) e r0 hp
  have ew := At.fun p v0 w v at2 at1
  subst ew
  refine ⟨fM, rM, sub, fun H' e' fM' k r' n1 n2 dm => ?_⟩
  obtain ⟨fp', r2, p1, p2, p3⟩ := up H' e' fM' k r' fun a ha => (n1 a ha).imp id fun h => h s
  have hs : s < σd.length := (List.getElem?_eq_some_iff.mp hd).1
  have nin : ∀ i, i ≠ s → ∀ a ∈ fps i, a ∉ fM := fun i hi a ha z => E.dj i s hi a ha (sub a z)
  refine ⟨setFp fps s fp', ⟨by rw [List.length_set]; exact E.len, fun i d hi => ?_, fun i j n => ?_, fun i n => ?_, E.tb.keep k⟩, ⟨k.mono fun a ha => .inl ⟨s, List.mem_singleton.mpr rfl, sub a ha⟩, fun a z => ?_, fun j n => ?_, dm⟩, fun a j ha => ?_⟩
  · by_cases h : i = s
    · subst h
      rw [List.getElem?_set_self hs] at hi
      cases hi
      exact ⟨v0, e0, by unfold setFp; rw [if_pos rfl]; exact r2⟩
    · rw [getset (Ne.symm h)] at hi
      obtain ⟨w', e2, q⟩ := E.rep i d hi
      exact ⟨w', e2, by unfold setFp; rw [if_neg h]; exact Rep.keep k d w' _ (nin i h) q⟩
  · have key : ∀ j, j ≠ s → Dj fp' (fps j) := fun j hj a ha z => by
      rcases p1 a ha with h | h
      · exact E.dj s j (Ne.symm hj) a h z
      · rcases n1 a h with q | q
        · exact nin j hj a z q
        · exact q j z
    unfold setFp
    by_cases h1 : i = s
    · rw [if_pos h1, if_neg (fun z => n (h1.trans z.symm))]
      exact key j fun z => n (h1.trans z.symm)
    · rw [if_neg h1]
      by_cases h2 : j = s
      · rw [if_pos h2]
        exact (key i h1).symm
      · rw [if_neg h2]
        exact E.dj i j n
  · by_cases h : i = s
    · subst h
      exact absurd (List.getElem?_set_self hs) (n _)
    · unfold setFp
      rw [if_neg h]
      exact E.ded i fun d z => n d (by rw [getset (Ne.symm h)]; exact z)
  · rcases z with z | ⟨j, z⟩
    · cases z
    · unfold setFp at z
      split at z
      · rcases p1 a z with h | h
        · exact .inl ⟨s, h⟩
        · rcases n2 a h with q | q | q
          · exact .inl ⟨s, sub a q⟩
          · exact .inr (.inl q)
          · exact .inr (.inr q)
      · exact .inl ⟨j, z⟩
  · have hj : j ≠ s := fun z => n (List.mem_singleton.mpr z)
    exact ⟨getset (Ne.symm hj), by unfold setFp; rw [if_neg hj]⟩
  · unfold setFp at ha
    split at ha
    · rename_i h
      subst h
      exact p1 a ha
    · exact .inl ha
theorem Reps.put {ds : List D} {us : List V} {fp : List Addr} {k : Nat} {d d0 : D} {v : V} {f : List Addr} (r : Reps G H ds us fp) (e : ds[k]? = some d0) (q : Rep G H d v f) (dj : Dj fp f) :
    ∃ fp', Reps G H (ds.set k d) (us.set k v) fp' ∧ ∀ a ∈ fp', a ∈ fp ∨ a ∈ f := by
  induction ds generalizing us fp k with
  | nil => simp at e
  | cons x ds ih =>
    obtain ⟨w, t, f1, f2, ev, p, rs, d12, ef⟩ := r
    subst ev ef
    cases k with
    | zero => exact ⟨f ++ f2, ⟨v, t, f, f2, rfl, q, rs, fun a h z => dj a (List.mem_append_right _ z) h, rfl⟩, fun a h => (List.mem_append.mp h).elim .inr fun z => .inl (List.mem_append_right _ z)⟩
    | succ k =>
      obtain ⟨fp', r', s'⟩ := ih rs (by simpa using e) (fun a h => dj a (List.mem_append_right _ h))
      refine ⟨f1 ++ fp', ⟨w, t.set k v, f1, fp', rfl, p, r', fun a h z => ?_, rfl⟩, fun a h => ?_⟩
      · rcases s' a z with z | z
        · exact d12 a h z
        · exact dj a (List.mem_append_left _ h) z
      · rcases List.mem_append.mp h with h | h
        · exact .inl (List.mem_append_left _ h)
        · exact (s' a h).imp (List.mem_append_right _) id
theorem RepK.put {k : Key} {d : D} {v : V} {f : List Addr} (q : Rep G H d v f) : ∀ {ds : List (D × D)} {us : List (Key × V)} {fp : List Addr}, RepK G H ds us fp → (us.map (·.1)).Nodup → Dj fp f → ∃ fp', RepK G H (setD ds k d) (putK us k v) fp' ∧ ∀ a ∈ fp', a ∈ fp ∨ a ∈ f
  | [], us, fp, r, nd, dj => by
    rw [r.1]
    refine ⟨f, ⟨k, v, [], f, [], rfl, rfl, q, ⟨rfl, rfl⟩, fun a _ z => (nomatch z), (List.append_nil f).symm⟩, fun a h => .inr h⟩
  | (k0, d0) :: ds, us, fp, ⟨kk, w, t, f1, f2, ev, ek, p, rs, d12, ef⟩, nd, dj => by
    subst ev ek ef
    have nd' := List.nodup_cons.mp (show ((kk :: t.map (·.1) : List Key)).Nodup from nd)
    have e1 : setD ((keyD kk, d0) :: ds) k d = if kk = k then (keyD kk, d) :: ds else (keyD kk, d0) :: setD ds k d := by
      cases kk <;> cases k <;> simp [setD, keyD]
    have e2 : putK ((kk, w) :: t) k v = if kk = k then (kk, v) :: t else (kk, w) :: putK t k v := by
      unfold putK
      by_cases h : kk = k
      · subst h
        have e3 : t.map (fun kv => if kv.1 = kk then (kv.1, v) else kv) = t := by
          have key : ∀ l : List (Key × V), kk ∉ l.map (·.1) → l.map (fun kv => if kv.1 = kk then (kv.1, v) else kv) = l := by
            intro l
            induction l with
            | nil => intro _; rfl
            | cons x l ih =>
              intro hn
              have hn' : kk ≠ x.1 ∧ kk ∉ l.map (·.1) := by simpa using hn
              rw [List.map_cons, ih hn'.2, if_neg (fun z => hn'.1 z.symm)]
          exact key t nd'.1
        simp only [List.any_cons, decide_true, Bool.true_or, if_true, List.map_cons]
        rw [e3]
      · simp only [List.any_cons, h, decide_false, Bool.false_or, List.map_cons, if_false, List.cons_append]
        split <;> rfl
    rw [e1, e2]
    by_cases h : kk = k
    · rw [if_pos h, if_pos h]
      exact ⟨f ++ f2, ⟨kk, v, t, f, f2, rfl, rfl, q, rs, fun a h z => dj a (List.mem_append_right _ z) h, rfl⟩, fun a h => (List.mem_append.mp h).elim .inr fun z => .inl (List.mem_append_right _ z)⟩
    · rw [if_neg h, if_neg h]
      obtain ⟨fp', r', s'⟩ := RepK.put (k := k) q rs nd'.2 (fun a h => dj a (List.mem_append_right _ h))
      refine ⟨f1 ++ fp', ⟨kk, w, _, f1, fp', rfl, rfl, p, r', fun a h z => ?_, rfl⟩, fun a h => ?_⟩
      · rcases s' a z with z | z
        · exact d12 a h z
        · exact dj a (List.mem_append_left _ h) z
      · rcases List.mem_append.mp h with h | h
        · exact .inl (List.mem_append_left _ h)
        · exact (s' a h).imp (List.mem_append_right _) id
theorem key_rep {k : D} {kk : Key} {v : V} {f : List Addr} (hk : keyOf k = some kk) (r : Rep G H k v f) : v = kV kk := by
  cases k <;> simp [keyOf] at hk <;> (subst hk; exact r.1)
theorem updKeep {H : Hp} {a : Addr} {o o' : HO} {fM : List Addr} (ha : a ∈ fM) (e : H a = some o) (m : Mutb o) : Keep (· ∈ fM) H (upd H a o') := .of fun b u q z => by
  by_cases hb : b = a
  · subst hb
    rw [e] at q
    cases q
    exact (z.elim (fun y => y ha) (fun y => y m)).elim
  · rw [upd_ne hb]
    exact q
theorem updDom {H : Hp} {a : Addr} {o : HO} : ∀ b, H b ≠ none → upd H a o b ≠ none := fun b h => by
  by_cases hb : b = a
  · rw [hb, upd_same]
    exact fun z => nomatch z
  · rw [upd_ne hb]
    exact h
end
theorem putK_nodup {us : List (Key × V)} {k : Key} {v : V} (h : (us.map (·.1)).Nodup) : ((putK us k v).map (·.1)).Nodup := by
  unfold putK
  split
  · rw [List.map_map]
    have e : (Prod.fst ∘ fun kv : Key × V => if kv.1 = k then (kv.1, v) else kv) = Prod.fst := by
      funext p
      dsimp only [Function.comp]
      split <;> rfl
    rw [e]
    exact h
  · rename_i hn
    rw [List.map_append, List.nodup_append]
    refine ⟨h, by simp, fun a ha b hb z => ?_⟩
    have hb' : b = k := by simpa using hb
    subst hb' z
    obtain ⟨p, hp, e⟩ := List.mem_map.mp ha
    exact hn (List.any_eq_true.mpr ⟨p, hp, by simp [e]⟩)
/-! ### x[i] = e -/
def storeD (e i d : D) : Option D := match e, i with
  | .lst ds, .int k => (ixN ds.length k).map fun j => .lst (ds.set j d)
  | .dct kvs, k => match keyOf k with
    | some q => if kvs.length < sizeLine then some (.dct (setD kvs q d)) else none
    | none => none
  | _, _ => none
def storeAt (s : Nat) (x y z : RV) (σd : DSt) : Option DSt := match x, y, z.get σd with
  | .tmp d, .plc s' p, some i => if s' = s then (match σd[s]? with
    | some (some d0) => (match getP d0 p with
      | some e => (storeD e i d).map fun e' => σd.set s (some (setP d0 p e'))
      | none => none)
    | _ => none) else none
  | _, _, _ => none
def rSetD : V → V → V → Hp → (Hp → Prop) → Prop := fun o i v H Q => ∃ a H', o = .ref a ∧ DPut H a i v H' ∧ Q H'
theorem set_dict {X : Cx} (hu : X.A.units + 1 < cLine) : PSet X rSetD := by
  intro pins s σ H o i v ov iv u Q I ro ri rv q
  obtain ⟨a, H', eo, g, q⟩ := q
  subst eo
  obtain rfl : ov = Value.ref a := ro
  exact d_setItem hu I g ri rv fun s' I' => ⟨H', I', q⟩
theorem PSet.or {X : Cx} {t t' : TSet} (h : PSet X t) (h' : PSet X t') : PSet X (fun o i v H Q => t o i v H Q ∨ t' o i v H Q) := by
  intro pins s σ H o i v ov iv u Q I ro ri rv q
  exact q.elim (h pins s σ H o i v ov iv u Q I ro ri rv) (h' pins s σ H o i v ov iv u Q I ro ri rv)
def rSetA : V → V → V → Hp → (Hp → Prop) → Prop := fun o i v H Q => rSetL o i v H Q ∨ rSetD o i v H Q
theorem set_any {X : Cx} (hu : X.A.units + 1 < cLine) : PSet X rSetA := PSet.or set_list (set_dict hu)
def sSetIx (s : Nat) (o i c : EC) : SC := ⟨fun σd => bindS (c.run σd) fun x σ1 => bindS (o.run σ1) fun y σ2 => bindS (i.run σ2) fun z σ3 => if stab y i.rw then (match storeAt s x y z σ3 with
  | some σ' => .nx σ'
  | none => .bad) else .bad, c.rw ++ (o.rw ++ (i.rw ++ [s])), []⟩
section
variable {G : Gv} {W : WX} {H H1 H2 H' : Hp} {σd σd1 σd2 σd' : DSt} {σ σ1 σ' : L2.St} {fps fps1 fps2 fps' : Nat → List Addr} {r r1 r2 a0 a1 a2 vs : List Nat} {tf tf' e1 e2 ex : List Addr} {D : Ends}
/-- within a statement: one more expression, with temps beside it -/
theorem rdsr_E {a : EC} {f : RV → DSt → SRes} {R : VK} {rr aa : List Nat} (ha : ∀ j ∈ a.rw, j ∈ rr) (E : EnvR G H σd σ fps) (td : ∀ j, Dj tf (fps j)) (tn : ∀ a ∈ tf, H a ≠ none) (q : rdsr G W rr aa tf σ H σd fps (bindS (a.run σd) f) D)
    (k : ∀ x σd1 v H1 fps1 f1, EnvR G H1 σd1 σ fps1 → RvR G H1 σ fps1 x v f1 → Stp a.rw [] H σd fps H1 σd1 fps1 f1 → (∀ j, Dj (f1 ++ tf) (fps1 j)) → (∀ a ∈ f1 ++ tf, H1 a ≠ none) → Dj tf f1 → rdsr G W rr aa (f1 ++ tf) σ H1 σd1 fps1 (f x σd1) D → R v H1) : rd G W a σ H R := by
  refine seqE (r := rr) (tf := tf) E ha (fun x σd1 h1 v1 H1 fps1 f1 E1 R1 S1 => ?_) (fun x σd1 h1 => ?_) (fun h1 => ?_)
  · rw [h1] at q
    obtain ⟨S1', td1, tn1, dj1⟩ := Stp.beside S1 td tn
    have tA : ∀ j, Dj (f1 ++ tf) (fps1 j) := fun j a ha => by
      rcases List.mem_append.mp ha with ha | ha
      · exact R1.dj j a ha
      · exact td1 j a ha
    refine k x σd1 v1 H1 fps1 f1 E1 R1 S1 tA (fun a ha => ?_) dj1 (rdsr.push (R := f x σd1) S1' SameV.refl E1 tA ha (fun _ h => h) (fun _ h => h) (fun _ h => h) (a1 := aa) q)
    rcases List.mem_append.mp ha with ha | ha
    · exact R1.dom a ha
    · exact tn1 a ha
  · rw [h1] at q
    exact fun c dx H' fps' E' R' S' => q c dx σ H' fps' E' R' S' SameV.refl
  · rw [h1] at q
    exact q
theorem store_end {s : Nat} {x y z : RV} {vx vy vz : V} {fx fy fz : List Addr} {rr aa : List Nat} (hs : s ∈ rr) (E : EnvR G H σd σ fps) (Rx : RvR G H σ fps x vx fx) (Ry : RvR G H σ fps y vy fy) (Rz : RvR G H σ fps z vz fz) (hx : ∀ a ∈ fx, a ∈ tf)
    (q : rdsr G W rr aa tf σ H σd fps (match storeAt s x y z σd with | some σ' => .nx σ' | none => .bad) D) : rSetA vy vz vx H fun H' => D.nx σ H' := by
  cases hst : storeAt s x y z σd with
  | none => rw [hst] at q; exact q.elim
  | some σ' =>
    rw [hst] at q
    unfold storeAt at hst
    split at hst
    · rename_i d s' p i hi
      split at hst
      · rename_i hs'
        subst hs'
        split at hst
        · rename_i d0 hd0
          split at hst
          · rename_i e he
            obtain ⟨e', hse, hσ⟩ := Option.map_eq_some_iff.mp hst
            subst hσ
            obtain ⟨fM, rM, sub, up⟩ := place_upd (tf := tf) E hd0 he Ry
            obtain ⟨fi, ri, _⟩ := Rz.rep E hi
            have dxM : Dj fM fx := fun a h z => Rx.2 s' a z (sub a h)
            have fin : ∀ (H' : Hp) (fM' : List Addr), Keep (· ∈ fM) H H' → (∀ a, H a ≠ none → H' a ≠ none) → Rep G H' e' vy fM' → (∀ a ∈ fM', a ∈ fM ∨ a ∈ fx) → D.nx σ H' := fun H' fM' k dm r' n => by
              obtain ⟨fps', E', S', _⟩ := up H' e' fM' k r' (fun a h => (n a h).imp id fun z j => Rx.2 j a z) (fun a h => (n a h).imp id fun z => .inl (hx a z)) dm
              exact q σ H' fps' E' (S'.wk (fun j h => by rw [List.mem_singleton.mp h]; exact hs) (fun _ h => h) (fun _ h => nomatch h)) SameV.refl
            unfold storeD at hse
            split at hse
            · rename_i ds k
              obtain ⟨j, hj, ee⟩ := Option.map_eq_some_iff.mp hse
              subst ee
              obtain ⟨a, us, f0, ev, sa, rs, na, ef⟩ := rM
              subst ev ef
              have hlen : us.length = ds.length := rs.len
              have hjl : ∃ d1, ds[j]? = some d1 := by
                have := (ixN_seq hj).2.1
                exact ⟨_, List.getElem?_eq_getElem this⟩
              obtain ⟨d1, hd1⟩ := hjl
              obtain ⟨fp', rp', sp'⟩ := Reps.put rs hd1 Rx.1 (fun b h => dxM b (List.mem_cons_of_mem _ h))
              have kM := updKeep (o' := .lst (us.set j vx)) (List.mem_cons_self ..) sa trivial (fM := a :: f0)
              have nap : a ∉ fp' := fun z => (sp' a z).elim na fun w => dxM a (List.mem_cons_self ..) w
              have kA : Keep (· ∈ [a]) H (upd H a (.lst (us.set j vx))) := updKeep (List.mem_singleton.mpr rfl) sa trivial
              refine .inl ⟨a, us, k, j, rfl, ri.1, sa, by rw [hlen]; exact hj, fin _ (a :: fp') kM updDom ⟨a, us.set j vx, fp', rfl, upd_same, Reps.keep kA _ _ fp' (fun b hb z => nap (List.mem_singleton.mp z ▸ hb)) rp', nap, rfl⟩ fun b hb => ?_⟩
              rcases List.mem_cons.mp hb with rfl | hb
              · exact .inl (List.mem_cons_self ..)
              · exact (sp' b hb).imp (List.mem_cons_of_mem _) id
            · rename_i kvs k
              split at hse
              · rename_i kk hk
                split at hse
                · rename_i hz
                  cases hse
                  obtain ⟨a, us, f0, ev, sa, rs, na, ef⟩ := rM
                  subst ev ef
                  obtain ⟨fp', rp', sp'⟩ := RepK.put (k := kk) Rx.1 rs na.2 (fun b h => dxM b (List.mem_cons_of_mem _ h))
                  have kM := updKeep (o' := .dK (putK us kk vx)) (List.mem_cons_self ..) sa trivial (fM := a :: f0)
                  have nap : a ∉ fp' := fun z => (sp' a z).elim na.1 fun w => dxM a (List.mem_cons_self ..) w
                  have kA : Keep (· ∈ [a]) H (upd H a (.dK (putK us kk vx))) := updKeep (List.mem_singleton.mpr rfl) sa trivial
                  have ez : vz = kV kk := key_rep hk ri
                  refine .inr ⟨a, _, rfl, by rw [ez]; exact DPut.k sa (by rw [rs.len]; exact hz), fin _ (a :: fp') kM updDom ⟨a, putK us kk vx, fp', rfl, upd_same, RepK.keep kA _ _ fp' (fun b hb z => nap (List.mem_singleton.mp z ▸ hb)) rp', ⟨nap, putK_nodup na.2⟩, rfl⟩ fun b hb => ?_⟩
                  rcases List.mem_cons.mp hb with rfl | hb
                  · exact .inl (List.mem_cons_self ..)
                  · exact (sp' b hb).imp (List.mem_cons_of_mem _) id
                · cases hse
              · cases hse
            · cases hse
          · cases hst
        · cases hst
      · cases hst
    · cases hst
end
section
variable {X : Cx} {W : WX} {o i e : Expr} {co ci c : EC} {pos p' : Pos}
theorem ds_setIx (s : Nat) (hu : X.A.units + 1 < cLine) (he : DE X W e c) (ho : DE X W o co) (hi : DE X W i ci) (hs : swapsWithSole [.Subscript o i p'] e pos.line X.env = pure false := by rfl) (hw : swappedStores [.Subscript o i p'] e X.env = pure none := by rfl)
    (h1 : (assignEach [.Subscript o i p'] X.env).map (·.2) = [assign (.Subscript o i p') X.env] := by rfl)
    (ha : ∀ v, assign (.Subscript o i p') X.env v = (do
      let ov ← holding [v] (eval o X.env)
      let iv ← holding [v, ov] (eval i X.env)
      standAt p'
      holding [v, ov, iv] (setItem ov iv v)
      release [v, ov, iv] []) := by intro _; rfl) : DS X W (.Assign [.Subscript o i p'] e pos) (sSetIx s co ci c) :=
  (ps_asg he (pg_sub ho hi (set_any hu) ha) hs hw h1).le fun D σ H ⟨σd, fps, E, q⟩ => by
    change rdsr _ _ _ _ _ σ H σd fps (bindS (c.run σd) _) D at q
    refine rdsr_E (rr := c.rw ++ (co.rw ++ (ci.rw ++ [s]))) (aa := []) mem_l E nilD nilN q fun x σd1 v1 H1 fps1 f1 E1 R1 S1 td1 tn1 dj1 q1 => ?_
    refine rdsr_E (fun j h => mem_r j (mem_l j h)) E1 td1 tn1 q1 fun y σd2 v2 H2 fps2 f2 E2 R2 S2 td2 tn2 dj2 q2 => ?_
    refine rdsr_E (fun j h => mem_r j (mem_r j (mem_l j h))) E2 td2 tn2 q2 fun z σd3 v3 H3 fps3 f3 E3 R3 S3 td3 tn3 dj3 q3 => ?_
    split at q3
    · rename_i st
      obtain ⟨R2', _⟩ := R2.step S3 st
      -- the value, a temp
      cases x with
      | plc sp pp => exact q3.elim
      | tmp d =>
        have R1' := (R1.step S2 rfl).1
        have R1'' := (R1'.step S3 rfl).1
        exact store_end (mem_r s (mem_r s (mem_r s (List.mem_singleton.mpr rfl)))) E3 R1'' R2' R3 (fun a h => by simp only [List.mem_append]; exact .inr (.inr (.inl h))) q3
    · exact q3.elim
end
end A2
end S_A2p
section S_A2q
set_option Elab.async false
set_option linter.all false
set_option maxRecDepth 100000
set_option maxHeartbeats 4000000
open PySem PySem.Spec L2
open PyProof.Rows hiding St
namespace A2
/-! ## methods of lists and dicts -/
def kindB (T : String) : D → Bool
  | .lst _ => T == "list"
  | .flst _ => T == "list"
  | .dct _ => T == "dict"
  | .str _ => T == "str"
  | .int _ => T == "int"
  | _ => false
theorem kindB_ty {G : Gv} {H : Hp} {T : String} : ∀ {d : D} {v : V} {f : List Addr}, kindB T d = true → Rep G H d v f → tyV G.K T v H
  | .lst ds, v, f, h, ⟨a, vs, f1, ev, s, _⟩ => by rw [ev]; exact .inl ⟨beq_iff_eq.mp h, vs, .inl (.inl s)⟩
  | .flst ds, v, f, h, ⟨a, o, vs, ev, s, _⟩ => by rw [ev]; exact .inl ⟨beq_iff_eq.mp h, vs, .inl (.inr ⟨o, s⟩)⟩
  | .dct ds, v, f, h, ⟨a, vs, f1, ev, s, _⟩ => by rw [ev]; exact .inr (.inr (.inl ⟨beq_iff_eq.mp h, .inl ⟨vs, s⟩⟩))
  | .str x, v, f, h, r => by rw [r.1]; exact beq_iff_eq.mp h
  | .int x, v, f, h, r => by rw [r.1]; exact beq_iff_eq.mp h
  | .non, _, _, h, _ => nomatch h
  | .bl _, _, _, h, _ => nomatch h
  | .tup _, _, _, h, _ => nomatch h
  | .ins _ _, _, _, h, _ => nomatch h
  | .fdct _, _, _, h, _ => nomatch h
def isK (T : String) (x : RV) (σd : DSt) : Bool := match x.get σd with
  | some d => kindB T d
  | none => false
def runM (T : String) (o : EC) (a : AC) (f : RV → List RV → DSt → Res RV) (σd : DSt) : Res RV := (o.run σd).bind fun x σ1 => if isK T x σ1 = true then (a.run σ1).bind fun ys σ2 => if stab x a.rw then f x ys σ2 else .bad else .bad
section
variable {G : Gv} {W : WX} {H H1 H2 H' : Hp} {σd σd1 σd2 σd' : DSt} {σ σ1 σ' : L2.St} {fps fps1 fps2 fps' : Nat → List Addr} {r r1 r2 a0 a1 a2 vs : List Nat} {tf tf' e1 e2 ex : List Addr}
theorem bm_rd {T : String} {o : EC} {a : AC} {f : RV → List RV → DSt → Res RV} {rw' : List Nat} {rr : V → List V → Hp → VK → Prop} {Q : VK} (h : rd G W ⟨runM T o a f, o.rw ++ (a.rw ++ rw')⟩ σ H Q)
    (k : ∀ x ys σd2 v vs H2 fps2 f1 f2, EnvR G H2 σd2 σ fps2 → RvR G H2 σ fps2 x v f1 → RvsR G H2 σ fps2 ys vs f2 → Dj f1 f2 → rdr G W (o.rw ++ (a.rw ++ rw')) (f2 ++ f1) σ H2 σd2 fps2 (f x ys σd2) Q → rr v vs H2 Q) :
    tBM G.K T rr (rd G W o) (rdA G W a) σ H Q := by
  obtain ⟨σd, fps, E, q⟩ := h
  change rdr _ _ _ _ σ H σd fps ((o.run σd).bind _) Q at q
  have s1 : ∀ j ∈ o.rw, j ∈ o.rw ++ (a.rw ++ rw') := mem_l
  have s2 : ∀ j ∈ a.rw, j ∈ o.rw ++ (a.rw ++ rw') := fun j h => mem_r j (mem_l j h)
  refine seqE (r := o.rw ++ (a.rw ++ rw')) (tf := []) E s1 (fun x σd1 h1 v1 H1 fps1 f1 E1 R1 S1 => ?_) (fun x σd1 h1 => ?_) (fun h1 => ?_)
  · rw [h1] at q
    have q1 := rdr.push (r2 := o.rw ++ (a.rw ++ rw')) (R := if isK T x σd1 = true then (a.run σd1).bind fun ys σ2 => if stab x a.rw then f x ys σ2 else .bad else .bad) S1 E1 R1.dj s1 (fun _ h => h) q
    split at q1
    · rename_i hk
      unfold isK at hk
      split at hk
      · rename_i d hd
        obtain ⟨f', rp, _⟩ := R1.rep E1 hd
        refine ⟨kindB_ty hk rp, ?_⟩
        refine seqA (r := o.rw ++ (a.rw ++ rw')) (tf := f1) E1 s2 (fun y σd2 h2 v2 H2 fps2 f2 E2 R2 S2 => ?_) (fun y σd2 h2 => ?_) (fun h2 => ?_)
        · rw [h2] at q1
          change rdr _ _ _ _ σ H1 σd1 fps1 (if stab x a.rw = true then f x y σd2 else .bad) Q at q1
          split at q1
          · rename_i st
            obtain ⟨R1', d12⟩ := R1.step S2 st
            obtain ⟨S2', td2, tn2, _⟩ := Stp.beside S2 R1.dj R1.dom
            exact k x y σd2 v1 v2 H2 fps2 f1 f2 E2 R1' R2 d12 (rdr.push S2' E2 (fun j a ha => by
              rcases List.mem_append.mp ha with ha | ha
              · exact RvsR.dj R2 j a ha
              · exact td2 j a ha) s2 (fun _ h => h) q1)
          · exact q1.elim
        · rw [h2] at q1
          exact q1
        · rw [h2] at q1
          exact q1
      · cases hk
    · exact q1.elim
  · rw [h1] at q
    exact q
  · rw [h1] at q
    exact q
theorem bm0_rd {T : String} {o : EC} {f : RV → List RV → DSt → Res RV} {rw' : List Nat} {rr : V → List V → Hp → VK → Prop} {Q : VK} (h : rd G W ⟨runM T o aNil f, o.rw ++ (aNil.rw ++ rw')⟩ σ H Q)
    (k : ∀ x ys σd2 v vs H2 fps2 f1 f2, EnvR G H2 σd2 σ fps2 → RvR G H2 σ fps2 x v f1 → RvsR G H2 σ fps2 ys vs f2 → Dj f1 f2 → rdr G W (o.rw ++ (aNil.rw ++ rw')) (f2 ++ f1) σ H2 σd2 fps2 (f x ys σd2) Q → rr v vs H2 Q) :
    tBM0 G.K T rr (rd G W o) σ H Q := by
  have h' := bm_rd h k
  obtain ⟨σd, fps, E, q⟩ := h'
  refine ⟨σd, fps, E, ?_⟩
  cases hr : o.run σd with
  | ok x σ1 =>
    rw [hr] at q
    intro v H' fps' f E' R' S'
    obtain ⟨ty, σd2, fps2, E2, q2⟩ := q v H' fps' f E' R' S'
    exact ⟨ty, q2 [] H' fps2 [] E2 ⟨rfl, rfl⟩ (Stp.refl fun _ h => nomatch h)⟩
  | err x σ1 => rw [hr] at q; exact q
  | bad => rw [hr] at q; exact q
end
/-! ### append -/
def appOf (s : Nat) (x : RV) (ys : List RV) (σd : DSt) : Res RV := match x, ys with
  | .plc s' p, [.tmp d] => if s' = s then (match σd[s]? with
    | some (some d0) => (match getP d0 p with
      | some (.lst ds) => if ds.length < sizeLine then .ok (.tmp .non) (σd.set s (some (setP d0 p (.lst (ds ++ [d]))))) else .bad
      | _ => .bad)
    | _ => .bad) else .bad
  | _, _ => .bad
def cApp (s : Nat) (o : EC) (a : AC) : EC := ⟨runM "list" o a (appOf s), o.rw ++ (a.rw ++ [s])⟩
section
variable {G : Gv} {W : WX} {H H1 H2 H' : Hp} {σd σd1 σd2 σd' : DSt} {σ σ1 σ' : L2.St} {fps fps1 fps2 fps' : Nat → List Addr} {r r1 r2 a0 a1 a2 vs : List Nat} {tf tf' e1 e2 ex : List Addr}
theorem app_end {s : Nat} {x : RV} {ys : List RV} {v : V} {us : List V} {f1 f2 : List Addr} {Q : VK} (hs : s ∈ r) (E : EnvR G H σd σ fps) (R1 : RvR G H σ fps x v f1) (R2 : RvsR G H σ fps ys us f2)
    (q : rdr G W r (f2 ++ f1) σ H σd fps (appOf s x ys σd) Q) : rAppend v us H Q := by
  unfold appOf at q
  split at q
  · rename_i s' p d
    split at q
    · rename_i es
      subst es
      split at q
      · rename_i d0 hd0
        split at q
        · rename_i ds hp
          split at q
          · rename_i hl
            obtain ⟨fM, rM, sub, up⟩ := place_upd (tf := f2 ++ f1) E hd0 hp R1
            obtain ⟨a, xs, f0, ev, sa, rs, na, ef⟩ := rM
            obtain ⟨w, t, g1, g2, eu, p1, p2, d12, eg⟩ := R2
            obtain ⟨et, e2⟩ := p2
            subst ev ef eu et e2 eg
            have dxM : Dj (a :: f0) g1 := fun b h z => p1.2 s' b z (sub b h)
            have nap : a ∉ f0 ++ g1 := fun z => (List.mem_append.mp z).elim na (dxM a (List.mem_cons_self ..))
            have kM := updKeep (o' := .lst (xs ++ [w])) (List.mem_cons_self ..) sa trivial (fM := a :: f0)
            have kA : Keep (· ∈ [a]) H (upd H a (.lst (xs ++ [w]))) := updKeep (List.mem_singleton.mpr rfl) sa trivial
            have rp' : Reps G H (ds ++ [d]) (xs ++ [w]) (f0 ++ g1) := Reps.snoc p1.1 rs fun b h => dxM b (List.mem_cons_of_mem _ h)
            obtain ⟨fps', E', S', _⟩ := up (upd H a (.lst (xs ++ [w]))) (.lst (ds ++ [d])) (a :: (f0 ++ g1)) kM ⟨a, xs ++ [w], f0 ++ g1, rfl, upd_same, Reps.keep kA _ _ _ (fun b hb z => nap (List.mem_singleton.mp z ▸ hb)) rp', nap, rfl⟩
              (fun b hb => by
                simp only [List.mem_cons, List.mem_append] at hb ⊢
                rcases hb with hb | hb | hb
                · exact .inl (.inl hb)
                · exact .inl (.inr hb)
                · exact .inr fun j => p1.2 j b hb)
              (fun b hb => by
                simp only [List.mem_cons, List.mem_append] at hb ⊢
                rcases hb with hb | hb | hb
                · exact .inl (.inl hb)
                · exact .inl (.inr hb)
                · exact .inr (.inl (.inl (.inl hb)))) updDom
            exact ⟨a, xs, w, rfl, rfl, sa, by rw [rs.len]; exact hl, q .non _ fps' [] E' ⟨⟨rfl, rfl⟩, fun _ => djnil⟩ (S'.wk (fun j h => by rw [List.mem_singleton.mp h]; exact hs) (fun _ h => h) (fun _ h => nomatch h))⟩
          · exact q.elim
        · exact q.elim
      · exact q.elim
    · exact q.elim
  · exact q.elim
end
section
variable {X : Cx} {W : WX} {o e : Expr} {es : List Expr} {co : EC} {a : AC} {apos cpos : Pos}
theorem de_app (s : Nat) (ho : DE X W o co) (ha : DA X W (e :: es) a) (hbase : attributeBase o "append" X.env (eval o X.env) = eval o X.env := by rfl)
    (hfew : ((backTo cpos (starEach (e :: es) X.env)).all (fun x => !x.1) && (backToKw cpos (keywordEach [] X.env)).all (fun x => x.1.isSome)
      && decide ((e :: es).length + ([] : List Keyword).length + (if ([] : List Keyword).isEmpty then 0 else 1) < 30)) = true := by rfl)
    (hline : (apos.endLine == cpos.line) = true := by rfl) (hs : starEach (e :: es) X.env = (false, eval e X.env) :: starEach es X.env := by rfl) (hplain : (backTo cpos (starEach es X.env)).any (·.1) = false := by rfl) :
    DE X W (.Call (.Attribute o "append" apos) (e :: es) [] cpos) (cApp s co a) :=
  (pe_bm PySem.F.plainAttrs_list PySem.F.slot_list_append PySem.F.type_list_append mt_append ho ha hbase hfew hline hs hplain).le fun σ H Q h =>
    bm_rd h fun x ys σd2 v vs H2 fps2 f1 f2 E2 R1 R2 d12 q => app_end (mem_r s (mem_r s (List.mem_singleton.mpr rfl))) E2 R1 R2 q
end
/-! ### dicts -/
def cDnew : EC := ⟨fun σd => .ok (.tmp (.dct [])) σd, []⟩
theorem de_dnew {X : Cx} {W : WX} {pos : Pos} : DE X W (.Dict [] [] pos) cDnew := pe_dnewK.le fun σ H Q ⟨σd, fps, E, q⟩ p n => by
  have k := keepF (o := .dK []) n
  refine fin_new (d := .dct []) (fp := [p]) E q k ⟨p, [], [], rfl, upd_same, ⟨rfl, rfl⟩, ⟨fun h => (nomatch h), List.nodup_nil⟩, rfl⟩ (fr1 n)
def rndup : List Nat := []
/-- three expressions -/
def run3 (T : String) (a b c : EC) (f : RV → RV → RV → DSt → Res RV) (σd : DSt) : Res RV := (a.run σd).bind fun x σ1 => if isK T x σ1 = true then (b.run σ1).bind fun y σ2 => (c.run σ2).bind fun z σ3 => if stab x (b.rw ++ c.rw) && stab y c.rw then f x y z σ3 else .bad else .bad
def get2Of (x y z : RV) (σd : DSt) : Res RV := match x.get σd, y.get σd, z with
  | some (.dct kvs), some k, .tmp d => (match keyOf k with
    | some q => (match lookD kvs q with
      | some e => if e.imm then .ok (.tmp e) σd else .bad
      | none => .ok (.tmp d) σd)
    | none => .bad)
  | _, _, _ => .bad
def cGet2 (a b c : EC) : EC := ⟨run3 "dict" a b c get2Of, a.rw ++ (b.rw ++ c.rw)⟩
theorem lookD_none {G : Gv} {H : Hp} : ∀ {ds : List (D × D)} {us : List (Key × V)} {fp : List Addr} {k : Key}, RepK G H ds us fp → lookD ds k = none → lookV us k = none
  | [], us, fp, k, r, _ => by rw [r.1]; rfl
  | (k0, d0) :: ds, us, fp, k, ⟨kk, w, t, f1, f2, ev, ek, p, rs, _⟩, e => by
    subst ev ek
    have e1 : lookD ((keyD kk, d0) :: ds) k = if kk = k then some d0 else lookD ds k := by
      cases kk <;> cases k <;> simp [lookD, keyD]
    rw [e1] at e
    unfold lookV
    by_cases h : kk = k
    · rw [if_pos h] at e
      cases e
    · rw [if_neg h] at e ⊢
      exact lookD_none rs e
section
variable {G : Gv} {W : WX} {H H1 H2 H' : Hp} {σd σd1 σd2 σd' : DSt} {σ σ1 σ' : L2.St} {fps fps1 fps2 fps' : Nat → List Addr} {r r1 r2 a0 a1 a2 vs : List Nat} {tf tf' e1 e2 ex : List Addr}
theorem kind_dict {x : RV} {v : V} {f : List Addr} (E : EnvR G H σd σ fps) (R : RvR G H σ fps x v f) (h : isK "dict" x σd = true) : ∃ a, v = .ref a ∧ IsD H a := by
  unfold isK at h
  split at h
  · rename_i d hd
    obtain ⟨f', rp, _⟩ := R.rep E hd
    cases d with
    | dct kvs =>
      obtain ⟨a, ws, f1, ev, s, _⟩ := rp
      exact ⟨a, ev, .inl ⟨ws, .inl s⟩⟩
    | lst _ => exact absurd (beq_iff_eq.mp (show ("dict" == "list") = true from h)) (by decide)
    | flst _ => exact absurd (beq_iff_eq.mp (show ("dict" == "list") = true from h)) (by decide)
    | str _ => exact absurd (beq_iff_eq.mp (show ("dict" == "str") = true from h)) (by decide)
    | int _ => exact absurd (beq_iff_eq.mp (show ("dict" == "int") = true from h)) (by decide)
    | _ => cases h
  · cases h
theorem get2_rd {a b c : EC} {Q : VK} (h : rd G W (cGet2 a b c) σ H Q) : tDGet2 (rd G W a) (rd G W b) (rd G W c) σ H Q := by
  obtain ⟨σd, fps, E, q⟩ := h
  change rdr _ _ _ _ σ H σd fps ((a.run σd).bind _) Q at q
  have s1 : ∀ j ∈ a.rw, j ∈ a.rw ++ (b.rw ++ c.rw) := mem_l
  have s2 : ∀ j ∈ b.rw, j ∈ a.rw ++ (b.rw ++ c.rw) := fun j h => mem_r j (mem_l j h)
  have s3 : ∀ j ∈ c.rw, j ∈ a.rw ++ (b.rw ++ c.rw) := fun j h => mem_r j (mem_r j h)
  refine seqE (r := a.rw ++ (b.rw ++ c.rw)) (tf := []) E s1 (fun x σd1 h1 v1 H1 fps1 f1 E1 R1 S1 => ?_) (fun x σd1 h1 => ?_) (fun h1 => ?_)
  · rw [h1] at q
    have q1 := rdr.push (r2 := a.rw ++ (b.rw ++ c.rw)) (R := if isK "dict" x σd1 = true then (b.run σd1).bind fun y σ2 => (c.run σ2).bind fun z σ3 => if stab x (b.rw ++ c.rw) && stab y c.rw then get2Of x y z σ3 else .bad else .bad) S1 E1 R1.dj s1 (fun _ h => h) q
    split at q1
    · rename_i hk
      obtain ⟨ad, ev, isd⟩ := kind_dict E1 R1 hk
      refine ⟨ad, ev, isd, ?_⟩
      refine seqE (r := a.rw ++ (b.rw ++ c.rw)) (tf := f1) E1 s2 (fun y σd2 h2 v2 H2 fps2 f2 E2 R2 S2 => ?_) (fun y σd2 h2 => ?_) (fun h2 => ?_)
      · rw [h2] at q1
        obtain ⟨S2', td2, tn2, dj2⟩ := Stp.beside S2 R1.dj R1.dom
        have tA : ∀ j, Dj (f2 ++ f1) (fps2 j) := fun j b hb => by
          rcases List.mem_append.mp hb with hb | hb
          · exact R2.dj j b hb
          · exact td2 j b hb
        have tN : ∀ b ∈ f2 ++ f1, H2 b ≠ none := fun b hb => by
          rcases List.mem_append.mp hb with hb | hb
          · exact R2.dom b hb
          · exact tn2 b hb
        have q2 := rdr.push (r2 := a.rw ++ (b.rw ++ c.rw)) (R := (c.run σd2).bind fun z σ3 => if stab x (b.rw ++ c.rw) && stab y c.rw then get2Of x y z σ3 else .bad) S2' E2 tA s2 (fun _ h => h) q1
        refine seqE (r := a.rw ++ (b.rw ++ c.rw)) (tf := f2 ++ f1) E2 s3 (fun z σd3 h3 v3 H3 fps3 f3 E3 R3 S3 => ?_) (fun z σd3 h3 => ?_) (fun h3 => ?_)
        · rw [h3] at q2
          change rdr _ _ _ _ σ H2 σd2 fps2 (if (stab x (b.rw ++ c.rw) && stab y c.rw) = true then get2Of x y z σd3 else .bad) Q at q2
          split at q2
          · rename_i st
            have st' := Bool.and_eq_true_iff.mp st
            have stx : stab x b.rw = true ∧ stab x c.rw = true := by
              have h := st'.1
              cases x with
              | tmp d => exact ⟨rfl, rfl⟩
              | plc sp pp =>
                cases pp with
                | nil => exact ⟨rfl, rfl⟩
                | cons _ _ =>
                  have h' : (b.rw ++ c.rw).isEmpty = true := h
                  cases hb : b.rw with
                  | nil => rw [hb, List.nil_append] at h'; exact ⟨rfl, h'⟩
                  | cons _ _ => rw [hb] at h'; cases h'
            obtain ⟨R1', _⟩ := R1.step S2 stx.1
            obtain ⟨R1'', _⟩ := R1'.step S3 stx.2
            obtain ⟨R2', _⟩ := R2.step S3 st'.2
            obtain ⟨S3', td3, tn3, dj3⟩ := Stp.beside S3 tA tN
            have q3 := rdr.push (r2 := a.rw ++ (b.rw ++ c.rw)) S3' E3 (fun j b hb => by
              rcases List.mem_append.mp hb with hb | hb
              · exact R3.dj j b hb
              · exact td3 j b hb) s3 (fun _ h => h) q2
            unfold get2Of at q3
            split at q3
            · rename_i kvs k d hx hy
              obtain ⟨fx, ⟨ad', ws, f0, ev', sa, rs, na, ef⟩, _⟩ := R1''.rep E3 hx
              rw [ev] at ev'
              cases ev'
              obtain ⟨fy, ry, _⟩ := R2'.rep E3 hy
              split at q3
              · rename_i kk hkk
                have ey := key_rep hkk ry
                subst ey
                split at q3
                · rename_i e he
                  split at q3
                  · rename_i im
                    obtain ⟨w, fL, fM, fR, l1, rw', _⟩ := RepK.focus kvs ws f0 kk e rs he
                    have efM := Rep.imm e w fM im rw'
                    subst efM
                    refine ⟨some w, by have := DGet.k (k := kk) sa; rwa [lookV_valV, l1] at this, q3 w H3 fps3 [] E3 ⟨rw', fun _ => djnil⟩ (Stp.refl fun _ h => nomatch h)⟩
                  · exact q3.elim
                · rename_i he
                  refine ⟨none, by have := DGet.k (k := kk) sa; rwa [lookV_valV, lookD_none rs he] at this, q3 v3 H3 fps3 f3 E3 R3 (Stp.refl fun b h => .inr (List.mem_append_left _ h))⟩
              · exact q3.elim
            · exact q3.elim
          · exact q2.elim
        · rw [h3] at q2; exact q2
        · rw [h3] at q2; exact q2
      · rw [h2] at q1; exact q1
      · rw [h2] at q1; exact q1
    · exact q1.elim
  · rw [h1] at q; exact q
  · rw [h1] at q; exact q
end
theorem de_get2 {X : Cx} {W : WX} {o e f : Expr} {ca cb cc : EC} {apos cpos : Pos} (hu : X.A.units + 1 < cLine) (ho : DE X W o ca) (he : DE X W e cb) (hf : DE X W f cc) (m : M2 X o "get" apos e f cpos := by exact ⟨rfl, rfl, rfl, rfl⟩) :
    DE X W (.Call (.Attribute o "get" apos) [e, f] [] cpos) (cGet2 ca cb cc) := (pe_dget2 hu ho he hf m).le fun _ _ _ h => get2_rd h
/-! ### d.pop(k) -/
def dropD : List (D × D) → Key → List (D × D)
  | [], _ => []
  | (k, d) :: r, q => match k, q with
    | .int i, .inl j => if i = j then dropD r q else (k, d) :: dropD r q
    | .str x, .inr y => if x = y then dropD r q else (k, d) :: dropD r q
    | _, _ => (k, d) :: dropD r q
def dpopOf (s : Nat) (x y : RV) (σd : DSt) : Res RV := match x, y.get σd with
  | .plc s' p, some k => if s' = s then (match σd[s]?, keyOf k with
    | some (some d0), some q => (match getP d0 p with
      | some (.dct kvs) => (match lookD kvs q with
        | some d => if d.imm then .ok (.tmp d) (σd.set s (some (setP d0 p (.dct (dropD kvs q))))) else .bad
        | none => .bad)
      | _ => .bad)
    | _, _ => .bad) else .bad
  | _, _ => .bad
def cDpop (s : Nat) (a b : EC) : EC := ⟨fun σd => (a.run σd).bind fun x σ1 => if isK "dict" x σ1 = true then (b.run σ1).bind fun y σ2 => if stab x b.rw then dpopOf s x y σ2 else .bad else .bad, a.rw ++ (b.rw ++ [s])⟩
theorem RepK.drop {G : Gv} {H : Hp} {k : Key} : ∀ {ds : List (D × D)} {us : List (Key × V)} {fp : List Addr}, RepK G H ds us fp → ∃ fp', RepK G H (dropD ds k) (dropK us k) fp' ∧ ∀ a ∈ fp', a ∈ fp
  | [], us, fp, r => by
    rw [r.1, r.2]
    exact ⟨[], ⟨rfl, rfl⟩, fun _ h => h⟩
  | (k0, d0) :: ds, us, fp, ⟨kk, w, t, f1, f2, ev, ek, p, rs, d12, ef⟩ => by
    subst ev ek ef
    obtain ⟨fp', r', s'⟩ := RepK.drop (k := k) rs
    have e1 : dropD ((keyD kk, d0) :: ds) k = if kk = k then dropD ds k else (keyD kk, d0) :: dropD ds k := by
      cases kk <;> cases k <;> simp [dropD, keyD]
    have e2 : dropK ((kk, w) :: t) k = if kk = k then dropK t k else (kk, w) :: dropK t k := by
      unfold dropK
      rw [List.filter_cons]
      by_cases h : kk = k <;> simp [h]
    rw [e1, e2]
    by_cases h : kk = k
    · rw [if_pos h, if_pos h]
      exact ⟨fp', r', fun a ha => List.mem_append_right _ (s' a ha)⟩
    · rw [if_neg h, if_neg h]
      exact ⟨f1 ++ fp', ⟨kk, w, _, f1, fp', rfl, rfl, p, r', fun a h z => d12 a h (s' a z), rfl⟩, fun a ha => (List.mem_append.mp ha).elim (List.mem_append_left _) fun z => List.mem_append_right _ (s' a z)⟩
theorem dropK_nodup {us : List (Key × V)} {k : Key} (h : (us.map (·.1)).Nodup) : ((dropK us k).map (·.1)).Nodup := by
  unfold dropK
  exact List.Sublist.nodup (List.Sublist.map _ List.filter_sublist) h
section
variable {G : Gv} {W : WX} {H H1 H2 H' : Hp} {σd σd1 σd2 σd' : DSt} {σ σ1 σ' : L2.St} {fps fps1 fps2 fps' : Nat → List Addr} {r r1 r2 a0 a1 a2 vs : List Nat} {tf tf' e1 e2 ex : List Addr}
theorem dpop_rd {s : Nat} {a b : EC} {Q : VK} (h : rd G W (cDpop s a b) σ H Q) : tDPop1 (rd G W a) (rd G W b) σ H Q := by
  obtain ⟨σd, fps, E, q⟩ := h
  change rdr _ _ _ _ σ H σd fps ((a.run σd).bind _) Q at q
  have s1 : ∀ j ∈ a.rw, j ∈ a.rw ++ (b.rw ++ [s]) := mem_l
  have s2 : ∀ j ∈ b.rw, j ∈ a.rw ++ (b.rw ++ [s]) := fun j h => mem_r j (mem_l j h)
  refine seqE (r := a.rw ++ (b.rw ++ [s])) (tf := []) E s1 (fun x σd1 h1 v1 H1 fps1 f1 E1 R1 S1 => ?_) (fun x σd1 h1 => ?_) (fun h1 => ?_)
  · rw [h1] at q
    have q1 := rdr.push (r2 := a.rw ++ (b.rw ++ [s])) (R := if isK "dict" x σd1 = true then (b.run σd1).bind fun y σ2 => if stab x b.rw then dpopOf s x y σ2 else .bad else .bad) S1 E1 R1.dj s1 (fun _ h => h) q
    split at q1
    · rename_i hk
      obtain ⟨ad, ev, isd⟩ := kind_dict E1 R1 hk
      refine ⟨ad, ev, isd, ?_⟩
      refine seqE (r := a.rw ++ (b.rw ++ [s])) (tf := f1) E1 s2 (fun y σd2 h2 v2 H2 fps2 f2 E2 R2 S2 => ?_) (fun y σd2 h2 => ?_) (fun h2 => ?_)
      · rw [h2] at q1
        change rdr _ _ _ _ σ H1 σd1 fps1 (if stab x b.rw = true then dpopOf s x y σd2 else .bad) Q at q1
        split at q1
        · rename_i st
          obtain ⟨R1', _⟩ := R1.step S2 st
          obtain ⟨S2', td2, tn2, dj2⟩ := Stp.beside S2 R1.dj R1.dom
          have q2 := rdr.push (r2 := a.rw ++ (b.rw ++ [s])) S2' E2 (fun j b hb => by
            rcases List.mem_append.mp hb with hb | hb
            · exact R2.dj j b hb
            · exact td2 j b hb) s2 (fun _ h => h) q1
          unfold dpopOf at q2
          split at q2
          · rename_i s' p k hy
            split at q2
            · rename_i es
              subst es
              split at q2
              · rename_i d0 kk hd0 hkk
                split at q2
                · rename_i kvs hp
                  split at q2
                  · rename_i d hd
                    split at q2
                    · rename_i im
                      obtain ⟨fM, rM, sub, up⟩ := place_upd (tf := f2 ++ f1) E2 hd0 hp R1'
                      obtain ⟨ad', ws, f0, ev', sa, rs, na, ef⟩ := rM
                      rw [ev] at ev'
                      cases ev'
                      subst ef
                      obtain ⟨fy, ry, _⟩ := R2.rep E2 hy
                      have ey := key_rep hkk ry
                      subst ey
                      obtain ⟨w, fL, fM, fR, l1, rw', _⟩ := RepK.focus kvs ws f0 kk d rs hd
                      have efM := Rep.imm d w fM im rw'
                      subst efM
                      obtain ⟨fp', rp', sp'⟩ := RepK.drop (k := kk) rs
                      have nap : ad ∉ fp' := fun z => na.1 (sp' ad z)
                      have kM := updKeep (o' := .dK (dropK ws kk)) (List.mem_cons_self ..) sa trivial (fM := ad :: f0)
                      have kA : Keep (· ∈ [ad]) H2 (upd H2 ad (.dK (dropK ws kk))) := updKeep (List.mem_singleton.mpr rfl) sa trivial
                      obtain ⟨fps', E', S', _⟩ := up (upd H2 ad (.dK (dropK ws kk))) (.dct (dropD kvs kk)) (ad :: fp') kM ⟨ad, dropK ws kk, fp', ev, upd_same, RepK.keep kA _ _ _ (fun b hb z => nap (List.mem_singleton.mp z ▸ hb)) rp', ⟨nap, dropK_nodup na.2⟩, rfl⟩
                        (fun b hb => .inl ((List.mem_cons.mp hb).elim (fun z => by rw [z]; exact List.mem_cons_self ..) fun z => List.mem_cons_of_mem _ (sp' b z)))
                        (fun b hb => .inl ((List.mem_cons.mp hb).elim (fun z => by rw [z]; exact List.mem_cons_self ..) fun z => List.mem_cons_of_mem _ (sp' b z))) updDom
                      exact ⟨ws, kk, w, sa, rfl, by rw [lookV_valV]; exact l1, q2 w _ fps' [] E' ⟨Rep.keep kA d w [] (fun _ h => nomatch h) rw', fun _ => djnil⟩ (S'.wk (fun j h => by rw [List.mem_singleton.mp h]; exact mem_r s' (mem_r s' (List.mem_singleton.mpr rfl))) (fun _ h => h) (fun _ h => nomatch h))⟩
                    · exact q2.elim
                  · exact q2.elim
                · exact q2.elim
              · exact q2.elim
            · exact q2.elim
          · exact q2.elim
        · exact q1.elim
      · rw [h2] at q1; exact q1
      · rw [h2] at q1; exact q1
    · exact q1.elim
  · rw [h1] at q; exact q
  · rw [h1] at q; exact q
end
theorem de_dpop {X : Cx} {W : WX} {o e : Expr} {ca cb : EC} {apos cpos : Pos} (s : Nat) (ho : DE X W o ca) (he : DE X W e cb) (m : M1 X o "pop" apos e cpos := by exact ⟨rfl, rfl, rfl, rfl⟩) :
    DE X W (.Call (.Attribute o "pop" apos) [e] [] cpos) (cDpop s ca cb) := (pe_dpop1 ho he m).le fun _ _ _ h => dpop_rd h
/-! ### {k: v} -/
def dict1Of (x y : RV) (σd : DSt) : Res RV := match x, y with
  | .tmp k, .tmp d => (match keyOf k with
    | some q => if d.imm then .ok (.tmp (.dct [(keyD q, d)])) σd else .bad
    | none => .bad)
  | _, _ => .bad
def cDict1 (a b : EC) : EC := ⟨run2 a b dict1Of, a.rw ++ b.rw⟩
section
variable {G : Gv} {W : WX} {H H1 H2 H' : Hp} {σd σd1 σd2 σd' : DSt} {σ σ1 σ' : L2.St} {fps fps1 fps2 fps' : Nat → List Addr} {r r1 r2 a0 a1 a2 vs : List Nat} {tf tf' e1 e2 ex : List Addr}
theorem dict1_rd {a b : EC} {Q : VK} (h : rd G W (cDict1 a b) σ H Q) : tDisp [(rd G W a, rd G W b)] σ H Q := by
  obtain ⟨σd, fps, E, q⟩ := h
  intro p n
  have k := keepF (o := .dK []) n
  have np : ∀ j, Dj [p] (fps j) := fun j a ha z => by
    rw [List.mem_singleton.mp ha] at z
    obtain ⟨o, e, _⟩ := E.dom z
    rw [n] at e
    cases e
  have S0 : Stp (a.rw ++ b.rw) [] H σd fps (upd H p (.dK [])) σd fps [p] := Stp.grow k fun x hx => by
    rw [List.mem_singleton.mp hx]
    exact .inr (.inr n)
  have q0 := rdr.push (r2 := a.rw ++ b.rw) S0 (E.all k) np (fun _ h => h) (fun _ h => h) q
  have tn : ∀ x ∈ [p], upd H p (.dK []) x ≠ none := fun x hx => by
    rw [List.mem_singleton.mp hx, upd_same]
    exact fun z => nomatch z
  -- the dict stays beside the key's and the value's making
  change rdr _ _ _ _ σ _ σd fps (run2 a b dict1Of σd) Q at q0
  refine rd_two (r := a.rw ++ b.rw) (tf := [p]) (R := fun x y H2 => H2 p = some (.dK []) ∧ ∃ kvs : List (Key × V), [(x, y)] = kvs.map (fun kv => (kV kv.1, kv.2)) ∧ kvs.length ≤ 15 ∧ Q (.ref p) (upd H2 p (.dK (mergeK [] kvs)))) (E.all k) mem_l mem_r q0 np tn fun x y σd2 v1 v2 H2 fps2 f1 f2 E2 R1 R2 d12 S2 kt q2 => ?_
  have hp : H2 p = some (.dK []) := kt.1 p _ (List.mem_singleton.mpr rfl) upd_same (fun _ z => nomatch z)
  refine ⟨hp, ?_⟩
  unfold dict1Of at q2
  split at q2
  · rename_i kd d
    split at q2
    · rename_i kk hk
      split at q2
      · rename_i im
        have e1 : v1 = kV kk := key_rep hk R1.1
        have ef2 := Rep.imm d v2 f2 im R2.1
        subst ef2
        have np2 : ∀ j, p ∉ fps2 j := fun j z => kt.2 j p (List.mem_singleton.mpr rfl) z
        have kA : Keep (· ∈ [p]) H2 (upd H2 p (.dK (mergeK [] [(kk, v2)]))) := updKeep (List.mem_singleton.mpr rfl) hp trivial
        refine ⟨[(kk, v2)], by rw [e1]; rfl, Nat.le_of_ble_eq_true rfl, ?_⟩
        have em : mergeK [] [(kk, v2)] = [(kk, v2)] := by simp [mergeK, putK]
        rw [em]
        rw [em] at kA
        refine q2 (.ref p) _ fps2 [p] (E2.keep kA fun i a ha z => np2 i (List.mem_singleton.mp z ▸ ha)) ⟨⟨p, [(kk, v2)], [], rfl, upd_same, ⟨kk, v2, [], [], [], rfl, rfl, Rep.keep kA d v2 [] (fun _ h => nomatch h) R2.1, ⟨rfl, rfl⟩, djnil, rfl⟩, ⟨List.not_mem_nil, by simp⟩, rfl⟩, fun j a ha z => np2 j (List.mem_singleton.mp ha ▸ z)⟩ ?_
        refine ⟨kA.mono fun a ha => .inr ?_, fun a z => ?_, fun _ _ => ⟨rfl, rfl⟩, updDom⟩
        · simp only [List.mem_append]
          exact .inr (.inr ha)
        · rcases z with z | z
          · refine .inr (.inl ?_)
            simp only [List.mem_append]
            exact .inr (.inr z)
          · exact .inl z
      · exact q2.elim
    · exact q2.elim
  · exact q2.elim
end
end A2
end S_A2q
section S_A2x
set_option Elab.async false
set_option linter.all false
set_option maxRecDepth 100000
set_option maxHeartbeats 4000000
open PySem PySem.Spec L2
open PyProof.Rows hiding St
namespace A2
/-! ## an exception class whose __init__ says super().__init__(code) and self.code = code -/
section
open PySem.W PySem.Calls
variable {prog : Program} {w : World} {A : Around} {E : Value → Shared → Prop} {h : Heap} {g : Array GenState} {d : Drawn} {t : Nat} {os : OsState}
variable {nm q : Str} {C N : Addr} {bs bm : List Value} {hdct : Bool} {sn : List Str} {sub : List Value} {ab : Bool} {col : Option Bool} {dd : Option Addr} {k0 k1 k2 k3 k5 : Option Value}
theorem call_ve {u e t0 : Addr} {rest : List Value} {Q : Value → Shared → Prop} (hbm : HandSPX.refsVE bm = true)
    (hC : h.get? C = some (excClassObj nm q C N bs bm hdct sn sub ab col dd k0 k1 k2 k3 k5 "ValueError.__new__")) (he : h.get? e = some (HandSPX.excO C t0)) (hu : h.get? u = some (kxs_mw "ValueError.__init__" e)) (hrest : rest.length ≤ sizeLine)
    (hq : ∀ h' t1, (∀ b o, b ≠ e → h.get? b = some o → h'.get? b = some o) → h'.get? e = some (HandSPX.excO C t1) → Q .none ⟨h', g, d, t, os⟩) :
    wpAny (model prog w) A (call (.ref u) rest) Q E ⟨h, g, d, t, os⟩ := by
  refine wpAny_call (codeAny_of_tree ?_)
  show wpAny _ A.in1 (callAny (.ref u) ⟨rest, []⟩) _ _ _
  simp only [callAny]
  refine wpAny_bind (wpAny_load hu ?_)
  simp only [kxs_mw, show (Value.type "method-wrapper" == Value.type "method" || Value.type "method-wrapper" == Value.type "builtin_function_or_method" || Value.type "method-wrapper" == Value.type "method-wrapper") = true by decide, if_true]
  refine W.KFB.if_so (by decide) ?_
  refine wpAny_bind (ESX.check_bound F.excBase_ValueError hC he rfl ?_)
  refine wpAny_bind (wpAny_pure (wpAny_pure ?_))
  refine ⟨Code.quiet_builtin _ (by decide +kernel), codeAny_builtin F.excBase_ValueError.initEntry ?_⟩
  rw [Around.under_plainId F.excBase_ValueError.init.plain _]
  wp_walk
  refine hq _ h.objs.size (fun b o hb ho => ?_) ?_
  · rw [Heap.get?_update_other _ _ (Ne.symm hb)]
    exact Heap.get?_push_of_some _ ho
  · rw [Heap.get?_update_self _ (Heap.get?_push_of_some _ he) rfl]
    rfl
theorem callWith_mw {M : Model} {s : Shared} {pos : Pos} {u x : Addr} {first : List Value} {args : List (Bool × Sem Value)} {Q : Value → Shared → Prop} (hplain : args.any (·.1) = false)
    (h : wpAny M A (evalArgs (.ref u) true args []) (fun a s₁ => s₁.heap.get? u = some (kxs_mw "ValueError.__init__" x) ∧ wpAny M A (call (.ref u) (first ++ a.pos) a.kw) Q E s₁) E s) : wpAny M A (callWith pos (.ref u) first args []) Q E s := by
  unfold callWith
  refine wpAny_bind (wpAny_holding (wpAny_mono h (fun a s₁ h₁ => wpAny_bind (wpAny_standAt ?_)) fun _ _ x => x))
  obtain ⟨ho, hcall⟩ := h₁
  simp only [hplain, List.any_nil, Bool.or_false]
  refine wpAny_bind (m := keeperOf (.ref u)) ?_
  unfold keeperOf
  refine wpAny_bind (wpAny_load ho ?_)
  simp only [kxs_mw, show (Value.type "method-wrapper" != Value.type "method") = true by decide, show (Value.type "method-wrapper" == Value.type "builtin_function_or_method" || Value.type "method-wrapper" == Value.type "method-wrapper") = true by decide, if_true]
  refine wpAny_pure ?_
  exact wpAny_bind (wpAny_mono hcall (fun r s₂ hr => wpAny_bind (wpAny_holding (wpAny_point (wpAny_pure hr)))) fun _ _ x => x)
theorem callWith_mwb {M : Model} {s : Shared} {pos : Pos} {u x : Addr} {first : List Value} {env : Env} {e : Expr} {rest : List Expr} {Q : Value → Shared → Prop}
    (h : wpAny M A (spliced (backTo pos (starEach (e :: rest) env))) (fun vs s₁ => s₁.heap.get? u = some (kxs_mw "ValueError.__init__" x) ∧ wpAny M A (call (.ref u) (first ++ vs)) Q E s₁) E s)
    (he : starEach (e :: rest) env = (false, eval e env) :: starEach rest env := by rfl) (hplain : (backTo pos (starEach rest env)).any (·.1) = false := by rfl) :
    wpAny M A (callWith pos (.ref u) first (backTo pos (starEach (e :: rest) env)) []) Q E s := by
  rw [he] at h ⊢
  refine callWith_mw (x := x) (by show (false || (backTo pos (starEach rest env)).any (·.1)) = false; rw [hplain]; rfl) ?_
  exact evalArgs_plain h
end
/-- how its call is read -/
theorem init_eval (p0 p1 p2 p3 p4 : Pos) (env : Env) (hline : (p2.endLine == p4.line) = true) : ∃ pl, eval (.Call (.Attribute (.Call (.Name "super" p0) [] [] p1) "__init__" p2) [.Name "code" p3] [] p4) env = (do
      let ov ← attributeBase (.Call (.Name "super" p0) [] [] p1) "__init__" env (eval (.Call (.Name "super" p0) [] [] p1) env)
      standAt p2.atName
      let (f, first) ← holding [ov] (getMethod ov "__init__" pl)
      callWith p4 f first (backTo p4 (starEach [.Name "code" p3] env)) []) := by
  refine ⟨(do return (← importBound (.Call (.Name "super" p0) [] [] p1) env).getD true), ?_⟩
  have hpos : methodCallPos true (.Call (.Name "super" p0) [] [] p1) env p2 p4 = pure p4 := by unfold methodCallPos; simp [hline]
  have h : eval (.Call (.Attribute (.Call (.Name "super" p0) [] [] p1) "__init__" p2) [.Name "code" p3] [] p4) env = (do
      let ov ← attributeBase (.Call (.Name "super" p0) [] [] p1) "__init__" env (eval (.Call (.Name "super" p0) [] [] p1) env)
      standAt p2.atName
      let (f, first) ← holding [ov] (getMethod ov "__init__" (do return (← importBound (.Call (.Name "super" p0) [] [] p1) env).getD true))
      let cp ← methodCallPos true (.Call (.Name "super" p0) [] [] p1) env p2 p4
      callWith cp f first (backTo p4 (starEach [.Name "code" p3] env)) []) := by with_unfolding_all rfl
  rw [h, hpos]
  rfl
/-- what the written part says of the __init__ of the class at D -/
structure InitC (P : Program) (K : PySem.W.Frag) (mg : Str → Option Value) (D fI : Addr) (fd : FuncData) (q : Str) (pr : Arguments) (sc : Scope) (cda cc : Addr) (b : List Stmt) : Prop where
  fn : ∃ oc od osl dV kV doc pm an ct, K.lookup fI = some ⟨oc, od, .func fd, osl⟩ ∧ fd = PySem.W.ksFn "__init__" q pr b sc dV kV doc pm an (.ref cda) ct cc
  code : PySem.W.codeIn K (.ref cda) q = true
  file : ∃ ccl cdd vs ccs file tf, K.lookup cda = some ⟨ccl, cdd, .fields vs, ccs⟩ ∧ vs[2]? = some (.str file tf) ∧ ((P.main.file : Str) == file) = true
  cell : ∃ cl cld csl, K.lookup cc = some ⟨cl, cld, .cell (some (.ref D)), csl⟩
  cls : ∃ cdD, PySem.W.clsIn K D = some cdD
  sup : mg "super" = none
  top : (P.main.scope.names.lookup ("super" : Str)).isSome = false
  opq : PySem.W.nsIn K cStatics "thirdparty.any" = some none
/-- .. and of a class at C under it -/
structure SubC (K : PySem.W.Frag) (D fI C : Addr) : Prop where
  oex : OexC K C
  ini : PySem.W.findIn K (.ref C) "__init__" = some (some (.ref fI))
  sub : PySem.W.mroIn K C (.ref D) = some true
  nxt : ∃ cd, PySem.W.clsIn K C = some cd ∧ PySem.W.alongIn K "__init__" ((cd.mro.dropWhile (· != .ref D)).drop 1) = some (some (.builtin "ValueError.__init__"))
  ve : PySem.W.subIn K (.ref C) (.type "ValueError") = some true
  fld : PySem.W.findIn K (.ref C) "code" = some none
abbrev initScope : Scope := { kind := .function, names := [("self", .local), ("code", .local), ("__class__", .free), ("super", .globalImplicit)], isGenerator := false, isCoroutine := false, more := [] }
def spInit (K : PySem.W.Frag) (D fI : Addr) : Sp := fun vs H Q _ => ∃ (a C : Addr) (v : V), vs = [.ref a, v] ∧ SubC K D fI C ∧ H a = some (exo a C none) ∧ ∀ dx, H dx = none → dx ≠ a → Q .non (upd (upd H dx (exd dx [("code", v)])) a (exo a C (some dx)))
section
variable {P : Program} {w : World} {K : PySem.W.Frag} {mg : Str → Option Value} {base : Heap} {D fI cda cc : Addr} {fd : FuncData} {q : Str} {pr : Arguments} {k : Nat} {p0 p1 p2 p3 p4 p5 p6 p7 p8 p9 : Pos}
/-- the context of its body -/
def initCx (P : Program) (w : World) (K : PySem.W.Frag) (mg : Str → Option Value) (base : Heap) (q : Str) (cda cc fI : Addr) (A : Around) (outer : List Env) (s : Shared) (H : Hp) : Cx where
  prog := P
  w := w
  K := K
  mg := mg
  base := base
  A := A.deeper (PySem.W.ksEnv q initScope s.heap.objs.size fI (.ref cda) cc)
  N := ["self", "code"]
  s_0 := s
  H_0 := H
  env := PySem.W.ksEnv q initScope s.heap.objs.size fI (.ref cda) cc
  outer := outer
  stack := PySem.W.ksEnv q initScope s.heap.objs.size fI (.ref cda) cc :: outer
  ex := []
  calm := true
  fn := fun _ => false
  pn := []
  xe := fun _ _ => False
theorem init_fn (hline : (p2.endLine == p4.line) = true) (T : InitC P K mg D fI fd q pr initScope cda cc [.Expr (.Call (.Attribute (.Call (.Name "super" p0) [] [] p1) "__init__" p2) [.Name "code" p3] [] p4) p5, .Assign [.Attribute (.Name "self" p6) "code" p7] (.Name "code" p8) p9])
    (hp : (pr.posonlyargs ++ pr.args).head?.map (·.arg) = some "self") : FnOk P w K mg base (L2.CX P w) (k + 1) fI fd ["self", "code"] (spInit K D fI) := by
  refine ⟨fun vs H Q E h => by obtain ⟨_, _, _, e, _⟩ := h; rw [e]; rfl, fun A outer s H args us vs Q E hr e0 hb r hsp => ?_⟩
  obtain ⟨a, C, v, ev, S, hH, hq⟩ := hsp
  subst ev
  obtain ⟨ua, u, eu, ra, ru⟩ := vals2 r
  subst eu
  obtain rfl : ua = Value.ref a := ra
  have KX : K.In s.heap := e0.mod.kin.keeps fun b o e => (e0.bs b o e).1
  have lim : s.heap.NoLimit := e0.mod.nolimit.keeps fun b o e => (e0.bs b o e).1
  obtain ⟨oc, od, osl, dV, kV, doc, pm, an, ct, lk, efd⟩ := T.fn
  obtain ⟨cl, cld, csl, lcell⟩ := T.cell
  have hcc : base.get? cc = some _ := e0.mod.kin _ _ lcell
  have hcell : ∀ x ∈ fd.scope.names, x.2 ≠ NameKind.cell := by
    rw [efd]
    show ∀ x ∈ initScope.names, x.2 ≠ NameKind.cell
    decide +kernel
  have hloc : ∀ x ∈ (["self", "code"] : List Str).zip [Value.ref a, u], fd.scope.names.lookup x.1 = some NameKind.local := by
    rw [efd]
    intro x hx
    have hx' : x = ((("self" : Str), Value.ref a) : Str × Value) ∨ x = ((("code" : Str), u) : Str × Value) := by simpa using hx
    rcases hx' with rfl | rfl
    · show initScope.names.lookup ("self" : Str) = some NameKind.local
      decide +kernel
    · show initScope.names.lookup ("code" : Str) = some NameKind.local
      decide +kernel
  refine PySem.ks_codeAny_call_defAt (fd := fd) hr.depth (KX _ _ lk) rfl lim (by rw [efd]; exact PySem.W.codeRec_of KX T.code) (by rw [efd]) hb hcell hloc (fun h1 hns hk => ?_) (by rw [efd]) (by rw [efd]) (by rw [efd])
  have eenv : callEnv fd s.heap.objs.size fI = PySem.W.ksEnv q initScope s.heap.objs.size fI (.ref cda) cc := by rw [efd]; rfl
  rw [eenv]
  let X := initCx P w K mg base q cda cc fI A outer s H
  have hb0 : base.get? cc = some _ := e0.mod.kin _ _ lcell
  have hccs := e0.bs _ _ hb0
  have hccl : cc < s.heap.objs.size := Heap.lt_size hccs.1
  have I0 : Inv X [] [some (.ref a), some v] H { s with heap := h1, toks := s.toks + 2 } := by
    have noA : ∀ b : Addr, b ∉ X.ex := fun b z => absurd (show b ∈ ([] : List Addr) from z) (by simp)
    have one : ∀ x c, X.env.cells.lookup x = some c → x = "__class__" ∧ c = cc := fun x c h => by
      have h' : ([("__class__", cc)] : List (Str × Addr)).lookup x = some c := h
      simp only [List.lookup] at h'
      split at h'
      · rename_i e
        cases h'
        exact ⟨beq_iff_eq.mp e, rfl⟩
      · cases h'
    refine ⟨⟨e0.mod, rfl, rfl, rfl, Nat.le_refl _, fun x y c h1 h2 => (one x c h1).1.trans (one y c h2).1.symm, fun x hx => ?_, fun x c h => Bool.noConfusion h, fun _ => hr.hd, Around.frames_deeper e0.frames, .inr ⟨rfl, rfl⟩, fun b z => absurd z (noA b), e0.bs, e0.bsz, fun b _ _ => noA b, fun b z => absurd z (noA b), e0.funs, e0.frf⟩,
      rfl, e0.bare, Un.kept hk, ⟨_, hns, fun i x v' hx hv hvis => ?_⟩, fun x c h => ?_, e0.hok.fresh (Nat.le_refl _), fun x c h => ?_, fun p hp => absurd (show p ∈ ([] : List (Addr × Obj)) from hp) (by simp), e0.hok.kept hk, rfl⟩
    · have key : ∀ x : Str, (initScope.names.lookup x = some .cell ∨ initScope.names.lookup x = some .free) → x = ("__class__" : Str) := by
        intro x h
        simp only [initScope, List.lookup] at h
        split at h
        · rcases h with h | h <;> cases h
        · split at h
          · rcases h with h | h <;> cases h
          · split at h
            · rename_i e
              exact beq_iff_eq.mp e
            · split at h
              · rcases h with h | h <;> cases h
              · rcases h with h | h <;> cases h
      have e := key x hx
      subst e
      exact ⟨cc, rfl⟩
    · match i, hx, hv with
      | 0, hx, hv =>
        have ex : ("self" : Str) = x := Option.some.inj hx
        have ew : V.ref a = v' := Option.some.inj (Option.some.inj hv)
        subst ex ew
        exact ⟨Value.ref a, rfl, .inl ⟨rfl, by rfl⟩⟩
      | 1, hx, hv =>
        have ex : ("code" : Str) = x := Option.some.inj hx
        have ew : v = v' := Option.some.inj (Option.some.inj hv)
        subst ex ew
        exact ⟨u, ru, .inl ⟨rfl, by rfl⟩⟩
      | i + 2, hx, hv => cases hx
    · obtain ⟨_, rfl⟩ := one x c h
      exact ⟨_, _, hk _ _ hccs.1, rfl⟩
    · obtain ⟨_, rfl⟩ := one x c h
      exact hccs.2
  obtain ⟨ccl, cdd, vs2, ccs, file, tf, lcode, hvs, hfile⟩ := T.file
  obtain ⟨cdD, hDc⟩ := T.cls
  have KH : ∀ {H' : Hp} {s' : Shared}, Inv X [] [some (.ref a), some v] H' s' → K.In s'.heap := fun I => I.kIn
  have fin : ∀ {H' : Hp} {s' : Shared}, Inv X [] [some (.ref a), some v] H' s' → Q .non H' → CE outer P w H s Q .none s' := fun {H' s'} J q => ⟨.non, H', J.os, J.bare, J.base, J.hok, rfl, q⟩
  obtain ⟨ar, har, harn⟩ : ∃ ar, (pr.posonlyargs ++ pr.args).head? = some ar ∧ ar.arg = ("self" : Str) := by
    cases hh : (pr.posonlyargs ++ pr.args).head? with
    | none => rw [hh] at hp; cases hp
    | some ar => rw [hh] at hp; exact ⟨ar, rfl, Option.some.inj hp⟩
  obtain ⟨t1, hex⟩ := exo_at I0.hok hH
  have hDo : ∃ oD, h1.get? D = some oD ∧ oD.data = .cls cdD := by
    unfold PySem.W.clsIn at hDc
    split at hDc
    · rename_i c0 d0 cd' sl ho
      cases hDc
      exact ⟨_, KH I0 _ _ ho, rfl⟩
    · cases hDc
  obtain ⟨oD, hD1, hD2⟩ := hDo
  obtain ⟨m1, hn1, hl1⟩ := id I0.loc
  have vis0 : Vis X.env.scope "self" := .inl (by show initScope.names.lookup ("self" : Str) = some NameKind.local; decide +kernel)
  have vis1 : Vis X.env.scope "code" := .inl (by show initScope.names.lookup ("code" : Str) = some NameKind.local; decide +kernel)
  have msel : m1 "self" = some (.ref a) := by
    obtain ⟨u0, r0, l0⟩ := hl1 0 "self" (.ref a) rfl rfl vis0
    obtain rfl : u0 = Value.ref a := r0
    rcases l0 with ⟨_, z⟩ | ⟨z, _⟩
    · exact z
    · rcases z with z | z
      · exact absurd (show initScope.names.lookup ("self" : Str) = some NameKind.cell from z) (by decide +kernel)
      · exact absurd (show initScope.names.lookup ("self" : Str) = some NameKind.free from z) (by decide +kernel)
  obtain ⟨pl, heval⟩ := init_eval p0 p1 p2 p3 p4 (PySem.W.ksEnv q initScope s.heap.objs.size fI (.ref cda) cc) hline
  obtain ⟨mb, hmb, hbb⟩ := e0.mod.blt
  obtain ⟨cdC, hcC, hal⟩ := S.nxt
  refine PySem.ks_wpAt_execs_cons (PySem.ks_wpAt_Expr_any (PySem.ks_wpAt_MethodCall (he := heval) (PySem.ks_wpAt_super_base (env := PySem.W.ksEnv q initScope s.heap.objs.size fI (.ref cda) cc) rfl rfl rfl rfl (KH I0 _ _ lk) rfl (by rw [efd]; exact har) rfl (KH I0 _ _ lcode) rfl hvs hfile T.top ?_)))
  rw [harn]
  refine PySem.W.ks_loadName_global rfl rfl (PySem.Calls.loadGlobal_builtin (env := PySem.W.ksEnv q initScope s.heap.objs.size fI (.ref cda) cc) (e0.mod.glob.keeps I0.bk) T.sup (hmb.keeps I0.bk) ((hbb _ (by decide +kernel)).trans PyProof.Rows.Boot.«super») ⟨rfl, ?_⟩)
  refine wpAny_loadName_free rfl rfl rfl ⟨_, KH I0 _ _ lcell, rfl⟩ ?_
  refine wpAny_loadName_local rfl rfl hn1 msel ?_
  refine PySem.ks_wpAny_isType_cls hD1 hD2 ⟨rfl, ?_⟩
  refine PySem.ks_wpAny_call_super hD1 hD2 hex rfl (fun c z => by cases z) (PySem.W.looks_mroIn (KH I0) S.sub) (fun h2 eso k2 => ?_)
  have I1 : Inv X [] [some (.ref a), some v] H { s with heap := h2, toks := s.toks + 2 } := I0.kept k2
  have Ia : PySem.W.InstAt h2 a ({ cls := .ref C, dict := none, data := .fields #[.ref t1, .none, .none, .none, .bool false, .none] } : Obj) C none := ⟨k2 _ _ hex, rfl, rfl, trivial⟩
  refine PySem.W.kxs_getMethod PySem.W.kxs_ValueError eso (PySem.W.looks_opaque (KH I1) T.opq) (l₀ := cdC.mro) ?_ rfl (KH I1) hal (Ia.type.andThen (PySem.W.looks_subIn (KH I1) S.ve)) (PySem.W.ks_ne (KH I1) Ia hcC) (by decide) ?_
  · exact fun A Q E s k q => wpAny_bind ((PySem.W.looks_clsIn (KH I1) hcC) A _ E s k (wpAny_pure q))
  have hmw : (h2.push (PySem.W.kxs_mw "ValueError.__init__" a)).get? h2.objs.size = some (PySem.W.kxs_mw "ValueError.__init__" a) := Heap.get?_push_at rfl rfl
  have k3 : ∀ b o, h2.get? b = some o → (h2.push (PySem.W.kxs_mw "ValueError.__init__" a)).get? b = some o := fun b o e => Heap.get?_push_of_some _ e
  have I2 : Inv X [] [some (.ref a), some v] H { s with heap := h2.push (PySem.W.kxs_mw "ValueError.__init__" a), toks := s.toks + 2 + 1 } := I1.kept k3
  refine callWith_mwb (x := a) ?_
  obtain ⟨u1, r1, l1⟩ := hl1 1 "code" v rfl rfl vis1
  have mcod : m1 "code" = some u1 := by
    rcases l1 with ⟨_, z⟩ | ⟨z, _⟩
    · exact z
    · rcases z with z | z
      · exact absurd (show initScope.names.lookup ("code" : Str) = some NameKind.cell from z) (by decide +kernel)
      · exact absurd (show initScope.names.lookup ("code" : Str) = some NameKind.free from z) (by decide +kernel)
  refine PySem.Calls.spliced_cons (wpAny_Name (wpAny_loadName_local rfl rfl (hn1.keeps fun b o e => k3 b o (k2 b o e)) mcod ?_) (by decide))
  refine PySem.Calls.spliced_nil ⟨hmw, ?_⟩
  obtain ⟨nm, qq, NN, bs, bm, sn, sub, ab, col, dd, c0, c1, c2, c3, c5, hCC, hbm⟩ := S.oex.cls
  refine call_ve hbm (KH I2 _ _ hCC) (k3 _ _ (k2 _ _ hex)) hmw (by rw [sizeLine_eq]; show 1 ≤ 16777216; decide) (fun h4 t4 k4 e4 => ?_)
  have eu : upd H a (exo a C none) = H := by
    funext b
    by_cases hb : b = a
    · rw [hb, upd_same, hH]
    · rw [upd_ne hb]
  have I3 := I2.write (t' := s.toks + 2 + 1) (x := a) (e := a) (o := exo a C none) (by rw [hH]; exact True.intro) (.inl rfl) k4 ⟨_, e4⟩ (exo_ok e4)
  rw [eu] at I3
  show PySem.wpAt _ _ _ (execs [_] _) _ _ _
  refine PySem.ks_wpAt_execs_cons (wpAt_of_wpAny (plainObj_wpAny_Assign_Attribute (wpAny_mono ((pe_var (X := X) (i := 1) rfl vis1).run [] _ _ _ (fun v' H' => v' = v ∧ H' = H) I3 ⟨v, rfl, rfl, rfl⟩) (fun u5 s5 ⟨v5, H5, I5, r5, q5⟩ => ?_) fun _ _ z => z.elim) (by rfl)))
  obtain ⟨rfl, rfl⟩ := q5
  refine wpAny_mono ((pe_var (X := X) (i := 0) rfl vis0).run [] _ _ _ (fun v' H' => v' = .ref a ∧ H' = H5) I5 ⟨.ref a, rfl, rfl, rfl⟩) (fun u6 s6 ⟨v6, H6, I6, r6, q6⟩ => ?_) fun _ _ z => z.elim
  obtain ⟨rfl, rfl⟩ := q6
  obtain rfl : u6 = Value.ref a := r6
  refine ost_new S.oex I6 hH S.fld r5 fun dx s7 n1 n2 J => ?_
  refine wpAt_of_wpAny (wpAny_pure ?_)
  exact fin J (hq dx n1 n2)
end
end A2
end S_A2x
section S_A2y
set_option Elab.async false
set_option linter.all false
set_option maxRecDepth 100000
set_option maxHeartbeats 4000000
open PySem PySem.Spec L2
open PyProof.Rows hiding St
namespace A2
/-! ## raise X(code) -/
def raiseOf (nm : Str) (x : RV) (σ1 : DSt) : SRes := match x.get σ1 with
  | some d => if d.imm = true then .er ⟨nm, [("code", d)]⟩ σ1 else .bad
  | none => .bad
def sRaise (nm : Str) (c : EC) : SC := ⟨fun σd => bindS (c.run σd) (raiseOf nm), c.rw, []⟩
theorem ds_raise {X : Cx} {W : WX} {x : Str} {e : Expr} {c : EC} {p pos pos' : Pos} {D C fI : Addr} {fd : FuncData} {k : Nat} (T : SubC X.K D fI C) (tI : PySem.W.typeIn X.K (.ref fI) = some (.type "function"))
    (F : FnOk X.prog X.w X.K X.mg X.base (L2.CX X.prog X.w) k fI fd ["self", "code"] (spInit X.K D fI)) (hr : Room (k + 1) X.A) (hb : L2.Binds X.K fd ["self", "code"] []) (hc : X.calm = true) (tk : Takes X W) (hg : Gl X x) (hm : X.mg x = some (.ref C)) (h : DE X W e c)
    (hdb : (x == ("__debug__" : Str)) = false := by decide) (he : starEach [e] X.env = (false, eval e X.env) :: starEach [] X.env := by rfl) (hpl : (backTo pos (starEach [] X.env)).any (·.1) = false := by rfl) :
    DS X W (.Raise (some (.Call (.Name x p) [e] [] pos)) none pos') (sRaise x c) :=
  (ps_raise hc tk (pmk_oex (k := k) T.oex T.ini tI F hr hb (.nil : Vals [] []) (passes_call tk fun _ _ _ _ z => z.elim) hg hm (pa_cons h pa_nil he) hdb he hpl)).le fun Dn σ H hh =>
    rdS_E (fun _ h => h) hh fun y σd1 v H1 fps1 f1 E1 R1 q => by
      unfold raiseOf at q
      split at q
      · rename_i d hd
        split at q
        · rename_i hi
          obtain ⟨g1, r1, _⟩ := R1.rep E1 hd
          have eg := Rep.imm d v g1 hi r1
          subst eg
          refine ⟨by simp, fun a ha => ⟨a, C, v, rfl, T, upd_same, fun dx n1 n2 => ⟨rfl, dx, [("code", v)], upd_same, ?_, ?_, ?_⟩⟩⟩
          · rw [upd_ne n2, upd_same]
          · rw [upd_ne n2] at n1
            exact n1
          · rw [upd_ne n2] at n1
            have kp : Keep (fun _ => False) H1 (upd (del (upd (upd (upd H1 a (exo a C none)) dx (exd dx [("code", v)])) a (exo a C (some dx))) a) dx (.xd [("code", v)])) := .of fun b o e _ => by
              have nb : b ≠ dx := fun z => by rw [z, n1] at e; cases e
              have na : b ≠ a := fun z => by rw [z, ha] at e; cases e
              rw [upd_ne nb, del_ne na, upd_ne na, upd_ne nb, upd_ne na]
              exact e
            exact q (.ref C) (some dx) σ _ fps1 (E1.all kp) ⟨C, dx, [("code", v)], hm, rfl, rfl, upd_same, ⟨v, [], [], [], rfl, Rep.keep kp d v [] (fun _ _ z => z) r1, ⟨rfl, rfl⟩, djnil, rfl⟩⟩ (Stp.grow kp fun _ z => nomatch z) SameV.refl
        · exact q.elim
      · exact q.elim
/-! ## try .. except X as e -/
section
variable {G : Gv} {W : WX} {H H1 H2 H' : Hp} {σd σd1 σd2 σd' : DSt} {σ σ1 σ' : L2.St} {fps fps1 fps2 fps' : Nat → List Addr} {r r1 r2 a0 a1 a2 : List Nat} {tf tf' e1 e2 ex : List Addr} {D : Ends}
theorem EnvR.gone {i : Nat} {y : Option V} (E : EnvR G H σd σ fps) : EnvR G H (σd.set i none) (σ.set i y) (setFp fps i []) where
  tb := E.tb
  len := by rw [List.length_set, List.length_set]; exact E.len
  rep := fun j d e => by
    by_cases hj : j = i
    · subst hj
      rw [List.getElem?_set] at e
      simp at e
    · rw [List.getElem?_set_ne (Ne.symm hj)] at e
      obtain ⟨v, e1, q⟩ := E.rep j d e
      refine ⟨v, by rw [List.getElem?_set_ne (Ne.symm hj)]; exact e1, ?_⟩
      unfold setFp
      rw [if_neg hj]
      exact q
  dj := fun j k n a h z => by
    unfold setFp at h z
    split at h
    · cases h
    · split at z
      · cases z
      · exact E.dj j k n a h z
  ded := fun j n => by
    unfold setFp
    by_cases hj : j = i
    · rw [if_pos hj]
    · rw [if_neg hj]
      refine E.ded j fun d e => n d ?_
      rw [List.getElem?_set_ne (Ne.symm hj)]
      exact e
theorem Stp.gone {i : Nat} : Stp [i] tf H σd fps H (σd.set i none) (setFp fps i []) [] where
  keep := Keep.refl
  new := fun a z => by
    rcases z with z | ⟨j, z⟩
    · cases z
    · unfold setFp at z
      split at z
      · cases z
      · exact .inl ⟨j, z⟩
  same := fun j n => by
    have nj : j ≠ i := fun z => n (z ▸ List.mem_cons_self ..)
    exact ⟨List.getElem?_set_ne (Ne.symm nj), by unfold setFp; rw [if_neg nj]⟩
  dom := fun _ h => h
theorem SameV.gone {i : Nat} {y : Option V} : SameV [i] σ (σ.set i y) := ⟨by rw [List.length_set], fun j n => List.getElem?_set_ne (fun z => n (by rw [← z]; exact List.mem_cons_self ..))⟩
end
/-- the state as the handler's end leaves it -/
def goneS (i : Nat) : SRes → SRes
  | .nx σ => .nx (σ.set i none)
  | .rt d σ => .rt d σ
  | .bk σ => .bk (σ.set i none)
  | .ct σ => .ct (σ.set i none)
  | .er _ _ => .bad
  | .bad => .bad
def sTry (nm : Str) (i : Nat) (oth : List Str) (b : SC) (h : Exc → SC) (rwh ash : List Nat) : SC := ⟨fun σd => match b.run σd with
  | .er x σ1 => if x.cls = nm ∧ i < σ1.length then goneS i ((h x).run (σ1.set i none)) else if x.cls ∈ oth then .er x σ1 else .bad
  | r => r, b.rw ++ (i :: rwh), b.asg ++ (i :: ash)⟩
/-- what is known in the suite -/
def Caught (G : Gv) (i : Nat) (a : Addr) (cls : Value) (d : Option Addr) (x : Exc) (σ : L2.St) (H : Hp) : Prop := ExR G H x cls d ∧ σ[i]? = some (some (.ref a))
def rdSx (G : Gv) (W : WX) (i : Nat) (rwh ash : List Nat) (h : Exc → SC) (a : Addr) (cls : Value) (d : Option Addr) : TS := fun D σ H => ∃ x, Caught G i a cls d x σ H ∧ (h x).rw = rwh ∧ (h x).asg = ash ∧ rdS G W (h x) D σ H
theorem ds_try {X : Cx} {W : WX} {x n : Str} {C : Addr} {i : Nat} {body suite : List Stmt} {b₀ : Stmt} {np pos pos' : Pos} {b : SC} {h : Exc → SC} {rwh ash : List Nat} (oth : List Str) (hs : X.stack = X.env :: X.outer) (hf : X.env.frame = some X.env.locals) (hN : X.N.Nodup) (tk : Takes X W)
    (hg : Gl X x) (hm : X.mg x = some (.ref C)) (hex : PySem.W.exmOne X.K (.ref C) (.ref C) = some true) (hoth : ∀ y ∈ oth, ∀ C', X.mg y = some (.ref C') → PySem.W.exmOne X.K (.ref C') (.ref C) = some false)
    (hb : ∀ (W : WX) (pn : List (Addr × Obj)) (xe : Value → Shared → Prop), Takes (X.tr pn xe) W → PassesOwn (model X.prog X.w) X.A X.env xe → DSs (X.tr pn xe) W body b)
    (hh : ∀ x, (h x).rw = rwh ∧ (h x).asg = ash)
    (hsu : ∀ (a : Addr) (oe : Obj) (cls : Value) (d : Option Addr) (pn : List (Addr × Obj)), Zc cls d oe → (∃ vs, oe.data = .fields vs) → PSs (X.suite a ((a, oe) :: pn)) (b₀ :: suite) (rdSx (gv X) (fun _ _ _ _ => False) i rwh ash h a cls d))
    (hi : X.N[i]? = some n := by rfl) (hln : X.env.kindOf n = some .local := by rfl) (hdb : (x == ("__debug__" : Str)) = false := by decide) :
    DS X W (.Try body [.ExceptHandler (some (.Name x np)) (some n) (b₀ :: suite) pos'] [] [] pos) (sTry x i oth b h rwh ash) :=
  (ps_try_as (tb := fun W => rdS (gv X) W b) hs hf hN hi hln ⟨hg, hdb, .inl hm⟩ tk hb hsu).le fun D σ H ⟨σd, fps, E, q⟩ => by
    refine ⟨σd, fps, E, ?_⟩
    unfold sTry at q
    dsimp only at q
    cases hr : b.run σd with
    | nx σ1 => rw [hr] at q; exact rdsr.sub (R := .nx σ1) mem_l mem_l q
    | rt d σ1 => rw [hr] at q; exact rdsr.sub (R := .rt d σ1) mem_l mem_l q
    | bk σ1 => rw [hr] at q; exact rdsr.sub (R := .bk σ1) mem_l mem_l q
    | ct σ1 => rw [hr] at q; exact rdsr.sub (R := .ct σ1) mem_l mem_l q
    | bad => rw [hr] at q; exact q
    | er z σ1 =>
      rw [hr] at q
      dsimp only at q
      intro c dx σ' H' fps' E' xr S' V'
      split at q
      · rename_i hz
        obtain ⟨hz, hlt⟩ := hz
        obtain ⟨C', dd, ws, m1, m2, m3, m4, m5⟩ := id xr
        change X.mg z.cls = _ at m1
        rw [hz, hm] at m1
        cases m1
        subst m2
        refine ⟨true, hex, fun _ a ha => ⟨z, ⟨xr, ?_⟩, (hh z).1, (hh z).2, σ1.set i none, setFp fps' i [], E'.gone, ?_⟩, fun z => Bool.noConfusion z⟩
        · rw [List.getElem?_set_self (by rw [← E'.len]; exact hlt)]
        · have Eg : EnvR (gv X) H' (σ1.set i none) (σ'.set i (some (.ref a))) (setFp fps' i []) := E'.gone
          have S1 : Stp (b.rw ++ (i :: rwh)) [] H σd fps H' (σ1.set i none) (setFp fps' i []) [] := S'.then (r := b.rw ++ (i :: rwh)) E'.dj nilD Stp.gone mem_l (fun j h => mem_r j (by rw [List.mem_singleton.mp h]; exact List.mem_cons_self ..))
          have V1 : SameV (b.asg ++ (i :: ash)) σ (σ'.set i (some (.ref a))) := V'.then SameV.gone mem_l (fun j h => mem_r j (by rw [List.mem_singleton.mp h]; exact List.mem_cons_self ..))
          have key : ∀ {σ2 : DSt} {σ'' : L2.St} {H'' : Hp} {fps'' : Nat → List Addr} {e2 : List Addr}, Stp (h z).rw [] H' (σ1.set i none) (setFp fps' i []) H'' σ2 fps'' e2 → SameV (h z).asg (σ'.set i (some (.ref a))) σ'' → Stp (b.rw ++ (i :: rwh)) [] H σd fps H'' σ2 fps'' e2 ∧ SameV (b.asg ++ (i :: ash)) σ σ'' := fun {σ2 σ'' H'' fps'' e2} s v =>
            ⟨S1.then Eg.dj nilD s (fun _ h => h) (fun j hj => mem_r j (List.mem_cons_of_mem _ ((hh z).1 ▸ hj))), V1.then v (fun _ h => h) (fun j hj => mem_r j (List.mem_cons_of_mem _ ((hh z).2 ▸ hj)))⟩
          have more : ∀ {σ2 : DSt} {σ'' : L2.St} {H'' : Hp} {fps'' : Nat → List Addr}, EnvR (gv X) H'' σ2 σ'' fps'' → Stp (h z).rw [] H' (σ1.set i none) (setFp fps' i []) H'' σ2 fps'' [] → SameV (h z).asg (σ'.set i (some (.ref a))) σ'' →
              EnvR (gv X) H'' (σ2.set i none) (σ''.set i none) (setFp fps'' i []) ∧ Stp (b.rw ++ (i :: rwh)) [] H σd fps H'' (σ2.set i none) (setFp fps'' i []) [] ∧ SameV (b.asg ++ (i :: ash)) σ (σ''.set i none) := fun {σ2 σ'' H'' fps''} e s v =>
            ⟨e.gone, (key s v).1.then e.dj nilD Stp.gone (fun _ h => h) (fun j h => mem_r j (by rw [List.mem_singleton.mp h]; exact List.mem_cons_self ..)), (key s v).2.then SameV.gone (fun _ h => h) (fun j h => mem_r j (by rw [List.mem_singleton.mp h]; exact List.mem_cons_self ..))⟩
          cases hr2 : (h z).run (σ1.set i none) with
          | nx σ2 =>
            rw [hr2] at q
            exact fun σ'' H'' fps'' E2 S2 V2 => let ⟨x1, x2, x3⟩ := more E2 S2 V2; q _ _ _ x1 x2 x3
          | bk σ2 =>
            rw [hr2] at q
            exact fun σ'' H'' fps'' E2 S2 V2 => let ⟨x1, x2, x3⟩ := more E2 S2 V2; q _ _ _ x1 x2 x3
          | ct σ2 =>
            rw [hr2] at q
            exact fun σ'' H'' fps'' E2 S2 V2 => let ⟨x1, x2, x3⟩ := more E2 S2 V2; q _ _ _ x1 x2 x3
          | rt d σ2 =>
            rw [hr2] at q
            exact fun v σ'' H'' fps'' f E2 rp dj S2 V2 => let ⟨x2, x3⟩ := key S2 V2; q v σ'' H'' fps'' f E2 rp dj x2 x3
          | er y σ2 => rw [hr2] at q; exact q.elim
          | bad => rw [hr2] at q; exact q.elim
      · split at q
        · rename_i hz1 hz2
          obtain ⟨C', dd, ws, m1, m2, m3, m4, m5⟩ := id xr
          subst m2
          exact ⟨false, hoth _ hz2 C' m1, fun z => Bool.noConfusion z, fun _ => q _ _ σ' H' fps' E' xr (S'.wk mem_l (fun _ h => h) (fun _ h => .inl h)) (V'.mono mem_l)⟩
        · exact q.elim
end A2
end S_A2y
section S_A2z
set_option Elab.async false
set_option linter.all false
set_option maxRecDepth 100000
set_option maxHeartbeats 4000000
open PySem PySem.Spec L2
open PyProof.Rows hiding St
namespace A2
/-! ## the suite: its first evaluation reads e.code -/
def rdX (G : Gv) (W : WX) (i : Nat) (a : Addr) (cls : Value) (d : Option Addr) (c : Exc → EC) : TE := fun σ H Q => ∃ x, Caught G i a cls d x σ H ∧ rd G W (c x) σ H Q
def rdXT (G : Gv) (W : WX) (i : Nat) (a : Addr) (cls : Value) (d : Option Addr) (c : Exc → TC) : TT := fun σ H Q => ∃ x, Caught G i a cls d x σ H ∧ rdT G W (c x) σ H Q
theorem RepF.look {G : Gv} {H : Hp} : ∀ {ds : List (Str × D)} {ws : List (Str × V)} {f : Str} {d : D}, RepF G H ds ws [] → lookF ds f = some d → ∃ v, ws.lookup f = some v ∧ Rep G H d v []
  | [], ws, f, d, h, e => nomatch e
  | (k, d0) :: ds, ws, f, d, ⟨v, r, f1, f2, ev, p, q, dj, ef⟩, e => by
    have e1 : f1 = [] := (List.append_eq_nil_iff.mp ef.symm).1
    have e2 : f2 = [] := (List.append_eq_nil_iff.mp ef.symm).2
    subst e1 e2 ev
    unfold lookF at e
    rw [lookup_put]
    by_cases hk : k = f
    · subst hk
      rw [if_pos rfl] at e
      cases e
      exact ⟨v, if_pos rfl, p⟩
    · rw [if_neg hk] at e
      obtain ⟨w, e1, e2⟩ := RepF.look q e
      exact ⟨w, (if_neg (Ne.symm hk)).trans e1, e2⟩
/-- e.code, of an exception of the class nm -/
def cXf (nm : Str) (x : Exc) : EC := ⟨fun σd => if x.cls = nm then (match lookF x.fs "code" with
  | some d => if d.imm = true then .ok (.tmp d) σd else .bad
  | none => .bad) else .bad, []⟩
section
variable {X : Cx} {W : WX} {i : Nat} {a C : Addr} {oe : Obj} {cls : Value} {d : Option Addr} {pn : List (Addr × Obj)} {n nm : Str} {p pos : Pos}
theorem dx_code (T : XfC X.K C) (hno : PySem.W.findIn X.K (.ref C) "code" = some none) (hm : X.mg nm = some (.ref C)) (hz : Zc cls d oe) (hf : ∃ vs, oe.data = .fields vs) (hN : X.N[i]? = some n) (hv : Vis X.env.scope n)
    (hb : attributeBase (.Name n p) "code" X.env (eval (.Name n p) X.env) = eval (.Name n p) X.env := by rfl) (hd : (n == ("__debug__" : Str)) = false := by decide) (hcd : (n == ("__classdict__" : Str)) = false := by decide) :
    PE (X.suite a ((a, oe) :: pn)) (.Attribute (.Name n p) "code" pos) (rdX (gv X) W i a cls d (cXf nm)) :=
  (pe_xf (pos := pos) T hno hz hf (pe_var (X := X.suite a ((a, oe) :: pn)) (pos := p) hN hv hd hcd) hb).le fun σ H Q ⟨x, ⟨xr, hs⟩, σd, fps, E, q⟩ => by
    unfold cXf at q
    dsimp only at q
    split at q
    · rename_i hc
      split at q
      · rename_i dd hl
        split at q
        · rename_i hi
          obtain ⟨C', d0, ws, m1, m2, m3, m4, m5⟩ := xr
          rw [hc] at m1
          have m1' : X.mg nm = some (.ref C') := m1
          rw [hm] at m1'
          cases m1'
          obtain ⟨v, hw, rv⟩ := RepF.look m5 hl
          exact ⟨.ref a, hs, rfl, m2, d0, ws, v, m3, m4, hw, fin_new E q (k := Keep.refl) rv (fun _ h => nomatch h)⟩
        · exact q.elim
      · exact q.elim
    · exact q.elim
end
section
variable {X : Cx} {W : WX} {i : Nat} {a0 C : Addr} {cls : Value} {d : Option Addr} {pos : Pos} {a b : Expr} {ca : Exc → EC} {cb : EC} {r : R2} {g : A2.D → A2.D → Option A2.D} {t : Exc → TC} {rwh ash : List Nat}
theorem dx_cmp {op : CmpOp} (ho : OpR X (compareOp op) r) (P : POp2 (gv X) r g) (ha : PE X a (rdX (gv X) W i a0 cls d ca)) (hb : DE X W b cb) (hm : behindInMarks op b = false) : PE X (.Compare a [op] [b] pos) (rdX (gv X) W i a0 cls d fun x => cBin g (ca x) cb) :=
  (pe_cmpR ho ha hb hm).le fun _ _ _ ⟨x, h0, h⟩ => ⟨x, h0, bin_rd P h⟩
theorem dxt_cmp {op : CmpOp} (ho : OpR X (compareOp op) r) (P : POp2 (gv X) r g) (ha : PE X a (rdX (gv X) W i a0 cls d ca)) (hb : DE X W b cb) (hm : behindInMarks op b = false) : PT X (.Compare a [op] [b] pos) (rdXT (gv X) W i a0 cls d fun x => cTst (cBin g (ca x) cb)) :=
  (pt_cmpR ho ha hb hm).le fun _ _ _ ⟨x, h0, h⟩ => ⟨x, h0, bin_rd P (tst_rd h)⟩
theorem dx_and {rest : List Expr} (ha : PE X a (rdX (gv X) W i a0 cls d ca)) (hb : DE X W (.BoolOp .And (b :: rest) pos) cb) : PE X (.BoolOp .And (a :: b :: rest) pos) (rdX (gv X) W i a0 cls d fun x => cAndV (ca x) cb) := (pe_and ha hb).le fun _ _ _ ⟨x, h0, h⟩ => ⟨x, h0, andV_rd h⟩
theorem dxw_or {rest : List Expr} {tb : TC} (ha : PT X a (rdXT (gv X) W i a0 cls d t)) (hb : DW X W (.BoolOp .Or (b :: rest) pos) tb) : PT X (.BoolOp .Or (a :: b :: rest) pos) (rdXT (gv X) W i a0 cls d fun x => cOrT (t x) tb) := (PW.pt (pw_or ha hb)).le fun _ _ _ ⟨x, h0, h⟩ => ⟨x, h0, or_rd h⟩
theorem dx_ret (h : PE X a (rdX (gv X) W i a0 cls d ca)) (hr : ∀ x, (sRet (ca x)).rw = rwh) : PS X (.Return (some a) pos) (rdSx (gv X) W i rwh [] (fun x => sRet (ca x)) a0 cls d) := (ps_ret h).le fun D σ H ⟨x, h0, _, _, hh⟩ =>
  ⟨x, h0, rdS_E (fun _ h => h) hh fun x σd1 v H1 fps1 f1 E1 R1 q => by
    cases x with
    | tmp d => exact q v σ H1 fps1 f1 E1 R1.1 R1.2 (Stp.refl fun _ h => .inr h) SameV.refl
    | plc s p => exact q.elim⟩
theorem dx_set {x : Str} {j : Nat} {pos' : Pos} (hN : X.N.Nodup) (h : PE X a (rdX (gv X) W i a0 cls d ca)) (hi : X.N[j]? = some x) (hx : Loc X.env.scope x) (hs : swapsWith a (some (.Name x pos')) pos.line X.env = pure false)
    (hf : X.fn x = true ∨ X.env.scope.names.lookup x = some .local) : PS X (.Assign [.Name x pos'] a pos) (rdSx (gv X) W i rwh [j] (fun x => sSet j (ca x)) a0 cls d) := (ps_set hN hi hx h hs hf).le fun D σ H ⟨x, h0, _, _, hh⟩ =>
  ⟨x, h0, rdS_E (fun j h => List.mem_cons_of_mem _ h) hh fun y σd1 v H1 fps1 f1 E1 R1 q => by
    cases y with
    | plc s p => exact q.elim
    | tmp d =>
      unfold setOf at q
      dsimp only at q
      split at q
      · rename_i hl
        exact q _ H1 (setFp fps1 j f1) (E1.put hl R1.1 R1.2) (Stp.put (List.mem_cons_self ..) (fun _ h => h)) (SameV.put (List.mem_singleton.mpr rfl))
      · exact q.elim⟩
theorem dx_if {s1 s2 : List Stmt} {u v : SC} {rwh ash : List Nat} (hc : PT X a (rdXT (gv X) W i a0 cls d t)) (ha : DSs X W s1 u) (hb : DSs X W s2 v) : PS X (.If a s1 s2 pos) (rdSx (gv X) W i rwh ash (fun x => sIf (t x) u v) a0 cls d) := (ps_if hc ha hb).le fun D σ H ⟨x, h0, _, _, h⟩ =>
  ⟨x, h0, rdS_T mem_l h fun k σd1 H1 fps1 E1 q => by
    cases k with
    | true => exact ⟨σd1, fps1, E1, rdsr.sub (fun j h => mem_r j (mem_l j h)) mem_l q⟩
    | false => exact ⟨σd1, fps1, E1, rdsr.sub (fun j h => mem_r j (mem_r j h)) mem_r q⟩⟩
theorem dxs_one {st : Stmt} {h : Exc → SC} (h1 : PS X st (rdSx (gv X) W i rwh ash h a0 cls d)) : PSs X [st] (rdSx (gv X) W i rwh ash h a0 cls d) := pss_one h1
theorem dxs_cons {st : Stmt} {rest : List Stmt} {h : Exc → SC} {u : SC} {r1 r2 : List Nat} (h1 : PS X st (rdSx (gv X) W i r1 r2 h a0 cls d)) (hr : ∀ x, (h x).rw = r1 ∧ (h x).asg = r2) (h2 : DSs X W rest u) : PSs X (st :: rest) (rdSx (gv X) W i rwh ash (fun x => sSeq (h x) u) a0 cls d) :=
  (pss_cons h1 h2).le fun D σ H ⟨x, h0, _, _, hh⟩ => ⟨x, h0, (hr x).1, (hr x).2, seq_rd hh⟩
end
end A2
end S_A2z
section S_A2r
set_option Elab.async false
set_option linter.all false
set_option maxRecDepth 100000
set_option maxHeartbeats 4000000
open PySem PySem.Spec L2
open PyProof.Rows hiding St
open PySem.W (alike alikeAll dataLt AlikeAll AllAlike Sortable minD maxD EachIs dataLe)
namespace A2
/-! ## <, >, <=, >= of data that are alike -/
section
variable {X : Cx}
def rCmpD (K : PySem.W.Frag) (g : PyData → PyData → Bool) : R2 := fun x y H Q => ∃ d e, Dp K H x d ∧ Dp K H y e ∧ alike d e = true ∧ d ≠ .none ∧ min d.depth e.depth ≤ 60 ∧ Q (.bl (g d e)) H
theorem op_ltD (hu : X.A.units + 64 < cLine) : OpR X (compareOp .Lt) (rCmpD X.K dataLt) := by
  intro pins s σ H x y v u Q I rx ry h
  obtain ⟨d, e, hd, he, ha, hn, hm, q⟩ := h
  obtain ⟨as, r1⟩ := Dp.reads I d x v hd rx
  obtain ⟨bs, r2⟩ := Dp.reads I e y u he ry
  exact PySem.W.lt_data r1 r2 ha hn (by omega) ⟨.bl _, H, I, rfl, q⟩
theorem op_gtD (hu : X.A.units + 64 < cLine) : OpR X (compareOp .Gt) (rCmpD X.K fun d e => dataLt e d) := by
  intro pins s σ H x y v u Q I rx ry h
  obtain ⟨d, e, hd, he, ha, hn, hm, q⟩ := h
  obtain ⟨as, r1⟩ := Dp.reads I d x v hd rx
  obtain ⟨bs, r2⟩ := Dp.reads I e y u he ry
  exact PySem.W.gt_data r1 r2 ha hn (by omega) ⟨.bl _, H, I, rfl, q⟩
theorem op_leD (hu : X.A.units + 64 < cLine) : OpR X (compareOp .LtE) (rCmpD X.K fun d e => !dataLt e d) := by
  intro pins s σ H x y v u Q I rx ry h
  obtain ⟨d, e, hd, he, ha, hn, hm, q⟩ := h
  obtain ⟨as, r1⟩ := Dp.reads I d x v hd rx
  obtain ⟨bs, r2⟩ := Dp.reads I e y u he ry
  exact PySem.W.le_data r1 r2 ha hn (by omega) ⟨.bl _, H, I, rfl, q⟩
theorem op_geD (hu : X.A.units + 64 < cLine) : OpR X (compareOp .GtE) (rCmpD X.K fun d e => !dataLt d e) := by
  intro pins s σ H x y v u Q I rx ry h
  obtain ⟨d, e, hd, he, ha, hn, hm, q⟩ := h
  obtain ⟨as, r1⟩ := Dp.reads I d x v hd rx
  obtain ⟨bs, r2⟩ := Dp.reads I e y u he ry
  exact PySem.W.ge_data r1 r2 ha hn (by omega) ⟨.bl _, H, I, rfl, q⟩
end
def isNone : PyData → Bool
  | .none => true
  | _ => false
theorem isNone_ne {d : PyData} (h : isNone d = false) : d ≠ .none := fun z => by rw [z] at h; cases h
def alikeOk (a b : D) : Bool := (toPy a).canLay0 && ((toPy b).canLay0 && (alike (toPy a) (toPy b) && (!isNone (toPy a) && decide (min (toPy a).depth (toPy b).depth ≤ 60))))
theorem alikeOk_cases {a b : D} (h : alikeOk a b = true) : (toPy a).canLay0 = true ∧ (toPy b).canLay0 = true ∧ alike (toPy a) (toPy b) = true ∧ toPy a ≠ .none ∧ min (toPy a).depth (toPy b).depth ≤ 60 := by
  unfold alikeOk at h
  simp only [Bool.and_eq_true, decide_eq_true_eq, Bool.not_eq_true'] at h
  obtain ⟨h1, h2, h3, h4, h5⟩ := h
  exact ⟨h1, h2, h3, isNone_ne h4, h5⟩
/-- ints by f, other data by g -/
def gCmpD (f : Int → Int → Bool) (g : PyData → PyData → Bool) : D → D → Option D
  | .int i, .int j => some (.bl (f i j))
  | a, b => if alikeOk a b = true then some (.bl (g (toPy a) (toPy b))) else none
def rCmpA (K : PySem.W.Frag) (f : Int → Int → Bool) (g : PyData → PyData → Bool) : R2 := fun x y H Q => rI0 (fun i j => .bl (f i j)) x y H Q ∨ rCmpD K g x y H Q
theorem pCmpD {G : Gv} {f : Int → Int → Bool} {g : PyData → PyData → Bool} : POp2 G (rCmpA G.K f g) (gCmpD f g) := by
  intro d1 d2 d v1 v2 f1 f2 H Q e r1 r2 q
  have key : alikeOk d1 d2 = true → d = .bl (g (toPy d1) (toPy d2)) → rCmpA G.K f g v1 v2 H Q := fun h ed => by
    obtain ⟨h1, h2, h3, h4, h5⟩ := alikeOk_cases h
    exact .inr ⟨_, _, Rep.dp _ _ _ r1 h1, Rep.dp _ _ _ r2 h2, h3, h4, h5, by rw [ed] at q; exact q _ H [] Keep.refl ⟨rfl, rfl⟩ fr0⟩
  unfold gCmpD at e
  split at e
  · cases e
    exact .inl ⟨_, _, r1.1, r2.1, q _ H [] Keep.refl ⟨rfl, rfl⟩ fr0⟩
  · split at e
    · rename_i h
      cases e
      exact key h rfl
    · cases e
def gLtA : D → D → Option D := gCmpD (fun i j => decide (i < j)) dataLt
def gGtA : D → D → Option D := gCmpD (fun i j => decide (j < i)) fun d e => dataLt e d
def gLeA : D → D → Option D := gCmpD (fun i j => decide (i ≤ j)) fun d e => !dataLt e d
def gGeA : D → D → Option D := gCmpD (fun i j => decide (j ≤ i)) fun d e => !dataLt d e
theorem op_ltA {X : Cx} (hu : X.A.units + 64 < cLine) : OpR X (compareOp .Lt) (rCmpA X.K (fun i j => decide (i < j)) dataLt) := op_lt.or (op_ltD hu)
theorem op_gtA {X : Cx} (hu : X.A.units + 64 < cLine) : OpR X (compareOp .Gt) (rCmpA X.K (fun i j => decide (j < i)) fun d e => dataLt e d) := op_gt.or (op_gtD hu)
theorem op_leA {X : Cx} (hu : X.A.units + 64 < cLine) : OpR X (compareOp .LtE) (rCmpA X.K (fun i j => decide (i ≤ j)) fun d e => !dataLt e d) := op_le.or (op_leD hu)
theorem op_geA {X : Cx} (hu : X.A.units + 64 < cLine) : OpR X (compareOp .GtE) (rCmpA X.K (fun i j => decide (j ≤ i)) fun d e => !dataLt d e) := op_ge.or (op_geD hu)
/-! ## min, max, all, any, sorted of a list or a tuple of data -/
theorem DpAll.at {K : PySem.W.Frag} {H : Hp} : ∀ {xs : List V} {ds : List PyData}, DpAll K H xs ds → xs.length = ds.length ∧ ∀ (i : Nat) (x : V), xs[i]? = some x → ∃ d, ds[i]? = some d ∧ Dp K H x d
  | _, _, .nil => ⟨rfl, fun i x h => by simp at h⟩
  | _, _, .cons p q => ⟨by simp [(DpAll.at q).1], fun i x h => by
    cases i with
    | zero => cases (show some _ = some x from h); exact ⟨_, rfl, p⟩
    | succ i => exact (DpAll.at q).2 i x h⟩
theorem minD_mem : ∀ (xs : List PyData) (x : PyData), minD x xs ∈ x :: xs
  | [], x => List.mem_cons_self ..
  | y :: ys, x => by
    have h := minD_mem ys (if dataLt y x then y else x)
    have e : minD x (y :: ys) = minD (if dataLt y x then y else x) ys := rfl
    rw [e]
    rcases List.mem_cons.mp h with h | h
    · rw [h]
      split
      · exact List.mem_cons_of_mem _ (List.mem_cons_self ..)
      · exact List.mem_cons_self ..
    · exact List.mem_cons_of_mem _ (List.mem_cons_of_mem _ h)
theorem maxD_mem : ∀ (xs : List PyData) (x : PyData), maxD x xs ∈ x :: xs
  | [], x => List.mem_cons_self ..
  | y :: ys, x => by
    have h := maxD_mem ys (if dataLt x y then y else x)
    have e : maxD x (y :: ys) = maxD (if dataLt x y then y else x) ys := rfl
    rw [e]
    rcases List.mem_cons.mp h with h | h
    · rw [h]
      split
      · exact List.mem_cons_of_mem _ (List.mem_cons_self ..)
      · exact List.mem_cons_self ..
    · exact List.mem_cons_of_mem _ (List.mem_cons_of_mem _ h)
section
variable {X : Cx}
def rBestD (K : PySem.W.Frag) (m : PyData → List PyData → PyData) : List V → Hp → VK → Prop := fun vs H Q => ∃ a xs d ds, vs = [.ref a] ∧ (SqL K H a xs ∨ SqT K H a xs) ∧ DpAll K H xs (d :: ds) ∧ AlikeAll (d :: ds) ∧ PyData.depthAll (d :: ds) ≤ 60 ∧
  ∀ (i : Nat) x, xs[i]? = some x → (d :: ds)[i]? = some (m d ds) → Q x H
theorem best_fin {pins : List (Addr × Obj)} {σ : L2.St} {H : Hp} {s : Shared} {Q : VK} {m : PyData → List PyData → PyData} (hm : ∀ d ds, m d ds ∈ d :: ds) (I : Inv X pins σ H s) {xs : List V} {its : List Value} {d : PyData} {ds : List PyData} (rv : Vals xs its) (hd : DpAll X.K H xs (d :: ds)) (ha : AlikeAll (d :: ds))
    (q : ∀ (i : Nat) x, xs[i]? = some x → (d :: ds)[i]? = some (m d ds) → Q x H) : ∀ (i : Nat) (v : Value) (h' : Heap) (tk : Nat) (bs : List Addr), its.toArray[i]? = some v → Reads h' v (m d ds) bs → (∀ b o, s.heap.get? b = some o → h'.get? b = some o) → EP X pins σ Q v { s with heap := h', toks := tk } := by
  intro i v h' tk bs hv hr kp
  have hv' : its[i]? = some v := by simpa using hv
  obtain ⟨x, hx, rx⟩ : ∃ x, xs[i]? = some x ∧ RelV x v := by
    clear hd q
    revert i
    induction rv with
    | nil => intro i h1 h2; simp at h2
    | cons p r ih =>
      intro i h1 h2
      cases i with
      | zero => cases (show some _ = some v from h2); exact ⟨_, rfl, p⟩
      | succ i => exact ih i (by simpa using h2) (by simpa using h2)
  obtain ⟨e, he, de⟩ := (DpAll.at hd).2 i x hx
  obtain ⟨cs, re⟩ := Dp.reads I e x v de rx
  have hmem : e ∈ d :: ds := List.mem_of_getElem? he
  have e1 := PySem.W.alike_unique _ _ _ _ _ (ha.1 _ hmem _ (hm d ds)) (PyProof.Rows.Reads.keeps kp re) hr
  exact ⟨x, H, I.kept (t' := tk) kp, rx, q i x hx (by rw [he, e1])⟩
theorem call_minD (hc : X.calm = true) (hu : X.A.units + 64 < cLine) : CallR X (.builtin "min") (rBestD X.K minD) := by
  intro pins s σ H vs us Q I r h
  obtain ⟨a, xs, d, ds, rfl, hs, hd, ha, hdp, q⟩ := h
  rw [Vals.ref1 r]
  rcases hs with hs | hs
  · obtain ⟨its, rv, hl, hz⟩ := I.list hs
    obtain ⟨as, ra⟩ := Dp.readsAll I _ _ _ hd rv
    exact PySem.W.min_list_data (I.ok.hd hc) hl.isList ra ha (by omega) (best_fin (fun d ds => minD_mem ds d) I rv hd ha q)
  · obtain ⟨its, rv, hl, hz⟩ := I.tuple hs
    obtain ⟨as, ra⟩ := Dp.readsAll I _ _ _ hd rv
    exact PySem.W.min_tuple_data (I.ok.hd hc) (show s.heap.IsTuple a its.toArray from hl) ra ha (by omega) (best_fin (fun d ds => minD_mem ds d) I rv hd ha q)
theorem call_maxD (hc : X.calm = true) (hu : X.A.units + 64 < cLine) : CallR X (.builtin "max") (rBestD X.K maxD) := by
  intro pins s σ H vs us Q I r h
  obtain ⟨a, xs, d, ds, rfl, hs, hd, ha, hdp, q⟩ := h
  rw [Vals.ref1 r]
  rcases hs with hs | hs
  · obtain ⟨its, rv, hl, hz⟩ := I.list hs
    obtain ⟨as, ra⟩ := Dp.readsAll I _ _ _ hd rv
    exact PySem.W.max_list_data (I.ok.hd hc) hl.isList ra ha (by omega) (best_fin (fun d ds => maxD_mem ds d) I rv hd ha q)
  · obtain ⟨its, rv, hl, hz⟩ := I.tuple hs
    obtain ⟨as, ra⟩ := Dp.readsAll I _ _ _ hd rv
    exact PySem.W.max_tuple_data (I.ok.hd hc) (show s.heap.IsTuple a its.toArray from hl) ra ha (by omega) (best_fin (fun d ds => maxD_mem ds d) I rv hd ha q)
def rTruAll (K : PySem.W.Frag) (f : List Bool → Bool) : List V → Hp → VK → Prop := fun vs H Q => ∃ a bs, vs = [.ref a] ∧ (SqL K H a (bs.map V.bl) ∨ SqT K H a (bs.map V.bl)) ∧ Q (.bl (f bs)) H
theorem dp_bools {K : PySem.W.Frag} {H : Hp} : ∀ bs : List Bool, DpAll K H (bs.map V.bl) (bs.map PyData.bool)
  | [] => .nil
  | b :: bs => .cons (.bl b) (dp_bools bs)
theorem plain_bools : ∀ bs : List Bool, PyData.plainAll (bs.map PyData.bool) = true
  | [] => rfl
  | b :: bs => by simp [PyData.plainAll, PyData.plain, plain_bools bs]
theorem fits_bools {bs : List Bool} : ∀ x ∈ bs.map PyData.bool, x.fits63 := fun x h => by
  obtain ⟨b, _, rfl⟩ := List.mem_map.mp h
  trivial
theorem call_allB (hc : X.calm = true) : CallR X (.builtin "all") (rTruAll X.K fun bs => bs.all id) := by
  intro pins s σ H vs us Q I r h
  obtain ⟨a, bs, rfl, hs, q⟩ := h
  rw [Vals.ref1 r]
  have fin : ∀ h' tk, (∀ b o, s.heap.get? b = some o → h'.get? b = some o) → EP X pins σ Q (.bool ((bs.map PyData.bool).all PyData.truthy)) { s with heap := h', toks := tk } := fun h' tk kp => by
    have e : (bs.map PyData.bool).all PyData.truthy = bs.all id := by
      rw [List.all_map]
      rfl
    rw [e]
    exact ⟨.bl _, H, I.kept (t' := tk) kp, rfl, q⟩
  rcases hs with hs | hs
  · obtain ⟨its, rv, hl, hz⟩ := I.list hs
    obtain ⟨as, ra⟩ := Dp.readsAll I _ _ _ (dp_bools bs) rv
    exact PySem.W.all_list_data (I.ok.hd hc) hl.isList ra (plain_bools bs) fits_bools fin
  · obtain ⟨its, rv, hl, hz⟩ := I.tuple hs
    obtain ⟨as, ra⟩ := Dp.readsAll I _ _ _ (dp_bools bs) rv
    exact PySem.W.all_tuple_data (I.ok.hd hc) (show s.heap.IsTuple a its.toArray from hl) ra (plain_bools bs) fits_bools fin
theorem call_anyB (hc : X.calm = true) : CallR X (.builtin "any") (rTruAll X.K fun bs => bs.any id) := by
  intro pins s σ H vs us Q I r h
  obtain ⟨a, bs, rfl, hs, q⟩ := h
  rw [Vals.ref1 r]
  have fin : ∀ h' tk, (∀ b o, s.heap.get? b = some o → h'.get? b = some o) → EP X pins σ Q (.bool ((bs.map PyData.bool).any PyData.truthy)) { s with heap := h', toks := tk } := fun h' tk kp => by
    have e : (bs.map PyData.bool).any PyData.truthy = bs.any id := by
      rw [List.any_map]
      rfl
    rw [e]
    exact ⟨.bl _, H, I.kept (t' := tk) kp, rfl, q⟩
  rcases hs with hs | hs
  · obtain ⟨its, rv, hl, hz⟩ := I.list hs
    obtain ⟨as, ra⟩ := Dp.readsAll I _ _ _ (dp_bools bs) rv
    exact PySem.W.any_list_data (I.ok.hd hc) hl.isList ra (plain_bools bs) fits_bools fin
  · obtain ⟨its, rv, hl, hz⟩ := I.tuple hs
    obtain ⟨as, ra⟩ := Dp.readsAll I _ _ _ (dp_bools bs) rv
    exact PySem.W.any_tuple_data (I.ok.hd hc) (show s.heap.IsTuple a its.toArray from hl) ra (plain_bools bs) fits_bools fin
/-- sorted of a list -/
def rSortD (K : PySem.W.Frag) : List V → Hp → VK → Prop := fun vs H Q => ∃ a xs ds, vs = [.ref a] ∧ SqL K H a xs ∧ DpAll K H xs ds ∧ AllAlike ds ∧ Sortable ds ∧ (∀ d ∈ ds, d.depth ≤ 60) ∧
  ∀ p, H p = none → Q (.ref p) (upd H p (.lst (((xs.zip ds).mergeSort (dataLe false (·.2))).map (·.1))))
theorem call_sortD (hu : X.A.units + 64 < cLine) : CallR X (.builtin "sorted") (rSortD X.K) := by
  intro pins s σ H vs us Q I r h
  obtain ⟨a, xs, ds, rfl, hs, hd, ha, hk, hdp, q⟩ := h
  rw [Vals.ref1 r]
  obtain ⟨its, rv, hl, hz⟩ := I.list hs
  have e0 : ∀ {xs : List V} {its : List Value} {ds : List PyData}, Vals xs its → DpAll X.K H xs ds → EachIs (fun (u : Value) (b : V × PyData) => RelV b.1 u) its (xs.zip ds) ∧ EachIs (fun (u : Value) (b : V × PyData) => ∃ as, Reads s.heap u b.2 as) its (xs.zip ds) := by
    intro xs its ds rv
    induction rv generalizing ds with
    | nil => intro hd; cases hd; exact ⟨.nil, .nil⟩
    | cons p r ih =>
      intro hd
      cases hd with
      | cons p' r' => exact ⟨.cons p (ih r').1, .cons (Dp.reads I _ _ _ p' p) (ih r').2⟩
  obtain ⟨e1, e2⟩ := e0 rv hd
  have hlen := (DpAll.at hd).1
  have em : (xs.zip ds).map (·.2) = ds := List.map_snd_zip (by omega)
  have hln : (xs.zip ds).length = xs.length := by rw [List.length_zip]; omega
  refine PySem.W.sorted_data (R := fun (u : Value) (b : V × PyData) => RelV b.1 u) (enc := fun b : V × PyData => b.2) (bs := xs.zip ds) hl.isList e1 e2 (by rw [em]; exact ha) (by rw [em]; exact hk) (by rw [hln]; exact hz) (fun b hb => ?_) (fun out hlo hout => ?_)
  · have := hdp b.2 (by rw [← em]; exact List.mem_map.mpr ⟨b, hb, rfl⟩)
    omega
  · obtain ⟨ep, he'⟩ := PyProof.Rows.sortedAll_at s.heap its (List.toArray out)
    have rvo : Vals (((xs.zip ds).mergeSort (dataLe false fun b : V × PyData => b.2)).map (·.1)) out := by
      clear he' hlo
      generalize (xs.zip ds).mergeSort (dataLe false fun b : V × PyData => b.2) = bs at hout
      induction hout with
      | nil => exact .nil
      | cons p _ ih => exact .cons p ih
    refine ⟨.ref _, upd H (s.heap.objs.size + 1) (.lst _), I.laid (t' := s.toks) (fun _ _ => PyProof.Rows.sortedAll_old) (Nat.le_succ _) ⟨?_, out, ep, rvo, he'⟩, rfl, q _ (I.hok.fresh (Nat.le_succ _))⟩
    rw [List.length_map, List.length_mergeSort, hln]
    exact hz
end
end A2
end S_A2r
section S_A2s
set_option Elab.async false
set_option linter.all false
set_option maxRecDepth 100000
set_option maxHeartbeats 4000000
open PySem PySem.Spec L2
open PyProof.Rows hiding St
open PySem.W (alike alikeAll dataLt AlikeAll AllAlike Sortable minD maxD EachIs dataLe)
namespace A2
/-! ## tuple * k -/
theorem tuple_mul1 (l : Addr) (items : Array Value) (n : Nat) (dd : Option Addr) (sl : Array (Option Value)) (x : Int) (u : Tok) (c0 : (decide (x < -(2 ^ 63)) || decide (x ≥ 2 ^ 63)) = false) (c1 : (items.isEmpty || x == 1) = true) :
    Meets (Builtin.«tuple.__mul__» ⟨[.ref l, .int x u], []⟩) (fun _ R s => s.heap.get? l = some { cls := .type "tuple", dict := dd, data := .seq items n, slots := sl } ∧ R (.ok (.ret (Value.ref l))) s) :=
  .of_wp fun prog w A R s h => by
    obtain ⟨hp, g, d, tk, os⟩ := s
    obtain ⟨hl, h⟩ := h
    have f1 := AutoSeq1.idx_int
    have ht : ∀ tk, (⟨hp, g, d, tk, os⟩ : Shared).TypeIs (.ref l) "tuple" := fun _ => ⟨_, hl, rfl⟩
    wp_walk using wpAny_loadPart' hl
    repeat (first
      | (refine wpAny_ite_false (decide_eq_false (by rw [c0]; exact Bool.false_ne_true)) ?_; wp_walk using wpAny_loadPart' hl)
      | (refine wpAny_ite_true c1 ?_; wp_walk using wpAny_loadPart' hl))
    exact ⟨_, rfl, h⟩
theorem tuple_mul0 (l : Addr) (items : Array Value) (n : Nat) (dd : Option Addr) (sl : Array (Option Value)) (x : Int) (u : Tok) (c0 : (decide (x < -(2 ^ 63)) || decide (x ≥ 2 ^ 63)) = false) (c1 : (items.isEmpty || x == 1) = false) (c2 : (decide (x ≤ 0) || items.isEmpty) = true) :
    Meets (Builtin.«tuple.__mul__» ⟨[.ref l, .int x u], []⟩) (fun _ R s => s.heap.get? l = some { cls := .type "tuple", dict := dd, data := .seq items n, slots := sl } ∧
      R (.ok (.ret (Value.ref s.heap.objs.size))) { s with heap := s.heap.push { cls := Value.type "tuple", data := Data.seq #[] } }) :=
  .of_wp fun prog w A R s h => by
    obtain ⟨hp, g, d, tk, os⟩ := s
    obtain ⟨hl, h⟩ := h
    have f1 := AutoSeq1.idx_int
    wp_walk using wpAny_loadPart' hl
    repeat (first
      | (refine wpAny_ite_false (decide_eq_false (by rw [c0]; exact Bool.false_ne_true)) ?_; wp_walk using wpAny_loadPart' hl)
      | (refine wpAny_ite_false (decide_eq_false (by rw [c1]; exact Bool.false_ne_true)) ?_; wp_walk using wpAny_loadPart' hl)
      | (refine wpAny_ite_true (decide_eq_true (by rw [c2])) ?_; wp_walk using wpAny_loadPart' hl))
    exact ⟨_, rfl, h⟩
def rRepS (K : PySem.W.Frag) : R2 := fun x y H Q => ∃ l k xs, x = .ref l ∧ y = .int k ∧ SqT K H l xs ∧ -(2 ^ 63) ≤ k ∧ k < 2 ^ 63 ∧ (((xs = [] ∨ k = 1) ∧ Q (.ref l) H) ∨ (xs ≠ [] ∧ k ≤ 0 ∧ ∀ p, H p = none → Q (.ref p) (upd H p (.tup []))))
theorem op_repS {X : Cx} : OpR X (binaryOp .Mult) (rRepS X.K) := by
  intro pins s σ H x y v u Q I rx ry h
  obtain ⟨l, k, xs, rfl, rfl, hT, h1, h2, q⟩ := h
  cases rx
  obtain ⟨t, rfl⟩ := ry
  obtain ⟨its, r, ⟨⟨cls, dd, data, sl⟩, ho, hc, n, hd⟩, hs⟩ := I.tuple hT
  simp only at hc hd
  subst hc hd
  have hle : its.length = xs.length := r.length.symm
  have c0 : (decide (k < -(2 ^ 63)) || decide (k ≥ 2 ^ 63)) = false := by
    rw [decide_eq_false (by omega), decide_eq_false (by omega)] <;> rfl
  have hem : its.toArray.isEmpty = xs.isEmpty := by
    cases its <;> cases xs <;> simp_all
  rcases q with ⟨hk, q⟩ | ⟨hne, hk, q⟩
  · have c1 : (its.toArray.isEmpty || k == 1) = true := by
      rw [hem]
      rcases hk with rfl | rfl
      · rfl
      · simp
    refine wpAny_binaryOp_repeat_ref (T := "tuple") (U := "int") (by decide) ⟨_, ho, rfl⟩ (fun s' => typeIs_int s' k t) noFill_tuple_mul F.fills_int_mul F.slot_int_rmul repeat_tuple F.slot_int_index.lookup
      (call_meets F.slot_int_rmul (typeIs_int s k t) F.entry_int_rmul (F.args_int_rmul_2 _ _) (int_rmul_tuple k t l its.toArray n dd sl)
        ⟨ho, rfl, ⟨_, ho, rfl⟩, call_meets F.slot_tuple_mul ⟨_, ho, rfl⟩ F.entry_tuple_mul (F.args_tuple_mul_2 _ _) (tuple_mul1 l its.toArray n dd sl k t c0 c1) ⟨ho, ?_⟩⟩)
    exact ⟨.ref l, H, I, rfl, q⟩
  · have hx : xs.isEmpty = false := by
      cases xs with
      | nil => exact absurd rfl hne
      | cons _ _ => rfl
    have c1 : (its.toArray.isEmpty || k == 1) = false := by
      rw [hem, hx, Bool.false_or]
      exact beq_eq_false_iff_ne.mpr (by omega)
    have c2 : (decide (k ≤ 0) || its.toArray.isEmpty) = true := by
      rw [decide_eq_true hk]
      rfl
    refine wpAny_binaryOp_repeat_ref (T := "tuple") (U := "int") (by decide) ⟨_, ho, rfl⟩ (fun s' => typeIs_int s' k t) noFill_tuple_mul F.fills_int_mul F.slot_int_rmul repeat_tuple F.slot_int_index.lookup
      (call_meets F.slot_int_rmul (typeIs_int s k t) F.entry_int_rmul (F.args_int_rmul_2 _ _) (int_rmul_tuple k t l its.toArray n dd sl)
        ⟨ho, rfl, ⟨_, ho, rfl⟩, call_meets F.slot_tuple_mul ⟨_, ho, rfl⟩ F.entry_tuple_mul (F.args_tuple_mul_2 _ _) (tuple_mul0 l its.toArray n dd sl k t c0 c1 c2) ⟨ho, ?_⟩⟩)
    refine ⟨.ref s.heap.objs.size, _, I.laid (t' := s.toks) (o := .tup []) (fun b ob q => Heap.get?_push_of_some _ q) (Nat.le_refl _) ?_, rfl, q _ (I.hok.fresh (Nat.le_refl _))⟩
    exact ⟨Nat.zero_le _, [], .nil, IsTup.new _ _⟩
def gMulA : D → D → Option D
  | .tup a, .int k => if -(2 ^ 63) ≤ k ∧ k < 2 ^ 63 ∧ D.imms a = true then (if a = [] ∨ k = 1 then some (.tup a) else if k ≤ 0 then some (.tup []) else gMul (.tup a) (.int k)) else none
  | a, b => gMul a b
def rMulA (K : PySem.W.Frag) : R2 := fun x y H Q => rMulAll K x y H Q ∨ rRepS K x y H Q
theorem op_mulA {X : Cx} : OpR X (binaryOp .Mult) (rMulA X.K) := op_mulAll.or op_repS
theorem pMulA {G : Gv} : POp2 G (rMulA G.K) gMulA := by
  intro d1 d2 d v1 v2 f1 f2 H Q g r1 r2 q
  unfold gMulA at g
  split at g
  · rename_i a k
    split at g
    · rename_i hk
      split at g
      · rename_i h1
        cases g
        obtain ⟨p1, vs, e1, s1, q1⟩ := id r1
        have ef := Rep.imm (.tup a) v1 f1 hk.2.2 r1
        subst ef
        refine .inr ⟨p1, k, vs, e1, r2.1, s1, hk.1, hk.2.1, .inl ⟨?_, by rw [← e1]; exact q v1 H [] Keep.refl r1 fr0⟩⟩
        rcases h1 with h1 | h1
        · subst h1
          exact .inl q1.1
        · exact .inr h1
      · rename_i h1
        split at g
        · rename_i h2
          cases g
          obtain ⟨p1, vs, e1, s1, q1⟩ := id r1
          refine .inr ⟨p1, k, vs, e1, r2.1, s1, hk.1, hk.2.1, .inr ⟨fun z => h1 (.inl ?_), h2, fun p n => q _ _ [] (keepF n) (new_tup (ds := []) rfl ⟨rfl, rfl⟩ n) fr0⟩⟩
          have := q1.len
          rw [z] at this
          exact List.eq_nil_of_length_eq_zero this.symm
        · exact .inl (pMul _ _ _ _ _ _ _ _ _ g r1 r2 q)
    · cases g
  · exact .inl (pMul _ _ _ _ _ _ _ _ _ g r1 r2 q)
/-! ## min, max, all, any, sorted -/
mutual
def D.ply : D → Bool
  | .non => true | .bl _ => true | .int _ => true | .str x => (PyData.str x).canLay0
  | .tup ds => D.plys ds
  | _ => false
def D.plys : List D → Bool
  | [] => true
  | d :: ds => d.ply && D.plys ds
end
mutual
theorem ply_imm : ∀ d : D, d.ply = true → d.imm = true
  | .non, _ => rfl | .bl _, _ => rfl | .int _, _ => rfl | .str _, _ => rfl
  | .tup ds, h => plys_imm ds h
theorem plys_imm : ∀ ds : List D, D.plys ds = true → D.imms ds = true
  | [], _ => rfl
  | d :: ds, h => by
    have h' := Bool.and_eq_true_iff.mp h
    exact Bool.and_eq_true_iff.mpr ⟨ply_imm d h'.1, plys_imm ds h'.2⟩
end
mutual
theorem ply_lay : ∀ d : D, d.ply = true → (toPy d).canLay0 = true
  | .non, _ => rfl | .bl _, _ => rfl | .int _, _ => rfl | .str _, h => h
  | .tup ds, h => by simpa [toPy, PyData.canLay0] using plys_lay ds h
theorem plys_lay : ∀ ds : List D, D.plys ds = true → PyData.canLayAll0 (toPys ds) = true
  | [], _ => rfl
  | d :: ds, h => by
    have h' := Bool.and_eq_true_iff.mp h
    simp [toPys, PyData.canLayAll0, ply_lay d h'.1, plys_lay ds h'.2]
end
mutual
theorem ply_inj : ∀ (d e : D), d.ply = true → e.ply = true → toPy d = toPy e → d = e
  | .non, e, _, he, h => by cases e <;> first | rfl | (simp [toPy] at h; done) | (simp [D.ply] at he; done)
  | .bl _, e, _, he, h => by cases e <;> first | (simp [toPy] at h; rw [h]; done) | (simp [toPy] at h; done) | (simp [D.ply] at he; done)
  | .int _, e, _, he, h => by cases e <;> first | (simp [toPy] at h; rw [h]; done) | (simp [toPy] at h; done) | (simp [D.ply] at he; done)
  | .str _, e, _, he, h => by cases e <;> first | (simp [toPy] at h; rw [h]; done) | (simp [toPy] at h; done) | (simp [D.ply] at he; done)
  | .tup ds, e, hd, he, h => by
    cases e with
    | tup es =>
      have h' : toPys ds = toPys es := by simpa [toPy] using h
      rw [plys_inj ds es hd he h']
    | non => simp [toPy] at h
    | bl _ => simp [toPy] at h
    | int _ => simp [toPy] at h
    | str _ => simp [toPy] at h
    | lst _ => simp [D.ply] at he
    | flst _ => simp [D.ply] at he
    | dct _ => simp [D.ply] at he
    | fdct _ => simp [D.ply] at he
    | ins _ _ => simp [D.ply] at he
theorem plys_inj : ∀ (ds es : List D), D.plys ds = true → D.plys es = true → toPys ds = toPys es → ds = es
  | [], [], _, _, _ => rfl
  | [], _ :: _, _, _, h => by simp [toPys] at h
  | _ :: _, [], _, _, h => by simp [toPys] at h
  | d :: ds, e :: es, hd, he, h => by
    have hd' := Bool.and_eq_true_iff.mp hd
    have he' := Bool.and_eq_true_iff.mp he
    have h' : toPy d = toPy e ∧ toPys ds = toPys es := by simpa [toPys] using h
    rw [ply_inj d e hd'.1 he'.1 h'.1, plys_inj ds es hd'.2 he'.2 h'.2]
end
theorem toPys_map : ∀ ds : List D, toPys ds = ds.map toPy
  | [] => rfl
  | d :: ds => by rw [toPys, toPys_map ds]; rfl
def allAl (ps : List PyData) : Bool := ps.all fun x => ps.all fun y => alike x y
theorem allAl_ok {ps : List PyData} (h : allAl ps = true) : ∀ x ∈ ps, ∀ y ∈ ps, alike x y = true := fun x hx y hy => List.all_eq_true.mp (List.all_eq_true.mp h x hx) y hy
def bestOk (ds : List D) : Bool := D.plys ds && (allAl (toPys ds) && ((toPys ds).all (fun p => !isNone p) && decide (PyData.depthAll (toPys ds) ≤ 60)))
def minDD (d : D) (ds : List D) : D := ds.foldl (fun a y => if dataLt (toPy y) (toPy a) then y else a) d
def maxDD (d : D) (ds : List D) : D := ds.foldl (fun a y => if dataLt (toPy a) (toPy y) then y else a) d
theorem minDD_py : ∀ (ds : List D) (d : D), toPy (minDD d ds) = minD (toPy d) (toPys ds)
  | [], d => rfl
  | y :: ys, d => by
    show toPy (minDD (if dataLt (toPy y) (toPy d) then y else d) ys) = minD (if dataLt (toPy y) (toPy d) then toPy y else toPy d) (toPys ys)
    rw [minDD_py ys]
    split <;> rfl
theorem maxDD_py : ∀ (ds : List D) (d : D), toPy (maxDD d ds) = maxD (toPy d) (toPys ds)
  | [], d => rfl
  | y :: ys, d => by
    show toPy (maxDD (if dataLt (toPy d) (toPy y) then y else d) ys) = maxD (if dataLt (toPy d) (toPy y) then toPy y else toPy d) (toPys ys)
    rw [maxDD_py ys]
    split <;> rfl
theorem minDD_mem : ∀ (ds : List D) (d : D), minDD d ds ∈ d :: ds
  | [], d => List.mem_cons_self ..
  | y :: ys, d => by
    have h := minDD_mem ys (if dataLt (toPy y) (toPy d) then y else d)
    have e : minDD d (y :: ys) = minDD (if dataLt (toPy y) (toPy d) then y else d) ys := rfl
    rw [e]
    rcases List.mem_cons.mp h with h | h
    · rw [h]
      split
      · exact List.mem_cons_of_mem _ (List.mem_cons_self ..)
      · exact List.mem_cons_self ..
    · exact List.mem_cons_of_mem _ (List.mem_cons_of_mem _ h)
theorem maxDD_mem : ∀ (ds : List D) (d : D), maxDD d ds ∈ d :: ds
  | [], d => List.mem_cons_self ..
  | y :: ys, d => by
    have h := maxDD_mem ys (if dataLt (toPy d) (toPy y) then y else d)
    have e : maxDD d (y :: ys) = maxDD (if dataLt (toPy d) (toPy y) then y else d) ys := rfl
    rw [e]
    rcases List.mem_cons.mp h with h | h
    · rw [h]
      split
      · exact List.mem_cons_of_mem _ (List.mem_cons_self ..)
      · exact List.mem_cons_self ..
    · exact List.mem_cons_of_mem _ (List.mem_cons_of_mem _ h)
theorem plys_mem : ∀ {ds : List D} {d : D}, D.plys ds = true → d ∈ ds → d.ply = true
  | [], _, _, h => nomatch h
  | e :: es, d, hp, h => by
    have hp' := Bool.and_eq_true_iff.mp hp
    rcases List.mem_cons.mp h with rfl | h
    · exact hp'.1
    · exact plys_mem hp'.2 h
theorem Reps.atV {G : Gv} {H : Hp} : ∀ {ds : List D} {vs : List V} {f : List Addr}, Reps G H ds vs f → ∀ (i : Nat) (v : V), vs[i]? = some v → ∃ d f', ds[i]? = some d ∧ Rep G H d v f'
  | [], vs, f, h, i, v, hv => by rw [h.1] at hv; simp at hv
  | d :: ds, vs, f, ⟨w, r, f1, f2, ev, p, q, dj, ef⟩, i, v, hv => by
    subst ev
    cases i with
    | zero => cases (show some _ = some v from hv); exact ⟨d, f1, rfl, p⟩
    | succ i => exact Reps.atV q i v (by simpa using hv)
def seqOf : D → Option (List D)
  | .tup ds => some ds
  | .lst ds => some ds
  | .flst ds => some ds
  | _ => none
theorem seqOf_rep {G : Gv} {H : Hp} {d : D} {v : V} {f : List Addr} {ds : List D} (h : seqOf d = some ds) (r : Rep G H d v f) : ∃ a vs f', v = .ref a ∧ (SqL G.K H a vs ∨ SqT G.K H a vs) ∧ Reps G H ds vs f' := by
  cases d with
  | tup es =>
    cases h
    obtain ⟨a, vs, e, s, r⟩ := r
    exact ⟨a, vs, f, e, .inr s, r⟩
  | lst es =>
    cases h
    obtain ⟨a, vs, f1, e, s, r, _⟩ := r
    exact ⟨a, vs, f1, e, .inl (.inl (.inl s)), r⟩
  | flst es =>
    cases h
    obtain ⟨a, o, vs, e, s, r, _⟩ := r
    exact ⟨a, vs, [], e, .inl (.inl (.inr ⟨o, s⟩)), r⟩
  | non => cases h
  | bl _ => cases h
  | int _ => cases h
  | str _ => cases h
  | dct _ => cases h
  | fdct _ => cases h
  | ins _ _ => cases h
def gBest (m : D → List D → D) : List D → Option D
  | [d] => (match seqOf d with
    | some (e :: es) => if bestOk (e :: es) = true then some (m e es) else none
    | _ => none)
  | _ => none
theorem pBest {G : Gv} {m : D → List D → D} {mp : PyData → List PyData → PyData} (h1 : ∀ d ds, toPy (m d ds) = mp (toPy d) (toPys ds)) (h2 : ∀ d ds, m d ds ∈ d :: ds) : PFun G (rBestD G.K mp) (gBest m) := by
  intro ds d vs H Q g pr q
  unfold gBest at g
  split at g
  · obtain ⟨v, e, f, r⟩ := paired1 pr
    subst e
    split at g
    · rename_i d0 e es hs
      split at g
      · rename_i hb
        cases g
        obtain ⟨a, ws, f', rfl, hq, rs⟩ := seqOf_rep hs r
        unfold bestOk at hb
        simp only [Bool.and_eq_true, decide_eq_true_eq] at hb
        obtain ⟨b1, b2, b3, b4⟩ := hb
        have d1 := Reps.dp _ _ _ rs (plys_lay _ b1)
        refine ⟨a, ws, toPy e, toPys es, rfl, hq, d1, ⟨allAl_ok b2, fun x hx => isNone_ne (by simpa using List.all_eq_true.mp b3 x hx)⟩, b4, fun i x hx hi => ?_⟩
        obtain ⟨c, f2, hc, rc⟩ := Reps.atV rs i x hx
        have hc2 : (toPys (e :: es))[i]? = some (toPy c) := by rw [toPys_map, List.getElem?_map, hc]; rfl
        have hi' : (toPys (e :: es))[i]? = some (mp (toPy e) (toPys es)) := hi
        rw [hc2] at hi'
        have ec : c = m e es := ply_inj _ _ (plys_mem b1 (List.mem_of_getElem? hc)) (plys_mem b1 (h2 e es)) (by rw [h1]; exact Option.some.inj hi')
        subst ec
        have e0 := Rep.imm _ _ _ (ply_imm _ (plys_mem b1 (h2 e es))) rc
        subst e0
        exact q x H [] Keep.refl rc fr0
      · cases g
    · cases g
  · cases g
def gMinL : List D → Option D := gBest minDD
def gMaxL : List D → Option D := gBest maxDD
theorem pMinL {G : Gv} : PFun G (rBestD G.K minD) gMinL := pBest (fun d ds => minDD_py ds d) (fun d ds => minDD_mem ds d)
theorem pMaxL {G : Gv} : PFun G (rBestD G.K maxD) gMaxL := pBest (fun d ds => maxDD_py ds d) (fun d ds => maxDD_mem ds d)
def boolsOf : List D → Option (List Bool)
  | [] => some []
  | .bl b :: r => (boolsOf r).map (b :: ·)
  | _ => none
theorem boolsOf_rep {G : Gv} {H : Hp} : ∀ {ds : List D} {vs : List V} {f : List Addr} {bs : List Bool}, boolsOf ds = some bs → Reps G H ds vs f → vs = bs.map V.bl
  | [], vs, f, bs, h, r => by cases h; exact r.1
  | d :: ds, vs, f, bs, h, ⟨v, r, f1, f2, ev, p, q, dj, ef⟩ => by
    cases d with
    | bl b =>
      unfold boolsOf at h
      cases hb : boolsOf ds with
      | none => rw [hb] at h; cases h
      | some cs =>
        rw [hb] at h
        cases h
        rw [ev, p.1, boolsOf_rep hb q]
        rfl
    | _ => cases h
def gTru (f : List Bool → Bool) : List D → Option D
  | [d] => (match seqOf d with
    | some ds => (boolsOf ds).map fun bs => .bl (f bs)
    | none => none)
  | _ => none
theorem pTru {G : Gv} {f : List Bool → Bool} : PFun G (rTruAll G.K f) (gTru f) := by
  intro ds d vs H Q g pr q
  unfold gTru at g
  split at g
  · obtain ⟨v, e, f', r⟩ := paired1 pr
    subst e
    split at g
    · rename_i d0 es hs
      cases hb : boolsOf es with
      | none => rw [hb] at g; cases g
      | some bs =>
        rw [hb] at g
        cases g
        obtain ⟨a, ws, f', rfl, hq, rs⟩ := seqOf_rep hs r
        have ew := boolsOf_rep hb rs
        subst ew
        exact ⟨a, bs, rfl, hq, q _ H [] Keep.refl ⟨rfl, rfl⟩ fr0⟩
    · cases g
  · cases g
def gAll : List D → Option D := gTru fun bs => bs.all id
def gAny : List D → Option D := gTru fun bs => bs.any id
theorem pAll {G : Gv} : PFun G (rTruAll G.K fun bs => bs.all id) gAll := pTru
theorem pAny {G : Gv} : PFun G (rTruAll G.K fun bs => bs.any id) gAny := pTru
/-! sorted of a list -/
def isTupC : PyData → Bool
  | .tuple (_ :: _) => true
  | _ => false
def isTupA : PyData → Bool
  | .tuple _ => true
  | _ => false
def sortOk (ds : List D) : Bool := D.plys ds && (allAl (toPys ds) && (((toPys ds).all isTupC || (toPys ds).all fun p => !isNone p && !isTupA p) && (toPys ds).all fun p => decide (p.depth ≤ 60)))
theorem sortable_of {ps : List PyData} (h : (ps.all isTupC || ps.all fun p => !isNone p && !isTupA p) = true) : Sortable ps := by
  rcases Bool.or_eq_true_iff.mp h with h | h
  · refine .inl fun d hd => ?_
    have := List.all_eq_true.mp h d hd
    unfold isTupC at this
    split at this
    · exact ⟨_, _, rfl⟩
    · cases this
  · refine .inr fun d hd => ?_
    have := List.all_eq_true.mp h d hd
    simp only [Bool.and_eq_true, Bool.not_eq_true'] at this
    refine ⟨isNone_ne this.1, fun xs z => ?_⟩
    rw [z] at this
    exact Bool.noConfusion this.2
def gSort : List D → Option D
  | [.lst ds] => if sortOk ds = true then some (.lst (ds.mergeSort (dataLe false toPy))) else none
  | [.flst ds] => if sortOk ds = true then some (.lst (ds.mergeSort (dataLe false toPy))) else none
  | _ => none
theorem plys_of : ∀ {ds : List D}, (∀ d ∈ ds, d.ply = true) → D.plys ds = true
  | [], _ => rfl
  | d :: ds, h => Bool.and_eq_true_iff.mpr ⟨h d (List.mem_cons_self ..), plys_of fun e he => h e (List.mem_cons_of_mem _ he)⟩
theorem Reps.of_all {G : Gv} {H : Hp} : ∀ {l : List (V × D)}, (∀ p ∈ l, Rep G H p.2 p.1 []) → Reps G H (l.map (·.2)) (l.map (·.1)) []
  | [], _ => ⟨rfl, rfl⟩
  | p :: l, h => ⟨p.1, l.map (·.1), [], [], rfl, h p (List.mem_cons_self ..), Reps.of_all fun q hq => h q (List.mem_cons_of_mem _ hq), djnil, rfl⟩
theorem Reps.zip {G : Gv} {H : Hp} : ∀ {ds : List D} {vs : List V}, Reps G H ds vs [] → vs.length = ds.length ∧ ∀ p ∈ vs.zip ds, Rep G H p.2 p.1 []
  | [], vs, h => by rw [h.1]; exact ⟨rfl, fun p hp => by simp at hp⟩
  | d :: ds, vs, ⟨v, r, f1, f2, ev, p, q, dj, ef⟩ => by
    have e1 : f1 = [] := (List.append_eq_nil_iff.mp ef.symm).1
    have e2 : f2 = [] := (List.append_eq_nil_iff.mp ef.symm).2
    subst e1 e2 ev
    obtain ⟨h1, h2⟩ := Reps.zip q
    refine ⟨by simp [h1], fun p' hp => ?_⟩
    rw [List.zip_cons_cons] at hp
    rcases List.mem_cons.mp hp with rfl | hp
    · exact p
    · exact h2 p' hp
theorem sort_fin {G : Gv} {H : Hp} {ds : List D} {vs : List V} {f : List Addr} {Q : VK} {a : Addr} (hb : sortOk ds = true) (hs : SqL G.K H a vs) (rs : Reps G H ds vs f) (q : ∀ v H' fp, Keep (fun _ => False) H H' → Rep G H' (.lst (ds.mergeSort (dataLe false toPy))) v fp → (∀ a ∈ fp, H a = none) → Q v H') : rSortD G.K [.ref a] H Q := by
  unfold sortOk at hb
  simp only [Bool.and_eq_true] at hb
  obtain ⟨b1, b2, b3, b4⟩ := hb
  have im := plys_imm _ b1
  have ef := Reps.imm _ _ _ im rs
  subst ef
  obtain ⟨z1, z2⟩ := Reps.zip rs
  refine ⟨a, vs, toPys ds, rfl, hs, Reps.dp _ _ _ rs (plys_lay _ b1), allAl_ok b2, sortable_of b3, fun d hd => of_decide_eq_true (List.all_eq_true.mp b4 d hd), fun p n => ?_⟩
  have e1 : vs.zip (toPys ds) = (vs.zip ds).map fun p => (p.1, toPy p.2) := by
    rw [toPys_map, List.zip_map_right]
    rfl
  have e2 : ((vs.zip ds).mergeSort (dataLe false fun p => toPy p.2)).map (fun p : V × D => (p.1, toPy p.2)) = (vs.zip (toPys ds)).mergeSort (dataLe false (·.2)) := by
    rw [e1]
    exact List.map_mergeSort fun a _ b _ => rfl
  have e3 : ((vs.zip ds).mergeSort (dataLe false fun p => toPy p.2)).map (fun p : V × D => p.2) = ds.mergeSort (dataLe false toPy) := by
    have : ds = (vs.zip ds).map (·.2) := (List.map_snd_zip (by omega)).symm
    conv => rhs; rw [this]
    exact List.map_mergeSort fun a _ b _ => rfl
  have hr : Reps G H (ds.mergeSort (dataLe false toPy)) (((vs.zip (toPys ds)).mergeSort (dataLe false (·.2))).map (·.1)) [] := by
    rw [← e3, ← e2, List.map_map]
    refine Reps.of_all fun p hp => z2 p ?_
    exact (List.mergeSort_perm ..).mem_iff.mp hp
  exact q _ _ [p] (keepF n) (new_lst (plys_imm _ (plys_of fun d hd => plys_mem b1 ((List.mergeSort_perm ..).mem_iff.mp hd))) hr n) (fr1 n)
theorem pSort {G : Gv} : PFun G (rSortD G.K) gSort := by
  intro ds d vs H Q g pr q
  unfold gSort at g
  split at g
  · obtain ⟨v, e, f, a, ws, f1, ev, s, rs, _⟩ := paired1 pr
    split at g
    · rename_i hb
      cases g
      subst e ev
      exact sort_fin hb (.inl (.inl s)) rs q
    · cases g
  · obtain ⟨v, e, f, a, o, ws, ev, s, rs, _⟩ := paired1 pr
    split at g
    · rename_i hb
      cases g
      subst e ev
      exact sort_fin hb (.inl (.inr ⟨o, s⟩)) rs q
    · cases g
  · cases g
end A2
end S_A2s
section S_A2t
set_option Elab.async false
set_option linter.all false
set_option maxRecDepth 100000
set_option maxHeartbeats 4000000
open PySem PySem.Spec L2
open PyProof.Rows hiding St
namespace A2
/-! ## [.. for k in d], d a dict in a slot -/
mutual
/-- nothing frozen, no object, no dict within -/
def D.cln : D → Bool
  | .non => true | .bl _ => true | .int _ => true | .str _ => true
  | .tup ds => D.clns ds
  | .lst ds => D.clns ds
  | _ => false
def D.clns : List D → Bool
  | [] => true
  | d :: ds => d.cln && D.clns ds
end
section
variable {G : Gv} {H H' : Hp} {dd : Addr} {od : Obj} {u : List (Key × V)}
theorem SqT.undk (hk : ∀ a o, a ≠ dd → H a = some o → H' a = some o) (hd : H dd = some (.frz od (.dK u))) {K : PySem.W.Frag} {a : Addr} {vs : List V} (h : SqT K H a vs) : SqT K H' a vs := by
  have ne : ∀ {b : Addr} {o : HO}, H b = some o → o ≠ .frz od (.dK u) → b ≠ dd := fun e n z => by
    rw [z, hd] at e
    exact n (Option.some.inj e).symm
  rcases h with (h | ⟨o, h⟩) | h
  · exact .inl (.inl (hk _ _ (ne h (fun z => nomatch z)) h))
  · exact .inl (.inr ⟨o, hk _ _ (ne h (fun z => by cases z)) h⟩)
  · exact .inr h
mutual
theorem Rep.undk (hk : ∀ a o, a ≠ dd → H a = some o → H' a = some o) (hd : H dd = some (.frz od (.dK u))) : ∀ (d : D) (v : V) (fp : List Addr), d.cln = true → Rep G H d v fp → Rep G H' d v fp
  | .non, _, _, _, h => h
  | .bl _, _, _, _, h => h
  | .int _, _, _, _, h => h
  | .str _, _, _, _, h => h
  | .tup ds, v, fp, c, ⟨a, vs, e, s, r⟩ => ⟨a, vs, e, SqT.undk hk hd s, Reps.undk hk hd ds vs fp c r⟩
  | .lst ds, v, fp, c, ⟨a, vs, f1, e, s, r, na, ef⟩ => ⟨a, vs, f1, e, hk _ _ (fun z => by rw [z, hd] at s; cases s) s, Reps.undk hk hd ds vs f1 c r, na, ef⟩
  | .flst _, _, _, c, _ => nomatch c
  | .dct _, _, _, c, _ => nomatch c
  | .fdct _, _, _, c, _ => nomatch c
  | .ins _ _, _, _, c, _ => nomatch c
theorem Reps.undk (hk : ∀ a o, a ≠ dd → H a = some o → H' a = some o) (hd : H dd = some (.frz od (.dK u))) : ∀ (ds : List D) (vs : List V) (fp : List Addr), D.clns ds = true → Reps G H ds vs fp → Reps G H' ds vs fp
  | [], _, _, _, h => h
  | d :: ds, vs, fp, c, ⟨v, r, f1, f2, e, p, q, dj, ef⟩ => by
    have c' := Bool.and_eq_true_iff.mp c
    exact ⟨v, r, f1, f2, e, Rep.undk hk hd d v f1 c'.1 p, Reps.undk hk hd ds r f2 c'.2 q, dj, ef⟩
end
end
def compKOf (s : Nat) (p : PC) (t : TC) (c : EC) (vs : List Nat) (σd : DSt) : Res RV := match σd[s]? with
  | some (some (.dct kvs)) => if (kvs.all fun kv => kv.2.imm) = true ∧ subB (t.rw ++ c.rw) vs = true ∧ s ∉ vs then (match compEnd p t c vs (kvs.map (·.1)) (σd.set s (some (.fdct kvs))) with
    | .ok (.tmp d) _ => if d.cln = true then .ok (.tmp d) σd else .bad
    | _ => .bad) else .bad
  | _ => .bad
def cCompK (s : Nat) (vs : List Nat) (p : PC) (t : TC) (c : EC) : EC := ⟨compKOf s p t c vs, []⟩
theorem RepK.keysAt {G : Gv} {H : Hp} : ∀ {ds : List (D × D)} {ws : List (Key × V)} {fp : List Addr}, RepK G H ds ws fp → ws.length = ds.length ∧ ∀ (i : Nat) (k : Key) (v : V), ws[i]? = some (k, v) → (ds.map (·.1))[i]? = some (keyD k)
  | [], ws, fp, h => by rw [h.1]; exact ⟨rfl, fun i k v e => by simp at e⟩
  | (k0, d) :: ds, ws, fp, ⟨kk, v, r, f1, f2, e, ek, p, q, dj, ef⟩ => by
    obtain ⟨h1, h2⟩ := RepK.keysAt q
    subst e ek
    refine ⟨by simp [h1], fun i k w e => ?_⟩
    cases i with
    | zero => cases (show some _ = some (k, w) from e); rfl
    | succ i => exact h2 i k w (by simpa using e)
theorem RepK.imm {G : Gv} {H : Hp} : ∀ {ds : List (D × D)} {ws : List (Key × V)} {fp : List Addr}, (ds.all fun kv => kv.2.imm) = true → RepK G H ds ws fp → fp = []
  | [], ws, fp, _, h => h.2
  | (k0, d) :: ds, ws, fp, i, ⟨kk, v, r, f1, f2, e, ek, p, q, dj, ef⟩ => by
    have i' := Bool.and_eq_true_iff.mp (show (d.imm && ds.all fun kv => kv.2.imm) = true from i)
    rw [ef, Rep.imm d v f1 i'.1 p, RepK.imm i'.2 q]
    rfl
theorem rep_key {G : Gv} {H : Hp} (k : Key) : Rep G H (keyD k) (kV k) [] := by
  cases k <;> exact ⟨rfl, rfl⟩
theorem lock_rd {X : Cx} {W : WX} {own : List (Str × Nat)} {s : Nat} {p : PC} {t : TC} {c : EC} {σ : L2.St} {H : Hp} {Q : VK} (h : rd (gv X) W (cCompK s (own.map (·.2)) p t c) σ H Q) :
    tLockE (tLc (iKeys (tVar s)) (rdG (gv X) p) (rdT (gv X) W0 t) (rd (gv X) W0 c) (own.map (·.2))) σ H Q := by
  obtain ⟨σd, fps, E, q⟩ := h
  unfold cCompK compKOf at q
  dsimp only at q
  split at q
  · rename_i kvs hs
    split at q
    · rename_i hc
      obtain ⟨him, hsub, hns⟩ := hc
      obtain ⟨v, hv, a, ws, f1, ev, ha, rk, ⟨na, nd⟩, ef⟩ := E.rep s _ hs
      have ef1 := RepK.imm him rk
      subst ef1 ev
      have slt : s < σd.length := (List.getElem?_eq_some_iff.mp hs).1
      refine ⟨a, .dK ws, ha, True.intro, fun od => ?_⟩
      let vs := own.map (·.2)
      let HL := upd H a (.frz od (.dK ws))
      let σL := σd.set s (some (.fdct kvs))
      let fpL := setFp fps s []
      have hdL : HL a = some (.frz od (.dK ws)) := upd_same
      have fpl : ∀ j, j ≠ s → fpL j = fps j := fun j hj => by show setFp fps s [] j = _; unfold setFp; rw [if_neg hj]
      have fps' : fpL s = [] := by show setFp fps s [] s = _; unfold setFp; rw [if_pos rfl]
      have hL : ∀ b o, b ≠ a → H b = some o → HL b = some o := fun b o n e => by show upd H a _ b = _; rw [upd_ne n]; exact e
      -- other slots do not touch the dict
      have kL : Keep (fun b => b ∈ fps s) H HL := .of fun b o e z => by
        by_cases hb : b = a
        · subst hb
          rw [ha] at e
          cases e
          rcases z with z | z
          · exact absurd (show b ∈ fps s by rw [ef]; exact List.mem_cons_self ..) z
          · exact absurd True.intro z
        · exact hL b o hb e
      have EL : EnvR (gv X) HL σL σ fpL := by
        refine ⟨by show (σd.set s _).length = _; rw [List.length_set]; exact E.len, fun i d e => ?_, fun i j n => ?_, fun i n => ?_, E.tb.keep kL⟩
        · by_cases hi : i = s
          · subst hi
            have e' : some (some (D.fdct kvs)) = some (some d) := by rw [← e]; exact (List.getElem?_set_self slt).symm
            cases e'
            exact ⟨_, hv, by rw [fps']; exact ⟨a, od, ws, rfl, hdL, RepK.keep kL _ _ _ (fun _ h => nomatch h) rk, nd, rfl⟩⟩
          · have e' : σd[i]? = some (some d) := by rw [← e]; exact (getset (Ne.symm hi)).symm
            obtain ⟨w, e1, r⟩ := E.rep i d e'
            exact ⟨w, e1, by rw [fpl i hi]; exact Rep.keep kL d w _ (fun b hb z => E.dj i s hi b hb z) r⟩
        · by_cases hi : i = s
          · rw [hi, fps']; exact djnil
          · by_cases hj : j = s
            · rw [hj, fps']; exact fun _ _ z => nomatch z
            · rw [fpl i hi, fpl j hj]; exact E.dj i j n
        · by_cases hi : i = s
          · rw [hi]; exact fps'
          · rw [fpl i hi]
            exact E.ded i fun d e => n d (by rw [← e]; exact getset (Ne.symm hi))
      refine ⟨.ref a, hv, a, od, rfl, .inl ⟨ws, hdL, fun Dn nD => ?_⟩⟩
      have nDa : a ≠ Dn := fun z => by rw [← z] at nD; cases (hdL.symm.trans nD)
      let rr := p.rw ++ (t.rw ++ c.rw)
      let Q' : VK := fun v H' => H' a = some (.frz od (.dK ws)) ∧ Q v (upd H' a (.dK ws))
      have q' : rdr (gv X) W rr [] σ HL σL fpL (compEnd p t c vs (kvs.map (·.1)) σL) Q' := by
        cases hr : compEnd p t c vs (kvs.map (·.1)) σL with
        | bad =>
          rw [show compEnd p t c (own.map (·.2)) (kvs.map (·.1)) (σd.set s (some (.fdct kvs))) = .bad from hr] at q
          exact q.elim
        | err x σ1 =>
          rw [show compEnd p t c (own.map (·.2)) (kvs.map (·.1)) (σd.set s (some (.fdct kvs))) = .err x σ1 from hr] at q
          exact q.elim
        | ok rv σ1 =>
          rw [show compEnd p t c (own.map (·.2)) (kvs.map (·.1)) (σd.set s (some (.fdct kvs))) = .ok rv σ1 from hr] at q
          cases rv with
          | plc _ _ => exact q.elim
          | tmp d =>
            dsimp only at q
            split at q
            · rename_i hcl
              -- the slots of the block are empty
              have hrr : ∀ j ∈ rr, j ∈ vs ∧ fps j = [] := by
                have hv2 : (∀ j ∈ p.rw, j ∈ vs) ∧ ownOk σL vs = true := by
                  unfold compEnd at hr
                  split at hr
                  · rename_i hh
                    exact ⟨subB_ok hh.2.2.1, hh.2.1⟩
                  · cases hr
                intro j hj
                have hj' : j ∈ vs := by
                  rcases List.mem_append.mp hj with hj | hj
                  · exact hv2.1 j hj
                  · exact subB_ok hsub j hj
                refine ⟨hj', ?_⟩
                rw [← fpl j (fun z => hns (z ▸ hj'))]
                exact own_nil EL hv2.2 hj'
              intro v H' fp' f E' R' S'
              have hd' : H' a = some (.frz od (.dK ws)) := S'.keep.at_ a _ hdL (fun _ z => nomatch z) (.inr fun z => z)
              refine ⟨hd', ?_⟩
              have nF : ∀ b, ¬ ((∃ j, j ∈ rr ∧ b ∈ fpL j) ∨ b ∈ ([] : List Addr)) := fun b z => by
                rcases z with ⟨j, hj, z⟩ | z
                · obtain ⟨h1, h2⟩ := hrr j hj
                  have hne : j ≠ s := fun z => hns (z ▸ h1)
                  rw [fpl j hne, h2] at z
                  cases z
                · cases z
              have K0 : Keep (fun _ => False) H (upd H' a (.dK ws)) := by
                have hd2 : H' a = some (.frz od (.dK ws)) := hd'
                have kBt : ∀ b ps, H' b = some (.tbl ps) → upd H' a (.dK ws) b = some (.tbl ps) := fun b ps e => by
                  have hb : b ≠ a := fun z => by rw [z, hd2] at e; cases e
                  rw [upd_ne hb]
                  exact e
                have kBa : ∀ P q, LamX.TabS H' P q → LamX.TabS (upd H' a (.dK ws)) P q := fun P q ⟨ps, h1, h2, h3⟩ => ⟨ps, kBt P ps h1, h2, fun pos cv hc => let ⟨c, e1, e2⟩ := h3 pos cv hc; ⟨c, e1, by
                  have hb : c ≠ a := fun z => by rw [z, hd2] at e2; cases e2
                  rw [upd_ne hb]
                  exact e2⟩⟩
                refine ⟨fun b o e nt _ => ?_, fun b ps e => ?_, fun P t => kBa P _ (S'.keep.tab P (kL.tab P t))⟩
                · by_cases hb : b = a
                  · subst hb
                    rw [ha] at e
                    rw [upd_same, ← e]
                  · rw [upd_ne hb]
                    exact S'.keep.at_ b o (hL b o hb e) nt (.inl (nF b))
                · obtain ⟨m1, e1⟩ := kL.tbl b ps e
                  obtain ⟨m2, e2⟩ := S'.keep.tbl b _ e1
                  exact ⟨m1 ++ m2, by rw [← Array.append_assoc]; exact kBt b _ e2⟩
              have inOld : ∀ b, (∃ j, b ∈ fpL j) → ∃ j, b ∈ fps j := fun b ⟨j, hj⟩ => by
                by_cases hs' : j = s
                · rw [hs', fps'] at hj; cases hj
                · rw [fpl j hs'] at hj; exact ⟨j, hj⟩
              have notA : ∀ b ∈ f, b ≠ a := fun b hb z => by
                rcases S'.new b (.inl hb) with ⟨j, hj⟩ | hj | hj
                · by_cases hs' : j = s
                  · rw [hs', fps'] at hj; cases hj
                  · rw [fpl j hs'] at hj
                    exact E.dj j s hs' b hj (by rw [ef, z]; exact List.mem_cons_self ..)
                · cases hj
                · rw [z, hdL] at hj; cases hj
              refine q v (upd H' a (.dK ws)) fps f (E.all K0) ⟨Rep.undk (fun b o n e => by rw [upd_ne n]; exact e) hd' d v f hcl R'.1, fun i b hb z => ?_⟩ ⟨K0.mono fun _ z => z.elim, fun b z => ?_, fun j _ => ⟨rfl, rfl⟩, K0.dom⟩
              · by_cases hi : i = s
                · rw [hi, ef] at z
                  exact notA b hb (List.mem_singleton.mp z)
                · by_cases hir : i ∈ rr
                  · rw [(hrr i hir).2] at z
                    cases z
                  · refine R'.2 i b hb ?_
                    rw [(S'.same i hir).2, fpl i hi]
                    exact z
              · rcases z with z | z
                · rcases S'.new b (.inl z) with h | h | h
                  · exact .inl (inOld b h)
                  · cases h
                  · refine .inr (.inr ?_)
                    cases hb : H b with
                    | none => rfl
                    | some o =>
                      rw [hL b o (notA b z) hb] at h
                      cases h
                · exact .inl z
            · exact q.elim
      have k := keepF (o := .lst []) nD
      obtain ⟨hsz, hpv, hvp, own1, C0⟩ := comp_start (Pers := fun _ H => H a = some (.frz od (.dK ws))) EL nD (by rw [upd_ne nDa]; exact hdL) q'
      obtain ⟨hlen, hkey⟩ := RepK.keysAt rk
      have subp : ∀ j ∈ p.rw, j ∈ rr := fun j h => mem_l j h
      have subt : ∀ j ∈ t.rw, j ∈ rr := fun j h => mem_r j (mem_l j h)
      have subc : ∀ j ∈ c.rw, j ∈ rr := fun j h => mem_r j (mem_r j h)
      have hln : ws.length = (kvs.map (·.1)).length := by rw [List.length_map]; exact hlen
      refine lc_it (walk_keys (d := a) (o := od) (kvs := ws)) _ C0 (fun i H _ P => ?_) (fun i x H H' hi P y => ?_) (fun H P => ?_)
      · obtain ⟨_, _, _, _, _, _, _, pe, _⟩ := P
        exact pe
      · obtain ⟨eH, kk, vv, hw, ex⟩ := y
        subst eH ex
        refine comp_turn subp subt subc hpv (fun j h => subp j (hvp j h)) hsz (fun _ pe S => S.keep.at_ a _ pe (fun _ z => nomatch z) (.inr fun z => z)) (fun {fp H2 acc} pe hD _ o' => ?_) (fun pe => pe) (hkey i kk vv hw) P (rep_key kk)
        rw [upd_ne nDa]
        exact pe
      · rw [hln] at P
        exact comp_done EL own1 (fun j h => subp j (hvp j h)) P
    · exact q.elim
  · exact q.elim
theorem de_compK {X : Cx} {W : WX} {elt tg : Expr} {ifs : List Expr} {scope : Scope} {pos pn : Pos} {n : Str} {p : PC} {t : TC} {c : EC} (s : Nat) (own : List (Str × Nat)) (hc : X.calm = true) (hN : X.N.Nodup) (ok : BlkOk X.N X.env.scope scope own) (B : Blk X scope tg ifs elt p t c)
    (hi : X.N[s]? = some n := by rfl) (hv : Vis X.env.scope n := by first | exact .inl rfl | exact .inr (.inl rfl) | exact .inr (.inr rfl)) (hd : (n == ("__debug__" : Str)) = false := by decide) (hcd : (n == ("__classdict__" : Str)) = false := by decide) (hs : ∀ x, foldedSetIterable (.Name n pn) X.env x = pure x := by intro _; rfl) :
    DE X W (.ListComp elt [⟨tg, .Name n pn, ifs, 0⟩] scope pos) (cCompK s (own.map (·.2)) p t c) :=
  (pe_lock (pe_lc hc hN (pi_keys (pe_var hi hv hd hcd)) ok B.tg B.ifs B.elt hs)).le fun σ H Q h => lock_rd h
end A2
end S_A2t
section S_A2u
set_option Elab.async false
set_option linter.all false
set_option maxRecDepth 100000
set_option maxHeartbeats 4000000
open PySem PySem.Spec L2
open PyProof.Rows hiding St
namespace A2
/-! ## -x -/
def gNeg : D → Option D
  | .int i => some (.int (-i))
  | _ => none
def negOf (x : RV) (σd : DSt) : Res RV := match x.get σd with
  | some (.int i) => .ok (.tmp (.int (-i))) σd
  | _ => .bad
def cNeg (c : EC) : EC := ⟨fun σd => (c.run σd).bind negOf, c.rw⟩
theorem de_neg {X : Cx} {W : WX} {a : Expr} {c : EC} {pos : Pos} (h : DE X W a c) : DE X W (.UnaryOp .USub a pos) (cNeg c) := (pe_un un_neg h).le fun σ H Q ⟨σd, fps, E, q⟩ => by
  change rdr _ _ _ _ σ H σd fps ((c.run σd).bind negOf) Q at q
  refine seqE (r := c.rw) (tf := []) E (fun _ h => h) (fun x σd1 h1 v1 H1 fps1 f1 E1 R1 S1 => ?_) (fun x σd1 h1 => ?_) (fun h1 => ?_)
  · rw [h1] at q
    have q1 := rdr.push (r2 := c.rw) (R := negOf x σd1) S1 E1 R1.dj (fun _ h => h) (fun _ h => h) q
    unfold negOf at q1
    split at q1
    · rename_i i hi
      obtain ⟨f', rp, _⟩ := R1.rep E1 hi
      exact ⟨i, rp.1, fin_new E1 q1 Keep.refl ⟨rfl, rfl⟩ fr0⟩
    · exact q1.elim
  · rw [h1] at q; exact q
  · rw [h1] at q; exact q
/-! ## {k: v} -/
theorem de_dict1 {X : Cx} {W : WX} {a b : Expr} {ca cb : EC} {pos : Pos} (ha : DE X W a ca) (hb : DE X W b cb) : DE X W (.Dict [some a] [b] pos) (cDict1 ca cb) :=
  (pe_disp (pps_cons ha hb pps_nil) rfl rfl (by simp) (by simp)).le fun _ _ _ h => dict1_rd h
/-! ## y = [..] -/
section
variable {X : Cx} {W : WX} {elt tg iter e1 e2 : Expr} {ifs : List Expr} {scope : Scope} {pos pp po spos py : Pos} {s c : EC} {p : PC} {t : TC} {a : AC} {y : Str}
theorem set_rd {G : Gv} {D : Ends} {σ : L2.St} {H : Hp} {i : Nat} {c : EC} (h : rdS G W (sSet i c) D σ H) : rd G W c σ H (fun x H1 => gName i x σ H1 D.nx) :=
  rdS_E (fun j h => List.mem_cons_of_mem _ h) h fun y σd1 v H1 fps1 f1 E1 R1 q => by
    cases y with
    | plc s p => exact q.elim
    | tmp d =>
      unfold setOf at q
      dsimp only at q
      split at q
      · rename_i hl
        exact q _ H1 (setFp fps1 i f1) (E1.put hl R1.1 R1.2) (Stp.put (List.mem_cons_self ..) (fun _ h => h)) (SameV.put (List.mem_singleton.mpr rfl))
      · exact q.elim
theorem ds_setComp (i : Nat) (own : List (Str × Nat)) (hc : X.calm = true) (hN : X.N.Nodup) (hi : DE X W iter s) (ok : BlkOk X.N X.env.scope scope own) (B : Blk X scope tg ifs elt p t c)
    (hy : X.N[i]? = some y := by rfl) (hyl : X.env.scope.names.lookup y = some .local := by rfl) (hsw : swapsWith (.ListComp elt [⟨tg, iter, ifs, 0⟩] scope pos) (some (.Name y py)) spos.line X.env = pure true := by rfl) (hs : ∀ x, foldedSetIterable iter X.env x = pure x := by intro _; rfl) :
    DS X W (.Assign [.Name y py] (.ListComp elt [⟨tg, iter, ifs, 0⟩] scope pos) spos) (sSet i (cComp (own.map (·.2)) p t c s)) :=
  (ps_setLc hc hN hy hyl hsw (pi_or (pi_list hi) (pi_tup hi)) ok B.tg B.ifs B.elt hs).le fun D σ H h => comp_rd (set_rd h)
theorem ds_setCompR1 (i : Nat) (own : List (Str × Nat)) (hc : X.calm = true) (hN : X.N.Nodup) (hgr : Gl X "range") (hm : X.mg "range" = none) (ha : DA X W [e1] a) (ok : BlkOk X.N X.env.scope scope own) (B : Blk X scope tg ifs elt p t c)
    (hy : X.N[i]? = some y := by rfl) (hyl : X.env.scope.names.lookup y = some .local := by rfl) (hsw : swapsWith (.ListComp elt [⟨tg, .Call (.Name "range" po) [e1] [] pp, ifs, 0⟩] scope pos) (some (.Name y py)) spos.line X.env = pure true := by rfl)
    (hs1 : starEach [e1] X.env = [(false, eval e1 X.env)] := by rfl) (hs : ∀ x, foldedSetIterable (.Call (.Name "range" po) [e1] [] pp) X.env x = pure x := by intro _; rfl) :
    DS X W (.Assign [.Name y py] (.ListComp elt [⟨tg, .Call (.Name "range" po) [e1] [] pp, ifs, 0⟩] scope pos) spos) (sSet i (cCompR rng1 (own.map (·.2)) p t c a)) :=
  (ps_setLc hc hN hy hyl hsw (pi_range1 hgr hm ha hs1) ok B.tg B.ifs B.elt hs).le fun D σ H h => compR_rd (wi := fun _ => none) (iR := iRng1) (fun {H R} q => by
    obtain ⟨σd, fps, E, q⟩ := q
    refine ⟨σd, fps, E, ?_⟩
    cases hr : a.run σd with
    | ok rv σ1 =>
      rw [hr] at q
      intro us H' fps' f E' R' S'
      obtain ⟨lo, n, ds, hg, pr, q1⟩ := q us H' fps' f E' R' S'
      obtain ⟨j, e, hb, el, en⟩ := rng1_some hg
      subst e el en
      obtain ⟨v, e, f', rp⟩ := paired1 pr
      exact ⟨j, by rw [e, rp.1], (inR_ok hb).1, (inR_ok hb).2, q1⟩
    | err x σ1 => rw [hr] at q; exact q
    | bad => rw [hr] at q; exact q) (set_rd h)
theorem ds_setCompR2 (i : Nat) (own : List (Str × Nat)) (hc : X.calm = true) (hN : X.N.Nodup) (hgr : Gl X "range") (hm : X.mg "range" = none) (ha : DA X W [e1, e2] a) (ok : BlkOk X.N X.env.scope scope own) (B : Blk X scope tg ifs elt p t c)
    (hy : X.N[i]? = some y := by rfl) (hyl : X.env.scope.names.lookup y = some .local := by rfl) (hsw : swapsWith (.ListComp elt [⟨tg, .Call (.Name "range" po) [e1, e2] [] pp, ifs, 0⟩] scope pos) (some (.Name y py)) spos.line X.env = pure true := by rfl)
    (hs1 : starEach [e1, e2] X.env = [(false, eval e1 X.env), (false, eval e2 X.env)] := by rfl) (hs2 : starEach [e2] X.env = [(false, eval e2 X.env)] := by rfl) (hs : ∀ x, foldedSetIterable (.Call (.Name "range" po) [e1, e2] [] pp) X.env x = pure x := by intro _; rfl) :
    DS X W (.Assign [.Name y py] (.ListComp elt [⟨tg, .Call (.Name "range" po) [e1, e2] [] pp, ifs, 0⟩] scope pos) spos) (sSet i (cCompR rng2 (own.map (·.2)) p t c a)) :=
  (ps_setLc hc hN hy hyl hsw (pi_range2 hgr hm ha hs1 hs2) ok B.tg B.ifs B.elt hs).le fun D σ H h => compR_rd (wi := fun _ => none) (iR := iRng2) (fun {H R} q => by
    obtain ⟨σd, fps, E, q⟩ := q
    refine ⟨σd, fps, E, ?_⟩
    cases hr : a.run σd with
    | ok rv σ1 =>
      rw [hr] at q
      intro us H' fps' f E' R' S'
      obtain ⟨lo, n, ds, hg, pr, q1⟩ := q us H' fps' f E' R' S'
      obtain ⟨i, j, e, hb, el, en⟩ := rng2_some hg
      subst e el en
      obtain ⟨v, w, e, ⟨f', rp⟩, ⟨f'', rp'⟩⟩ := paired2 pr
      exact ⟨_, j, by rw [e, rp.1, rp'.1], ⟨(inR_ok hb.1).1, (inR_ok hb.1).2, (inR_ok hb.2).1, (inR_ok hb.2).2⟩, q1⟩
    | err x σ1 => rw [hr] at q; exact q
    | bad => rw [hr] at q; exact q) (set_rd h)
end
/-! ## sorted(set(xs)), xs a list of tuples of ints -/
def ltI : List Int → List Int → Bool
  | [], [] => false
  | [], _ :: _ => true
  | _ :: _, [] => false
  | x :: xs, y :: ys => decide (x < y) || (decide (x = y) && ltI xs ys)
theorem ltI_code {B : Int} : ∀ {x y : List Int}, x.length = y.length → TS.Bd B x → TS.Bd B y → (ltI x y = true ↔ TS.code B x < TS.code B y)
  | [], [], _, _, _ => by simp [ltI]
  | [], _ :: _, h, _, _ => by simp at h
  | _ :: _, [], h, _, _ => by simp at h
  | a :: x, b :: y, h, ha, hb => by
    have hl : x.length = y.length := by simpa using h
    have ih := ltI_code hl ha.tail hb.tail
    rcases Int.lt_trichotomy a b with h1 | h1 | h1
    · simp [ltI, h1, TS.code_lt hl ha.tail hb.tail h1]
    · subst h1
      rw [TS.code_same hl, ← ih]
      simp [ltI]
    · have := TS.code_lt hl.symm hb.tail ha.tail h1
      have ne : ¬ a < b := by omega
      have ne2 : ¬ a = b := by omega
      simp [ltI, ne, ne2]
      omega
theorem ltI_tri : ∀ {x y : List Int}, x.length = y.length → ltI x y = true ∨ x = y ∨ ltI y x = true
  | [], [], _ => .inr (.inl rfl)
  | [], _ :: _, h => by simp at h
  | _ :: _, [], h => by simp at h
  | a :: x, b :: y, h => by
    have hl : x.length = y.length := by simpa using h
    rcases Int.lt_trichotomy a b with h1 | h1 | h1
    · exact .inl (by simp [ltI, h1])
    · subst h1
      rcases ltI_tri hl with h2 | h2 | h2
      · exact .inl (by simp [ltI, h2])
      · exact .inr (.inl (by rw [h2]))
      · exact .inr (.inr (by simp [ltI, h2]))
    · exact .inr (.inr (by simp [ltI, h1]))
theorem ltI_irr : ∀ (x : List Int), ltI x x = false
  | [] => rfl
  | a :: x => by simp [ltI, ltI_irr x]
theorem ltI_trans : ∀ {x y z : List Int}, ltI x y = true → ltI y z = true → ltI x z = true
  | [], [], _, h, _ => by simp [ltI] at h
  | [], _ :: _, [], _, h => by simp [ltI] at h
  | [], _ :: _, _ :: _, _, _ => rfl
  | _ :: _, [], _, h, _ => by simp [ltI] at h
  | _ :: _, _ :: _, [], _, h => by simp [ltI] at h
  | a :: x, b :: y, c :: z, h1, h2 => by
    simp only [ltI, Bool.or_eq_true, Bool.and_eq_true, decide_eq_true_eq] at h1 h2 ⊢
    rcases h1 with h1 | ⟨h1, h1'⟩ <;> rcases h2 with h2 | ⟨h2, h2'⟩
    · exact .inl (by omega)
    · exact .inl (by omega)
    · exact .inl (by omega)
    · exact .inr ⟨by omega, ltI_trans h1' h2'⟩
def SrtI (l : List (List Int)) : Prop := l.Pairwise fun x y => ltI x y = true
theorem srtI_eq : ∀ {l m : List (List Int)}, SrtI l → SrtI m → (∀ x, x ∈ l ↔ x ∈ m) → l = m
  | [], [], _, _, _ => rfl
  | [], y :: m, _, _, h => absurd ((h y).mpr (List.mem_cons_self ..)) List.not_mem_nil
  | x :: l, [], _, _, h => absurd ((h x).mp (List.mem_cons_self ..)) List.not_mem_nil
  | x :: l, y :: m, hl, hm, h => by
    have hl' := List.pairwise_cons.mp hl
    have hm' := List.pairwise_cons.mp hm
    have e : x = y := by
      rcases List.mem_cons.mp ((h x).mp (List.mem_cons_self ..)) with e | e
      · exact e
      · rcases List.mem_cons.mp ((h y).mpr (List.mem_cons_self ..)) with e' | e'
        · exact e'.symm
        · have a := hm'.1 x e
          have b := hl'.1 y e'
          have := ltI_trans a b
          rw [ltI_irr] at this
          cases this
    subst e
    rw [srtI_eq hl'.2 hm'.2 fun z => ?_]
    constructor
    · intro hz
      rcases List.mem_cons.mp ((h z).mp (List.mem_cons_of_mem _ hz)) with e | e
      · subst e
        have := hl'.1 z hz
        rw [ltI_irr] at this
        cases this
      · exact e
    · intro hz
      rcases List.mem_cons.mp ((h z).mpr (List.mem_cons_of_mem _ hz)) with e | e
      · subst e
        have := hm'.1 z hz
        rw [ltI_irr] at this
        cases this
      · exact e
def insU (x : List Int) : List (List Int) → List (List Int)
  | [] => [x]
  | y :: r => if ltI x y = true then x :: y :: r else if x = y then y :: r else y :: insU x r
def sortU : List (List Int) → List (List Int)
  | [] => []
  | x :: r => insU x (sortU r)
theorem insU_mem {x : List Int} : ∀ {l : List (List Int)} {z : List Int}, z ∈ insU x l ↔ z = x ∨ z ∈ l
  | [], z => by simp [insU]
  | y :: r, z => by
    unfold insU
    split
    · simp
    · split
      · rename_i h
        subst h
        simp
      · simp only [List.mem_cons, insU_mem (l := r)]
        constructor <;> intro h <;> rcases h with h | h | h <;> simp [h]
theorem sortU_mem : ∀ {l : List (List Int)} {z : List Int}, z ∈ sortU l ↔ z ∈ l
  | [], z => Iff.rfl
  | x :: r, z => by
    unfold sortU
    rw [insU_mem, sortU_mem (l := r), List.mem_cons]
theorem insU_srt {x : List Int} {n : Nat} (hx : x.length = n) : ∀ {l : List (List Int)}, (∀ y ∈ l, y.length = n) → SrtI l → SrtI (insU x l)
  | [], _, _ => List.pairwise_singleton _ _
  | y :: r, hl, hs => by
    have hs' := List.pairwise_cons.mp hs
    unfold insU
    split
    · rename_i h
      refine List.pairwise_cons.mpr ⟨fun z hz => ?_, hs⟩
      rcases List.mem_cons.mp hz with rfl | hz
      · exact h
      · exact ltI_trans h (hs'.1 z hz)
    · split
      · exact hs
      · rename_i h1 h2
        refine List.pairwise_cons.mpr ⟨fun z hz => ?_, insU_srt hx (fun w hw => hl w (List.mem_cons_of_mem _ hw)) hs'.2⟩
        rcases insU_mem.mp hz with rfl | hz
        · rcases ltI_tri (hx.trans (hl y (List.mem_cons_self ..)).symm) with h | h | h
          · exact absurd h h1
          · exact absurd h h2
          · exact h
        · exact hs'.1 z hz
theorem sortU_srt {n : Nat} : ∀ {l : List (List Int)}, (∀ y ∈ l, y.length = n) → SrtI (sortU l)
  | [], _ => .nil
  | x :: r, hl => insU_srt (hl x (List.mem_cons_self ..)) (fun y hy => hl y (List.mem_cons_of_mem _ (sortU_mem.mp hy))) (sortU_srt fun y hy => hl y (List.mem_cons_of_mem _ hy))
theorem sortU_len : ∀ {l : List (List Int)}, (sortU l).length ≤ l.length
  | [] => Nat.le_refl _
  | x :: r => by
    have h : ∀ {l : List (List Int)}, (insU x l).length ≤ l.length + 1 := by
      intro l
      induction l with
      | nil => simp [insU]
      | cons y r ih =>
        unfold insU
        split
        · simp
        · split
          · simp
          · simp only [List.length_cons]; omega
    have := sortU_len (l := r)
    have := h (l := sortU r)
    show (insU x (sortU r)).length ≤ r.length + 1
    omega
def intsD : List D → Option (List Int)
  | [] => some []
  | .int i :: r => (intsD r).map (i :: ·)
  | _ => none
def rowsD : List D → Option (List (List Int))
  | [] => some []
  | .tup ds :: r => match intsD ds, rowsD r with
    | some ns, some rs => some (ns :: rs)
    | _, _ => none
  | _ => none
def tupI (ns : List Int) : D := .tup (ns.map .int)
def rowOk (n : Nat) (ns : List Int) : Bool := decide (ns.length = n) && ns.all fun i => decide (0 ≤ i ∧ i < 1000000)
def sortSetOf (x : RV) (σd : DSt) : Res RV := match x.get σd with
  | some (.lst ds) => (match rowsD ds with
    | some rs => if rs.length < 64 ∧ (rs.all (rowOk (rs.headD []).length)) = true ∧ (rs.headD [0]).length ≥ 1 then .ok (.tmp (.lst ((sortU rs).map tupI))) σd else .bad
    | none => .bad)
  | _ => .bad
def cSortSet (a : EC) : EC := ⟨fun σd => (a.run σd).bind sortSetOf, a.rw⟩
theorem intsD_rep {G : Gv} {H : Hp} : ∀ {ds : List D} {vs : List V} {f : List Addr} {ns : List Int}, intsD ds = some ns → Reps G H ds vs f → vs = ns.map V.int ∧ f = []
  | [], vs, f, ns, h, r => by cases h; exact ⟨r.1, r.2⟩
  | d :: ds, vs, f, ns, h, ⟨v, r, f1, f2, ev, p, q, dj, ef⟩ => by
    cases d with
    | int i =>
      unfold intsD at h
      cases hb : intsD ds with
      | none => rw [hb] at h; cases h
      | some cs =>
        rw [hb] at h
        cases h
        obtain ⟨e1, e2⟩ := intsD_rep hb q
        exact ⟨by rw [ev, p.1, e1]; rfl, by rw [ef, p.2, e2]; rfl⟩
    | _ => cases h
theorem rowsD_rep {G : Gv} {H : Hp} : ∀ {ds : List D} {vs : List V} {f : List Addr} {rs : List (List Int)}, rowsD ds = some rs → Reps G H ds vs f → ∃ ks : List (Addr × List Int), vs = ks.map (fun p => V.ref p.1) ∧ ks.map (·.2) = rs ∧ (∀ p ∈ ks, SqT G.K H p.1 (p.2.map V.int)) ∧ f = []
  | [], vs, f, rs, h, r => by cases h; exact ⟨[], r.1, rfl, (fun _ h => by cases h), r.2⟩
  | d :: ds, vs, f, rs, h, ⟨v, r, f1, f2, ev, p, q, dj, ef⟩ => by
    cases d with
    | tup es =>
      unfold rowsD at h
      split at h
      · rename_i ns rs' h1 h2
        cases h
        obtain ⟨a, us, ea, sa, ra⟩ := p
        obtain ⟨e1, e2⟩ := intsD_rep h1 ra
        obtain ⟨ks, k1, k2, k3, k4⟩ := rowsD_rep h2 q
        subst e1 e2 k4
        refine ⟨(a, ns) :: ks, by rw [ev, ea, k1]; rfl, by rw [← k2]; rfl, fun p hp => ?_, ef⟩
        rcases List.mem_cons.mp hp with rfl | hp
        · exact sa
        · exact k3 p hp
      · cases h
    | _ => cases h
theorem reps_ints {G : Gv} {H : Hp} : ∀ ns : List Int, Reps G H (ns.map D.int) (ns.map V.int) []
  | [] => ⟨rfl, rfl⟩
  | n :: ns => ⟨.int n, ns.map V.int, [], [], rfl, ⟨rfl, rfl⟩, reps_ints ns, djnil, rfl⟩
theorem imms_ints : ∀ ns : List Int, D.imms (ns.map D.int) = true
  | [] => rfl
  | n :: ns => imms_ints ns
theorem reps_rows {G : Gv} {H : Hp} : ∀ {L : List (Addr × List Int)}, (∀ p ∈ L, SqT G.K H p.1 (p.2.map V.int)) → Reps G H ((L.map (·.2)).map tupI) (L.map fun p => V.ref p.1) []
  | [], _ => ⟨rfl, rfl⟩
  | p :: L, h => ⟨.ref p.1, L.map fun p => V.ref p.1, [], [], rfl, ⟨p.1, p.2.map V.int, rfl, h p (List.mem_cons_self ..), reps_ints p.2⟩, reps_rows fun q hq => h q (List.mem_cons_of_mem _ hq), djnil, rfl⟩
theorem imms_rows : ∀ rs : List (List Int), D.imms (rs.map tupI) = true
  | [] => rfl
  | r :: rs => Bool.and_eq_true_iff.mpr ⟨imms_ints r, imms_rows rs⟩
theorem rowOk_bd {n : Nat} {ns : List Int} (h : rowOk n ns = true) : ns.length = n ∧ TS.Bd 1000000 ns := by
  obtain ⟨h1, h2⟩ := Bool.and_eq_true_iff.mp h
  exact ⟨of_decide_eq_true h1, fun m hm => of_decide_eq_true (List.all_eq_true.mp h2 m hm)⟩
theorem de_sortSet {X : Cx} {W : WX} {e : Expr} {c : EC} {p p2 pos q : Pos} (hc : X.calm = true) (hu : X.A.units + 64 < cLine) (hg : Gl X "sorted") (hm : X.mg "sorted" = none) (hg2 : Gl X "set") (hm2 : X.mg "set" = none) (h : DE X W e c)
    (he : starEach [e] X.env = (false, eval e X.env) :: starEach [] X.env := by rfl) (hpl : (backTo q (starEach [] X.env)).any (·.1) = false := by rfl)
    (he2 : starEach [Expr.Call (.Name "set" p2) [e] [] q] X.env = (false, eval (Expr.Call (.Name "set" p2) [e] [] q) X.env) :: starEach [] X.env := by rfl) (hpl2 : (backTo pos (starEach [] X.env)).any (·.1) = false := by rfl) :
    DE X W (.Call (.Name "sorted" p) [.Call (.Name "set" p2) [e] [] q] [] pos) (cSortSet c) :=
  (pe_callB (cr_sortedT hc) hg hm PyProof.Rows.Boot.«sorted» (pa_cons (pe_callTy (cr_setOfT hc hu) hg2 hm2 PyProof.Rows.Boot.«set» (pa_cons h pa_nil he) (by decide) (by decide) he hpl) pa_nil he2) (by decide) (by decide) he2 hpl2).le fun σ H Q ⟨σd, fps, E, qq⟩ => by
    change rdr _ _ _ _ σ H σd fps ((c.run σd).bind sortSetOf) Q at qq
    show rd (gv X) W c σ H _
    refine seqE (r := c.rw) (tf := []) E (fun _ h => h) (fun x σd1 h1 v1 H1 fps1 f1 E1 R1 S1 => ?_) (fun x σd1 h1 => ?_) (fun h1 => ?_)
    · rw [h1] at qq
      have q1 := rdr.push (r2 := c.rw) (R := sortSetOf x σd1) S1 E1 R1.dj (fun _ h => h) (fun _ h => h) qq
      unfold sortSetOf at q1
      split at q1
      · rename_i ds hd
        split at q1
        · rename_i rs hrs
          split at q1
          · rename_i hok
            obtain ⟨h64, hall, hn1⟩ := hok
            obtain ⟨f', ⟨a, vs, f2, ev, sa, rp, _⟩, _⟩ := R1.rep E1 hd
            obtain ⟨ks, k1, k2, k3, k4⟩ := rowsD_rep hrs rp
            subst ev k1 k2
            have hrow : ∀ p ∈ ks, p.2.length = ((ks.map (·.2)).headD []).length ∧ TS.Bd 1000000 p.2 := fun p hp => rowOk_bd (List.all_eq_true.mp hall p.2 (List.mem_map.mpr ⟨p, hp, rfl⟩))
            refine ⟨a, ks, rfl, .inl (.inl sa), k3, by simpa using h64, fun sa' L nS hL1 hL2 => ?_⟩
            have kS : Keep (fun _ => False) H1 (upd H1 sa' (SetTO X.prog X.w sa' L)) := keepF nS
            have hd0 : ∀ p ∈ L, p.2.length = max 1 ((ks.map (·.2)).headD []).length ∧ TS.Bd 1000000 p.2 := fun p hp => by
              have hp' := hL1 p hp
              obtain ⟨l1, l2⟩ := hrow p hp'
              refine ⟨?_, l2⟩
              have : ks ≠ [] := fun z => by rw [z] at hp'; cases hp'
              have hh : ((ks.map (·.2)).headD []).length ≥ 1 := by
                cases ks with
                | nil => exact absurd rfl this
                | cons k0 ks' => simpa using hn1
              omega
            refine ⟨sa', L, max 1 ((ks.map (·.2)).headD []).length, 1000000, rfl, upd_same, fun p hp => SqT.keep kS (k3 p (hL1 p hp)), Nat.le_max_left _ _, hd0, fun L' pn hperm hnd hl64 hpw npn => ?_⟩
            have kN : Keep (fun _ => False) (upd H1 sa' (SetTO X.prog X.w sa' L)) (upd (upd H1 sa' (SetTO X.prog X.w sa' L)) pn (.lst (L'.map fun q => V.ref q.1))) := keepF npn
            have kA : Keep (fun _ => False) H1 (upd (upd H1 sa' (SetTO X.prog X.w sa' L)) pn (.lst (L'.map fun q => V.ref q.1))) := kS.trans0 kN
            have hmem' : ∀ p ∈ L', p ∈ L := fun p hp => hperm.mem_iff.mp hp
            have esort : L'.map (·.2) = sortU (ks.map (·.2)) := by
              refine srtI_eq ?_ (sortU_srt (n := ((ks.map (·.2)).headD []).length) fun y hy => ?_) fun z => ?_
              · have hp2 : (L'.map (·.2)).Pairwise fun x y => TS.code 1000000 x ≤ TS.code 1000000 y := List.pairwise_map.mpr hpw
                have hp3 : (L'.map (·.2)).Pairwise fun x y => x ≠ y := hnd
                have hp4 := List.pairwise_and_iff.mpr ⟨hp2, hp3⟩
                refine List.Pairwise.imp_of_mem (fun {x y} hx hy hxy => ?_) hp4
                obtain ⟨px, hpx, rfl⟩ := List.mem_map.mp hx
                obtain ⟨py, hpy, rfl⟩ := List.mem_map.mp hy
                obtain ⟨l1, b1⟩ := hd0 px (hmem' px hpx)
                obtain ⟨l2, b2⟩ := hd0 py (hmem' py hpy)
                have hl : px.2.length = py.2.length := l1.trans l2.symm
                rcases ltI_tri hl with h | h | h
                · exact h
                · exact absurd h hxy.2
                · have := (ltI_code hl.symm b2 b1).mp h
                  have := hxy.1
                  omega
              · obtain ⟨p, hp, rfl⟩ := List.mem_map.mp hy
                exact (hrow p hp).1
              · rw [sortU_mem]
                constructor
                · intro hz
                  obtain ⟨p, hp, rfl⟩ := List.mem_map.mp hz
                  exact List.mem_map.mpr ⟨p, hL1 p (hmem' p hp), rfl⟩
                · intro hz
                  obtain ⟨p, hp, rfl⟩ := List.mem_map.mp hz
                  obtain ⟨q, hq, eq⟩ := List.mem_map.mp (hL2 p hp)
                  exact List.mem_map.mpr ⟨q, hperm.mem_iff.mpr hq, eq⟩
            have n1 : H1 pn = none := by
              cases hb : H1 pn with
              | none => rfl
              | some o => exact absurd npn (kS.dom' hb (.inl fun z => z))
            have fin : Rep (gv X) (upd (upd H1 sa' (SetTO X.prog X.w sa' L)) pn (.lst (L'.map fun q => V.ref q.1))) (.lst ((sortU (ks.map (·.2))).map tupI)) (.ref pn) [pn] := by
              rw [← esort]
              exact new_lst (imms_rows _) (reps_rows fun p hp => SqT.keep kS (k3 p (hL1 p (hmem' p hp)))) npn
            exact fin_new E1 q1 kA fin (fr1 n1)
          · exact q1.elim
        · exact q1.elim
      · exact q1.elim
    · rw [h1] at qq; exact qq
    · rw [h1] at qq; exact qq
end A2
end S_A2u
section S_A2v
set_option Elab.async false
set_option linter.all false
set_option maxRecDepth 100000
set_option maxHeartbeats 4000000
open PySem PySem.Spec L2
open PyProof.Rows hiding St
namespace A2
/-! ## defs by name -/
def fdO (K : PySem.W.Frag) (f : Addr) : Option FuncData := match K.lookup f with
  | some ⟨_, _, .func fd, _⟩ => some fd
  | _ => none
structure FnAt (P : Program) (w : World) (K : PySem.W.Frag) (mg : Str → Option Value) (base : Heap) (k : Nat) (x : Str) (ps : List Str) (fn : FnC) : Prop where
  ex : ∃ f fd, FnOk P w K mg base (L2.CX P w) k f fd ps (spF ⟨K, mg, tabsOf K⟩ fn) ∧ mg x = some (.ref f) ∧ PySem.W.keepIn K (.ref f) = true ∧ L2.Binds K fd ps [] ∧ fdO K f = some fd
/-- where the top has written a def -/
def TopF (K : PySem.W.Frag) (mg : Str → Option Value) (x : Str) (st : Stmt) : Prop := ∃ f fd, Fun K x x st f fd ∧ mg x = some (.ref f)
section
variable {P : Program} {w : World} {K : PySem.W.Frag} {mg : Str → Option Value} {base : Heap}
theorem fnAt_ok {x : Str} {st : Stmt} {N ps : List Str} {k n m : Nat} {b : SC} (hn : ps.length = n) (hm : N.length = m) (F : TopF K mg x st) (S : FnScope N ps (defScope st)) (hsub : subB b.asg b.rw = true)
    (hbind : ∀ (kV doc pm : Value) (an : Option Addr) (cdv ct : Value) (us : List Value), us.length = ps.length → bindArgs (PySem.W.fnOf x x (defArgs st) (defBody st) (defScope st) .none kV doc pm an cdv ct) ⟨us, []⟩ = pure (ps.zip us))
    (hbody : ∀ (f : Addr) (cdv : Value) (A : Around) (outer : List Env) (s : Shared) (H : Hp) (E : XK), Room k (A.deeper (envOfC x (defScope st) s.heap.objs.size f cdv)) →
      Takes (cxOf (L2.CX P w) P w K mg base N x (defScope st) f cdv A outer s H E) (fun cls d _ H => E cls d H) →
      DSs (cxOf (L2.CX P w) P w K mg base N x (defScope st) f cdv A outer s H E) (fun cls d _ H => E cls d H) (defBody st) b) : FnAt P w K mg base (k + 1) x ps (fnOf n m b) := by
  subst hn hm
  obtain ⟨f, fd, F, m⟩ := F
  refine ⟨f, fd, fn_ok F S hsub (fun cdv _ => hbody f cdv), m, F.kp, F.binds hbind, ?_⟩
  obtain ⟨_, _, _, _, _, _, _, _, _, _, lk, _⟩ := F.ex
  unfold fdO
  rw [lk]
end
section
variable {X : Cx} {W : WX} {k j : Nat} {ps : List Str} {x : Str} {p pos : Pos} {e : Expr} {es : List Expr} {a : AC} {fn : FnC}
theorem de_callA (lw : List Nat) (F : FnAt X.prog X.w X.K X.mg X.base k x ps fn) (tk : Takes X W) (hr : Room j X.A) (ha : DA X W (e :: es) a) (hj : k ≤ j := by decide) (hg : Gl X x := by rfl)
    (hdb : (x == ("__debug__" : Str)) = false := by decide) (he : starEach (e :: es) X.env = (false, eval e X.env) :: starEach es X.env := by rfl) (hpl : (backTo pos (starEach es X.env)).any (·.1) = false := by rfl) :
    DE X W (.Call (.Name x p) (e :: es) [] pos) (cCall fn lw a) := by
  obtain ⟨f, fd, F, m, kp, b, _⟩ := F.ex
  exact de_call lw F tk (hr.mono hj) hg m kp b ha hdb he hpl
theorem de_gint {i : Int} (hm : ∃ t, X.mg x = some (.int i t)) (hg : Gl X x := by rfl) (hd : (x == ("__debug__" : Str)) = false := by decide) : DE X W (.Name x pos) (cK (.int i)) := by
  obtain ⟨t, hm⟩ := hm
  exact de_glob (v := .int i) hg hm ⟨t, rfl⟩ (fun _ => ⟨rfl, rfl⟩) hd
theorem de_gstr {i : Str} (hm : ∃ t, X.mg x = some (.str i t)) (hg : Gl X x := by rfl) (hd : (x == ("__debug__" : Str)) = false := by decide) : DE X W (.Name x pos) (cK (.str i)) := by
  obtain ⟨t, hm⟩ := hm
  exact de_glob (v := .str i) hg hm ⟨t, rfl⟩ (fun _ => ⟨rfl, rfl⟩) hd
end
/-- the law's own def, whatever the base -/
theorem fnAt_one {P : Program} {w : World} {K : PySem.W.Frag} {mg : Str → Option Value} {base : Heap} {k : Nat} {x : Str} {ps : List Str} {fn : FnC} {st : Stmt} {f : Addr} {fd : FuncData} (A : FnAt P w K mg base k x ps fn) (F : Fun K x x st f fd) (m : mg x = some (.ref f)) :
    FnOk P w K mg base (L2.CX P w) k f fd ps (spF ⟨K, mg, tabsOf K⟩ fn) := by
  obtain ⟨f', fd', F', m', _, _, e⟩ := A.ex
  rw [m] at m'
  cases m'
  obtain ⟨_, _, _, _, _, _, _, _, _, _, lk, _⟩ := F.ex
  unfold fdO at e
  rw [lk] at e
  cases e
  exact F'
/-! ## the classes of errors -/
/-- CallError (its __init__ says super().__init__(code); self.code = code), and a class under it -/
structure ErrC (P : Program) (w : World) (K : PySem.W.Frag) (mg : Str → Option Value) (base : Heap) (D fI : Addr) : Prop where
  fd : ∃ fd, FnOk P w K mg base (L2.CX P w) 1 fI fd ["self", "code"] (spInit K D fI) ∧ L2.Binds K fd ["self", "code"] []
  ty : PySem.W.typeIn K (.ref fI) = some (.type "function")
structure ErrS (K : PySem.W.Frag) (mg : Str → Option Value) (D fI : Addr) (x : Str) : Prop where
  ex : ∃ C, SubC K D fI C ∧ mg x = some (.ref C) ∧ XfC K C ∧ PySem.W.exmOne K (.ref C) (.ref C) = some true
theorem ds_raiseA {X : Cx} {W : WX} {x : Str} {e : Expr} {c : EC} {p pos pos' : Pos} {D fI : Addr} {j : Nat} (T : ErrC X.prog X.w X.K X.mg X.base D fI) (S : ErrS X.K X.mg D fI x) (tk : Takes X W) (hr : Room j X.A) (h : DE X W e c) (hj : 2 ≤ j := by decide) (hc : X.calm = true := by rfl) (hg : Gl X x := by rfl)
    (hdb : (x == ("__debug__" : Str)) = false := by decide) (he : starEach [e] X.env = (false, eval e X.env) :: starEach [] X.env := by rfl) (hpl : (backTo pos (starEach [] X.env)).any (·.1) = false := by rfl) :
    DS X W (.Raise (some (.Call (.Name x p) [e] [] pos)) none pos') (sRaise x c) := by
  obtain ⟨fd, F, b⟩ := T.fd
  obtain ⟨C, SC, m, _⟩ := S.ex
  exact ds_raise SC T.ty F (hr.mono hj) b hc tk hg m h hdb he hpl
theorem ds_tryA {K : PySem.W.Frag} {mg : Str → Option Value} {D fI : Addr} {x : Str} {G : Prop} (S : ErrS K mg D fI x) (k : ∀ C, mg x = some (.ref C) → PySem.W.exmOne K (.ref C) (.ref C) = some true → XfC K C → PySem.W.findIn K (.ref C) "code" = some none → G) : G := by
  obtain ⟨C, SC, m, xf, ex⟩ := S.ex
  exact k C m ex xf SC.fld
/-! ## the end: the law's promise -/
theorem ints_flst {G : Gv} {H : Hp} {a : Addr} {ns : List Int} (hO : Only H) (hK : ∀ o, G.K.lookup a = some o → o.cls ≠ .type "list") (hS : SqL G.K H a (ns.map V.int)) : Rep G H (.flst (ns.map .int)) (.ref a) [] := by
  rcases hS with (h | ⟨o, h⟩) | ⟨o, its, n, h1, h2, _⟩
  · rcases hO a with z | ⟨o, xs, z⟩
    · rw [h] at z; cases z
    · rw [h] at z; cases z
  · exact ⟨a, o, _, rfl, h, reps_ints ns, rfl⟩
  · exact absurd h2 (hK o h1)
theorem law_sp {G : Gv} {H : Hp} {a : Addr} {ns : List Int} {fn : FnC} {outs : DSt} (hO : Only H) (hK : ∀ o, G.K.lookup a = some o → o.cls ≠ .type "list") (hS : SqL G.K H a (ns.map V.int)) (tb : Tbs G H) (hn : fn.n = 1) (hr : fn.run [.flst (ns.map .int)] = .ok (.bl true) outs) :
    spF G fn [.ref a] H (fun v _ => v = .bl true) fun _ _ _ => False := by
  refine ⟨hn.symm, [.flst (ns.map .int)], fun _ => [], ⟨rfl, fun i d e => ?_, fun _ _ _ => djnil, fun _ _ => rfl, tb⟩, ?_⟩
  · cases i with
    | zero => cases (show some _ = some (some d) from e); exact ⟨.ref a, rfl, ints_flst hO hK hS⟩
    | succ i => simp at e
  · unfold crd
    rw [hr]
    intro v H' fc g E rp _ _
    exact rp.1
theorem cx_none {P : Program} {w : World} {H : Hp} {s : Shared} {e : Value} {s' : Shared} (h : L2.CX P w [] H s (fun _ _ _ => False) e s') : False := by
  obtain ⟨_, _, _, _, _, _, _, _, _, _, _, _, z⟩ := h
  exact z
end A2
end S_A2v
section S_A2w
set_option Elab.async false
set_option linter.all false
set_option maxRecDepth 100000
set_option maxHeartbeats 4000000
open PySem PySem.Spec L2
open PyProof.Rows hiding St
open PySem.W (Frag nsIn findIn clsIn mroIn subIn alongIn typeIn keepIn codeIn hasDictIn exmOne)
namespace A2
/-! ## what the top leaves, asked by one kernel run -/
abbrev IniV : Type := Option (Str × Str × Arguments × FuncBody × Scope × Addr × List Str × Value × Addr)
def iniObs (f : Addr) (K : Frag) : IniV := match K.lookup f with
  | some ⟨_, _, .func fd, _⟩ => some (fd.name, fd.qualname, fd.params, fd.body, fd.scope, fd.globals, fd.closure.map (·.1), fd.defaults, fd.builtins)
  | _ => none
structure HeadD where
  n : Nat
  fa : List He.Fa
  fn : List He.FnD
  bx : Frag → Bool
  io : Frag → Addr
  iv : IniV
def HeadD.ob (d : HeadD) (K : Frag) : He.Al × Bool × IniV := (He.obsE d.fa d.fn K, d.bx K, iniObs (d.io K) K)
def HeadD.val (d : HeadD) : He.Al × Bool × IniV := (He.valE d.fn, true, d.iv)
def cloG (g : Addr → Option Obj) (as : List Addr) : List Addr := as.flatMap fun a => match g a with
  | some ⟨_, _, .func fd, _⟩ => fd.closure.map (·.2)
  | _ => []
def HeadD.fr (d : HeadD) (g : Addr → Option Obj) : Frag := He.frG g (He.asG g d.n ++ (cloG g (He.asG g d.n) ++ [cStatics]))
def HeadD.hook (d : HeadD) : PySem.W.Hook where
  α := He.Al × Bool × IniV
  obs := fun s => d.ob (d.fr s.heap.get?)
  val := fun _ => d.val
  says := fun _ h => ∃ K : Frag, K.In h ∧ d.ob K = d.val
  of := fun _ _ e => ⟨_, He.frG_in, e⟩
  keeps := fun _ _ _ ⟨K, hK, c⟩ k => ⟨K, PySem.W.Frag.In.keeps hK k, c⟩
def HeadD.obT (d : HeadD) (s : PySem.W.SharedT) : He.Al × Bool × IniV := d.ob (d.fr (HandSHeadRun.getT s))
theorem HeadD.ob_eq (d : HeadD) (s : PySem.W.SharedT) : d.obT s = d.hook.obs s.abs := by
  have e : HandSHeadRun.getT s = s.abs.heap.get? := funext fun a => HandSHeadRun.getT_eq s a
  unfold HeadD.obT
  rw [e]
  rfl
section
variable {d : HeadD} {K : Frag} {mg : Str → Option Value} {h base : Heap} {P : Program} {w : World}
theorem HeadD.says (c : d.ob K = d.val) : He.SaysE d.fa d.fn K := congrArg (fun z : He.Al × Bool × IniV => z.1) c
theorem HeadD.bxOk (c : d.ob K = d.val) : d.bx K = true := congrArg (fun z : He.Al × Bool × IniV => z.2.1) c
theorem HeadD.ini (c : d.ob K = d.val) : iniObs (d.io K) K = d.iv := congrArg (fun z : He.Al × Bool × IniV => z.2.2) c
def dfn (x : Str) (st : Stmt) : He.FnD := ⟨(x, none), x, x, defArgs st, defBody st, defScope st⟩
theorem top_of (X : K.In h) (G : h.Ns mainGlobals mg) (c : d.ob K = d.val) {x : Str} {st : Stmt} (i j k : Nat) (h1 : d.fa[i]? = some (.glo x) := by rfl) (h2 : d.fa[j]? = some (.keep x) := by rfl) (h3 : d.fn[k]? = some (dfn x st) := by rfl) : TopF K mg x st := by
  have c1 := HeadD.says c
  obtain ⟨oc, od, osl, kV, doc, pm, an, cdv, ct, l, cd⟩ := c1.def_ k h3
  exact ⟨_, _, fun_mk (st := st) l cd (He.keep_ok (c1.fact j h2)), He.glo_ok X G (c1.fact i h1)⟩
theorem free_of (X : K.In h) (G : h.Ns mainGlobals mg) (c : d.ob K = d.val) {x : Str} (i : Nat) (h1 : d.fa[i]? = some (.free x) := by rfl) : mg x = none := He.free_ok X G ((HeadD.says c).fact i h1)
theorem int_of (X : K.In h) (G : h.Ns mainGlobals mg) (c : d.ob K = d.val) {x : Str} {n : Int} (i : Nat) (h1 : d.fa[i]? = some (.int x n) := by rfl) : ∃ t, mg x = some (.int n t) := He.int_ok X G ((HeadD.says c).fact i h1)
theorem str_of (X : K.In h) (G : h.Ns mainGlobals mg) (c : d.ob K = d.val) {x n : Str} (i : Nat) (h1 : d.fa[i]? = some (.str x n) := by rfl) : ∃ t, mg x = some (.str n t) := He.str_ok X G ((HeadD.says c).fact i h1)
/-- no list among what the top's names reach -/
def noList (K : Frag) : Bool := K.all fun p => match p.2.cls with
  | .type T => T != "list"
  | _ => true
theorem lookup_mem' {K : Frag} {a : Addr} {o : Obj} (h : K.lookup a = some o) : ∃ b, (b, o) ∈ K := by
  induction K with
  | nil => cases h
  | cons p r ih =>
    obtain ⟨b, u⟩ := p
    rw [List.lookup_cons] at h
    split at h
    · cases h
      exact ⟨b, List.mem_cons_self ..⟩
    · obtain ⟨c, hc⟩ := ih h
      exact ⟨c, List.mem_cons_of_mem _ hc⟩
theorem noList_ok (h : noList K = true) {a : Addr} {o : Obj} (e : K.lookup a = some o) : o.cls ≠ .type "list" := fun z => by
  obtain ⟨b, hb⟩ := lookup_mem' e
  have := List.all_eq_true.mp h _ hb
  dsimp only at this
  rw [z] at this
  exact absurd this (by decide)
/-! ### the errors' classes -/
def oexB (K : Frag) (C : Addr) : Bool := match K.lookup C with
  | some ⟨.type "type", _, .cls cd, sl⟩ => (match cd.mro, sl.toList with
    | .ref C' :: bm, [_, _, _, _, some (.builtin n), _] => C' == C && (n == "ValueError.__new__" && (!cd.hasDel && (cd.hasDict && PySem.HandSPX.refsVE bm)))
    | _, _ => false)
  | _ => false
theorem oexB_ok {C : Addr} (q : oexB K C = true) : ∃ nm qn N bs bm sn sub ab col dd k0 k1 k2 k3 k5, K.lookup C = some (excClassObj nm qn C N bs bm true sn sub ab col dd k0 k1 k2 k3 k5 "ValueError.__new__") ∧ PySem.HandSPX.refsVE bm = true := by
  unfold oexB at q
  split at q
  · rename_i dd cd sl ho
    split at q
    · rename_i C' bm k0 k1 k2 k3 n k5 hm hs
      simp only [Bool.and_eq_true, beq_iff_eq, Bool.not_eq_true'] at q
      obtain ⟨rfl, rfl, hdel, hdict, ht⟩ := q
      obtain ⟨nm, bs, mro, ns, qn, hd, sn, sub, ab, col, del⟩ := cd
      dsimp only at hm hdel hdict
      subst hm hdel hdict
      have hsl : sl = #[k0, k1, k2, k3, some (.builtin "ValueError.__new__"), k5] := by
        obtain ⟨l⟩ := sl
        simp only at hs
        rw [hs]
      subst hsl
      exact ⟨nm, qn, ns, bs, bm, sn, sub, ab, col, dd, k0, k1, k2, k3, k5, ho, ht⟩
    · cases q
  · cases q
def oneB (a : Option (Option Value)) (v : Option Value) : Bool := decide (a = some v)
/-- of a class at C under the one at D, whose __init__ is at f -/
def subB' (K : Frag) (D f C : Addr) : Bool :=
  oexB K C && (oneB (findIn K (.ref C) "__setattr__") (some (.builtin "object.__setattr__")) && (decide (subIn K (.ref C) (.type "BaseException") = some true) && (decide (typeIn K (.ref C) = some (.type "type")) && (keepIn K (.ref C) &&
  (oneB (findIn K (.ref C) "__init__") (some (.ref f)) && (decide (mroIn K C (.ref D) = some true) && ((match clsIn K C with
    | some cd => oneB (alongIn K "__init__" ((cd.mro.dropWhile (· != .ref D)).drop 1)) (some (.builtin "ValueError.__init__"))
    | none => false) && (decide (subIn K (.ref C) (.type "ValueError") = some true) && (oneB (findIn K (.ref C) "code") none && (xfB K C && decide (exmOne K (.ref C) (.ref C) = some true)))))))))))
theorem subB'_ok {D f C : Addr} (q : subB' K D f C = true) : SubC K D f C ∧ XfC K C ∧ exmOne K (.ref C) (.ref C) = some true := by
  unfold subB' oneB at q
  simp only [Bool.and_eq_true, decide_eq_true_eq] at q
  obtain ⟨q1, q2, q3, q4, q5, q6, q7, q8, q9, q10, q11, q12⟩ := q
  refine ⟨⟨⟨oexB_ok q1, q2, q3, q4, q5⟩, q6, q7, ?_, q9, q10⟩, xfB_ok q11, q12⟩
  split at q8
  · rename_i cd hcd
    exact ⟨cd, hcd, of_decide_eq_true q8⟩
  · cases q8
def fileB (P : Program) : Option Value → Bool
  | some (.str file _) => ((P.main.file : Str) == file)
  | _ => false
theorem fileB_ok {P : Program} {v : Option Value} (h : fileB P v = true) : ∃ file tf, v = some (.str file tf) ∧ ((P.main.file : Str) == file) = true := by
  unfold fileB at h
  split at h
  · exact ⟨_, _, rfl, h⟩
  · cases h
def iniVal (q : Str) (pr : Arguments) (b : List Stmt) (sc : Scope) : IniV := some ("__init__", q, pr, FuncBody.stmts b, sc, mainGlobals, ["__class__"], Value.none, builtinsNs)
/-- of the class at D and its __init__ at f -/
def iniB (P : Program) (K : Frag) (D f : Addr) (q : Str) : Bool := match K.lookup f with
  | some ⟨_, _, .func fd, _⟩ => (match fd.closure with
    | [(_, cc)] => (match K.lookup cc with
      | some ⟨_, _, .cell (some (.ref d)), _⟩ => d == D
      | _ => false)
    | _ => false) && ((match fd.code with
    | .ref cda => codeIn K (.ref cda) q && (match K.lookup cda with
      | some ⟨_, _, .fields vs, _⟩ => fileB P (vs[2]?)
      | _ => false)
    | _ => false) && ((clsIn K D).isSome && (decide (nsIn K cStatics "thirdparty.any" = some none) && decide (typeIn K (.ref f) = some (.type "function")))))
  | _ => false
theorem iniC_of (X : K.In h) (G : h.Ns mainGlobals mg) {D f : Addr} {q : Str} {pr : Arguments} {sc : Scope} {b : List Stmt} (h1 : iniB P K D f q = true) (h2 : iniObs f K = iniVal q pr b sc)
    (hs : mg "super" = none) (ht : (P.main.scope.names.lookup ("super" : Str)).isSome = false) : ∃ cda cc fd, InitC P K mg D f fd q pr sc cda cc b ∧ typeIn K (.ref f) = some (.type "function") ∧ fd.defaults = .none := by
  unfold iniB at h1
  unfold iniObs at h2
  split at h1
  · rename_i oc od fd osl lk
    rw [lk] at h2
    unfold iniVal at h2
    dsimp only at h2
    obtain ⟨n1, n2, n3, n4, n5, n6, n7, n8, n9, n10, n11, n12, n13, n14, n15⟩ := fd
    simp only [Option.some.injEq, Prod.mk.injEq] at h2
    obtain ⟨e1, e2, e3, e4, e5, e6, e7, e8, e9⟩ := h2
    subst e1 e2 e3 e4 e5 e6 e8 e9
    simp only [Bool.and_eq_true, decide_eq_true_eq] at h1
    obtain ⟨g1, g2, g3, g4, g5⟩ := h1
    split at g1
    · rename_i _ nm cc
      split at g1
      · rename_i cl cld dd csl hcc
        have ed : dd = D := eq_of_beq g1
        subst ed
        have en : nm = ("__class__" : Str) := by simpa using e7
        subst en
        split at g2
        · rename_i _ cda
          obtain ⟨g2a, g2b⟩ := Bool.and_eq_true_iff.mp g2
          split at g2b
          · rename_i ccl cdd vs ccs hk
            obtain ⟨file, tf, hv, hf⟩ := fileB_ok g2b
            obtain ⟨cd, hcd⟩ := Option.isSome_iff_exists.mp g3
            exact ⟨cda, cc, _, ⟨⟨oc, od, osl, _, _, _, _, _, _, lk, rfl⟩, g2a, ⟨_, _, _, _, _, _, hk, hv, hf⟩, ⟨_, _, _, hcc⟩, ⟨cd, hcd⟩, hs, ht, g4⟩, g5, rfl⟩
          · cases g2b
        · cases g2
      · cases g1
    · cases g1
  · cases h1
/-- the end, what the law's def may let out hanging on the world -/
theorem walk_ofW {l : PySem.W.OpenLaw} {n k : Nat} {q : Program} {loose : List Str} {XP : (Str → Option Value) → Heap → Prop} {YP : World → Heap → Prop} {dr : DefRec} {x : Str}
    (hn : l.most = some n) (hn2 : n ≤ sizeLine) (hdf : dr.params.defaults = []) (hr : Room k callerA)
    (F : ∀ (w : World) (mg : Str → Option Value) (fa : Addr) (h : Heap), YP w h → h.Ns mainGlobals mg → mg dr.name = some (.ref fa) →
      ∃ (K : Frag) (fd : FuncData) (sp : Sp), K.In h ∧ (∀ (s : Shared) (u : Value), BindsTo s fd ⟨[u], []⟩ [(x, u)]) ∧
        (∀ (H : Hp) (a : Addr) (ns : List Int), ns.length ≤ n → Only H → SqL K H a (ns.map V.int) → sp [.ref a] H (fun v _ => v = .bl true) fun _ _ _ => False) ∧
        ∀ base : Heap, K.In base → base.Ns mainGlobals mg → FnOk l.prog w K mg base (L2.CX l.prog w) k fa fd [x] sp) :
    PySem.W.WalkO q loose XP YP l.row.toRowW dr [] (fun f vs => PySem.call f vs) := by
  refine Att.attach_call hn hdf fun w s₀ s₁ mg mb fa o pm cd doc a vs ns G Y ho hd hcd hmg hobj hints hlen hg => ?_
  obtain ⟨K, fd, sp, KX, hb, hsp, hF⟩ := F w mg fa _ Y G.T.g hmg
  exact law_call KX G.T.g G.T.b G.T.builtins G.T.nolimit hg hobj hints (Nat.le_trans hlen hn2) hr hF hb (fun H hO hS => hsp H a ns hlen hO hS) fun H e s' z => cx_none z
end
end A2
end S_A2w
section S_A4a
set_option Elab.async false
set_option linter.all false
set_option maxRecDepth 100000
set_option maxHeartbeats 4000000
open PySem PySem.Spec L2
open PyProof.Rows hiding St
namespace A2
/-! ## fields of instances -/
theorem lookFV_eq : ∀ {ws : List (Str × V)} {f : Str}, lookFV ws f = ws.lookup f
  | [], f => rfl
  | (k, v) :: r, f => by
    unfold lookFV
    rw [List.lookup_cons]
    by_cases h : k = f
    · subst h
      simp
    · rw [if_neg h, show (f == k) = false from beq_eq_false_iff_ne.mpr (Ne.symm h)]
      exact lookFV_eq
theorem RepF.len {G : Gv} {H : Hp} : ∀ {ds : List (Str × D)} {ws : List (Str × V)} {fp : List Addr}, RepF G H ds ws fp → ws.length = ds.length
  | [], _, _, h => by rw [h.1]; rfl
  | (_, d) :: ds, ws, fp, ⟨v, r, f1, f2, e, p, q, dj, ef⟩ => by
    subst e
    simp [RepF.len q]
theorem RepF.none {G : Gv} {H : Hp} : ∀ {ds : List (Str × D)} {ws : List (Str × V)} {fp : List Addr} {f : Str}, RepF G H ds ws fp → lookF ds f = none → ws.lookup f = none
  | [], _, _, f, h, _ => by rw [h.1]; rfl
  | (k, d) :: ds, ws, fp, f, ⟨v, r, f1, f2, e, p, q, dj, ef⟩, hl => by
    subst e
    unfold lookF at hl
    split at hl
    · cases hl
    · rename_i h
      rw [List.lookup_cons, show (f == k) = false from beq_eq_false_iff_ne.mpr (Ne.symm h)]
      exact RepF.none q hl
theorem RepF.put {G : Gv} {H : Hp} {k : Str} {d : D} {v : V} {f : List Addr} (q : Rep G H d v f) : ∀ {ds : List (Str × D)} {us : List (Str × V)} {fp : List Addr}, RepF G H ds us fp → Dj fp f → ∃ fp', RepF G H (setF ds k d) (putF k v us) fp' ∧ ∀ a ∈ fp', a ∈ fp ∨ a ∈ f
  | [], us, fp, r, dj => by
    rw [r.1]
    exact ⟨f, ⟨v, [], f, [], rfl, q, ⟨rfl, rfl⟩, fun a _ z => (nomatch z), (List.append_nil f).symm⟩, fun a h => .inr h⟩
  | (k0, d0) :: ds, us, fp, ⟨w, t, f1, f2, ev, p, rs, d12, ef⟩, dj => by
    subst ev ef
    by_cases h : k0 = k
    · subst h
      refine ⟨f ++ f2, ?_, fun a h => (List.mem_append.mp h).elim .inr fun z => .inl (List.mem_append_right _ z)⟩
      unfold setF putF
      rw [if_pos rfl, if_pos rfl]
      exact ⟨v, t, f, f2, rfl, q, rs, fun a h z => dj a (List.mem_append_right _ z) h, rfl⟩
    · obtain ⟨fp', r', s'⟩ := RepF.put (k := k) q rs (fun a h => dj a (List.mem_append_right _ h))
      refine ⟨f1 ++ fp', ?_, fun a h => ?_⟩
      · unfold setF putF
        rw [if_neg h, if_neg h]
        refine ⟨w, _, f1, fp', rfl, p, r', fun a h z => ?_, rfl⟩
        rcases s' a z with z | z
        · exact d12 a h z
        · exact dj a (List.mem_append_left _ h) z
      · rcases List.mem_append.mp h with h | h
        · exact .inl (List.mem_append_left _ h)
        · exact (s' a h).imp (List.mem_append_right _) id
/-- the program's own classes cs, and names fs that are no attribute of theirs -/
structure ClsA (K : PySem.W.Frag) (mg : Str → Option Value) (cs fs : List Str) : Prop where
  ok : ∀ c ∈ cs, ∃ C, mg c = some (.ref C) ∧ Cls K C ∧ ∀ f ∈ fs, NoAttr K C f
def fldOf (cs : List Str) (f : Str) (x : RV) (σd : DSt) : Res RV := match x.get σd with
  | some (.ins c ws) => if c ∈ cs then (match lookF ws f with
    | some d => itemOf x (.fl f) d σd
    | none => .bad) else .bad
  | _ => .bad
def cFld (cs : List Str) (f : Str) (c : EC) : EC := ⟨fun σd => (c.run σd).bind (fldOf cs f), c.rw⟩
section
variable {G : Gv} {W : WX} {H H1 H2 H' : Hp} {σd σd1 σd2 σd' : DSt} {σ σ1 σ' : L2.St} {fps fps1 fps2 fps' : Nat → List Addr} {r r1 r2 a0 a1 a2 vs : List Nat} {tf tf' e1 e2 ex : List Addr} {D : Ends}
theorem fld_rd {cs fs : List Str} {f : Str} {c : EC} {Q : VK} (T : ClsA G.K G.mg cs fs) (hf : f ∈ fs) (h : rd G W (cFld cs f c) σ H Q) : tFld G.K (rd G W c) f σ H Q := by
  obtain ⟨σd, fps, E, q⟩ := h
  refine rd_one (r := c.rw) (tf := []) (f := fldOf cs f) E (fun _ h => h) q (fun x σd1 v H1 fps1 f1 E1 R1 S1 k => ?_) (fun _ => djnil) (fun _ h => nomatch h)
  have q1 := k c.rw (fun _ h => h)
  unfold fldOf at q1
  split at q1
  · rename_i cn ws hg
    split at q1
    · rename_i hc
      split at q1
      · rename_i d hd
        obtain ⟨g1, ⟨a, C, dx, us, f0, ev, em, s, rs, na, ef⟩, t1⟩ := Rep.sub_of_tmp R1 hg E1
        obtain ⟨C', em', cl, nf⟩ := T.ok cn hc
        rw [em] at em'
        cases em'
        obtain ⟨w, fL, fM, fR, l1, rw', e3, _⟩ := RepF.focus ws us f0 f d rs hd
        refine ⟨a, C, dx, us, w, ev, s, cl, nf f hf, by rw [← lookFV_eq]; exact l1, ?_⟩
        refine part_end (st := .fl f) E1 R1 rw' (fun d0 z b h => ?_) (fun s' p z => ⟨a, C, dx, us, w, ev, s, l1, rfl⟩) q1
        rw [← t1 d0 z, ef, e3]
        exact List.mem_cons_of_mem _ (List.mem_append_right _ (List.mem_append_left _ h))
      · exact q1.elim
    · exact q1.elim
  · exact q1.elim
end
section
variable {X : Cx} {W : WX} {e : Expr} {c : EC} {pos : Pos} {f : Str} {cs fs : List Str}
theorem de_fld (T : ClsA X.K X.mg cs fs) (he : DE X W e c) (hf : f ∈ fs := by decide) (hb : attributeBase e f X.env (eval e X.env) = eval e X.env := by rfl) : DE X W (.Attribute e f pos) (cFld cs f c) :=
  (pe_fld he hb).le fun _ _ _ h => fld_rd T hf h
end
/-! ### o.f = e -/
def storeF (s : Nat) (cs : List Str) (f : Str) (x y : RV) (σd : DSt) : Option DSt := match x, y with
  | .tmp d, .plc s' p => if s' = s then (match σd[s]? with
    | some (some d0) => (match getP d0 p with
      | some (.ins c ws) => if c ∈ cs ∧ ws.length < 1000 then some (σd.set s (some (setP d0 p (.ins c (setF ws f d))))) else none
      | _ => none)
    | _ => none) else none
  | _, _ => none
def sSetF (s : Nat) (cs : List Str) (f : Str) (o c : EC) : SC := ⟨fun σd => bindS (c.run σd) fun x σ1 => bindS (o.run σ1) fun y σ2 => (match storeF s cs f x y σ2 with
  | some σ' => .nx σ'
  | none => .bad), c.rw ++ (o.rw ++ [s]), []⟩
section
variable {G : Gv} {W : WX} {H H1 H2 H' : Hp} {σd σd1 σd2 σd' : DSt} {σ σ1 σ' : L2.St} {fps fps1 fps2 fps' : Nat → List Addr} {r r1 r2 a0 a1 a2 vs : List Nat} {tf tf' e1 e2 ex : List Addr} {D : Ends}
theorem storeF_end {s : Nat} {cs fs : List Str} {f : Str} {x y : RV} {vx vy : V} {fx fy : List Addr} {rr aa : List Nat} (T : ClsA G.K G.mg cs fs) (hf : f ∈ fs) (hs : s ∈ rr) (E : EnvR G H σd σ fps) (Rx : RvR G H σ fps x vx fx) (Ry : RvR G H σ fps y vy fy) (hx : ∀ a ∈ fx, a ∈ tf)
    (q : rdsr G W rr aa tf σ H σd fps (match storeF s cs f x y σd with | some σ' => .nx σ' | none => .bad) D) : ∃ a C dx us, vy = .ref a ∧ (∃ c ∈ cs, G.mg c = some (.ref C)) ∧ H a = some (.ins C dx us) ∧ Cls G.K C ∧ NoAttr G.K C f ∧ us.length < 1000 ∧ D.nx σ (upd H a (.ins C dx (putF f vx us))) := by
  cases hst : storeF s cs f x y σd with
  | none => rw [hst] at q; exact q.elim
  | some σ' =>
    rw [hst] at q
    unfold storeF at hst
    split at hst
    · rename_i d s' p
      split at hst
      · rename_i hs'
        subst hs'
        split at hst
        · rename_i d0 hd0
          split at hst
          · rename_i c ws he
            split at hst
            · rename_i hc
              cases hst
              obtain ⟨fM, rM, sub, up⟩ := place_upd (tf := tf) E hd0 he Ry
              have dxM : Dj fM fx := fun a h z => Rx.2 s' a z (sub a h)
              obtain ⟨a, C, dx, us, f0, ev, em, sa, rs, na, ef⟩ := rM
              obtain ⟨C', em', cl, nf⟩ := T.ok c hc.1
              rw [em] at em'
              cases em'
              subst ev ef
              obtain ⟨fp', rp', sp'⟩ := RepF.put (k := f) Rx.1 rs (fun b h => dxM b (List.mem_cons_of_mem _ h))
              have kM := updKeep (o' := .ins C dx (putF f vx us)) (List.mem_cons_self ..) sa trivial (fM := a :: f0)
              have nap : a ∉ fp' := fun z => (sp' a z).elim na fun w => dxM a (List.mem_cons_self ..) w
              have kA : Keep (· ∈ [a]) H (upd H a (.ins C dx (putF f vx us))) := updKeep (List.mem_singleton.mpr rfl) sa trivial
              refine ⟨a, C, dx, us, rfl, ⟨c, hc.1, em⟩, sa, cl, nf f hf, by rw [rs.len]; exact hc.2, ?_⟩
              have n : ∀ b ∈ a :: fp', b ∈ a :: f0 ∨ b ∈ fx := fun b hb => by
                rcases List.mem_cons.mp hb with rfl | hb
                · exact .inl (List.mem_cons_self ..)
                · exact (sp' b hb).imp (List.mem_cons_of_mem _) id
              obtain ⟨fps', E', S', _⟩ := up (upd H a (.ins C dx (putF f vx us))) (.ins c (setF ws f d)) (a :: fp') kM ⟨a, C, dx, _, fp', rfl, em, upd_same, RepF.keep kA _ _ fp' (fun b hb z => nap (List.mem_singleton.mp z ▸ hb)) rp', nap, rfl⟩ (fun b h => (n b h).imp id fun z j => Rx.2 j b z) (fun b h => (n b h).imp id fun z => .inl (hx b z)) updDom
              exact q σ _ fps' E' (S'.wk (fun j h => by rw [List.mem_singleton.mp h]; exact hs) (fun _ h => h) (fun _ h => nomatch h)) SameV.refl
            · cases hst
          · cases hst
        · cases hst
      · cases hst
    · cases hst
end
section
variable {X : Cx} {W : WX} {o e : Expr} {co c : EC} {pos p' : Pos} {f : Str} {cs fs : List Str}
theorem ds_setF (s : Nat) (T : ClsA X.K X.mg cs fs) (he : DE X W e c) (ho : DE X W o co) (hf : f ∈ fs := by decide) (hs : swapsWith e (some (.Attribute o f p')) pos.line X.env = pure false := by rfl) : DS X W (.Assign [.Attribute o f p'] e pos) (sSetF s cs f co c) :=
  (ps_fld ho he hs).le fun D σ H ⟨σd, fps, E, q⟩ => by
    change rdsr _ _ _ _ _ σ H σd fps (bindS (c.run σd) _) D at q
    refine rdsr_E (rr := c.rw ++ (co.rw ++ [s])) (aa := []) mem_l E nilD nilN q fun x σd1 v1 H1 fps1 f1 E1 R1 S1 td1 tn1 dj1 q1 => ?_
    refine rdsr_E (fun j h => mem_r j (mem_l j h)) E1 td1 tn1 q1 fun y σd2 v2 H2 fps2 f2 E2 R2 S2 td2 tn2 dj2 q2 => ?_
    cases x with
    | plc sp pp => exact q2.elim
    | tmp d =>
      have R1' := (R1.step S2 rfl).1
      obtain ⟨a, C, dx, us, h1, _, h2⟩ := storeF_end T hf (mem_r s (mem_r s (List.mem_singleton.mpr rfl))) E2 R1' R2 (fun a h => by simp only [List.mem_append]; exact .inr (.inl h)) q2
      exact ⟨a, C, dx, us, h1, h2⟩
end
end A2
end S_A4a
section S_A4b
set_option Elab.async false
set_option linter.all false
set_option maxRecDepth 100000
set_option maxHeartbeats 4000000
open PySem PySem.Spec L2
open PyProof.Rows hiding St
namespace A2
/-! ## methods -/
def tMethSD (C : Addr) (m : Str) (sp : Sp) (E : L2.St → XK) (ta : TE) (t : TA) : TE := fun σ H Q => ta σ H fun x H1 => ∃ a dx fs, x = .ref a ∧ H1 a = some (.ins C dx fs) ∧ fs.lookup m = none ∧ t σ H1 fun vs H2 => sp (x :: vs) H2 Q (E σ)
section
variable {X : Cx} {CX : CXT} {k : Nat} {f C : Addr} {fd : FuncData} {ps : List Str} {sp : Sp} {E : L2.St → XK} {x m : Str} {p pos apos : Pos} {e o : Expr} {es : List Expr} {ta : TE} {t : TA}
theorem pe_methSD {pl : Sem Bool} (he : PE X o ta) (c : Cls X.K C) (hm : Meth X.K C m f) (F : FnOk X.prog X.w X.K X.mg X.base CX k f fd ps sp) (hr : Room k X.A) (hb : L2.Binds X.K fd ps []) (hx : ∀ σ, PassesAt CX X σ (E σ)) (ha : PA X (e :: es) t)
    (hst : starEach (e :: es) X.env = (false, eval e X.env) :: starEach es X.env := by rfl) (hpl : (backTo pos (starEach es X.env)).any (·.1) = false := by rfl)
    (ht : eval (.Call (.Attribute o m apos) (e :: es) [] pos) X.env = (do
      let ov ← eval o X.env
      standAt apos.atName
      let (f, first) ← holding [ov] (getMethod ov m pl)
      callWith pos f first (backTo pos (starEach (e :: es) X.env)) (backToKw pos (keywordEach [] X.env))) := by rfl) :
    PE X (.Call (.Attribute o m apos) (e :: es) [] pos) (tMethSD C m sp E ta t) := by
  refine ⟨fun pins s σ H Q I h => ?_⟩
  refine PySem.W.methodCall_KW (pl := pl) (thn (he.run pins s σ H _ I h) fun u s1 ⟨x, H1, I1, rx, a, dx, fs, ex, ea, l, q⟩ => ?_) ht
  subst ex
  obtain rfl : u = Value.ref a := rx
  refine getmeth_ok I1 ea c hm l ?_
  refine PySem.W.callWith_K (first := [.ref a]) (h₀ := X.base) I.ok.mod.kin hm.kp (thn (ha.run pos pins s1 σ H1 _ I1 q) fun us s2 ⟨vs, H2, I2, r, q2⟩ => ⟨I2.kIn, ?_⟩) hst hpl
  have q3 : sp (V.ref a :: vs ++ []) H2 Q (E σ) := by rw [List.append_nil]; exact q2
  exact run_fnSD (us := .ref a :: us) (vs := .ref a :: vs) F hr hb (.nil : Vals [] []) (hx σ) I2 (.cons rfl r) q3
theorem pe_methSD0 {pl : Sem Bool} (he : PE X o ta) (c : Cls X.K C) (hm : Meth X.K C m f) (F : FnOk X.prog X.w X.K X.mg X.base CX k f fd ps sp) (hr : Room k X.A) (hb : L2.Binds X.K fd ps []) (hx : ∀ σ, PassesAt CX X σ (E σ))
    (ht : eval (.Call (.Attribute o m apos) [] [] pos) X.env = (do
      let ov ← eval o X.env
      standAt apos.atName
      let (f, first) ← holding [ov] (getMethod ov m pl)
      callWith pos f first (backTo pos (starEach [] X.env)) (backToKw pos (keywordEach [] X.env))) := by rfl) :
    PE X (.Call (.Attribute o m apos) [] [] pos) (tMethSD C m sp E ta tNil) := by
  refine ⟨fun pins s σ H Q I h => ?_⟩
  refine PySem.W.methodCall_KW (pl := pl) (thn (he.run pins s σ H _ I h) fun u s1 ⟨x, H1, I1, rx, a, dx, fs, ex, ea, l, q⟩ => ?_) ht
  subst ex
  obtain rfl : u = Value.ref a := rx
  refine getmeth_ok I1 ea c hm l ?_
  have q2 : sp ([V.ref a] ++ []) H1 Q (E σ) := q
  exact PySem.W.callWith_K0 (first := [.ref a]) I1.kIn hm.kp (run_fnSD (us := [.ref a]) (vs := [.ref a]) F hr hb (.nil : Vals [] []) (hx σ) I1 (.cons rfl .nil) q2)
end
/-- a method of an own class, by its data -/
structure MethA (P : Program) (w : World) (K : PySem.W.Frag) (mg : Str → Option Value) (base : Heap) (k : Nat) (cn m : Str) (ps : List Str) (fn : FnC) : Prop where
  ex : ∃ C f fd, mg cn = some (.ref C) ∧ Cls K C ∧ Meth K C m f ∧ FnOk P w K mg base (L2.CX P w) k f fd ps (spF ⟨K, mg, tabsOf K⟩ fn) ∧ L2.Binds K fd ps []
def isIns (cn m : Str) (x : RV) (σd : DSt) : Bool := match x.get σd with
  | some (.ins c ws) => decide (c = cn) && (lookF ws m).isNone
  | _ => false
def methOf (cn m : Str) (f : FnC) (lw : List Nat) (a : AC) (x : RV) (σ1 : DSt) : Res RV := if isIns cn m x σ1 = true then (a.run σ1).bind fun xs σ2 => if stab x a.rw then callOf f lw (x :: xs) σ2 else .bad else .bad
def cMeth (cn m : Str) (f : FnC) (lw : List Nat) (o : EC) (a : AC) : EC := ⟨fun σd => (o.run σd).bind (methOf cn m f lw a), o.rw ++ (a.rw ++ lw)⟩
theorem isIns_ok {cn m : Str} {x : RV} {σd : DSt} (h : isIns cn m x σd = true) : ∃ ws, x.get σd = some (.ins cn ws) ∧ lookF ws m = none := by
  unfold isIns at h
  split at h
  · rename_i c ws hg
    obtain ⟨h1, h2⟩ := Bool.and_eq_true_iff.mp h
    have e := of_decide_eq_true h1
    subst e
    exact ⟨ws, hg, by cases q : lookF ws m <;> simp_all⟩
  · cases h
/-- behind the arguments: the callee runs -/
theorem callOf_end {G : Gv} {W : WX} {H1 : Hp} {σd1 : DSt} {σ : L2.St} {fps1 : Nat → List Addr} {r : List Nat} {tf f1 : List Addr} {rvs : List RV} {vs : List V} {f : FnC} {lw : List Nat} {Q : VK} (E1 : EnvR G H1 σd1 σ fps1) (R1 : RvsR G H1 σ fps1 rvs vs f1) (hl : ∀ j ∈ lw, j ∈ r)
    (hf : ∀ a ∈ f1, a ∈ tf) (q : rdr G W r tf σ H1 σd1 fps1 (callOf f lw rvs σd1) Q) : spF G f vs H1 Q (fun c d H' => W c d σ H') := by
  unfold callOf at q
  split at q
  · rename_i ds hd
    split at q
    · rename_i hc
      obtain ⟨nd, lo, hn⟩ := hc
      obtain ⟨fc, Ec, P1, P2⟩ := args_env E1 R1 hd nd
      have hv : vs.length = ds.length := by have := Ec.len; simpa using this.symm
      refine ⟨hv.trans hn, ds, fc, Ec, ?_⟩
      unfold crd
      cases hrun : f.run ds with
      | ok d outs =>
        rw [hrun] at q
        intro v H' fc' g E' rp dg S
        obtain ⟨E2, S2, dj2⟩ := call_env E1 R1 nd lo P1 P2 E' dg S
        exact q v H' _ g E2 ⟨rp, dj2⟩ (S2.wk hl hf (fun _ h => .inl h))
      | err x =>
        rw [hrun] at q
        intro c dx H' xr k dm
        obtain ⟨fc', E', S⟩ := kill_env Ec k dm
        obtain ⟨E2, S2, dj2⟩ := call_env E1 R1 nd lo P1 P2 E' (fun _ => djnil) S
        exact q c dx H' _ E2 xr (S2.wk hl hf (fun _ h => nomatch h))
      | bad =>
        rw [hrun] at q
        exact q.elim
    · exact q.elim
  · exact q.elim
section
variable {G : Gv} {W : WX} {H H1 H2 H' : Hp} {σd σd1 σd2 σd' : DSt} {σ σ1 σ' : L2.St} {fps fps1 fps2 fps' : Nat → List Addr} {r r1 r2 a0 a1 a2 vs : List Nat} {tf tf' e1 e2 ex : List Addr} {D : Ends}
/-- more arguments behind a value -/
theorem rdA_more {a : AC} {f : List RV → DSt → Res RV} {R : List V → Hp → Prop} {Q : VK} (E : EnvR G H σd σ fps) (ha : ∀ j ∈ a.rw, j ∈ r) (td : ∀ j, Dj tf (fps j)) (tn : ∀ a ∈ tf, H a ≠ none) (q : rdr G W r tf σ H σd fps ((a.run σd).bind f) Q)
    (k : ∀ xs σd1 vs H1 fps1 f1, a.run σd = .ok xs σd1 → EnvR G H1 σd1 σ fps1 → RvsR G H1 σ fps1 xs vs f1 → Stp a.rw [] H σd fps H1 σd1 fps1 f1 → Dj tf f1 → rdr G W r (f1 ++ tf) σ H1 σd1 fps1 (f xs σd1) Q → R vs H1) : rdA G W a σ H R := by
  refine seqA (r := r) (tf := tf) E ha (fun xs σd1 h1 vs H1 fps1 f1 E1 R1 S1 => ?_) (fun x σd1 h1 => ?_) (fun h1 => ?_)
  · rw [h1] at q
    obtain ⟨S1', td1, tn1, dj1⟩ := Stp.beside S1 td tn
    have tA : ∀ j, Dj (f1 ++ tf) (fps1 j) := fun j a ha => by
      rcases List.mem_append.mp ha with ha | ha
      · exact R1.dj j a ha
      · exact td1 j a ha
    exact k xs σd1 vs H1 fps1 f1 h1 E1 R1 S1 dj1 (rdr.push (R := f xs σd1) S1' E1 tA ha (fun _ h => h) q)
  · rw [h1] at q
    exact q
  · rw [h1] at q
    exact q
theorem meth_rd {cn m : Str} {f : FnC} {lw : List Nat} {o : EC} {a : AC} {C : Addr} {Q : VK} (em : G.mg cn = some (.ref C)) (h : rd G W (cMeth cn m f lw o a) σ H Q) : tMethSD C m (spF G f) (fun σ => fun c d H' => W c d σ H') (rd G W o) (rdA G W a) σ H Q := by
  obtain ⟨σd, fps, E, q⟩ := h
  refine rd_one (r := o.rw ++ (a.rw ++ lw)) (tf := []) (f := methOf cn m f lw a) E mem_l q (fun x σd1 v H1 fps1 f1 E1 R1 S1 k => ?_) (fun _ => djnil) (fun _ h => nomatch h)
  have q1 := k (o.rw ++ (a.rw ++ lw)) (fun _ h => h)
  unfold methOf at q1
  split at q1
  · rename_i hi
    obtain ⟨ws, hg, hl⟩ := isIns_ok hi
    obtain ⟨g1, ⟨A, C', dx, us, f0, ev, em', s, rs, na, ef⟩, t1⟩ := Rep.sub_of_tmp R1 hg E1
    rw [em] at em'
    cases em'
    refine ⟨A, dx, us, ev, s, RepF.none rs hl, ?_⟩
    rw [List.append_nil] at q1
    refine rdA_more E1 (fun j h => mem_r j (mem_l j h)) R1.dj (fun a h => R1.dom a h) q1 fun xs σd2 vs H2 fps2 f2 h2 E2 R2 S2 dj q2 => ?_
    split at q2
    · rename_i st
      obtain ⟨R1', d12⟩ := R1.step S2 st
      refine callOf_end (rvs := x :: xs) (f1 := f1 ++ f2) (tf := f2 ++ f1) E2 ⟨v, vs, f1, f2, rfl, R1', R2, dj, rfl⟩ (fun j h => mem_r j (mem_r j h)) (fun a h => ?_) q2
      rcases List.mem_append.mp h with h | h
      · exact List.mem_append_right _ h
      · exact List.mem_append_left _ h
    · exact q2.elim
  · exact q1.elim
end
theorem rd_mono {G : Gv} {W : WX} {c : EC} {σ : L2.St} {H : Hp} {Q Q' : VK} (h : rd G W c σ H Q) (k : ∀ v H, Q v H → Q' v H) : rd G W c σ H Q' := by
  obtain ⟨σd, fps, E, q⟩ := h
  refine ⟨σd, fps, E, ?_⟩
  cases hr : c.run σd with
  | ok rv σd1 =>
    rw [hr] at q
    exact fun v H' fps' f E' R' S' => k v H' (q v H' fps' f E' R' S')
  | err x σd1 =>
    rw [hr] at q
    exact q
  | bad =>
    rw [hr] at q
    exact q
theorem rdA_nil {G : Gv} {W : WX} {σ : L2.St} {H : Hp} {Q : List V → Hp → Prop} (h : rdA G W aNil σ H Q) : Q [] H := by
  obtain ⟨σd, fps, E, q⟩ := h
  exact q [] H fps [] E ⟨rfl, rfl⟩ (Stp.refl fun _ h => nomatch h)
section
variable {X : Cx} {W : WX} {k j : Nat} {ps : List Str} {cn m : Str} {p pos apos : Pos} {e o : Expr} {es : List Expr} {a : AC} {co : EC} {fn : FnC}
theorem de_meth {pl : Sem Bool} (lw : List Nat) (M : MethA X.prog X.w X.K X.mg X.base k cn m ps fn) (tk : Takes X W) (hr : Room j X.A) (ho : DE X W o co) (ha : DA X W (e :: es) a) (hj : k ≤ j := by decide)
    (hst : starEach (e :: es) X.env = (false, eval e X.env) :: starEach es X.env := by rfl) (hpl : (backTo pos (starEach es X.env)).any (·.1) = false := by rfl)
    (ht : eval (.Call (.Attribute o m apos) (e :: es) [] pos) X.env = (do
      let ov ← eval o X.env
      standAt apos.atName
      let (f, first) ← holding [ov] (getMethod ov m pl)
      callWith pos f first (backTo pos (starEach (e :: es) X.env)) (backToKw pos (keywordEach [] X.env))) := by rfl) : DE X W (.Call (.Attribute o m apos) (e :: es) [] pos) (cMeth cn m fn lw co a) := by
  obtain ⟨C, f, fd, em, cl, me, F, b⟩ := M.ex
  exact (pe_methSD (pl := pl) ho cl me F (hr.mono hj) b (fun σ => passAt tk σ) ha hst hpl ht).le fun _ _ _ h => meth_rd em h
theorem de_meth0 {pl : Sem Bool} (lw : List Nat) (M : MethA X.prog X.w X.K X.mg X.base k cn m ps fn) (tk : Takes X W) (hr : Room j X.A) (ho : DE X W o co) (hj : k ≤ j := by decide)
    (ht : eval (.Call (.Attribute o m apos) [] [] pos) X.env = (do
      let ov ← eval o X.env
      standAt apos.atName
      let (f, first) ← holding [ov] (getMethod ov m pl)
      callWith pos f first (backTo pos (starEach [] X.env)) (backToKw pos (keywordEach [] X.env))) := by rfl) : DE X W (.Call (.Attribute o m apos) [] [] pos) (cMeth cn m fn lw co aNil) := by
  obtain ⟨C, f, fd, em, cl, me, F, b⟩ := M.ex
  refine (pe_methSD0 (pl := pl) ho cl me F (hr.mono hj) b (fun σ => passAt tk σ) ht).le fun σ H Q h => ?_
  exact rd_mono (meth_rd em h) fun v H1 ⟨a, dx, fs, h1, h2, h3, h4⟩ => ⟨a, dx, fs, h1, h2, h3, rdA_nil h4⟩
end
end A2
end S_A4b
section S_A4c
set_option Elab.async false
set_option linter.all false
set_option maxRecDepth 100000
set_option maxHeartbeats 4000000
open PySem PySem.Spec L2
open PyProof.Rows hiding St
namespace A2
/-! ## instances made -/
def tMakeSD (C : Addr) (sp : Sp) (E : L2.St → XK) (t : TA) : TE := fun σ H Q => t σ H fun vs H1 => ∀ x dx, H1 x = none → H1 dx = none → dx ≠ x → sp (.ref x :: vs) (upd (upd H1 dx (.own x)) x (.ins C dx [])) (fun v H2 => v = .non ∧ Q (.ref x) H2) (E σ)
section
variable {X : Cx} {CX : CXT} {k : Nat} {f C : Addr} {fd : FuncData} {ps : List Str} {sp : Sp} {E : L2.St → XK} {x m : Str} {p pos apos : Pos} {e o : Expr} {es : List Expr} {ta : TE} {t : TA}
theorem run_makeSD {pins : List (Addr × Obj)} {σ : L2.St} {H : Hp} {s : Shared} {Q : VK} {us : List Value} {vs : List V} (M : Mk X.K C f) (F : FnOk X.prog X.w X.K X.mg X.base CX k f fd ps sp) (hr : Room (k + 1) X.A) (hb : L2.Binds X.K fd ps [])
    (hx : PassesAt CX X σ (E σ)) (I : Inv X pins σ H s) (r : Vals vs us)
    (h : ∀ x dx, H x = none → H dx = none → dx ≠ x → sp (.ref x :: vs) (upd (upd H dx (.own x)) x (.ins C dx [])) (fun v H2 => v = .non ∧ Q (.ref x) H2) (E σ)) :
    wpAny (model X.prog X.w) X.A (call (.ref C) us) (EP X pins σ Q) X.xe s := by
  have hq := h (s.heap.objs.size + 1) s.heap.objs.size (I.hok.fresh (Nat.le_succ _)) (I.hok.fresh (Nat.le_refl _)) (Nat.ne_of_lt (Nat.lt_succ_self _))
  have I2 := Inv.made (C := C) I
  have r2 : Vals (V.ref (s.heap.objs.size + 1) :: vs) (Value.ref (s.heap.objs.size + 1) :: us) := .cons rfl r
  have hl : (Value.ref (s.heap.objs.size + 1) :: us ++ []).length = ps.length := by
    have e := r2.length
    rw [F.len _ _ _ _ hq] at e
    rw [List.append_nil]
    exact e.symm
  have hbb := hb _ (Value.ref (s.heap.objs.size + 1) :: us) I2.kIn hl
  rw [List.append_nil] at hbb
  refine wpAny_call (make_map (f := f) I.kIn M.makes M.init (beq_iff_eq.mp M.fn) (codeAny_mono (F.run _ X.stack _ _ ⟨Value.ref (s.heap.objs.size + 1) :: us, []⟩ (Value.ref (s.heap.objs.size + 1) :: us) _ _ (E σ) (hr.make C us [])
    (I2.env0.make C us []) hbb r2 hq) fun r s' hq' => ?_))
  cases r with
  | error e => exact hx pins _ _ e s' I2 hq'
  | ok fl =>
    cases fl with
    | ret u =>
      obtain ⟨v, H', I3, rv, ev, q3⟩ := I2.after hq'
      subst ev
      exact ⟨rv, ⟨V.ref (s.heap.objs.size + 1), H', I3, rfl, q3⟩⟩
    | next => exact False.elim hq'
    | brk => exact False.elim hq'
    | cont => exact False.elim hq'
theorem pe_makeSD (M : Mk X.K C f) (F : FnOk X.prog X.w X.K X.mg X.base CX k f fd ps sp) (hr : Room (k + 1) X.A) (hg : Gl X x) (hm : X.mg x = some (.ref C)) (hb : L2.Binds X.K fd ps []) (hx : ∀ σ, PassesAt CX X σ (E σ))
    (ha : PA X (e :: es) t) (hdb : (x == ("__debug__" : Str)) = false := by decide) (he : starEach (e :: es) X.env = (false, eval e X.env) :: starEach es X.env := by rfl) (hpl : (backTo pos (starEach es X.env)).any (·.1) = false := by rfl) :
    PE X (.Call (.Name x p) (e :: es) [] pos) (tMakeSD C sp E t) := by
  refine ⟨fun pins s σ H Q I h => ?_⟩
  refine wpAny_Call_Name_kw (ld_glob I hg hm ?_ hdb)
  refine PySem.W.callWith_K (h₀ := X.base) I.ok.mod.kin M.kp (thn (ha.run pos pins s σ H _ I h) fun us s1 ⟨vs, H1, I1, r, q⟩ => ⟨I1.kIn, ?_⟩) he hpl
  exact run_makeSD M F hr hb (hx σ) I1 r q
theorem pe_makeSD0 (M : Mk X.K C f) (F : FnOk X.prog X.w X.K X.mg X.base CX k f fd ps sp) (hr : Room (k + 1) X.A) (hg : Gl X x) (hm : X.mg x = some (.ref C)) (hb : L2.Binds X.K fd ps []) (hx : ∀ σ, PassesAt CX X σ (E σ))
    (hdb : (x == ("__debug__" : Str)) = false := by decide) : PE X (.Call (.Name x p) [] [] pos) (tMakeSD C sp E tNil) := by
  refine ⟨fun pins s σ H Q I h => ?_⟩
  refine wpAny_Call_Name_kw (ld_glob I hg hm ?_ hdb)
  exact PySem.W.callWith_K0 I.kIn M.kp (run_makeSD (us := []) M F hr hb (hx σ) I .nil h)
end
/-- an own class made, by its __init__'s data -/
structure MakeA (P : Program) (w : World) (K : PySem.W.Frag) (mg : Str → Option Value) (base : Heap) (k : Nat) (cn : Str) (ps : List Str) (fn : FnC) : Prop where
  ex : ∃ C f fd, mg cn = some (.ref C) ∧ Mk K C f ∧ FnOk P w K mg base (L2.CX P w) k f fd ps (spF ⟨K, mg, tabsOf K⟩ fn) ∧ L2.Binds K fd ps []
def madeOf (cn : Str) (f : FnC) (rvs : List RV) (σd : DSt) : CRes → Res RV
  | .ok .non outs => (match outs[0]? with
    | some (some d) => .ok (.tmp d) (wb f.rw 0 (.tmp (.ins cn []) :: rvs) (outs.set 0 none) σd)
    | _ => .bad)
  | .err x => .err x (wb f.rw 0 (.tmp (.ins cn []) :: rvs) (killO f.rw 0 (.ins cn [] :: (getAll σd rvs).getD [])) σd)
  | _ => .bad
def makeOf (cn : Str) (f : FnC) (lw : List Nat) (rvs : List RV) (σd : DSt) : Res RV := match getAll σd rvs with
  | some ds => if (places rvs).Nodup ∧ lendOk f.rw lw 0 (.tmp (.ins cn []) :: rvs) = true ∧ ds.length + 1 = f.n ∧ 0 ∈ f.rw then madeOf cn f rvs σd (f.run (.ins cn [] :: ds)) else .bad
  | none => .bad
def cMake (cn : Str) (f : FnC) (lw : List Nat) (a : AC) : EC := ⟨fun σd => (a.run σd).bind (makeOf cn f lw), a.rw ++ lw⟩
section
variable {G : Gv} {W : WX} {H H1 H2 H' : Hp} {σd σd1 σd2 σd' : DSt} {σ σ1 σ' : L2.St} {fps fps1 fps2 fps' : Nat → List Addr} {r r1 r2 a0 a1 a2 vs : List Nat} {tf tf' e1 e2 ex : List Addr} {D : Ends}
/-- a step from a heap with something new in it -/
theorem Stp.fresh {x : Addr} (k0 : Keep (fun _ => False) H H1) (hx : H x = none) (S : Stp r (x :: tf) H1 σd fps H' σd' fps' ex) : Stp r tf H σd fps H' σd' fps' ex where
  keep := by
    refine k0.trans S.keep (fun _ z => z.elim) fun a o e q => (q.imp (fun n z => n ?_) id)
    rcases z with z | z
    · exact .inl z
    · rcases List.mem_cons.mp z with h | z
      · rw [h, hx] at e
        cases e
      · exact .inr z
  new := fun a z => by
    rcases S.new a z with h | h | h
    · exact .inl h
    · rcases List.mem_cons.mp h with h | h
      · rw [h]
        exact .inr (.inr hx)
      · exact .inr (.inl h)
    · refine .inr (.inr ?_)
      cases e : H a with
      | none => rfl
      | some o =>
        exact absurd h (k0.dom' e (.inl id))
  same := S.same
  dom := fun a h => S.dom a (k0.dom a h)
theorem RvR.all {x : RV} {v : V} {f : List Addr} (R : RvR G H σ fps x v f) (k : Keep (fun _ => False) H H1) : RvR G H1 σ fps x v f := by
  cases x with
  | tmp d => exact ⟨Rep.keep k d v f (fun _ _ h => h) R.1, R.2⟩
  | plc s p =>
    obtain ⟨e, v0, e0, at0⟩ := R
    exact ⟨e, v0, e0, At.same (fun a o e nt => k.at_ a o e nt (.inl id)) _ _ _ at0⟩
theorem RvsR.all (k : Keep (fun _ => False) H H1) : ∀ {rvs : List RV} {us : List V} {f : List Addr}, RvsR G H σ fps rvs us f → RvsR G H1 σ fps rvs us f
  | [], us, f, h => h
  | x :: rvs, us, f, ⟨v, t, f1, f2, e, p, q, dj, ef⟩ => ⟨v, t, f1, f2, e, p.all k, RvsR.all k q, dj, ef⟩
theorem RvsR.dom' : ∀ {rvs : List RV} {us : List V} {f : List Addr}, RvsR G H σ fps rvs us f → ∀ a ∈ f, H a ≠ none
  | [], us, f, h => by rw [h.2]; exact fun _ z => nomatch z
  | x :: rvs, us, f, ⟨v, t, f1, f2, e, p, q, dj, ef⟩ => fun a ha => by
    rw [ef] at ha
    rcases List.mem_append.mp ha with h | h
    · exact p.dom a h
    · exact RvsR.dom' q a h
theorem make_end {cn : Str} {C : Addr} {rvs : List RV} {us : List V} {f1 : List Addr} {f : FnC} {lw : List Nat} {Q : VK} (em : G.mg cn = some (.ref C)) (E1 : EnvR G H σd σ fps) (R1 : RvsR G H σ fps rvs us f1) (hl : ∀ j ∈ lw, j ∈ r)
    (q : rdr G W r f1 σ H σd fps (makeOf cn f lw rvs σd) Q) : ∀ x dx, H x = none → H dx = none → dx ≠ x → spF G f (.ref x :: us) (upd (upd H dx (.own x)) x (.ins C dx [])) (fun v H2 => v = .non ∧ Q (.ref x) H2) (fun c d H' => W c d σ H') := by
  intro x dx nx ndx ne
  unfold makeOf at q
  split at q
  · rename_i ds hd
    split at q
    · rename_i hc
      obtain ⟨nd, lo, hn, h0⟩ := hc
      have k0 : Keep (fun _ => False) H (upd (upd H dx (.own x)) x (.ins C dx [])) := .of fun a u e _ => by
        rw [upd_ne (ne_of_none e nx), upd_ne (ne_of_none e ndx)]
        exact e
      have E2 := E1.all k0
      have R2 := R1.all k0
      have rx : Rep G (upd (upd H dx (.own x)) x (.ins C dx [])) (.ins cn []) (.ref x) [x] := ⟨x, C, dx, [], [], rfl, em, upd_same, ⟨rfl, rfl⟩, (fun z => nomatch z), rfl⟩
      have djx : ∀ i, Dj [x] (fps i) := fun i a ha z => by
        rw [List.mem_singleton.mp ha] at z
        obtain ⟨o, e, _⟩ := E1.dom z
        rw [nx] at e
        cases e
      have djf : Dj [x] f1 := fun a ha z => by
        rw [List.mem_singleton.mp ha] at z
        exact R1.dom' x z nx
      have R3 : RvsR G (upd (upd H dx (.own x)) x (.ins C dx [])) σ fps (.tmp (.ins cn []) :: rvs) (.ref x :: us) (x :: f1) := ⟨.ref x, us, [x], f1, rfl, ⟨rx, djx⟩, R2, djf, rfl⟩
      have hg : getAll σd (.tmp (.ins cn []) :: rvs) = some (.ins cn [] :: ds) := by
        unfold getAll
        rw [hd]
        rfl
      have nd' : (places (.tmp (.ins cn []) :: rvs)).Nodup := nd
      obtain ⟨fc, Ec, P1, P2⟩ := args_env E2 R3 hg nd'
      have hv : (V.ref x :: us).length = (D.ins cn [] :: ds).length := by have := Ec.len; simpa using this.symm
      refine ⟨hv.trans (by rw [List.length_cons]; exact hn), _, fc, Ec, ?_⟩
      unfold crd
      cases hrun : f.run (.ins cn [] :: ds) with
      | ok d outs =>
        rw [hrun] at q
        intro v H' fc' g E' rp dg S
        unfold madeOf at q
        cases d with
        | non =>
          dsimp only at q
          split at q
          · rename_i dd hdd
            obtain ⟨v0, ev0, rself⟩ := E'.rep 0 dd hdd
            have ev : v0 = .ref x := (Option.some.inj (Option.some.inj ev0)).symm
            subst ev
            refine ⟨rp.1, ?_⟩
            have Ek := E'.kill 0
            have djs : ∀ i, Dj (fc' 0) (setFp fc' 0 [] i) := fun i => by
              unfold setFp
              split
              · exact djnil.symm
              · rename_i hi
                exact E'.dj 0 i (Ne.symm hi)
            have Sk : Stp f.rw [] (upd (upd H dx (.own x)) x (.ins C dx [])) ((D.ins cn [] :: ds).map some) fc H' (outs.set 0 none) (setFp fc' 0 []) (fc' 0) := ⟨S.keep, fun a z => by
              rcases z with z | ⟨j, z⟩
              · exact S.new a (.inr ⟨0, z⟩)
              · unfold setFp at z
                split at z
                · cases z
                · exact S.new a (.inr ⟨j, z⟩), fun j n => by
              have hj : j ≠ 0 := fun z => n (by rw [z]; exact h0)
              exact ⟨by rw [getset (Ne.symm hj)]; exact (S.same j n).1, by unfold setFp; rw [if_neg hj]; exact (S.same j n).2⟩, S.dom⟩
            obtain ⟨E3, S3, dj3⟩ := call_env E2 R3 nd' lo P1 P2 Ek djs Sk
            exact q (.ref x) H' _ (fc' 0) E3 ⟨rself, dj3⟩ ((Stp.fresh k0 nx S3).wk hl (fun _ h => h) (fun _ h => .inl h))
          · exact q.elim
        | _ => exact q.elim
      | err z =>
        rw [hrun] at q
        intro c dz H' xr k dm
        obtain ⟨fc', E', S⟩ := kill_env Ec k dm
        obtain ⟨E3, S3, dj3⟩ := call_env E2 R3 nd' lo P1 P2 E' (fun _ => djnil) S
        unfold madeOf at q
        rw [hd] at q
        exact q c dz H' _ E3 xr ((Stp.fresh k0 nx S3).wk hl (fun _ h => h) (fun _ h => nomatch h))
      | bad =>
        rw [hrun] at q
        exact q.elim
    · exact q.elim
  · exact q.elim
theorem make_rd {cn : Str} {f : FnC} {lw : List Nat} {a : AC} {C : Addr} {Q : VK} (em : G.mg cn = some (.ref C)) (h : rd G W (cMake cn f lw a) σ H Q) : tMakeSD C (spF G f) (fun σ => fun c d H' => W c d σ H') (rdA G W a) σ H Q :=
  rdA_then h fun rvs σd1 us H1 fps1 f1 E1 R1 q => make_end em E1 R1 mem_r q
end
section
variable {X : Cx} {W : WX} {k j : Nat} {ps : List Str} {x m : Str} {p pos apos : Pos} {e : Expr} {es : List Expr} {a : AC} {fn : FnC}
theorem de_make (lw : List Nat) (M : MakeA X.prog X.w X.K X.mg X.base k x ps fn) (tk : Takes X W) (hr : Room j X.A) (ha : DA X W (e :: es) a) (hj : k + 1 ≤ j := by decide) (hg : Gl X x := by rfl)
    (hdb : (x == ("__debug__" : Str)) = false := by decide) (he : starEach (e :: es) X.env = (false, eval e X.env) :: starEach es X.env := by rfl) (hpl : (backTo pos (starEach es X.env)).any (·.1) = false := by rfl) :
    DE X W (.Call (.Name x p) (e :: es) [] pos) (cMake x fn lw a) := by
  obtain ⟨C, f, fd, em, mk, F, b⟩ := M.ex
  exact (pe_makeSD mk F (hr.mono hj) hg em b (fun σ => passAt tk σ) ha hdb he hpl).le fun _ _ _ h => make_rd em h
end
end A2
end S_A4c
section S_A4d
set_option Elab.async false
set_option linter.all false
set_option maxRecDepth 100000
set_option maxHeartbeats 4000000
open PySem PySem.Spec L2
open PyProof.Rows hiding St
namespace A2
/-! ## x += e, o.f += e (whole numbers) -/
def sAug (i : Nat) (h : Int → Int → Int) (c : EC) : SC := ⟨fun σd => match σd[i]? with
  | some (some (.int x)) => bindS (c.run σd) fun y σ1 => (match y.get σ1 with
    | some (.int j) => if i < σ1.length then .nx (σ1.set i (some (.int (h x j)))) else .bad
    | _ => .bad)
  | _ => .bad, i :: c.rw, [i]⟩
theorem ds_aug {X : Cx} {W : WX} {x : Str} {e : Expr} {c : EC} {op : Operator} {pos pos' : Pos} {h : Int → Int → Int} (i : Nat) (hN : X.N.Nodup) (hop : PIp X op (ipI h)) (he : DE X W e c) (hi : X.N[i]? = some x := by rfl) (hx : Loc X.env.scope x := by first | exact Or.inl rfl | exact Or.inr rfl)
    (hf : X.fn x = true ∨ X.env.scope.names.lookup x = some .local := by first | exact .inl rfl | exact .inr rfl | assumption) : DS X W (.AugAssign (.Name x pos') op e pos) (sAug i h c) := (ps_aug hN hi hx he hop hf).le fun D σ H ⟨σd, fps, E, q⟩ => by
  unfold sAug at q
  dsimp only at q
  split at q
  · rename_i z hz
    obtain ⟨v, ev, rv⟩ := E.rep i _ hz
    refine ⟨v, ev, ?_⟩
    refine rdsr_E (rr := i :: c.rw) (aa := [i]) (fun j h => List.mem_cons_of_mem _ h) E nilD nilN q fun y σd1 v1 H1 fps1 f1 E1 R1 S1 td1 tn1 dj1 q1 => ?_
    split at q1
    · rename_i j hj
      obtain ⟨g1, r1, _⟩ := R1.rep E1 hj
      split at q1
      · rename_i hl
        refine ⟨z, j, rv.1, r1.1, ?_⟩
        exact q1 _ H1 (setFp fps1 i []) (E1.put (v := .int (h z j)) hl ⟨rfl, rfl⟩ (fun _ => djnil)) (Stp.put (List.mem_cons_self ..) (fun _ h => nomatch h)) (SameV.put (List.mem_singleton.mpr rfl))
      · exact q1.elim
    · exact q1.elim
  · exact q.elim
/-- the field f of x, a whole number; and x's class -/
def fldInt (cs : List Str) (f : Str) (x : RV) (σd : DSt) : Option (Str × Int) := match x.get σd with
  | some (.ins c ws) => if c ∈ cs then (match lookF ws f with
    | some (.int v) => some (c, v)
    | _ => none) else none
  | _ => none
def sFldAug (s : Nat) (cs : List Str) (f : Str) (h : Int → Int → Int) (o c : EC) : SC := ⟨fun σd => bindS (o.run σd) fun y σ1 => (match fldInt cs f y σ1 with
  | some (cn, v) => bindS (c.run σ1) fun z σ2 => if stab y c.rw then (match z.get σ2 with
    | some (.int j) => (match storeF s [cn] f (.tmp (.int (h v j))) y σ2 with
      | some σ' => .nx σ'
      | none => .bad)
    | _ => .bad) else .bad
  | none => .bad), o.rw ++ (c.rw ++ [s]), []⟩
def InI (X : Cx) (op : Operator) (h : Int → Int → Int) : Prop := InOp X op (fun x y H Q => ∃ i j, x = .int i ∧ y = .int j ∧ Q (.int (h i j)) H)
theorem ini_add {X : Cx} : InI X .Add fun i j => i + j := L2.in_add
theorem ini_sub {X : Cx} : InI X .Sub fun i j => i - j := L2.in_sub
theorem ds_fldAug {X : Cx} {W : WX} {o e : Expr} {co c : EC} {pos tpos : Pos} {f : Str} {cs fs : List Str} {op : Operator} {h : Int → Int → Int} (s : Nat) (T : ClsA X.K X.mg cs fs) (hop : InI X op h) (ho : DE X W o co) (he : DE X W e c) (hf : f ∈ fs := by decide) :
    DS X W (.AugAssign (.Attribute o f tpos) op e pos) (sFldAug s cs f h co c) :=
  (ps_fldaug ho he hop).le fun D σ H ⟨σd, fps, E, q⟩ => by
    change rdsr _ _ _ _ _ σ H σd fps (bindS (co.run σd) _) D at q
    refine rdsr_E (rr := co.rw ++ (c.rw ++ [s])) (aa := []) mem_l E nilD nilN q fun y σd1 v1 H1 fps1 f1 E1 R1 S1 td1 tn1 dj1 q1 => ?_
    split at q1
    · rename_i cn v hv
      unfold fldInt at hv
      split at hv
      · rename_i c' ws hg
        split at hv
        · rename_i hc
          split at hv
          · rename_i v' hl
            cases hv
            obtain ⟨g1, ⟨a, C, dx, us, f0, ev, em, sa, rs, na, ef⟩, t1⟩ := Rep.sub_of_tmp R1 hg E1
            obtain ⟨C', em', cl, nf⟩ := T.ok cn hc
            cases em.symm.trans em'
            obtain ⟨w, fL, fM, fR, l1, rw', e3, _⟩ := RepF.focus ws us f0 f _ rs hl
            refine ⟨a, C, dx, us, w, ev, sa, cl, nf f hf, by rw [← lookFV_eq]; exact l1, ?_⟩
            refine rdsr_E (fun j h => mem_r j (mem_l j h)) E1 td1 tn1 q1 fun z σd2 v2 H2 fps2 f2 E2 R2 S2 td2 tn2 dj2 q2 => ?_
            split at q2
            · rename_i st
              obtain ⟨R1', _⟩ := R1.step S2 st
              split at q2
              · rename_i j hj
                obtain ⟨g2, r2, _⟩ := R2.rep E2 hj
                refine ⟨v, j, rw'.1, r2.1, ?_⟩
                have T1 : ClsA X.K X.mg [cn] fs := ⟨fun c hc' => by rw [List.mem_singleton.mp hc']; exact ⟨C, em, cl, nf⟩⟩
                obtain ⟨a', C2, dx', us', h1, ⟨c2, h2, h3⟩, h4, h5, h6, h7, h8⟩ := storeF_end (vx := .int (h v j)) (fx := []) T1 hf (mem_r s (mem_r s (List.mem_singleton.mpr rfl))) E2 (x := .tmp (.int (h v j))) ⟨⟨rfl, rfl⟩, fun _ => djnil⟩ R1' (fun _ h => nomatch h) q2
                rw [ev] at h1
                cases h1
                rw [List.mem_singleton.mp h2] at h3
                cases em.symm.trans h3
                exact ⟨dx', us', h4, h7, h8⟩
              · exact q2.elim
            · exact q2.elim
          · cases hv
        · cases hv
      · cases hv
    · exact q1.elim
/-! ## in, not in -/
def flatD : D → Bool
  | .non => true | .bl _ => true | .int _ => true | .str _ => true | _ => false
def flatEq : D → D → Bool
  | .non, .non => true
  | .bl a, .bl b => a == b
  | .bl a, .int b => (if a then 1 else 0) == b
  | .int a, .bl b => a == (if b then 1 else 0)
  | .int a, .int b => a == b
  | .str a, .str b => a == b
  | _, _ => false
def rowOf : D → Option (List D)
  | .tup ds => some ds
  | .lst ds => some ds
  | .flst ds => some ds
  | _ => none
def inD (x y : D) : Option Bool := match y with
  | .dct kvs => (keyOf x).map fun k => (lookD kvs k).isSome
  | .fdct kvs => (keyOf x).map fun k => (lookD kvs k).isSome
  | .str z => (match x with
    | .str c => (match c.cps.toList with
      | [n] => some (decide (n ∈ z.cps.toList))
      | _ => none)
    | _ => none)
  | y => (match rowOf y with
    | some ds => if flatD x = true ∧ ds.all flatD = true then some (ds.any fun z => flatEq z x)
      else if okEq x = true ∧ okEq y = true then some ((toPys ds).any fun z => PyData.eqv z (toPy x)) else none
    | none => none)
def gIn (x y : D) : Option D := (inD x y).map .bl
def gNotIn (x y : D) : Option D := (inD x y).map fun k => .bl (!k)
def rInT (K : PySem.W.Frag) (n : Bool) : R2 := fun x y H Q => ∃ d ds, Dp K H x d ∧ Dp K H y (.tuple ds) ∧ SeqAt.shaped d = true ∧ SeqAt.shaped (.tuple ds) = true ∧ Q (.bl (n != (ds.any fun z => PyData.eqv z d))) H
def rInK (n : Bool) : R2 := fun x y H Q => ∃ a o, y = .ref a ∧ DGet H a x o ∧ Q (.bl (n != o.isSome)) H
theorem op_inT {X : Cx} (hu : X.A.units + 65 < cLine) : OpR X (compareOp .In) (rInT X.K false) := by
  intro pins s σ H x y v u Q I rx ry h
  obtain ⟨d, ds, hd, he, sd, se, q⟩ := h
  obtain ⟨as, r1⟩ := Dp.reads I d x v hd rx
  obtain ⟨bs, r2⟩ := Dp.reads I (.tuple ds) y u he ry
  exact SeqAt.in_tuple_reads r2 r1 (SeqAt.canLay_of_shaped se) (SeqAt.canLay_of_shaped sd) (room_in_shaped sd hu) ⟨.bl _, H, I, rfl, by simpa using q⟩
theorem op_notInT {X : Cx} (hu : X.A.units + 65 < cLine) : OpR X (compareOp .NotIn) (rInT X.K true) := by
  intro pins s σ H x y v u Q I rx ry h
  obtain ⟨d, ds, hd, he, sd, se, q⟩ := h
  obtain ⟨as, r1⟩ := Dp.reads I d x v hd rx
  obtain ⟨bs, r2⟩ := Dp.reads I (.tuple ds) y u he ry
  exact SeqAt.notIn_tuple_reads r2 r1 (SeqAt.canLay_of_shaped se) (SeqAt.canLay_of_shaped sd) (room_in_shaped sd hu) ⟨.bl _, H, I, rfl, by simpa using q⟩
theorem op_inK {X : Cx} (hu : X.A.units + 1 < cLine) : OpR X (compareOp .In) (rInK false) := by
  intro pins s σ H x y v u Q I rx ry ⟨a, o, e, g, q⟩
  subst e
  obtain rfl : u = Value.ref a := ry
  exact d_in hu I g rx fun s3 I3 => ⟨.bl o.isSome, H, I3, rfl, by simpa using q⟩
theorem op_notInK {X : Cx} (hu : X.A.units + 1 < cLine) : OpR X (compareOp .NotIn) (rInK true) := by
  intro pins s σ H x y v u Q I rx ry ⟨a, o, e, g, q⟩
  subst e
  obtain rfl : u = Value.ref a := ry
  exact d_notIn hu I g rx fun s3 I3 => ⟨.bl (!o.isSome), H, I3, rfl, by simpa using q⟩
def rInSg (n : Bool) : R2 := fun x y H Q => ∃ (c : Nat) (z : Str), x = .str ⟨#[c]⟩ ∧ y = .str z ∧ Q (.bl (n != decide (c ∈ z.cps.toList))) H
def rInAll (K : PySem.W.Frag) : R2 := fun x y H Q => (rIn K false x y H Q ∨ rInD K x y H Q) ∨ (rInT K false x y H Q ∨ (rInK false x y H Q ∨ rInSg false x y H Q))
def rNotInAll (K : PySem.W.Frag) : R2 := fun x y H Q => (rIn K true x y H Q ∨ rNotInD K x y H Q) ∨ (rInT K true x y H Q ∨ (rInK true x y H Q ∨ rInSg true x y H Q))
theorem OpR.imp {X : Cx} {f : Value → Value → Sem Value} {r r' : R2} (h : OpR X f r) (k : ∀ x y H Q, r' x y H Q → r x y H Q) : OpR X f r' := fun pins s σ H x y v u Q I rx ry q => h pins s σ H x y v u Q I rx ry (k x y H Q q)
theorem op_inAll {X : Cx} {k : Nat} (hr : Room k X.A) : OpR X (compareOp .In) (rInAll X.K) :=
  OpR.or (OpR.or op_in_seq (op_inD (by have := hr.un; omega))) (OpR.or (op_inT (by have := hr.un; omega)) (OpR.or (op_inK (hu_of hr)) (OpR.imp op_in_sign fun x y H Q ⟨c, z, h1, h2, q⟩ => ⟨c, z, h1, h2, by simpa using q⟩)))
theorem op_notInAll {X : Cx} {k : Nat} (hr : Room k X.A) : OpR X (compareOp .NotIn) (rNotInAll X.K) :=
  OpR.or (OpR.or op_notIn_seq (op_notInD (by have := hr.un; omega))) (OpR.or (op_notInT (by have := hr.un; omega)) (OpR.or (op_notInK (hu_of hr)) (OpR.imp op_notIn_sign fun x y H Q ⟨c, z, h1, h2, q⟩ => ⟨c, z, h1, h2, by simpa using q⟩)))
theorem flat_rep {G : Gv} {H : Hp} {d : D} {v : V} {f : List Addr} (h : flatD d = true) (r : Rep G H d v f) : flatV v = true := by
  cases d <;> first | (cases h; done) | (rw [r.1]; rfl)
theorem flat_eq {G : Gv} {H : Hp} {d e : D} {v w : V} {f g : List Addr} (hd : flatD d = true) (he : flatD e = true) (r : Rep G H d v f) (s : Rep G H e w g) : eqV v w = flatEq d e := by
  cases d <;> first | (cases hd; done) | (cases e <;> first | (cases he; done) | (rw [r.1, s.1]; rfl))
theorem flat_all {G : Gv} {H : Hp} : ∀ {ds : List D} {vs : List V} {f : List Addr}, ds.all flatD = true → Reps G H ds vs f → vs.all flatV = true
  | [], vs, f, _, r => by rw [r.1]; rfl
  | d :: ds, vs, f, h, ⟨v, t, f1, f2, e, p, q, _⟩ => by
    subst e
    obtain ⟨h1, h2⟩ := Bool.and_eq_true_iff.mp (show (flatD d && ds.all flatD) = true from h)
    show (flatV v && t.all flatV) = true
    rw [flat_rep h1 p, flat_all h2 q]
    rfl
theorem flat_any {G : Gv} {H : Hp} {x : D} {v : V} {g : List Addr} (hx : flatD x = true) (s : Rep G H x v g) : ∀ {ds : List D} {vs : List V} {f : List Addr}, ds.all flatD = true → Reps G H ds vs f → inV v vs = ds.any fun z => flatEq z x
  | [], vs, f, _, r => by rw [r.1]; rfl
  | d :: ds, vs, f, h, ⟨w, t, f1, f2, e, p, q, _⟩ => by
    subst e
    obtain ⟨h1, h2⟩ := Bool.and_eq_true_iff.mp (show (flatD d && ds.all flatD) = true from h)
    show (eqV w v || inV v t) = (flatEq d x || ds.any fun z => flatEq z x)
    rw [flat_eq h1 hx p s, flat_any hx s h2 q]
theorem row_rep {G : Gv} {H : Hp} {y : D} {ds : List D} {v : V} {f : List Addr} (h : rowOf y = some ds) (r : Rep G H y v f) : ∃ a vs g, v = .ref a ∧ (SqL G.K H a vs ∨ SqT G.K H a vs) ∧ Reps G H ds vs g := by
  cases y <;> first | (cases h; done) | skip
  · cases h
    obtain ⟨a, vs, e, s, rs⟩ := r
    exact ⟨a, vs, _, e, .inr s, rs⟩
  · cases h
    obtain ⟨a, vs, f1, e, s, rs, _⟩ := r
    exact ⟨a, vs, f1, e, .inl (.inl (.inl s)), rs⟩
  · cases h
    obtain ⟨a, o, vs, e, s, rs, _⟩ := r
    exact ⟨a, vs, [], e, .inl (.inl (.inr ⟨o, s⟩)), rs⟩
theorem RepK.isSome {G : Gv} {H : Hp} {q : Key} : ∀ {ds : List (D × D)} {ws : List (Key × V)} {f : List Addr}, RepK G H ds ws f → (lookV ws q).isSome = (lookD ds q).isSome
  | [], ws, f, r => by rw [r.1]; rfl
  | (k, d) :: ds, ws, f, ⟨kk, v, t, f1, f2, e, ek, p, rs, _⟩ => by
    subst e ek
    have e1 : lookD ((keyD kk, d) :: ds) q = if kk = q then some d else lookD ds q := by
      cases kk <;> cases q <;> simp [lookD, keyD]
    have e2 : lookV ((kk, v) :: t) q = if kk = q then some v else lookV t q := rfl
    rw [e1, e2]
    split
    · rfl
    · exact RepK.isSome rs
theorem shaped_list {ds : List D} (h : okEq (.lst ds) = true) : SeqAt.shaped (.list (toPys ds)) = true := h
theorem in_cases {G : Gv} {H : Hp} {x y : D} {v w : V} {f g : List Addr} {k : Bool} (e : inD x y = some k) (r : Rep G H x v f) (s : Rep G H y w g) :
    (∃ p xs, w = .ref p ∧ (SqL G.K H p xs ∨ SqT G.K H p xs) ∧ flatV v = true ∧ xs.all flatV = true ∧ inV v xs = k) ∨
    (∃ d ds, Dp G.K H v d ∧ (Dp G.K H w (.list ds) ∧ SeqAt.shaped (.list ds) = true ∨ Dp G.K H w (.tuple ds) ∧ SeqAt.shaped (.tuple ds) = true) ∧ SeqAt.shaped d = true ∧ (ds.any fun z => PyData.eqv z d) = k) ∨
    (∃ a o, w = .ref a ∧ DGet H a v o ∧ o.isSome = k) ∨ (∃ (c : Nat) (z : Str), v = .str ⟨#[c]⟩ ∧ w = .str z ∧ decide (c ∈ z.cps.toList) = k) := by
  have dct : ∀ kvs, (keyOf x).map (fun k => (lookD kvs k).isSome) = some k → ∀ a ws f0, w = .ref a → (H a = some (.dK ws) ∨ ∃ o, H a = some (.frz o (.dK ws))) → RepK G H kvs ws f0 → ∃ a o, w = .ref a ∧ DGet H a v o ∧ o.isSome = k := fun kvs e a ws f0 ew hd rk => by
    obtain ⟨kk, hk, ek⟩ := Option.map_eq_some_iff.mp e
    have ev := key_rep hk r
    refine ⟨a, valV ws kk, ew, ?_, ?_⟩
    · rw [ev]
      exact .inl ⟨ws, kk, hd, rfl, rfl⟩
    · rw [← ek, lookV_valV]
      exact RepK.isSome rk
  have row : ∀ ds, rowOf y = some ds → (if flatD x = true ∧ ds.all flatD = true then some (ds.any fun z => flatEq z x)
      else if okEq x = true ∧ okEq y = true then some ((toPys ds).any fun z => PyData.eqv z (toPy x)) else none) = some k →
      (∃ p xs, w = .ref p ∧ (SqL G.K H p xs ∨ SqT G.K H p xs) ∧ flatV v = true ∧ xs.all flatV = true ∧ inV v xs = k) ∨
      (∃ d ds, Dp G.K H v d ∧ (Dp G.K H w (.list ds) ∧ SeqAt.shaped (.list ds) = true ∨ Dp G.K H w (.tuple ds) ∧ SeqAt.shaped (.tuple ds) = true) ∧ SeqAt.shaped d = true ∧ (ds.any fun z => PyData.eqv z d) = k) := fun ds hr e => by
    split at e
    · rename_i h
      cases e
      obtain ⟨a, vs, g', ew, sq, rs⟩ := row_rep hr s
      exact .inl ⟨a, vs, ew, sq, flat_rep h.1 r, flat_all h.2 rs, flat_any h.1 r h.2 rs⟩
    · split at e
      · rename_i h
        cases e
        refine .inr ⟨toPy x, toPys ds, Rep.dp _ _ _ r (okEq_lay h.1), ?_, h.1, rfl⟩
        cases y <;> first | (cases hr; done) | skip
        · cases hr
          exact .inr ⟨Rep.dp _ _ _ s (okEq_lay h.2), h.2⟩
        · cases hr
          exact .inl ⟨Rep.dp _ _ _ s (okEq_lay h.2), h.2⟩
        · cases hr
          exact .inl ⟨Rep.dp _ _ _ s (okEq_lay h.2), h.2⟩
      · cases e
  cases y with
  | dct kvs =>
    obtain ⟨a, ws, f0, ew, hd, rk, _⟩ := s
    exact .inr (.inr (.inl (dct kvs e a ws f0 ew (.inl hd) rk)))
  | fdct kvs =>
    obtain ⟨a, o, ws, ew, hd, rk, _⟩ := s
    exact .inr (.inr (.inl (dct kvs e a ws [] ew (.inr ⟨o, hd⟩) rk)))
  | str z =>
    unfold inD at e
    dsimp only at e
    split at e
    · rename_i c
      split at e
      · rename_i n hn
        cases e
        refine .inr (.inr (.inr ⟨n, z, ?_, s.1, rfl⟩))
        rw [r.1]
        obtain ⟨⟨l⟩⟩ := c
        have hn : l = [n] := hn
        rw [hn]
      · cases e
    · cases e
  | tup ds => exact (row ds rfl e).imp id .inl
  | lst ds => exact (row ds rfl e).imp id .inl
  | flst ds => exact (row ds rfl e).imp id .inl
  | non => cases e
  | bl b => cases e
  | int i => cases e
  | ins c fs => cases e
theorem pIn {G : Gv} : POp2 G (rInAll G.K) gIn := by
  intro d1 d2 d v1 v2 f1 f2 H Q g r1 r2 q
  obtain ⟨k, e, ek⟩ := Option.map_eq_some_iff.mp g
  subst ek
  have q' := q (.bl k) H [] Keep.refl ⟨rfl, rfl⟩ fr0
  rcases in_cases e r1 r2 with ⟨p, xs, h1, h2, h3, h4, h5⟩ | ⟨d, ds, h1, h2, h3, h4⟩ | ⟨a, o, h1, h2, h3⟩ | ⟨c, z, h1, h2, h3⟩
  · exact .inl (.inl ⟨p, xs, h1, h2, h3, h4, by rw [h5]; exact q'⟩)
  · rcases h2 with ⟨h2, h5⟩ | ⟨h2, h5⟩
    · exact .inl (.inr ⟨d, ds, h1, h2, h3, h5, by rw [h4]; exact q'⟩)
    · exact .inr (.inl ⟨d, ds, h1, h2, h3, h5, by rw [h4]; simpa using q'⟩)
  · exact .inr (.inr (.inl ⟨a, o, h1, h2, by rw [h3]; simpa using q'⟩))
  · exact .inr (.inr (.inr ⟨c, z, h1, h2, by rw [h3]; simpa using q'⟩))
theorem pNotIn {G : Gv} : POp2 G (rNotInAll G.K) gNotIn := by
  intro d1 d2 d v1 v2 f1 f2 H Q g r1 r2 q
  obtain ⟨k, e, ek⟩ := Option.map_eq_some_iff.mp g
  subst ek
  have q' := q (.bl (!k)) H [] Keep.refl ⟨rfl, rfl⟩ fr0
  rcases in_cases e r1 r2 with ⟨p, xs, h1, h2, h3, h4, h5⟩ | ⟨d, ds, h1, h2, h3, h4⟩ | ⟨a, o, h1, h2, h3⟩ | ⟨c, z, h1, h2, h3⟩
  · exact .inl (.inl ⟨p, xs, h1, h2, h3, h4, by rw [h5]; exact q'⟩)
  · rcases h2 with ⟨h2, h5⟩ | ⟨h2, h5⟩
    · exact .inl (.inr ⟨d, ds, h1, h2, h3, h5, by rw [h4]; exact q'⟩)
    · exact .inr (.inl ⟨d, ds, h1, h2, h3, h5, by rw [h4]; simpa using q'⟩)
  · exact .inr (.inr (.inl ⟨a, o, h1, h2, by rw [h3]; simpa using q'⟩))
  · exact .inr (.inr (.inr ⟨c, z, h1, h2, by rw [h3]; simpa using q'⟩))
end A2
end S_A4d
section S_A4e
set_option Elab.async false
set_option linter.all false
set_option maxRecDepth 100000
set_option maxHeartbeats 4000000
open PySem PySem.Spec L2
open PyProof.Rows hiding St
namespace A2
/-! ## list.pop(i), list(range(..)), tuple(range(..)) -/
def smallI (i : Int) : Bool := decide (-(2 ^ 40) ≤ i) && decide (i < 2 ^ 40)
theorem smallI_ok {i : Int} (h : smallI i = true) : -(2 ^ 63) ≤ i ∧ i < 2 ^ 63 := by
  unfold smallI at h
  simp only [Bool.and_eq_true, decide_eq_true_eq] at h
  omega
theorem smallI_of {i : Int} (h0 : 0 ≤ i) (h1 : i < 1000000) : smallI i = true := by
  unfold smallI
  simp only [Bool.and_eq_true, decide_eq_true_eq]
  omega
def popAtOf (s : Nat) (x : RV) (ys : List RV) (σd : DSt) : Res RV := match x, getAll σd ys with
  | .plc s' p, some [.int i] => if s' = s then (match σd[s]? with
    | some (some d0) => (match getP d0 p with
      | some (.lst ds) => if D.imms ds = true ∧ smallI i = true then (match ixN ds.length i with
        | some k => (match ds[k]? with
          | some d => .ok (.tmp d) (σd.set s (some (setP d0 p (.lst (ds.eraseIdx k)))))
          | none => .bad)
        | none => .bad) else .bad
      | _ => .bad)
    | _ => .bad) else .bad
  | _, _ => .bad
def cPopAt (s : Nat) (o : EC) (a : AC) : EC := ⟨runM "list" o a (popAtOf s), o.rw ++ (a.rw ++ [s])⟩
section
variable {G : Gv} {W : WX} {H H1 H2 H' : Hp} {σd σd1 σd2 σd' : DSt} {σ σ1 σ' : L2.St} {fps fps1 fps2 fps' : Nat → List Addr} {r r1 r2 a0 a1 a2 vs : List Nat} {tf tf' e1 e2 ex : List Addr}
theorem Reps.erase : ∀ {ds : List D} {us : List V} {k : Nat}, Reps G H ds us [] → Reps G H (ds.eraseIdx k) (us.eraseIdx k) []
  | [], us, k, h => by rw [h.1]; simp; exact ⟨rfl, rfl⟩
  | d :: ds, us, k, ⟨v, t, f1, f2, e, p, q, dj, ef⟩ => by
    obtain ⟨h1, h2⟩ := List.append_eq_nil_iff.mp ef.symm
    subst e h1 h2
    cases k with
    | zero => exact q
    | succ k => exact ⟨v, _, [], [], rfl, p, Reps.erase q, dj, rfl⟩
theorem Reps.nth : ∀ {ds : List D} {us : List V} {k : Nat} {d : D}, Reps G H ds us [] → ds[k]? = some d → ∃ v, us[k]? = some v ∧ Rep G H d v []
  | [], us, k, d, h, e => by simp at e
  | d0 :: ds, us, k, d, ⟨v, t, f1, f2, e, p, q, dj, ef⟩, h => by
    obtain ⟨h1, h2⟩ := List.append_eq_nil_iff.mp ef.symm
    subst e h1 h2
    cases k with
    | zero =>
      have e' : d0 = d := by simpa using h
      subst e'
      exact ⟨v, rfl, p⟩
    | succ k =>
      obtain ⟨w, h1, h2⟩ := Reps.nth (k := k) q (by simpa using h)
      exact ⟨w, by simpa using h1, h2⟩
theorem popAt_end {s : Nat} {x : RV} {ys : List RV} {v : V} {us : List V} {f1 f2 : List Addr} {Q : VK} (hs : s ∈ r) (E : EnvR G H σd σ fps) (R1 : RvR G H σ fps x v f1) (R2 : RvsR G H σ fps ys us f2)
    (q : rdr G W r (f2 ++ f1) σ H σd fps (popAtOf s x ys σd) Q) : rPopAt v us H Q := by
  unfold popAtOf at q
  split at q
  · rename_i s' p i hy
    have ev := vals_int1 E R2 hy
    split at q
    · rename_i es
      subst es
      split at q
      · rename_i d0 hd0
        split at q
        · rename_i ds hp
          split at q
          · rename_i hc
            split at q
            · rename_i k hk
              split at q
              · rename_i d hd
                obtain ⟨fM, rM, sub, up⟩ := place_upd (tf := f2 ++ f1) E hd0 hp R1
                obtain ⟨a, xs, f0, ea, sa, rs, na, ef⟩ := rM
                have e0 := Reps.imm ds xs f0 hc.1 rs
                subst e0
                subst ea ef ev
                obtain ⟨w, hw, rw'⟩ := Reps.nth rs hd
                have kM := updKeep (o' := .lst (xs.eraseIdx k)) (List.mem_cons_self ..) sa trivial (fM := [a])
                obtain ⟨fps', E', S', _⟩ := up (upd H a (.lst (xs.eraseIdx k))) (.lst (ds.eraseIdx k)) [a] kM ⟨a, _, [], rfl, upd_same, Reps.keep kM _ _ [] (fun b hb => nomatch hb) (Reps.erase rs), na, rfl⟩ (fun b hb => .inl hb) (fun b hb => .inl hb) updDom
                have hb := smallI_ok hc.2
                refine ⟨a, xs, i, k, w, rfl, rfl, sa, hb.1, hb.2, by rw [rs.len]; exact (ixN_seq hk).1, hw, ?_⟩
                exact q w _ fps' [] E' ⟨Rep.keep kM d w [] (fun b hb => nomatch hb) rw', fun _ => djnil⟩ (S'.wk (fun j h => by rw [List.mem_singleton.mp h]; exact hs) (fun _ h => h) (fun _ h => nomatch h))
              · exact q.elim
            · exact q.elim
          · exact q.elim
        · exact q.elim
      · exact q.elim
    · exact q.elim
  · exact q.elim
end
section
variable {X : Cx} {W : WX} {o e : Expr} {es : List Expr} {co : EC} {a : AC} {apos cpos : Pos}
theorem de_popAt (s : Nat) (ho : DE X W o co) (ha : DA X W (e :: es) a) (hbase : attributeBase o "pop" X.env (eval o X.env) = eval o X.env := by rfl)
    (hfew : ((backTo cpos (starEach (e :: es) X.env)).all (fun x => !x.1) && (backToKw cpos (keywordEach [] X.env)).all (fun x => x.1.isSome)
      && decide ((e :: es).length + ([] : List Keyword).length + (if ([] : List Keyword).isEmpty then 0 else 1) < 30)) = true := by rfl)
    (hline : (apos.endLine == cpos.line) = true := by rfl) (hs : starEach (e :: es) X.env = (false, eval e X.env) :: starEach es X.env := by rfl) (hplain : (backTo cpos (starEach es X.env)).any (·.1) = false := by rfl) :
    DE X W (.Call (.Attribute o "pop" apos) (e :: es) [] cpos) (cPopAt s co a) :=
  (pe_bm PySem.F.plainAttrs_list PySem.F.slot_list_pop PySem.F.type_list_pop mt_popAt ho ha hbase hfew hline hs hplain).le fun σ H Q h =>
    bm_rd h fun x ys σd2 v vs H2 fps2 f1 f2 E2 R1 R2 d12 q => popAt_end (mem_r s (mem_r s (List.mem_singleton.mpr rfl))) E2 R1 R2 q
end
/-! ### list(range(n)), tuple(range(n)) -/
def rgMk (mk : List D → D) (a b : Int) (σd : DSt) : Res RV := if inR a = true ∧ inR b = true ∧ (b - a).toNat ≤ 1000 then .ok (.tmp (mk (rangeD a (b - a).toNat))) σd else .bad
def rg1Of (mk : List D → D) (x : RV) (σd : DSt) : Res RV := match x.get σd with
  | some (.int n) => rgMk mk 0 n σd
  | _ => .bad
def rg2Of (mk : List D → D) (x y : RV) (σd : DSt) : Res RV := match x.get σd, y.get σd with
  | some (.int m), some (.int n) => rgMk mk m n σd
  | _, _ => .bad
def cRg1 (mk : List D → D) (c : EC) : EC := ⟨fun σd => (c.run σd).bind (rg1Of mk), c.rw ++ []⟩
def cRg2 (mk : List D → D) (a b : EC) : EC := ⟨run2 a b (rg2Of mk), a.rw ++ b.rw⟩
theorem reps_rg {G : Gv} {H : Hp} : ∀ (n : Nat) (a : Int), Reps G H (rangeD a n) ((List.range n).map fun i => V.int (a + (i : Nat))) []
  | 0, a => ⟨rfl, rfl⟩
  | n + 1, a => by
    have ih := reps_rg (G := G) (H := H) n (a + 1)
    refine ⟨.int a, (List.range n).map (fun i => V.int (a + 1 + (i : Nat))), [], [], ?_, ⟨rfl, rfl⟩, ih, djnil, rfl⟩
    rw [List.range_succ_eq_map, List.map_cons, List.map_map]
    congr 1
    · simp
    · refine List.map_congr_left fun i _ => ?_
      simp only [Function.comp, Nat.succ_eq_add_one]
      congr 1
      omega
theorem rgMk_lst {G : Gv} {W : WX} {r : List Nat} {tf : List Addr} {σ : L2.St} {H : Hp} {σd : DSt} {fps : Nat → List Addr} {a b : Int} {Q : VK} (E : EnvR G H σd σ fps) (q : rdr G W r tf σ H σd fps (rgMk .lst a b σd) Q) : RgOk a b ∧ ∀ q, H q = none → Q (.ref q) (upd H q (.lst (rgV a b))) := by
  unfold rgMk at q
  split at q
  · rename_i h
    obtain ⟨h1, h2⟩ := inR_ok h.1
    obtain ⟨h3, h4⟩ := inR_ok h.2.1
    refine ⟨⟨h1, h2, h3, h4, Nat.le_trans h.2.2 (by decide)⟩, fun p n => ?_⟩
    have k := keepF (o := .lst (rgV a b)) n
    exact fin_new (H' := upd H p (.lst (rgV a b))) (fp := [p]) E q k ⟨p, rgV a b, [], rfl, upd_same, Reps.keep k _ _ _ (fun _ h => nomatch h) (reps_rg _ _), (fun h => nomatch h), rfl⟩ fun x hx => by rw [List.mem_singleton.mp hx]; exact n
  · exact q.elim
theorem rgMk_tup {G : Gv} {W : WX} {r : List Nat} {tf : List Addr} {σ : L2.St} {H : Hp} {σd : DSt} {fps : Nat → List Addr} {a b : Int} {Q : VK} (E : EnvR G H σd σ fps) (q : rdr G W r tf σ H σd fps (rgMk .tup a b σd) Q) : RgOk a b ∧ ∀ q, H q = none → Q (.ref q) (upd H q (.tup (rgV a b))) := by
  unfold rgMk at q
  split at q
  · rename_i h
    obtain ⟨h1, h2⟩ := inR_ok h.1
    obtain ⟨h3, h4⟩ := inR_ok h.2.1
    refine ⟨⟨h1, h2, h3, h4, Nat.le_trans h.2.2 (by decide)⟩, fun p n => ?_⟩
    have k := keepF (o := .tup (rgV a b)) n
    exact fin_new (H' := upd H p (.tup (rgV a b))) (fp := []) E q k ⟨p, rgV a b, rfl, .inl (.inl upd_same), Reps.keep k _ _ _ (fun _ h => nomatch h) (reps_rg _ _)⟩ fun x hx => nomatch hx
  · exact q.elim
section
variable {X : Cx} {W : WX} {e e1 e2 : Expr} {c c1 c2 : EC} {p po pos pp : Pos}
theorem rg1_rd {G : Gv} {W : WX} {mk : List D → D} {c : EC} {σ : L2.St} {H : Hp} {Q : VK} {P : Int → Int → Hp → Prop} (h : rd G W (cRg1 mk c) σ H Q) (k : ∀ r tf H σd fps a b, EnvR G H σd σ fps → rdr G W r tf σ H σd fps (rgMk mk a b σd) Q → P a b H) : rd G W c σ H fun x H1 => ∃ n, x = .int n ∧ P 0 n H1 :=
  rd_then h fun x σd1 v H1 fps1 f1 E1 R1 q => by
    unfold rg1Of at q
    split at q
    · rename_i n hn
      obtain ⟨g, s, _⟩ := R1.rep E1 hn
      exact ⟨n, s.1, k _ _ _ _ _ _ _ E1 q⟩
    · exact q.elim
theorem rg2_rd {G : Gv} {W : WX} {mk : List D → D} {a b : EC} {σ : L2.St} {H : Hp} {Q : VK} {P : Int → Int → Hp → Prop} (h : rd G W (cRg2 mk a b) σ H Q) (k : ∀ r tf H σd fps a b, EnvR G H σd σ fps → rdr G W r tf σ H σd fps (rgMk mk a b σd) Q → P a b H) : rd G W a σ H fun x H1 => rd G W b σ H1 fun y H2 => ∃ i j, x = .int i ∧ y = .int j ∧ P i j H2 := by
  obtain ⟨σd, fps, E, q⟩ := h
  refine rd_two (r := a.rw ++ b.rw) (tf := []) E mem_l mem_r q nilD nilN fun x y σd2 v1 v2 H2 fps2 f1 f2 E2 R1 R2 _ _ _ q2 => ?_
  unfold rg2Of at q2
  split at q2
  · rename_i m n hm hn
    obtain ⟨g1, s1, _⟩ := R1.rep E2 hm
    obtain ⟨g2, s2, _⟩ := R2.rep E2 hn
    exact ⟨m, n, s1.1, s2.1, k _ _ _ _ _ _ _ E2 q2⟩
  · exact q2.elim
theorem de_listRg1 (hc : X.calm = true) (hm : X.mg "list" = none) (hmr : X.mg "range" = none) (h : DE X W e c) (hg : Gl X "list" := by rfl) (hgr : Gl X "range" := by rfl) (na1 : starEach [e] X.env = (false, eval e X.env) :: starEach [] X.env := by rfl)
    (na : starEach [Expr.Call (.Name "range" po) [e] [] pp] X.env = (false, eval (.Call (.Name "range" po) [e] [] pp) X.env) :: starEach [] X.env := by rfl) : DE X W (.Call (.Name "list" p) [.Call (.Name "range" po) [e] [] pp] [] pos) (cRg1 .lst c) :=
  (pe_listRg hc hg hm (prg_1 hgr hmr h na1) na).le fun σ H Q h => rg1_rd h fun r tf H σd fps a b E q => rgMk_lst E q
theorem de_listRg2 (hc : X.calm = true) (hm : X.mg "list" = none) (hmr : X.mg "range" = none) (h1 : DE X W e1 c1) (h2 : DE X W e2 c2) (hg : Gl X "list" := by rfl) (hgr : Gl X "range" := by rfl) (na1 : starEach [e1, e2] X.env = (false, eval e1 X.env) :: starEach [e2] X.env := by rfl) (na2 : starEach [e2] X.env = (false, eval e2 X.env) :: starEach [] X.env := by rfl) (hp : ((backTo pp (starEach [e2] X.env)).any fun x => x.fst) = false := by rfl)
    (na : starEach [Expr.Call (.Name "range" po) [e1, e2] [] pp] X.env = (false, eval (.Call (.Name "range" po) [e1, e2] [] pp) X.env) :: starEach [] X.env := by rfl) : DE X W (.Call (.Name "list" p) [.Call (.Name "range" po) [e1, e2] [] pp] [] pos) (cRg2 .lst c1 c2) :=
  (pe_listRg hc hg hm (prg_2 hgr hmr h1 h2 na1 na2 hp) na).le fun σ H Q h => rg2_rd h fun r tf H σd fps a b E q => rgMk_lst E q
theorem de_tupRg1 (hc : X.calm = true) (hm : X.mg "tuple" = none) (hmr : X.mg "range" = none) (h : DE X W e c) (hg : Gl X "tuple" := by rfl) (hgr : Gl X "range" := by rfl) (na1 : starEach [e] X.env = (false, eval e X.env) :: starEach [] X.env := by rfl)
    (na : starEach [Expr.Call (.Name "range" po) [e] [] pp] X.env = (false, eval (.Call (.Name "range" po) [e] [] pp) X.env) :: starEach [] X.env := by rfl) : DE X W (.Call (.Name "tuple" p) [.Call (.Name "range" po) [e] [] pp] [] pos) (cRg1 .tup c) :=
  (pe_tupRg hc hg hm (prg_1 hgr hmr h na1) na).le fun σ H Q h => rg1_rd h fun r tf H σd fps a b E q => rgMk_tup E q
theorem de_tupRg2 (hc : X.calm = true) (hm : X.mg "tuple" = none) (hmr : X.mg "range" = none) (h1 : DE X W e1 c1) (h2 : DE X W e2 c2) (hg : Gl X "tuple" := by rfl) (hgr : Gl X "range" := by rfl) (na1 : starEach [e1, e2] X.env = (false, eval e1 X.env) :: starEach [e2] X.env := by rfl) (na2 : starEach [e2] X.env = (false, eval e2 X.env) :: starEach [] X.env := by rfl) (hp : ((backTo pp (starEach [e2] X.env)).any fun x => x.fst) = false := by rfl)
    (na : starEach [Expr.Call (.Name "range" po) [e1, e2] [] pp] X.env = (false, eval (.Call (.Name "range" po) [e1, e2] [] pp) X.env) :: starEach [] X.env := by rfl) : DE X W (.Call (.Name "tuple" p) [.Call (.Name "range" po) [e1, e2] [] pp] [] pos) (cRg2 .tup c1 c2) :=
  (pe_tupRg hc hg hm (prg_2 hgr hmr h1 h2 na1 na2 hp) na).le fun σ H Q h => rg2_rd h fun r tf H σd fps a b E q => rgMk_tup E q
end
end A2
end S_A4e
section S_A4f
set_option Elab.async false
set_option linter.all false
set_option maxRecDepth 100000
set_option maxHeartbeats 4000000
open PySem PySem.Spec L2
open PyProof.Rows hiding St
namespace A2
/-! ## methods by name: what the top has written -/
structure TopM (K : PySem.W.Frag) (mg : Str → Option Value) (cn m qual : Str) (st : Stmt) : Prop where
  ex : ∃ C f fd, mg cn = some (.ref C) ∧ Cls K C ∧ Meth K C m f ∧ Fun K m qual st f fd
structure TopI (K : PySem.W.Frag) (mg : Str → Option Value) (cn qual : Str) (st : Stmt) : Prop where
  ex : ∃ C f fd, mg cn = some (.ref C) ∧ Mk K C f ∧ Fun K "__init__" qual st f fd
section
variable {P : Program} {w : World} {K : PySem.W.Frag} {mg : Str → Option Value} {base : Heap}
theorem methAt_ok {cn x qual : Str} {st : Stmt} {N ps : List Str} {k n m : Nat} {b : SC} (hn : ps.length = n) (hm : N.length = m) (F : TopM K mg cn x qual st) (S : FnScope N ps (defScope st)) (hsub : subB b.asg b.rw = true)
    (hbind : ∀ (kV doc pm : Value) (an : Option Addr) (cdv ct : Value) (us : List Value), us.length = ps.length → bindArgs (PySem.W.fnOf x qual (defArgs st) (defBody st) (defScope st) .none kV doc pm an cdv ct) ⟨us, []⟩ = pure (ps.zip us))
    (hbody : ∀ (f : Addr) (cdv : Value) (A : Around) (outer : List Env) (s : Shared) (H : Hp) (E : XK), Room k (A.deeper (envOfC qual (defScope st) s.heap.objs.size f cdv)) →
      Takes (cxOf (L2.CX P w) P w K mg base N qual (defScope st) f cdv A outer s H E) (fun cls d _ H => E cls d H) →
      DSs (cxOf (L2.CX P w) P w K mg base N qual (defScope st) f cdv A outer s H E) (fun cls d _ H => E cls d H) (defBody st) b) : MethA P w K mg base (k + 1) cn x ps (fnOf n m b) := by
  subst hn hm
  obtain ⟨C, f, fd, em, cl, me, F⟩ := F
  exact ⟨C, f, fd, em, cl, me, fn_ok F S hsub (fun cdv _ => hbody f cdv), F.binds hbind⟩
theorem makeAt_ok {cn qual : Str} {st : Stmt} {N ps : List Str} {k n m : Nat} {b : SC} (hn : ps.length = n) (hm : N.length = m) (F : TopI K mg cn qual st) (S : FnScope N ps (defScope st)) (hsub : subB b.asg b.rw = true)
    (hbind : ∀ (kV doc pm : Value) (an : Option Addr) (cdv ct : Value) (us : List Value), us.length = ps.length → bindArgs (PySem.W.fnOf "__init__" qual (defArgs st) (defBody st) (defScope st) .none kV doc pm an cdv ct) ⟨us, []⟩ = pure (ps.zip us))
    (hbody : ∀ (f : Addr) (cdv : Value) (A : Around) (outer : List Env) (s : Shared) (H : Hp) (E : XK), Room k (A.deeper (envOfC qual (defScope st) s.heap.objs.size f cdv)) →
      Takes (cxOf (L2.CX P w) P w K mg base N qual (defScope st) f cdv A outer s H E) (fun cls d _ H => E cls d H) →
      DSs (cxOf (L2.CX P w) P w K mg base N qual (defScope st) f cdv A outer s H E) (fun cls d _ H => E cls d H) (defBody st) b) : MakeA P w K mg base (k + 1) cn ps (fnOf n m b) := by
  subst hn hm
  obtain ⟨C, f, fd, em, mk, F⟩ := F
  exact ⟨C, f, fd, em, mk, fn_ok F S hsub (fun cdv _ => hbody f cdv), F.binds hbind⟩
/-- a method's promise that promises nothing -/
def fnBad (n : Nat) : FnC := ⟨n, fun _ => .bad, []⟩
theorem fnOk_bad {f : Addr} {fd : FuncData} {ps : List Str} {k n : Nat} : FnOk P w K mg base (L2.CX P w) k f fd ps (spF ⟨K, mg, tabsOf K⟩ (fnBad n)) :=
  ⟨fun vs H Q E ⟨_, ds, fps, _, q⟩ => q.elim, fun A outer s H args us vs Q E _ _ _ _ ⟨_, ds, fps, _, q⟩ => q.elim⟩
theorem methAt_bad {cn x qual : Str} {st : Stmt} {ps : List Str} {k n : Nat} (F : TopM K mg cn x qual st)
    (hbind : ∀ (kV doc pm : Value) (an : Option Addr) (cdv ct : Value) (us : List Value), us.length = ps.length → bindArgs (PySem.W.fnOf x qual (defArgs st) (defBody st) (defScope st) .none kV doc pm an cdv ct) ⟨us, []⟩ = pure (ps.zip us)) : MethA P w K mg base k cn x ps (fnBad n) := by
  obtain ⟨C, f, fd, em, cl, me, F⟩ := F
  exact ⟨C, f, fd, em, cl, me, fnOk_bad, F.binds hbind⟩
theorem fnAt_bad {x : Str} {st : Stmt} {ps : List Str} {k n : Nat} (F : TopF K mg x st)
    (hbind : ∀ (kV doc pm : Value) (an : Option Addr) (cdv ct : Value) (us : List Value), us.length = ps.length → bindArgs (PySem.W.fnOf x x (defArgs st) (defBody st) (defScope st) .none kV doc pm an cdv ct) ⟨us, []⟩ = pure (ps.zip us)) : FnAt P w K mg base k x ps (fnBad n) := by
  obtain ⟨f, fd, F, m⟩ := F
  refine ⟨f, fd, fnOk_bad, m, F.kp, F.binds hbind, ?_⟩
  obtain ⟨_, _, _, _, _, _, _, _, _, _, lk, _⟩ := F.ex
  unfold fdO
  rw [lk]
end
/-! ### .. by one kernel run -/
section
open PySem.W (Frag)
variable {d : HeadD} {K : Frag} {mg : Str → Option Value} {h base : Heap} {P : Program} {w : World}
def mfn (cn m qual : Str) (st : Stmt) : He.FnD := ⟨(cn, some m), m, qual, defArgs st, defBody st, defScope st⟩
theorem topM_of (X : K.In h) (G : h.Ns mainGlobals mg) (c : d.ob K = d.val) {cn m qual : Str} {st : Stmt} (i j l k : Nat) (h1 : d.fa[i]? = some (.glo cn) := by rfl) (h2 : d.fa[j]? = some (.cls cn) := by rfl) (h4 : d.fa[l]? = some (.meth cn m) := by rfl) (h3 : d.fn[k]? = some (mfn cn m qual st) := by rfl) : TopM K mg cn m qual st := by
  have c1 := HeadD.says c
  obtain ⟨oc, od, osl, kV, doc, pm, an, cdv, ct, lk, cd⟩ := c1.def_ k h3
  have me := He.meth_ok (c1.fact l h4)
  exact ⟨_, _, _, He.glo_ok X G (c1.fact i h1), He.cls_ok (c1.fact j h2), me, fun_mk (st := st) lk cd me.kp⟩
theorem topI_of (X : K.In h) (G : h.Ns mainGlobals mg) (c : d.ob K = d.val) {cn qual : Str} {st : Stmt} (i j l k : Nat) (h1 : d.fa[i]? = some (.glo cn) := by rfl) (h2 : d.fa[j]? = some (.mkr cn) := by rfl) (h4 : d.fa[l]? = some (.meth cn "__init__") := by rfl) (h3 : d.fn[k]? = some (mfn cn "__init__" qual st) := by rfl) : TopI K mg cn qual st := by
  have c1 := HeadD.says c
  obtain ⟨oc, od, osl, kV, doc, pm, an, cdv, ct, lk, cd⟩ := c1.def_ k h3
  exact ⟨_, _, _, He.glo_ok X G (c1.fact i h1), He.mkr_ok (c1.fact j h2), fun_mk (st := st) lk cd (He.meth_ok (c1.fact l h4)).kp⟩
theorem cls1_of (X : K.In h) (G : h.Ns mainGlobals mg) (c : d.ob K = d.val) {cn f : Str} (i j l : Nat) (h1 : d.fa[i]? = some (.glo cn) := by rfl) (h2 : d.fa[j]? = some (.cls cn) := by rfl) (h4 : d.fa[l]? = some (.noat cn f) := by rfl) : ClsA K mg [cn] [f] := by
  have c1 := HeadD.says c
  refine ⟨fun x hx => ?_⟩
  rw [List.mem_singleton.mp hx]
  exact ⟨_, He.glo_ok X G (c1.fact i h1), He.cls_ok (c1.fact j h2), fun y hy => by rw [List.mem_singleton.mp hy]; exact He.noat_ok (c1.fact l h4)⟩
theorem ClsA.more {cs ds fs : List Str} (a : ClsA K mg cs fs) (b : ClsA K mg ds fs) : ClsA K mg (cs ++ ds) fs := ⟨fun x hx => (List.mem_append.mp hx).elim (a.ok x) (b.ok x)⟩
end
/-! ## the suite: told.append(e.code) -/
section
variable {X : Cx} {W : WX} {i : Nat} {a0 C : Addr} {cls : Value} {d : Option Addr} {pos apos cpos : Pos} {o e : Expr} {co : EC} {ca : Exc → EC} {rwh : List Nat}
theorem rd_monoK {G : Gv} {W : WX} {c : EC} {σ : L2.St} {H : Hp} {Q Q' : VK} (hc : c.rw = []) (h : rd G W c σ H Q) (k : ∀ v H', Keep (fun _ => False) H H' → Q v H' → Q' v H') : rd G W c σ H Q' := by
  obtain ⟨σd, fps, E, q⟩ := h
  refine ⟨σd, fps, E, ?_⟩
  cases hr : c.run σd with
  | ok rv σd1 =>
    rw [hr] at q
    exact fun v H' fps' f E' R' S' => k v H' (S'.keep.mono fun a z => z.elim (fun ⟨j, hj, _⟩ => by rw [hc] at hj; cases hj) fun z => nomatch z) (q v H' fps' f E' R' S')
  | err x σd1 =>
    rw [hr] at q
    exact q
  | bad =>
    rw [hr] at q
    exact q
theorem Caught.keep {G : Gv} {i : Nat} {a : Addr} {cls : Value} {d : Option Addr} {x : Exc} {σ : L2.St} {H H' : Hp} (h : Caught G i a cls d x σ H) (k : Keep (fun _ => False) H H') : Caught G i a cls d x σ H' := by
  obtain ⟨⟨C, dd, ws, m1, m2, m3, m4, m5⟩, hs⟩ := h
  exact ⟨⟨C, dd, ws, m1, m2, m3, k.at_ _ _ m4 (fun _ z => nomatch z) (.inl id), RepF.keep k _ _ _ (fun _ h => nomatch h) m5⟩, hs⟩
theorem dx_app (s : Nat) (ho : DE X W o co) (hco : co.rw = []) (ha : PE X e (rdX (gv X) W i a0 cls d ca)) (hbase : attributeBase o "append" X.env (eval o X.env) = eval o X.env := by rfl)
    (hfew : ((backTo cpos (starEach [e] X.env)).all (fun x => !x.1) && (backToKw cpos (keywordEach [] X.env)).all (fun x => x.1.isSome)
      && decide ([e].length + ([] : List Keyword).length + (if ([] : List Keyword).isEmpty then 0 else 1) < 30)) = true := by rfl)
    (hline : (apos.endLine == cpos.line) = true := by rfl) (hs : starEach [e] X.env = (false, eval e X.env) :: starEach [] X.env := by rfl) (hplain : (backTo cpos (starEach [] X.env)).any (·.1) = false := by rfl) :
    PE X (.Call (.Attribute o "append" apos) [e] [] cpos) (rdX (gv X) W i a0 cls d fun x => cApp s co (aCons (ca x) aNil)) :=
  (pe_bm PySem.F.plainAttrs_list PySem.F.slot_list_append PySem.F.type_list_append mt_append ho (pa_cons ha pa_nil hs) hbase hfew hline hs hplain).le fun σ H Q ⟨x, hc, h⟩ => by
    have h1 := bm_rd h fun x ys σd2 v vs H2 fps2 f1 f2 E2 R1 R2 d12 q => app_end (mem_r s (mem_r s (List.mem_singleton.mpr rfl))) E2 R1 R2 q
    refine rd_monoK hco h1 fun v H' k ⟨ty, q⟩ => ⟨ty, ?_⟩
    have q1 := cons_rd q
    exact ⟨x, hc.keep k, rd_mono q1 fun y H2 q2 => rdA_nil q2⟩
theorem dx_expr (h : PE X e (rdX (gv X) W i a0 cls d ca)) (hr : ∀ x, (sExpr (ca x)).rw = rwh) (hs : swapsWith e none pos.line X.env = pure false := by rfl) : PS X (.Expr e pos) (rdSx (gv X) W i rwh [] (fun x => sExpr (ca x)) a0 cls d) := (ps_expr h hs).le fun D σ H ⟨x, h0, _, _, hh⟩ =>
  ⟨x, h0, rdS_E (fun _ h => h) hh fun x σd1 v H1 fps1 f1 E1 R1 q => q σ H1 fps1 E1 (Stp.refl fun _ h => nomatch h) SameV.refl⟩
end
end A2
end S_A4f
section S_A6a
set_option Elab.async false
set_option linter.all false
set_option maxRecDepth 100000
set_option maxHeartbeats 4000000
open PySem PySem.Spec L2
open PyProof.Rows hiding St
namespace A2
/-! ## x(lambda: body), x being: try: return a() / except nm as e: return e.code -/
/-- a new code object, told by the table: the heap has only grown -/
theorem keep_table {H : Hp} {P c : Addr} {ps : Array Value} {pos : Pos} (hP : H P = some (.tbl ps)) (ht : TriplesOk ps.toList) (nC : H c = none) :
    Keep (fun _ => False) H (upd (upd H P (.tbl (ps ++ #[rawInt pos.line, rawInt pos.col, .ref c]))) c (LamX.CodeO c lamQ)) := by
  have nPc : P ≠ c := ne_of_none hP nC
  have old : ∀ a o, H a = some o → (∀ qs, o ≠ .tbl qs) → upd (upd H P (.tbl (ps ++ #[rawInt pos.line, rawInt pos.col, .ref c]))) c (LamX.CodeO c lamQ) a = some o := fun a o e n => by
    have h1 : a ≠ P := fun z => by
      rw [z, hP] at e
      exact n ps (Option.some.inj e).symm
    rw [upd_ne (ne_of_none e nC), upd_ne h1]
    exact e
  refine ⟨fun a o e n _ => old a o e n, fun a qs e => ?_, fun P' ⟨qs, a1, a2, a3⟩ => ?_⟩
  · by_cases h1 : a = P
    · subst h1
      rw [hP] at e
      cases e
      exact ⟨_, by rw [upd_ne nPc, upd_same]⟩
    · exact ⟨#[], by rw [upd_ne (ne_of_none e nC), upd_ne h1, Array.append_empty]; exact e⟩
  · by_cases h1 : P' = P
    · subst h1
      rw [hP] at a1
      cases a1
      have eL : (ps ++ #[rawInt pos.line, rawInt pos.col, .ref c]).toList = ps.toList ++ [rawInt pos.line, rawInt pos.col, .ref c] := by simp
      refine ⟨_, by rw [upd_ne nPc, upd_same], by rw [eL]; exact PySem.TriplesOk_snoc _ _ _ _ ht, fun p cv h => ?_⟩
      rw [eL] at h
      rcases LamX.among_app _ ht h with z | z
      · obtain ⟨c0, e1, e2⟩ := a3 p cv z
        exact ⟨c0, e1, old _ _ e2 LamX.codeO_ne⟩
      · exact ⟨c, z, upd_same⟩
    · refine ⟨qs, by rw [upd_ne (ne_of_none a1 nC), upd_ne h1]; exact a1, a2, fun p cv h => ?_⟩
      obtain ⟨c0, e1, e2⟩ := a3 p cv h
      exact ⟨c0, e1, old _ _ e2 LamX.codeO_ne⟩
section
variable {X : Cx} {pins : List (Addr × Obj)} {σ : L2.St} {H : Hp} {s : Shared}
/-- the lambda is made; of the heap we are told that it has only grown -/
theorem lam_kept {c P : Addr} {params : Arguments} {body : Expr} {scope : Scope} {pos : Pos} {E : Value → Shared → Prop} {Q : Value → Shared → Prop} (I : Inv X pins σ H s) (TB : LamX.TabB X.base X.mg c P) (hcode : X.env.code = .ref c)
    (hq : X.env.qual ++ "<lambda>" = lamQ) (hT : LamX.TabS H P lamQ) (hdef : defaultsOf params X.env = ([], [])) (hfree : ∀ y ∈ scope.names, y.2 = .free → ∃ c, X.env.cells.lookup y.1 = some c)
    (h : ∀ (f c' : Addr) (pm ctv : Value) (H1 : Hp) (s' : Shared), Inv X pins σ H1 s' → Keep (fun _ => False) H H1 →
      s'.heap.get? f = some (PySem.W.kla_obj "<lambda>" (X.env.qual ++ "<lambda>") params body scope (cloFrom X.env.cells scope.names []) pm c' ctv) → H1 f = none → f ∉ frs X.stack → H1 c' = some (LamX.CodeO c' (X.env.qual ++ "<lambda>")) → Q (.ref f) s') :
    wpAny (model X.prog X.w) X.A (eval (.Lambda params body scope pos) X.env) Q E s := by
  obtain ⟨ps, hP, ht, ha⟩ := hT
  have bP : s.heap.BuiltinsAt X.mg P := TB.bm.keeps I.bk
  have hP' : s.heap.get? P = some { cls := .none, data := .fields ps } := I.hok P _ hP
  have nofr : ∀ f, s.heap.objs.size ≤ f → f ∉ frs X.stack := fun f hf z => by
    rcases List.mem_cons.mp (I.stkSub _ z) with e | e
    · have h1 := I.lt
      rw [← e] at h1
      exact Nat.lt_irrefl _ (Nat.lt_of_lt_of_le h1 hf)
    · exact I.nofs hf e
  refine PySem.W.kla_eval hdef ?_
  cases hc : codeAmong pos ps.toList with
  | some cv =>
    obtain ⟨c', rfl, hco⟩ := ha pos cv hc
    exact PySem.W.kla_makeFunctionHit (mg := X.mg) (c := c) (P := P) (ps := ps) (closure_ok hfree) I.ok.glob (I.mod.glob.keeps I.bk) hcode (TB.code.keeps I.bk) hP' ht hc bP fun ctv h' tk hx hsz =>
      h h'.objs.size c' _ ctv H _ (I.kept fun b o e => Heap.get?_push_of_some _ (hx b o e)) Keep.refl (Heap.get?_push_size _ rfl) (I.hok.fresh hsz) (nofr _ hsz) (by rw [hq]; exact hco)
  | none =>
    refine PySem.W.kla_makeFunction (mg := X.mg) (c := c) (P := P) (ps := ps) (closure_ok hfree) I.ok.glob (I.mod.glob.keeps I.bk) hcode (TB.code.keeps I.bk) hP' ht hc TB.gP bP fun c' ctv h' tk hx hge hlt hrec htb => ?_
    obtain ⟨c2, oc, vs, t, e2, hoc, hd, hv⟩ := hrec
    cases e2
    have hsz : s.heap.objs.size ≤ h'.objs.size := Nat.le_trans hge (Nat.le_of_lt hlt)
    have I1 := LamX.inv_table (t' := tk) (more := #[rawInt pos.line, rawInt pos.col, .ref c']) (h' := h'.push (PySem.W.kla_obj "<lambda>" (X.env.qual ++ "<lambda>") params body scope (cloFrom X.env.cells scope.names []) ((X.mg "__name__").getD .none) c' ctv)) I hP
      (fun b o hb e => Heap.get?_push_of_some _ (hx b o hb e)) (Heap.get?_push_of_some _ htb) hge ⟨oc, vs, t, Heap.get?_push_of_some _ hoc, hd, hv⟩
    have kp := keep_table (pos := pos) hP ht (I.hok.fresh hge)
    rw [← hq] at kp
    refine h h'.objs.size c' ((X.mg "__name__").getD .none) ctv _ _ I1 kp (Heap.get?_push_size _ rfl) ?_ (nofr _ hsz) upd_same
    rw [upd_ne (Nat.ne_of_gt hlt), upd_ne (Nat.ne_of_gt (Nat.lt_of_lt_of_le (Heap.lt_size hP') hsz))]
    exact I.hok.fresh hsz
end
/-- what a() lets out: an exception of the class CS, whose code is given back -/
def XAsk (K : PySem.W.Frag) (CS : Addr) (Q : VK) : XK := fun cls d H => ∃ b, PySem.W.exmOne K cls (.ref CS) = some b ∧
  (b = true → cls = .ref CS ∧ ∃ (dd : Addr) (fs : List (Str × V)) (v : V), d = some dd ∧ H dd = some (.xd fs) ∧ fs.lookup ("code" : Str) = some v ∧ Q v H) ∧ (b = false → False)
def TAsk (K : PySem.W.Frag) (CS : Addr) : (XK → Hp → VK → Prop) → Hp → VK → Prop := fun tl H Q => tl (XAsk K CS Q) H Q
theorem takes_len {X : Cx} {W : WX} (tk : Takes X W) : Takes X (fun cls d σ H => σ.length = X.N.length → W cls d σ H) := fun u s' ⟨a, B, sI, pins, σ, H, cls, d, e, I, nb, up, sky, na, os, ag, w⟩ =>
  tk u s' ⟨a, B, sI, pins, σ, H, cls, d, e, I, nb, up, sky, na, os, ag, w I.len⟩
section
variable {X : Cx}
theorem ask_gives {x a e nm q : Str} {sg : Scope} {g CS : Addr} {cdg : Value} {p1 p2 p3 p4 p5 p6 p7 p8 p9 : Pos} (hge : sg.names.lookup nm = some .globalImplicit) (hme : X.mg nm = some (.ref CS)) (T : XfC X.K CS) (hno : PySem.W.findIn X.K (.ref CS) "code" = some none)
    (hae : a ≠ e) (hv : Vis sg e) (hl : sg.names.lookup e = some .local) (hab : ∀ (L : Addr), attributeBase (.Name e p5) "code" (envOfC x sg L g cdg) (eval (.Name e p5) (envOfC x sg L g cdg)) = eval (.Name e p5) (envOfC x sg L g cdg))
    (hk : ∀ L, (envOfC x sg L g cdg).kindOf e = some .local)
    (hde : (nm == ("__debug__" : Str)) = false) (hd : (e == ("__debug__" : Str)) = false) (hcd : (e == ("__classdict__" : Str)) = false) :
    LamX.GivesTo X [a, e] x sg g cdg [.Try [.Return (some (.Call (.Name a p1) [] [] p2)) p3] [.ExceptHandler (some (.Name nm p4)) (some e) [.Return (some (.Attribute (.Name e p5) "code" p6)) p7] p8] [] [] p9] a q (TAsk X.K CS) := by
  intro f c' s H Q tl act hc h
  have hgl : Gl (cxOf C8.CX0 X.prog X.w X.K X.mg X.base [a, e] x sg g cdg X.A X.stack s H C8.E0).nox nm := hge
  refine ⟨_, pss_one (ps_try_as (X := (cxOf C8.CX0 X.prog X.w X.K X.mg X.base [a, e] x sg g cdg X.A X.stack s H C8.E0).nox) (c := .ref CS) (i := 1)
      (tb := fun W D σ H => ∃ Ech : XK, (∀ cls d σ' H', Ech cls d H' → σ'.length = 2 → W cls d σ' H') ∧ σ[0]? = some (some (.ref f)) ∧ H c' = some (LamX.CodeO c' q) ∧ tl Ech H D.rt)
      (ts := fun a cls d D σ H => tXf a cls d CS "code" (tVar 1) σ H D.rt)
      rfl rfl (by simp [cxOf, hae]) rfl (hk _) ⟨hgl, hde, .inl hme⟩ LamX.takes0 (fun W pn xe tk _ => ?_) (fun b oe cls d pn hz hf => pss_one (ps_ret (pe_xf (X := (cxOf C8.CX0 X.prog X.w X.K X.mg X.base [a, e] x sg g cdg X.A X.stack s H C8.E0).nox) T hno hz hf (pe_var (X := ((cxOf C8.CX0 X.prog X.w X.K X.mg X.base [a, e] x sg g cdg X.A X.stack s H C8.E0).nox).suite b ((b, oe) :: pn)) (x := e) (i := 1) (pos := p5) rfl hv hd hcd) (hab _))))), ?_⟩
  · refine ⟨fun pins s' σ H' D I ⟨Ech, hW, h1, h2, h3⟩ => ?_⟩
    exact (pss_one (ps_ret (pos := p3) (act _ pn xe Ech p1 p2 (takes_len tk) fun cls d σ' H' z hlen => hW cls d σ' H' z hlen))).run pins s' σ H' D I ⟨h1, h2, h3⟩
  · refine ⟨XAsk X.K CS Q, fun cls d σ' H' ⟨b, e1, e2, e3⟩ hlen => ⟨b, e1, fun hb a _ => ?_, fun hb => e3 hb⟩, rfl, hc, h⟩
    exact ⟨.ref a, List.getElem?_set_self (by rw [hlen]; decide), rfl, e2 hb⟩
end
/-- the code of an exception of the class nm, or what c gives -/
def askK (nm : Str) : Res RV → Res RV
  | .ok (.tmp d) σ => .ok (.tmp d) σ
  | .err x σ => if x.cls = nm then (match lookF x.fs "code" with
    | some d => if d.imm = true then .ok (.tmp d) σ else .bad
    | none => .bad) else .bad
  | _ => .bad
def cAsk (nm : Str) (c : EC) : EC := ⟨fun σd => askK nm (c.run σd), c.rw⟩
theorem ask_rd {G : Gv} {W : WX} {nm : Str} {c : EC} {σ : L2.St} {H H1 : Hp} {Q : VK} {CS : Addr} (hm : G.mg nm = some (.ref CS)) (hex : PySem.W.exmOne G.K (.ref CS) (.ref CS) = some true) (h : rd G W (cAsk nm c) σ H Q) (k : Keep (fun _ => False) H H1) :
    rd G (fun cls d _ H => XAsk G.K CS Q cls d H) c σ H1 Q := by
  obtain ⟨σd, fps, E, q⟩ := h
  have E1 := E.all k
  refine ⟨σd, fps, E1, ?_⟩
  have q1 : rdr G W c.rw [] σ H1 σd fps (askK nm (c.run σd)) Q := rdr.push (Stp.grow (r := c.rw) (ex := []) k (fun _ z => nomatch z)) E1 nilD (fun _ h => h) (fun _ h => h) q
  cases hr : c.run σd with
  | bad => rw [hr] at q1; exact q1.elim
  | ok rv σ1 =>
    rw [hr] at q1
    cases rv with
    | plc _ _ => exact q1.elim
    | tmp d => exact q1
  | err x σ1 =>
    rw [hr] at q1
    intro cc dx H' fps' E' ⟨C, d, ws, m1, m2, m3, m4, m5⟩ S
    unfold askK at q1
    dsimp only at q1
    split at q1
    · rename_i hx
      split at q1
      · rename_i d1 hl
        split at q1
        · rename_i hi
          rw [hx, hm] at m1
          cases m1
          subst m2 m3
          obtain ⟨v, hw, rv⟩ := RepF.look m5 hl
          exact ⟨true, hex, fun _ => ⟨rfl, d, ws, v, rfl, m4, hw, q1 v H' fps' [] E' ⟨rv, fun _ _ z => nomatch z⟩ S⟩, fun z => Bool.noConfusion z⟩
        · exact q1.elim
      · exact q1.elim
    · exact q1.elim
section
variable {X : Cx} {W : WX}
theorem de_ask {D fI : Addr} {x a e nm : Str} {st : Stmt} {k j : Nat} {c : EC} {params : Arguments} {body : Expr} {scope : Scope} {p lpos pos p1 p2 p3 p4 p5 p6 p7 p8 p9 : Pos}
    (TB : ∃ c P, tabsOf X.K = [P] ∧ LamX.TabB X.base X.mg c P ∧ X.env.code = .ref c) (F : TopF X.K X.mg x st) (S : FnScope [a, e] [a] (defScope st)) (ES : ErrS X.K X.mg D fI nm) (hr : Room j X.A)
    (hbody : ∀ (A : Around) (outer : List Env) (s : Shared) (H : Hp) (E : XK) (f c' : Addr), Room k (A.deeper (LamX.lamEnv X scope s.heap.objs.size f c')) → Takes (LamX.lamCx X A outer s H E scope f c') (fun cls d _ H => E cls d H) → DE (LamX.lamCx X A outer s H E scope f c') (fun cls d _ H => E cls d H) body c)
    (hst : defBody st = [.Try [.Return (some (.Call (.Name a p1) [] [] p2)) p3] [.ExceptHandler (some (.Name nm p4)) (some e) [.Return (some (.Attribute (.Name e p5) "code" p6)) p7] p8] [] [] p9] := by rfl)
    (hbd : ∀ (kV doc pm : Value) (an : Option Addr) (cdv ct : Value) (us : List Value), us.length = 1 → bindArgs (PySem.W.fnOf x x (defArgs st) (defBody st) (defScope st) .none kV doc pm an cdv ct) ⟨us, []⟩ = pure ([a].zip us) := by exact fun _ _ _ _ _ _ us hl => match us, hl with | [_], _ => rfl)
    (L : LamX.LamS X.env.scope scope := by exact LamX.lamS_by (by rfl)) (hq : X.env.qual ++ "<lambda>" = lamQ := by rfl) (hj : k + 2 ≤ j := by decide) (hdef : defaultsOf params X.env = ([], []) := by rfl)
    (hbind : ∀ (q : Str) (cl : List (Str × Addr)) (pm cv ctv : Value), bindArgs (PySem.W.kla_fn "<lambda>" q params body scope cl pm cv ctv) ⟨[], []⟩ = pure [] := by exact fun _ _ _ _ _ => rfl)
    (hg : Gl X x := by rfl) (hgn : (defScope st).names.lookup nm = some .globalImplicit := by rfl) (hle : (defScope st).names.lookup e = some .local := by rfl) (hva : Vis (defScope st) a := by exact .inl rfl)
    (hk : ∀ (L g : Addr) (cdg : Value), (envOfC x (defScope st) L g cdg).kindOf e = some .local := by exact fun _ _ _ => rfl)
    (hab : ∀ (L g : Addr) (cdg : Value), attributeBase (.Name e p5) "code" (envOfC x (defScope st) L g cdg) (eval (.Name e p5) (envOfC x (defScope st) L g cdg)) = eval (.Name e p5) (envOfC x (defScope st) L g cdg) := by exact fun _ _ _ => rfl)
    (hae : a ≠ e := by decide) (hd1 : (x == ("__debug__" : Str)) = false := by decide) (hd2 : (a == ("__debug__" : Str)) = false := by decide) (hd3 : (a == ("__classdict__" : Str)) = false := by decide)
    (hd4 : (nm == ("__debug__" : Str)) = false := by decide) (hd5 : (e == ("__debug__" : Str)) = false := by decide) (hd6 : (e == ("__classdict__" : Str)) = false := by decide) :
    DE X W (.Call (.Name x p) [.Lambda params body scope lpos] [] pos) (cAsk nm c) := by
  obtain ⟨cc, P, tT, TB, hcode⟩ := TB
  obtain ⟨g, fd, F, hm⟩ := F
  have hbnd := F.binds (ps := [a]) hbd
  obtain ⟨oc, od, kV, doc, pm, an, cdv, ct, osl, rfl, lk, hcd⟩ := F.ex
  obtain ⟨CS, SC, mC, xf, ex⟩ := ES.ex
  refine ⟨fun pins s σ H Q I h => ?_⟩
  have hTb : LamX.TabS H P lamQ := by
    obtain ⟨_, _, E, _⟩ := h
    exact E.tb P (by show P ∈ tabsOf X.K; rw [tT]; exact List.mem_singleton.mpr rfl)
  refine wpAny_Call_Name_kw (ld_glob I hg hm ?_ hd1)
  refine PySem.W.callWith_K (h₀ := X.base) I.ok.mod.kin F.kp ?_ (by rfl) (by rfl)
  show wpAny _ _ (spliced ((false, eval (.Lambda params body scope lpos) X.env) :: backTo pos (starEach [] X.env))) _ _ s
  refine Calls.spliced_cons (lam_kept I TB hcode hq hTb hdef (L.has I.ok) fun f c' pm' ctv H1 s' I1 kp hf hfn hfr hco => ?_)
  refine Calls.spliced_nil ⟨I1.kIn, ?_⟩
  have rc : codeAny (model X.prog X.w) X.A (.call (.ref g) ⟨[.ref f], []⟩) (CR C8.CX0 X.stack X.prog X.w H1 s' Q C8.E0) s' := by
    refine LamX.run_ofS (N := [a, e]) (ps := [a]) (us := [.ref f]) (vs := [.ref f]) lk hcd S (hr.mono (show (k + 1) + 1 ≤ j from hj)) I1.env0 (hbnd s' [.ref f] I1.kIn rfl) (.cons rfl .nil) rfl fun hr' => ?_
    rw [hst]
    obtain ⟨t', ht', hq'⟩ := ask_gives (X := X) (x := x) (q := X.env.qual ++ "<lambda>") (cdg := cdv) (g := g) hgn mC xf SC.fld hae (.inl hle) hle (fun L => hab L g cdv) (fun L => hk L g cdv) hd4 hd5 hd6 f c' s' H1 Q (fun E H' Q' => rd (gv X) (fun cls d _ H => E cls d H) c σ H' Q')
      (fun W pn xe E p1 p2 tk hW => LamX.pe_act (i := 0) I1 L hf hfn hfr (hbind _ _ _ _ _) tk hW hr' (fun A outer s H hr2 => hbody A outer s H E f c' hr2 (takes_of rfl rfl rfl rfl)) rfl hva hd2 hd3) hco (ask_rd mC ex h kp)
    exact ⟨t', ht'.nox, hq'⟩
  refine wpAny_call (codeAny_mono rc fun r s2 hq => ?_)
  cases r with
  | error e => exact (show False from hq).elim
  | ok fl =>
    cases fl with
    | ret u => exact I1.after hq
    | next => exact False.elim hq
    | brk => exact False.elim hq
    | cont => exact False.elim hq
end
end A2
end S_A6a
section S_A6b
set_option Elab.async false
set_option linter.all false
set_option maxRecDepth 100000
set_option maxHeartbeats 4000000
open PySem PySem.Spec L2
open PyProof.Rows hiding St
open PySem.W (alike alikeAll dataLt AlikeAll AllAlike Sortable minD maxD EachIs dataLe)
namespace A2
/-! ## min(a, b), data -/
section
variable {prog : Program} {w : World} {A : Around} {s : Shared} {E : Value → Shared → Prop}
theorem min_two_walk {a b : Value} {Q : Value → Shared → Prop}
    (h : wpAny (model prog w) A.in1 (pyIter (.ref s.heap.objs.size)) (fun it s₂ => ∃ I fp wr G n P St H bt, it = .ref I ∧ WalksS prog w A.in1 I fp wr G n P St ∧ St 0 s₂ ∧ (∀ b ∈ fp, b < s₂.heap.objs.size) ∧ 0 < n ∧
      (∀ b o, H.get? b = some o → b ∉ wr) ∧ (∀ b o, H.get? b = some o → s₂.heap.get? b = some o) ∧ CmpIn prog w A.in1 .Lt H P bt ∧ ∀ v s', P (argBest bt (n - 1)) v → Moved wr G s₂ s' → Q v s') E
      { s with heap := s.heap.push { cls := .type "tuple", data := .seq #[a, b] } }) :
    wpAny (model prog w) A (call (.builtin "min") [a, b]) Q E s := by
  have hname : (toString "min" ++ toString ".loop" : String) = "min.loop" := by decide
  refine call_function_tree PySem.F.kind_min PySem.F.plain_min PySem.F.entry_min (PySem.F.args_min2 _ _) ?_
  show wpAny _ A.in1 (Builtin.Builtins.bindParams "min" ["key", "default"] 0 ⟨[], []⟩ >>= _) _ _ s
  refine wpAny_bind (wpAny_of_eq (show Builtin.Builtins.bindParams "min" ["key", "default"] 0 ⟨[], []⟩ = pure [none, none] from rfl) ?_)
  show wpAny _ A.in1 (newTuple [a, b] >>= _) _ _ s
  refine wpAny_bind (wpAny_newObj_type ?_)
  refine wpAny_bind (wpAny_mono h (fun it s₂ h₂ => ?_) fun _ _ e => e)
  obtain ⟨I, fp, wr, G, n, P, St, H, bt, rfl, W, hst, hfp, hn, hw, hkeep, hcmp, hQ⟩ := h₂
  refine wpAny_bind (wpAny_newObj_type ?_)
  have hSf : s₂.heap.objs.size ∉ fp := fun hm => Nat.lt_irrefl _ (hfp _ hm)
  rw [hname]
  refine wpAny_pure ⟨plainId_quiet PySem.F.plain_min_loop _, codeAny_min_loop_firstH W H hw bt hcmp s₂.heap.objs.size hSf (fresh_in hkeep) _ hn (fun b o e => Heap.get?_push_of_some _ (hkeep b o e)) (W.frame 0 s₂ _ s₂.toks hst (Nat.le_refl _) fun b _ o e => Heap.get?_push_of_some _ e) (Heap.get?_push_size _ rfl) fun v s' hP hm => ?_⟩
  exact hQ v s' hP (Moved.drop_new (tk := s₂.toks) hm (Nat.le_refl _))
theorem min_two_data {a b : Value} {x y : PyData} {as : List Addr} {Q : Value → Shared → Prop} (hh : A.handled = none) (hr : ReadsAll s.heap [a, b] [x, y] as) (ha : AlikeAll [x, y]) (hu : A.units + 1 + PyData.depthAll [x, y] < cLine)
    (h : ∀ h' tk, (∀ b o, s.heap.get? b = some o → h'.get? b = some o) → Q (if dataLt y x then b else a) { s with heap := h', toks := tk }) :
    wpAny (model prog w) A (call (.builtin "min") [a, b]) Q E s := by
  have hT : ({ s with heap := s.heap.push { cls := .type "tuple", data := .seq #[a, b] } } : Shared).heap.IsTuple s.heap.objs.size #[a, b] := ⟨_, Heap.get?_push_size _ rfl, rfl, 0, rfl⟩
  have hk0 : ∀ c o, s.heap.get? c = some o → (s.heap.push { cls := .type "tuple", data := .seq #[a, b] }).get? c = some o := fun c o e => Heap.get?_push_of_some _ e
  have hr' : ReadsAll ({ s with heap := s.heap.push { cls := .type "tuple", data := .seq #[a, b] } } : Shared).heap (#[a, b] : Array Value).toList [x, y] as := ReadsAll.keeps hk0 hr
  refine min_two_walk (PySem.W.iter_tupleW (A := A.in1) hh hT fun s₂ e W st hfp hw hk => ?_)
  refine ⟨_, _, _, _, _, _, _, (s.heap.push { cls := .type "tuple", data := .seq #[a, b] }), _, rfl, W, st, hfp, Nat.succ_pos 1, hw, hk, PySem.W.cmpIn_lt (A := A.in1) (s := { s with heap := s.heap.push { cls := .type "tuple", data := .seq #[a, b] } }) hr' ha (by show A.units + 1 + _ < _; exact hu), fun v s' hP m => ?_⟩
  obtain ⟨h', tk, rfl, hk'⟩ := PySem.W.moved_old e rfl m
  have q := h h' tk fun c o e => hk' c o (hk0 c o e)
  have e0 : ∀ f : Nat → Nat → Bool, argBest f 1 = if f 1 0 = true then 1 else 0 := fun f => rfl
  have hP' : #[a, b][argBest (fun i j => dataLt ([x, y].getD i .none) ([x, y].getD j .none)) 1]? = some v := hP
  rw [e0] at hP'
  have e1 : (if dataLt y x = true then b else a) = v := by
    change #[a, b][if dataLt y x = true then 1 else 0]? = some v at hP'
    split at hP'
    · rename_i hd
      rw [if_pos hd]
      exact Option.some.inj hP'
    · rename_i hd
      rw [if_neg hd]
      exact Option.some.inj hP'
  rw [← e1]
  exact q
end
section
variable {X : Cx}
def rMin2D (K : PySem.W.Frag) : List V → Hp → VK → Prop := fun xs H Q => ∃ v1 v2 d1 d2, xs = [v1, v2] ∧ DpAll K H [v1, v2] [d1, d2] ∧ AlikeAll [d1, d2] ∧ PyData.depthAll [d1, d2] ≤ 60 ∧ Q (if dataLt d2 d1 then v2 else v1) H
theorem call_min2D (hc : X.calm = true) (hu : X.A.units + 64 < cLine) : CallR X (.builtin "min") (rMin2D X.K) := by
  intro pins s σ H vs us Q I r h
  obtain ⟨v1, v2, d1, d2, rfl, hd, ha, hdp, q⟩ := h
  obtain ⟨u, w, rfl, r1, r2⟩ := vals2 r
  obtain ⟨as, ra⟩ := Dp.readsAll I _ _ _ hd r
  refine min_two_data (I.ok.hd hc) ra ha (by omega) fun h' tk k => ⟨_, H, I.kept k, ?_, q⟩
  split
  · exact r2
  · exact r1
end
def gMin2D : List D → Option D
  | [d1, d2] => if bestOk [d1, d2] = true then some (if dataLt (toPy d2) (toPy d1) then d2 else d1) else none
  | _ => none
theorem pMin2D {G : Gv} : PFun G (rMin2D G.K) gMin2D := by
  intro ds d vs H Q g pr q
  unfold gMin2D at g
  split at g
  · rename_i d1 d2
    obtain ⟨v, w, e, ⟨f1, r1⟩, ⟨f2, r2⟩⟩ := paired2 pr
    subst e
    split at g
    · rename_i hb
      cases g
      unfold bestOk at hb
      simp only [Bool.and_eq_true, decide_eq_true_eq] at hb
      obtain ⟨b1, b2, b3, b4⟩ := hb
      have i1 := ply_imm _ (plys_mem b1 (List.mem_cons_self ..))
      have i2 := ply_imm _ (plys_mem b1 (List.mem_cons_of_mem _ (List.mem_cons_self ..)))
      have e1 := Rep.imm _ _ _ i1 r1
      have e2 := Rep.imm _ _ _ i2 r2
      subst e1 e2
      have rs : Reps G H [d1, d2] [v, w] [] := ⟨v, [w], [], [], rfl, r1, ⟨w, [], [], [], rfl, r2, ⟨rfl, rfl⟩, djnil, rfl⟩, djnil, rfl⟩
      refine ⟨v, w, toPy d1, toPy d2, rfl, Reps.dp _ _ _ rs (plys_lay _ b1), ⟨allAl_ok b2, fun x hx => isNone_ne (by simpa using List.all_eq_true.mp b3 x hx)⟩, b4, ?_⟩
      by_cases hd : dataLt (toPy d2) (toPy d1) = true
      · rw [if_pos hd] at q ⊢
        exact q w H [] Keep.refl r2 fr0
      · rw [if_neg hd] at q ⊢
        exact q v H [] Keep.refl r1 fr0
    · cases g
  · cases g
/-! ## t[::-1] of a tuple -/
section
variable {prog : Program} {w : World} {A : Around} {s : Shared} {E : Value → Shared → Prop}
theorem applied_rev {sl : Addr} {vk : Value} {n : Nat} {Q : Int × Int × Nat → Shared → Prop} (hs : s.heap.IsSliceOf sl .none .none vk) (pk : IsPart vk (some (-1))) (h : Q ((n : Int) - 1, -1, n) s) :
    wpAny (model prog w) A (Builtin.Slice.sliceApplied (.ref sl) (pure (n : Int))) Q E s := by
  obtain ⟨os, hos, hcs, hds⟩ := id hs
  unfold Builtin.Slice.sliceApplied Builtin.Slice.sliceFields
  refine wpAny_bind (wpAny_bind (wpAny_field hos hds (x := .none) rfl (wpAny_bind (wpAny_field hos hds (x := .none) rfl (wpAny_bind (wpAny_field hos hds (x := vk) rfl (wpAny_pure ?_)))))))
  refine wpAny_bind (HT.slicePart_ pk ?_)
  show wpAny _ _ (if ((-1 : Int) == 0) = true then _ else _) _ _ s
  rw [if_neg (by decide)]
  refine wpAny_bind (slicePart_none (wpAny_bind (slicePart_none (wpAny_bind (wpAny_pure ?_)))))
  show wpAny _ _ (match Builtin.Slice.sliceAdjust none none (-1) (n : Int) with | (lo, hi) => pure (lo, (-1 : Int), Builtin.Slice.slicePlaces lo hi (-1))) _ _ s
  have e1 : Builtin.Slice.sliceAdjust none none (-1) (n : Int) = ((n : Int) - 1, -1) := rfl
  rw [e1]
  have e2 : Builtin.Slice.slicePlaces ((n : Int) - 1) (-1) (-1) = n := by
    unfold Builtin.Slice.slicePlaces
    rw [if_neg (by decide)]
    by_cases h0 : (n : Int) - 1 > -1
    · rw [if_pos h0]
      have : ((n : Int) - 1 - -1 - 1) / (- -1) + 1 = n := by
        rw [show (- -1 : Int) = 1 by decide, Int.ediv_one]
        omega
      rw [this]
      rfl
    · rw [if_neg h0]
      have : n = 0 := by omega
      rw [this]
      rfl
  show wpAny _ _ (pure ((n : Int) - 1, (-1 : Int), Builtin.Slice.slicePlaces ((n : Int) - 1) (-1) (-1))) _ _ s
  rw [e2]
  exact wpAny_pure h
theorem pick_rev (xs : Array Value) : ((List.range xs.size).filterMap fun (m : Nat) => xs[((xs.size : Int) - 1 + (m : Int) * (-1)).toNat]?).toArray = xs.toList.reverse.toArray := by
  have e : (List.range xs.size).filterMap (fun (m : Nat) => xs[((xs.size : Int) - 1 + (m : Int) * (-1)).toNat]?) = ((List.range xs.size).map fun k => xs.size - 1 - k).filterMap (xs[·]?) := by
    rw [List.filterMap_map]
    have e3 : ∀ m : Nat, ((xs.size : Int) - 1 + (m : Int) * (-1)).toNat = xs.size - 1 - m := fun m => by omega
    simp only [Function.comp_def, e3]
  rw [e, PySem.W.krv_range, List.filterMap_reverse, PySem.W.krv_all]
theorem getItem_tuple_rev {t sl : Addr} {items : Array Value} {vk : Value} {Q : Value → Shared → Prop} (ht : IsTup s.heap t items) (hs : s.heap.IsSliceOf sl .none .none vk) (pk : IsPart vk (some (-1))) (hz : items.size ≤ sizeLine)
    (h : Q (.ref s.heap.objs.size) { s with heap := s.heap.push { cls := .type "tuple", data := .seq items.toList.reverse.toArray } }) : wpAny (model prog w) A (getItem (.ref t) (.ref sl)) Q E s := by
  obtain ⟨os, hos, hcs, hds⟩ := id hs
  have hTs : s.TypeIs (.ref sl) "slice" := ⟨os, hos, hcs⟩
  unfold getItem
  try with_reducible refine wpAny_holding ?_
  first | refine wpAny_bind (wpAny_pure ?_) | skip
  refine wpAny_bind (wpAny_sequenceKey ht.typeIs (by decide) ?_)
  refine wpAny_bind (wpAny_callSpecial?_slot (name := Str.ofString "__getitem__") ht.typeIs PyProof.Rows.slot_tuple_getitem
    (wpAny_call_entry PyProof.Rows.slot_tuple_getitem ht.typeIs entry_tuple_getitem ?_ (args_tuple_getitem _ _)))
  show wpAny _ _ (Builtin.Tuple.tupleItemsOf (.ref t) >>= _) _ _ s
  refine wpAny_bind (tupleItemsOf_ ht ?_)
  refine wpAny_bind (wpAny_typeOf hTs ?_)
  rw [if_pos (by decide)]
  refine wpAny_bind (applied_rev hs pk ?_)
  have hno : ¬ ((((items.size : Int) - 1) == 0 && (-1 : Int) == 1 && items.size == items.size) = true) := by
    intro q
    rw [Bool.and_eq_true, Bool.and_eq_true] at q
    exact absurd q.1.2 (by decide)
  show wpAny _ _ (if (((items.size : Int) - 1) == 0 && (-1 : Int) == 1 && items.size == items.size) = true then _ else _) _ _ s
  rw [if_neg hno, pick_rev]
  have htake : sizeOk (.seq items.toList.reverse.toArray) := by
    show items.toList.reverse.toArray.size ≤ sizeLine
    rw [List.size_toArray, List.length_reverse, Array.length_toList]
    exact hz
  first
    | exact wpAny_bind (m := Builtin.Tuple.tupleExact _) (wpAny_newObj_type (wpAny_pure ⟨_, rfl, wpAny_pure h⟩) htake)
    | exact wpAny_bind (m := Builtin.Tuple.tupleExact _) (wpAny_newObj_type (wpAny_bind (wpAny_pure (wpAny_pure ⟨_, rfl, wpAny_pure h⟩))) htake)
    | exact wpAny_bind (wpAny_bind (m := Builtin.Tuple.tupleExact _) (wpAny_newObj_type (wpAny_pure (wpAny_pure ⟨_, rfl, wpAny_pure h⟩)) htake))
    | exact wpAny_bind (wpAny_bind (m := Builtin.Tuple.tupleExact _) (wpAny_newObj_type (wpAny_pure ⟨_, rfl, wpAny_pure h⟩) htake))
end
def tRevT (K : PySem.W.Frag) (te : TE) : TE := fun σ H Q => te σ H fun x H1 => ∃ a xs, x = .ref a ∧ SqT K H1 a xs ∧ ∀ p, H1 p = none → Q (.ref p) (upd H1 p (.tup xs.reverse))
theorem pe_revT {X : Cx} {e : Expr} {te : TE} {k : Nat} {p1 p2 p3 pos : Pos} (he : PE X e te) : PE X (.Subscript e (.Slice none none (some (.UnaryOp .USub (.Constant (.int 1) k p1) p2)) p3) pos) (tRevT X.K te) := by
  refine ⟨fun pins s σ H Q I h => ?_⟩
  refine Subscript_ (thn (he.run pins s σ H _ I h) fun v s1 ⟨x, H1, I1, r1, q1⟩ => ?_)
  obtain ⟨a, xs, ex, hx, q⟩ := q1
  subst ex
  cases r1
  have hst : PO X (some (.UnaryOp .USub (.Constant (.int 1) k p1) p2)) (tPart (tUn (rU fun i => .int (-i)) (tC (.int 1)))) := po_some (pe_un un_neg pe_int)
  refine wpAny_Slice ?_
  rw [evalPart_none]
  refine wpAny_pure ?_
  refine wpAny_pure ?_
  refine thn (hst.run pins s1 σ H1 (fun o H4 => o = some (-1) ∧ H4 = H1) I1 ⟨1, rfl, -1, rfl, rfl, rfl⟩) fun vs s4 ⟨o, H4, I4, ps, eo, e4⟩ => ?_
  subst eo e4
  have I5 : Inv X pins σ H4 { s4 with heap := s4.heap.push { cls := .type "slice", data := .fields #[.none, .none, vs] } } := I4.kept (t' := s4.toks) fun b ob q => Heap.get?_push_of_some _ q
  obtain ⟨its, r, ht, hz⟩ := I5.tuple hx
  have hlen := r.length
  show wpAny (model X.prog X.w) X.A (subscriptTail e (.Slice none none (some (.UnaryOp .USub (.Constant (.int 1) k p1) p2)) p3) (.ref a) (.ref s4.heap.objs.size)) (EP X pins σ Q) X.xe { s4 with heap := s4.heap.push { cls := .type "slice", data := .fields #[.none, .none, vs] } }
  refine tail_any (ops := [.ref a, .ref s4.heap.objs.size]) ht.typeIs (PyProof.Rows.slot_tuple_getitem.lookup) ?_ (by with_unfolding_all rfl)
  refine getItem_tuple_rev ht (Heap.IsSliceOf.new _ .none .none vs) ps (by rw [List.size_toArray]; omega) ?_
  have hp := I5.hok.fresh (Nat.le_refl _)
  exact ⟨.ref _, upd H4 _ (.tup xs.reverse), I5.laid (t' := s4.toks) (fun b u q => Heap.get?_push_of_some _ q) (Nat.le_refl _) ⟨by rw [List.length_reverse]; exact hz, _, r.reverse, IsTup.new _ _⟩, rfl, q _ hp⟩
def revOf (x : RV) (σd : DSt) : Res RV := match x.get σd with
  | some (.tup ds) => if D.imms ds = true then .ok (.tmp (.tup ds.reverse)) σd else .bad
  | _ => .bad
def cRev (c : EC) : EC := ⟨fun σd => (c.run σd).bind revOf, c.rw⟩
theorem Reps.app0 {G : Gv} {H : Hp} : ∀ {d1 d2 : List D} {v1 v2 : List V}, Reps G H d1 v1 [] → Reps G H d2 v2 [] → Reps G H (d1 ++ d2) (v1 ++ v2) []
  | [], d2, v1, v2, h1, h2 => by rw [h1.1]; exact h2
  | d :: d1, d2, v1, v2, ⟨v, r, f1, f2, ev, p, q, dj, ef⟩, h2 => by
    have e1 : f1 = [] := (List.append_eq_nil_iff.mp ef.symm).1
    have e2 : f2 = [] := (List.append_eq_nil_iff.mp ef.symm).2
    subst e1 e2 ev
    exact ⟨v, r ++ v2, [], [], rfl, p, Reps.app0 q h2, djnil, rfl⟩
theorem Reps.rev0 {G : Gv} {H : Hp} : ∀ {ds : List D} {vs : List V}, Reps G H ds vs [] → Reps G H ds.reverse vs.reverse []
  | [], vs, h => by rw [h.1]; exact ⟨rfl, rfl⟩
  | d :: ds, vs, ⟨v, r, f1, f2, ev, p, q, dj, ef⟩ => by
    have e1 : f1 = [] := (List.append_eq_nil_iff.mp ef.symm).1
    have e2 : f2 = [] := (List.append_eq_nil_iff.mp ef.symm).2
    subst e1 e2 ev
    rw [List.reverse_cons, List.reverse_cons]
    exact Reps.app0 (Reps.rev0 q) ⟨v, [], [], [], rfl, p, ⟨rfl, rfl⟩, djnil, rfl⟩
theorem imms_of : ∀ {l : List D}, (∀ d ∈ l, d.imm = true) → D.imms l = true
  | [], _ => rfl
  | d :: l, h => Bool.and_eq_true_iff.mpr ⟨h d (List.mem_cons_self ..), imms_of fun e he => h e (List.mem_cons_of_mem _ he)⟩
theorem imms_mem : ∀ {l : List D} {d : D}, D.imms l = true → d ∈ l → d.imm = true
  | e :: l, d, h, hd => by
    have h' := Bool.and_eq_true_iff.mp h
    rcases List.mem_cons.mp hd with rfl | hd
    · exact h'.1
    · exact imms_mem h'.2 hd
theorem de_rev {X : Cx} {W : WX} {e : Expr} {c : EC} {k : Nat} {p1 p2 p3 pos : Pos} (h : DE X W e c) : DE X W (.Subscript e (.Slice none none (some (.UnaryOp .USub (.Constant (.int 1) k p1) p2)) p3) pos) (cRev c) := (pe_revT h).le fun σ H Q ⟨σd, fps, E, q⟩ => by
  change rdr _ _ _ _ σ H σd fps ((c.run σd).bind revOf) Q at q
  refine seqE (r := c.rw) (tf := []) E (fun _ h => h) (fun x σd1 h1 v1 H1 fps1 f1 E1 R1 S1 => ?_) (fun x σd1 h1 => ?_) (fun h1 => ?_)
  · rw [h1] at q
    have q1 := rdr.push (r2 := c.rw) (R := revOf x σd1) S1 E1 R1.dj (fun _ h => h) (fun _ h => h) q
    unfold revOf at q1
    split at q1
    · rename_i ds hi
      split at q1
      · rename_i im
        obtain ⟨f', ⟨a, vs, e, s, rs⟩, _⟩ := R1.rep E1 hi
        have ef := Reps.imm _ _ _ im rs
        subst ef
        have im2 : D.imms ds.reverse = true := imms_of fun d hd => imms_mem im (List.mem_reverse.mp hd)
        refine ⟨a, vs, e, s, fun p n => fin_new E1 q1 (keepF n) (new_tup im2 (Reps.rev0 rs) n) fr0⟩
      · exact q1.elim
    · exact q1.elim
  · rw [h1] at q; exact q
  · rw [h1] at q; exact q
end A2
end S_A6b
section S_A6c
set_option Elab.async false
set_option linter.all false
set_option maxRecDepth 100000
set_option maxHeartbeats 4000000
open PySem PySem.Spec L2
open PyProof.Rows hiding St
namespace A2
/-! ## sorted(d), d a dict with whole numbers as keys -/
def intKeys : List (D × D) → Option (List Int)
  | [] => some []
  | (.int i, _) :: r => (intKeys r).map (i :: ·)
  | _ => none
def gSortK : List D → Option D
  | [.dct kvs] => (match intKeys kvs with
    | some ks => if ks.length < 64 then some (.lst ((ks.mergeSort fun a b => decide (a ≤ b)).map .int)) else none
    | none => none)
  | _ => none
theorem intKeys_rep {G : Gv} {H : Hp} : ∀ {ds : List (D × D)} {ws : List (Key × V)} {fp : List Addr} {ks : List Int}, RepK G H ds ws fp → intKeys ds = some ks → ws.map (·.1) = ks.map Sum.inl
  | [], ws, fp, ks, h, e => by
    cases e
    rw [h.1]
    rfl
  | (k, d) :: ds, ws, fp, ks, ⟨kk, v, r, f1, f2, ew, ek, p, q, dj, ef⟩, e => by
    cases kk with
    | inr x => rw [ek] at e; exact nomatch e
    | inl i =>
      rw [ek] at e
      obtain ⟨ks', e1, e2⟩ := Option.map_eq_some_iff.mp (show (intKeys ds).map (i :: ·) = some ks from e)
      subst e2 ew
      rw [List.map_cons, intKeys_rep q e1]
      rfl
theorem sort_uniq {ys ks : List Int} (hp : ys.Perm ks) (hs : ys.Pairwise (· ≤ ·)) : ys = ks.mergeSort fun a b => decide (a ≤ b) := by
  have h2 : (ks.mergeSort fun a b => decide (a ≤ b)).Pairwise (· ≤ ·) := by
    have := List.pairwise_mergeSort (le := fun a b : Int => decide (a ≤ b)) (fun a b c h1 h2 => by simp only [decide_eq_true_eq] at *; omega) (fun a b => by simp only [Bool.or_eq_true, decide_eq_true_eq]; omega) ks
    exact this.imp fun h => of_decide_eq_true h
  exact List.Perm.eq_of_pairwise (le := (· ≤ ·)) (fun a b _ _ h1 h2 => Int.le_antisymm h1 h2) hs h2 (hp.trans (List.mergeSort_perm ..).symm)
theorem pSortK {G : Gv} : PFun G (fun xs H Q => ∃ (a : Addr) (kvs : List (Key × V)) (ks : List Int), xs = [.ref a] ∧ Rd H a (.dK kvs) ∧ kvs.map (·.1) = ks.map Sum.inl ∧ ks.length < 64 ∧
    ∀ (ys : List Int) (p : Addr), ys.Perm ks → ys.Pairwise (· ≤ ·) → H p = none → Q (.ref p) (upd H p (.lst (ys.map V.int)))) gSortK := by
  intro ds d vs H Q g pr q
  unfold gSortK at g
  split at g
  · obtain ⟨v, e, f, a, ws, f1, ev, s, rk, _⟩ := paired1 pr
    subst e ev
    split at g
    · rename_i ks hk
      split at g
      · rename_i hl
        cases g
        refine ⟨a, ws, ks, rfl, .inl s, intKeys_rep rk hk, hl, fun ys p hp hs n => ?_⟩
        rw [sort_uniq hp hs]
        exact q _ _ [p] (keepF n) (new_lst (imms_ints _) (reps_ints _) n) (fr1 n)
      · cases g
    · cases g
  · cases g
/-! ## the law's def, which makes lambdas -/
/-- the law's code object and its table -/
def TabAt (K : PySem.W.Frag) (mg : Str → Option Value) (base : Heap) : Prop := ∃ c P, tabsOf K = [P] ∧ LamX.TabB base mg c P ∧ ∀ f fd, mg "law" = some (.ref f) → fdO K f = some fd → fd.code = .ref c
section
variable {P : Program} {w : World} {K : PySem.W.Frag} {mg : Str → Option Value} {base : Heap}
theorem fnAt_okT {st : Stmt} {N ps : List Str} {k n m : Nat} {b : SC} (hn : ps.length = n) (hm : N.length = m) (F : TopF K mg "law" st) (TB : TabAt K mg base) (S : FnScope N ps (defScope st)) (hsub : subB b.asg b.rw = true)
    (hbind : ∀ (kV doc pm : Value) (an : Option Addr) (cdv ct : Value) (us : List Value), us.length = ps.length → bindArgs (PySem.W.fnOf "law" "law" (defArgs st) (defBody st) (defScope st) .none kV doc pm an cdv ct) ⟨us, []⟩ = pure (ps.zip us))
    (hbody : ∀ (f c p : Addr), tabsOf K = [p] → LamX.TabB base mg c p → ∀ (A : Around) (outer : List Env) (s : Shared) (H : Hp) (E : XK), Room k (A.deeper (envOfC "law" (defScope st) s.heap.objs.size f (.ref c))) →
      Takes (cxOf (L2.CX P w) P w K mg base N "law" (defScope st) f (.ref c) A outer s H E) (fun cls d _ H => E cls d H) →
      DSs (cxOf (L2.CX P w) P w K mg base N "law" (defScope st) f (.ref c) A outer s H E) (fun cls d _ H => E cls d H) (defBody st) b) : FnAt P w K mg base (k + 1) "law" ps (fnOf n m b) := by
  subst hn hm
  obtain ⟨f, fd, F, m⟩ := F
  obtain ⟨c, p, e1, e2, e3⟩ := TB
  have hfd : fdO K f = some fd := by
    obtain ⟨_, _, _, _, _, _, _, _, _, _, lk, _⟩ := F.ex
    unfold fdO
    rw [lk]
  refine ⟨f, fd, fn_ok F S hsub (fun cdv hc => ?_), m, F.kp, F.binds hbind, hfd⟩
  rw [e3 f fd m hfd] at hc
  subst hc
  exact hbody f c p e1 e2
/-- of the head: the law's code object is written, its table is not -/
def lamB (K : PySem.W.Frag) : Bool := match PySem.W.tabIn K "law" with
  | some (c, P) => PySem.W.codeHdIn K c P && (K.lookup P).isNone
  | none => false
theorem lamB_ok (h : lamB K = true) : ∃ c P, PySem.W.tabIn K "law" = some (c, P) ∧ PySem.W.codeHdIn K c P = true ∧ K.lookup P = none := by
  unfold lamB at h
  split at h
  · rename_i c P e
    obtain ⟨h1, h2⟩ := Bool.and_eq_true_iff.mp h
    exact ⟨c, P, e, h1, by simpa using h2⟩
  · cases h
theorem fd_of {f : Addr} {fd : FuncData} (h : fdO K f = some fd) : ∃ o, K.lookup f = some o ∧ o.data = .func fd := by
  unfold fdO at h
  split at h
  · rename_i lk
    cases h
    exact ⟨_, lk, rfl⟩
  · cases h
theorem tabAt_of {h : Heap} {c p : Addr} (X : K.In h) (G : h.Ns mainGlobals mg) (ht : PySem.W.tabIn K "law" = some (c, p)) (TB : LamX.TabB base mg c p) : TabAt K mg base :=
  ⟨c, p, by show (match PySem.W.tabIn K "law" with | some (_, P) => [P] | none => []) = [p]; rw [ht], TB, fun f fd hm hf => by
    obtain ⟨o, lk, hd⟩ := fd_of hf
    exact PySem.W.law_code X G ht hm (X _ _ lk) hd⟩
end
/-- the head's part that is read: without empty tables -/
def HeadD.frT (d : HeadD) (g : Addr → Option Obj) : PySem.W.Frag := He.frT g (He.asG g d.n ++ (cloG g (He.asG g d.n) ++ [cStatics]))
def HeadD.hookT (d : HeadD) : PySem.W.Hook where
  α := He.Al × Bool × IniV
  obs := fun s => d.ob (d.frT s.heap.get?)
  val := fun _ => d.val
  says := fun _ h => ∃ K : PySem.W.Frag, K.In h ∧ d.ob K = d.val
  of := fun _ _ e => ⟨_, He.frT_in, e⟩
  keeps := fun _ _ _ ⟨K, hK, c⟩ k => ⟨K, PySem.W.Frag.In.keeps hK k, c⟩
def HeadD.obTT (d : HeadD) (s : PySem.W.SharedT) : He.Al × Bool × IniV := d.ob (d.frT (HandSHeadRun.getT s))
theorem HeadD.obT_eq (d : HeadD) (s : PySem.W.SharedT) : d.obTT s = d.hookT.obs s.abs := by
  have e : HandSHeadRun.getT s = s.abs.heap.get? := funext fun a => HandSHeadRun.getT_eq s a
  unfold HeadD.obTT
  rw [e]
  rfl
/-- the end where the law makes lambdas -/
theorem walk_ofT {l : PySem.W.OpenLaw} {n k : Nat} {q : Program} {loose : List Str} {XP : (Str → Option Value) → Heap → Prop} {YP : World → Heap → Prop} {dr : DefRec} {x : Str}
    (hn : l.most = some n) (hn2 : n ≤ sizeLine) (hdf : dr.params.defaults = []) (hr : Room k callerA) (hrec : (recsOf q).find? (fun e => e.name == ("law" : Str)) = some dr)
    (F : ∀ (w : World) (mg : Str → Option Value) (fa : Addr) (h : Heap), YP w h → h.Ns mainGlobals mg → mg dr.name = some (.ref fa) →
      ∃ (K : PySem.W.Frag) (fd : FuncData) (sp : Sp) (c P : Addr), K.In h ∧ PySem.W.tabIn K "law" = some (c, P) ∧ K.lookup P = none ∧ (∀ (s : Shared) (u : Value), BindsTo s fd ⟨[u], []⟩ [(x, u)]) ∧
        (∀ (H : Hp) (a : Addr) (ns : List Int), ns.length ≤ n → H P = some (.tbl #[]) → SqL K H a (ns.map V.int) → sp [.ref a] H (fun v _ => v = .bl true) fun _ _ _ => False) ∧
        ∀ base : Heap, K.In base → base.Ns mainGlobals mg → LamX.TabB base mg c P → FnOk l.prog w K mg base (L2.CX l.prog w) k fa fd [x] sp) :
    PySem.W.WalkO q loose XP YP l.row.toRowW dr [] (fun f vs => PySem.call f vs) := by
  refine Att.attach_callB hn hdf fun w s₀ s₁ mg mb fa o pm cd doc a vs ns G Y ho hd hcd hmg hobj hints hlen hbits hg => ?_
  obtain ⟨K, fd, sp, c, P, KX, ht, hP, hb, hsp, hF⟩ := F w mg fa _ Y G.T.g hmg
  obtain ⟨C, hE⟩ := PySem.W.tab_of G.T KX hrec ht
  have one : ∀ p ∈ [(c, P)], p = (c, P) := fun p hp => List.mem_singleton.mp hp
  exact LamX.law_callTs (cs := [(c, P)]) KX G.T.g G.T.b G.T.builtins G.T.nolimit hg (fun p hp => by rw [one p hp]; exact hE) (fun p hp => by rw [one p hp]; exact hP) (fun p hp => by rw [one p hp]; exact C) G.T.bmain hobj hints (Nat.le_trans hlen hn2) hr
    (fun base KB GB TB => hF base KB GB (TB _ (List.mem_singleton.mpr rfl))) hb (fun H hH hS => hsp H a ns hlen (hH _ (List.mem_singleton.mpr rfl)) hS) fun H e s' z => cx_none z
/-- the law's promise, the script a list of whole numbers, the table empty -/
theorem law_spT {G : Gv} {H : Hp} {a P : Addr} {ns : List Int} {fn : FnC} {outs outs' : DSt} (hK : ∀ o, G.K.lookup a = some o → o.cls ≠ .type "list") (hS : SqL G.K H a (ns.map V.int)) (hT : G.T = [P]) (hP : H P = some (.tbl #[])) (hn : fn.n = 1)
    (hr : fn.run [.flst (ns.map .int)] = .ok (.bl true) outs) (hr2 : fn.run [.lst (ns.map .int)] = .ok (.bl true) outs') :
    spF G fn [.ref a] H (fun v _ => v = .bl true) fun _ _ _ => False := by
  have tb : Tbs G H := fun p hp => by
    rw [hT] at hp
    rw [List.mem_singleton.mp hp]
    exact .nil hP
  rcases hS with (h | ⟨o, h⟩) | ⟨o, its, n, h1, h2, _⟩
  · refine ⟨hn.symm, [.lst (ns.map .int)], fun i => if i = 0 then [a] else [], ⟨rfl, fun i d e => ?_, fun i j n => ?_, fun i n => ?_, tb⟩, ?_⟩
    · cases i with
      | zero =>
        cases (show some _ = some (some d) from e)
        exact ⟨.ref a, rfl, a, _, [], rfl, h, reps_ints ns, fun z => (nomatch z), rfl⟩
      | succ i => simp at e
    · by_cases hi : i = 0
      · have hj : j ≠ 0 := fun z => n (hi.trans z.symm)
        rw [if_neg hj]
        exact fun _ _ z => nomatch z
      · rw [if_neg hi]
        exact djnil
    · by_cases hi : i = 0
      · subst hi
        exact absurd rfl (n _)
      · exact if_neg hi
    · unfold crd
      rw [hr2]
      intro v H' fc g E rp _ _
      exact rp.1
  · refine ⟨hn.symm, [.flst (ns.map .int)], fun _ => [], ⟨rfl, fun i d e => ?_, fun _ _ _ => djnil, fun _ _ => rfl, tb⟩, ?_⟩
    · cases i with
      | zero =>
        cases (show some _ = some (some d) from e)
        exact ⟨.ref a, rfl, a, o, _, rfl, h, reps_ints ns, rfl⟩
      | succ i => simp at e
    · unfold crd
      rw [hr]
      intro v H' fc g E rp _ _
      exact rp.1
  · exact absurd h2 (hK o h1)
end A2
end S_A6c
section S_G
set_option Elab.async false
set_option linter.all false
set_option maxRecDepth 100000
set_option maxHeartbeats 200000
open PySem PySem.Spec L2
open PyProof.Rows hiding St
namespace A2
/-! ## the text: printed by gen.py from the linked T.py -/
def topS (i : Nat) : Stmt := PySem.Challenge.pw_callsheets_k51_ways_and_distances.main.body.getD i (.Pass ⟨0, 0, 0, 0⟩)
/-- what the top has written -/
structure Txt (P : Program) (w : World) (K : PySem.W.Frag) (mg : Str → Option Value) (base : Heap) : Prop where
  f_check_ways : TopF K mg "check_ways" (topS 6)
  f_check_place : TopF K mg "check_place" (topS 7)
  f_neighbors : TopF K mg "neighbors" (topS 8)
  f_all_distances : TopF K mg "all_distances" (topS 9)
  f_distances : TopF K mg "distances" (topS 10)
  f_route : TopF K mg "route" (topS 11)
  f__law_begin : TopF K mg "_law_begin" (topS 13)
  f__law_take : TopF K mg "_law_take" (topS 14)
  f__law_some : TopF K mg "_law_some" (topS 16)
  f__law_map : TopF K mg "_law_map" (topS 15)
  f__law_far : TopF K mg "_law_far" (topS 17)
  f__law_rows : TopF K mg "_law_rows" (topS 19)
  f_law : TopF K mg "law" (topS 20)
  f__law_asked : TopF K mg "_law_asked" (topS 18)
  tb : TabAt K mg base
  n_abs : mg "abs" = none
  n_int : mg "int" = none
  n_len : mg "len" = none
  n_list : mg "list" = none
  n_min : mg "min" = none
  n_range : mg "range" = none
  n_set : mg "set" = none
  n_sorted : mg "sorted" = none
  n_str : mg "str" = none
  n_tuple : mg "tuple" = none
  i_MOST_MINUTES : ∃ t, mg "MOST_MINUTES" = some (.int (240) t)
  i_MOST_WAYS : ∃ t, mg "MOST_WAYS" = some (.int (40) t)
  err : ErrC P w K mg base (He.ga K "CallError") (He.ma K (He.ga K "CallError") "__init__")
  e_WayError : ErrS K mg (He.ga K "CallError") (He.ma K (He.ga K "CallError") "__init__") "WayError"
section
variable {P : Program} {w : World} {K : PySem.W.Frag} {mg : Str → Option Value} {base : Heap}
theorem sc__law_asked : FnScope ["call", "e"] ["call"] (defScope (topS 18)) := ⟨rfl, rfl, rfl, by decide +kernel, rfl, by decide +kernel, by decide +kernel⟩
/-- check_ways(film, ways); slots: 0 film, 1 ways, 2 places, 3 before, 4 way, 5 one, 6 other, 7 minutes -/
noncomputable def B_check_ways : SC :=
  (sSeq (sIf (cTst (cBin gGtA (cFn gLen (aCons (cVar 1) aNil)) (cK (.int (40))))) (sRaise "WayError" (cK (.str "many"))) sNil)
  (sSeq (sSet 2 (cFn gLen (aCons (cIx (cVar 0) (cK (.int 0))) aNil)))
  (sSeq (sSet 3 (cK .non))
  (sFor (pV 4) (cVar 1) (sSeq (sAsg (pTup (pCons (pV 5) (pCons (pV 6) (pCons (pV 7) pNil)))) (cVar 4))
  (sSeq (sIf (cOrT (cNotT (cTst (cChain gLeA gLtA (cK (.int 0)) (cVar 5) (cVar 2)))) (cNotT (cTst (cChain gLeA gLtA (cK (.int 0)) (cVar 6) (cVar 2))))) (sRaise "WayError" (cK (.str "place"))) sNil)
  (sSeq (sIf (cOrT (cNotT (cTst (cBin gLtA (cVar 5) (cVar 6)))) (cAndT (cTst (cBin gIsNot (cVar 3) (cK .non))) (cNotT (cTst (cBin gLtA (cVar 3) (cVar 4)))))) (sRaise "WayError" (cK (.str "order"))) sNil)
  (sSeq (sIf (cNotT (cTst (cChain gLeA gLeA (cK (.int 1)) (cVar 7) (cK (.int (240)))))) (sRaise "WayError" (cK (.str "minutes"))) sNil)
  (sSet 3 (cVar 4))))))))))
noncomputable def F_check_ways : FnC := fnOf 2 8 B_check_ways
theorem sc_check_ways : FnScope ["film", "ways", "places", "before", "way", "one", "other", "minutes"] ["film", "ways"] (defScope (topS 6)) := ⟨rfl, rfl, rfl, by decide +kernel, rfl, by decide +kernel, by decide +kernel⟩
theorem ok_check_ways (T : Txt P w K mg base) : FnAt P w K mg base 3 "check_ways" ["film", "ways"] F_check_ways :=
  fnAt_ok (b := B_check_ways) (N := ["film", "ways", "places", "before", "way", "one", "other", "minutes"]) rfl rfl T.f_check_ways sc_check_ways (by decide +kernel) (fun _ _ _ _ _ _ us hl => match us, hl with | [_, _], _ => rfl) fun f cdv A outer s H E hr tk =>
    (dss_cons (ds_if (dt_cmp (op_gtA hr.units) pCmpD (de_fnB call_lenA pLen rfl T.n_len PyProof.Rows.Boot.«len» (da_cons (de_var 1) da_nil)) (de_gint T.i_MOST_WAYS) (nomark _)) (dss_one (ds_raiseA T.err T.e_WayError tk hr de_str)) dss_nil)
    (dss_cons (ds_set 2 sc_check_ways.nd (de_fnB call_lenA pLen rfl T.n_len PyProof.Rows.Boot.«len» (da_cons (de_ix (hu_of hr) (de_var 0) de_int) da_nil)))
    (dss_cons (ds_set 3 sc_check_ways.nd de_non)
    (dss_one (ds_for (passes_of rfl) rfl (de_var 1) (dg_v 4 sc_check_ways.nd) (dss_cons (ds_asg (de_var 4) (dg_tup rfl (dgs_cons (dg_v 5 sc_check_ways.nd) (dgs_cons (dg_v 6 sc_check_ways.nd) (dgs_cons (dg_v 7 sc_check_ways.nd) dgs_nil)))))
    (dss_cons (ds_if (dt_w (dw_or (dt_not (dt_chain (op_leA hr.units) pCmpD (op_ltA hr.units) pCmpD de_int (de_var 5) (de_var 2))) (dw_or1 (dt_not (dt_chain (op_leA hr.units) pCmpD (op_ltA hr.units) pCmpD de_int (de_var 6) (de_var 2)))))) (dss_one (ds_raiseA T.err T.e_WayError tk hr de_str)) dss_nil)
    (dss_cons (ds_if (dt_w (dw_or (dt_not (dt_cmp (op_ltA hr.units) pCmpD (de_var 5) (de_var 6) (nomark _))) (dw_or1 (dt_w (dw_and (dt_cmp op_isNotA pIsNot (de_var 3) de_non (nomark _)) (dw_and1 (dt_not (dt_cmp (op_ltA hr.units) pCmpD (de_var 3) (de_var 4) (nomark _))))))))) (dss_one (ds_raiseA T.err T.e_WayError tk hr de_str)) dss_nil)
    (dss_cons (ds_if (dt_not (dt_chain (op_leA hr.units) pCmpD (op_leA hr.units) pCmpD de_int (de_var 7) (de_gint T.i_MOST_MINUTES))) (dss_one (ds_raiseA T.err T.e_WayError tk hr de_str)) dss_nil)
    (dss_one (ds_set 3 sc_check_ways.nd (de_var 4))))))))))))
/-- check_place(film, place); slots: 0 film, 1 place -/
noncomputable def B_check_place : SC :=
  (sIf (cNotT (cTst (cChain gLeA gLtA (cK (.int 0)) (cVar 1) (cFn gLen (aCons (cIx (cVar 0) (cK (.int 0))) aNil))))) (sRaise "WayError" (cK (.str "unknown"))) sNil)
noncomputable def F_check_place : FnC := fnOf 2 2 B_check_place
theorem sc_check_place : FnScope ["film", "place"] ["film", "place"] (defScope (topS 7)) := ⟨rfl, rfl, rfl, by decide +kernel, rfl, by decide +kernel, by decide +kernel⟩
theorem ok_check_place (T : Txt P w K mg base) : FnAt P w K mg base 3 "check_place" ["film", "place"] F_check_place :=
  fnAt_ok (b := B_check_place) (N := ["film", "place"]) rfl rfl T.f_check_place sc_check_place (by decide +kernel) (fun _ _ _ _ _ _ us hl => match us, hl with | [_, _], _ => rfl) fun f cdv A outer s H E hr tk =>
    (dss_one (ds_if (dt_not (dt_chain (op_leA hr.units) pCmpD (op_ltA hr.units) pCmpD de_int (de_var 1) (de_fnB call_lenA pLen rfl T.n_len PyProof.Rows.Boot.«len» (da_cons (de_ix (hu_of hr) (de_var 0) de_int) da_nil)))) (dss_one (ds_raiseA T.err T.e_WayError tk hr de_str)) dss_nil))
/-- neighbors(film, ways); slots: 0 film, 1 ways, 2 found, 3 _, 4 one, 5 other, 6 minutes -/
noncomputable def B_neighbors : SC :=
  (sSeq (sSet 2 (cComp [3] (pV 3) cYes (cLst aNil) (cIx (cVar 0) (cK (.int 0)))))
  (sSeq (sFor (pTup (pCons (pV 4) (pCons (pV 5) (pCons (pV 6) pNil)))) (cVar 1) (sSeq (sExpr (cApp 2 (cIx (cVar 2) (cVar 4)) (aCons (cTup (aCons (cVar 5) (aCons (cVar 6) aNil))) aNil)))
  (sExpr (cApp 2 (cIx (cVar 2) (cVar 5)) (aCons (cTup (aCons (cVar 4) (aCons (cVar 6) aNil))) aNil)))))
  (sRet (cTake (some 2) (cVar 2)))))
noncomputable def F_neighbors : FnC := fnOf 2 7 B_neighbors
theorem sc_neighbors : FnScope ["film", "ways", "found", "_", "one", "other", "minutes"] ["film", "ways"] (defScope (topS 8)) := ⟨rfl, rfl, rfl, by decide +kernel, rfl, by decide +kernel, by decide +kernel⟩
theorem ok_neighbors (T : Txt P w K mg base) : FnAt P w K mg base 1 "neighbors" ["film", "ways"] F_neighbors :=
  fnAt_ok (b := B_neighbors) (N := ["film", "ways", "found", "_", "one", "other", "minutes"]) rfl rfl T.f_neighbors sc_neighbors (by decide +kernel) (fun _ _ _ _ _ _ us hl => match us, hl with | [_, _], _ => rfl) fun f cdv A outer s H E hr tk =>
    (dss_cons (ds_setComp 2 [("_", 3)] rfl sc_neighbors.nd (de_ix (hu_of hr) (de_var 0) de_int) (blkOk_by (N := ["film", "ways", "found", "_", "one", "other", "minutes"]) (sc := defScope (topS 8)) (own := [("_", 3)]) (by decide +kernel)) ⟨fun _ _ _ _ _ => (dg_v 3 sc_neighbors.nd), fun _ _ _ _ _ => dpt_nil, fun _ _ _ _ _ => (de_lst da_nil)⟩)
    (dss_cons (ds_for (passes_of rfl) rfl (de_var 1) (dg_tup rfl (dgs_cons (dg_v 4 sc_neighbors.nd) (dgs_cons (dg_v 5 sc_neighbors.nd) (dgs_cons (dg_v 6 sc_neighbors.nd) dgs_nil)))) (dss_cons (ds_expr (de_app 2 (de_ix (hu_of hr) (de_var 2) (de_var 4)) (da_cons (de_tup (da_cons (de_var 5) (da_cons (de_var 6) da_nil))) da_nil)))
    (dss_one (ds_expr (de_app 2 (de_ix (hu_of hr) (de_var 2) (de_var 5)) (da_cons (de_tup (da_cons (de_var 4) (da_cons (de_var 6) da_nil))) da_nil))))))
    (dss_one (ds_ret (de_take (some 2) (de_var 2))))))
/-- all_distances(film, ways, place); slots: 0 film, 1 ways, 2 place, 3 near, 4 found, 5 waiting, 6 minutes, 7 now, 8 one, 9 other, 10 more -/
noncomputable def B_all_distances : SC :=
  (sSeq (sSet 3 (cCall F_neighbors [] (aCons (cVar 0) (aCons (cVar 1) aNil))))
  (sSeq (sSet 4 (cBin gMulA (cLst (aCons (cK .non) aNil)) (cFn gLen (aCons (cIx (cVar 0) (cK (.int 0))) aNil))))
  (sSeq (sSet 5 (cDict1 (cVar 2) (cK (.int 0))))
  (sSeq (sWhile (cTru (cVar 5)) (sSeq (sAsg (pTup (pCons (pV 6) (pCons (pV 7) pNil))) (cFn gMinL (aCons (cCompK 5 [8] (pV 8) cYes (cTup (aCons (cIx (cVar 5) (cVar 8)) (aCons (cVar 8) aNil)))) aNil)))
  (sSeq (sExpr (cDpop 5 (cVar 5) (cVar 7)))
  (sSeq (sSetIx 4 (cVar 4) (cVar 7) (cVar 6))
  (sFor (pTup (pCons (pV 9) (pCons (pV 10) pNil))) (cIx (cVar 3) (cVar 7)) (sIf (cAndT (cTst (cBin gIs (cIx (cVar 4) (cVar 9)) (cK .non))) (cTst (cBin gLtA (cBin gAdd (cVar 6) (cVar 10)) (cGet2 (cVar 5) (cVar 9) (cBin gAdd (cBin gAdd (cVar 6) (cVar 10)) (cK (.int 1))))))) (sSetIx 5 (cVar 5) (cVar 9) (cBin gAdd (cVar 6) (cVar 10))) sNil))))))
  (sRet (cFn gTuple (aCons (cVar 4) aNil)))))))
noncomputable def F_all_distances : FnC := fnOf 3 11 B_all_distances
theorem sc_all_distances : FnScope ["film", "ways", "place", "near", "found", "waiting", "minutes", "now", "one", "other", "more"] ["film", "ways", "place"] (defScope (topS 9)) := ⟨rfl, rfl, rfl, by decide +kernel, rfl, by decide +kernel, by decide +kernel⟩
theorem ok_all_distances (T : Txt P w K mg base) : FnAt P w K mg base 2 "all_distances" ["film", "ways", "place"] F_all_distances :=
  fnAt_ok (b := B_all_distances) (N := ["film", "ways", "place", "near", "found", "waiting", "minutes", "now", "one", "other", "more"]) rfl rfl T.f_all_distances sc_all_distances (by decide +kernel) (fun _ _ _ _ _ _ us hl => match us, hl with | [_, _, _], _ => rfl) fun f cdv A outer s H E hr tk =>
    (dss_cons (ds_set 3 sc_all_distances.nd (de_callA [] (ok_neighbors T) tk hr (da_cons (de_var 0) (da_cons (de_var 1) da_nil))))
    (dss_cons (ds_set 4 sc_all_distances.nd (de_bin op_mulA pMulA (de_lst (da_cons de_non da_nil)) (de_fnB call_lenA pLen rfl T.n_len PyProof.Rows.Boot.«len» (da_cons (de_ix (hu_of hr) (de_var 0) de_int) da_nil))))
    (dss_cons (ds_set 5 sc_all_distances.nd (de_dict1 (de_var 2) de_int))
    (dss_cons (ds_while (passes_of rfl) (dt_tru (de_var 5)) (dss_cons (ds_asg (de_fnB (call_minD rfl hr.units) pMinL rfl T.n_min PyProof.Rows.Boot.«min» (da_cons (de_compK 5 [("one", 8)] rfl sc_all_distances.nd (blkOk_by (N := ["film", "ways", "place", "near", "found", "waiting", "minutes", "now", "one", "other", "more"]) (sc := defScope (topS 9)) (own := [("one", 8)]) (by decide +kernel)) ⟨fun _ _ _ _ _ => (dg_v 8 sc_all_distances.nd), fun _ _ _ _ _ => dpt_nil, fun _ _ _ _ _ => (de_tup (da_cons (de_ix (hu_of hr) (de_var 5) (de_var 8)) (da_cons (de_var 8) da_nil)))⟩) da_nil)) (dg_tup rfl (dgs_cons (dg_v 6 sc_all_distances.nd) (dgs_cons (dg_v 7 sc_all_distances.nd) dgs_nil))))
    (dss_cons (ds_expr (de_dpop 5 (de_var 5) (de_var 7)))
    (dss_cons (ds_setIx 4 (hu_of hr) (de_var 6) (de_var 4) (de_var 7))
    (dss_one (ds_for (passes_of rfl) rfl (de_ix (hu_of hr) (de_var 3) (de_var 7)) (dg_tup rfl (dgs_cons (dg_v 9 sc_all_distances.nd) (dgs_cons (dg_v 10 sc_all_distances.nd) dgs_nil))) (dss_one (ds_if (dt_w (dw_and (dt_cmp op_isA pIs (de_ix (hu_of hr) (de_var 4) (de_var 9)) de_non (nomark _)) (dw_and1 (dt_cmp (op_ltA hr.units) pCmpD (de_bin op_addAll pAdd (de_var 6) (de_var 10)) (de_get2 (hu_of hr) (de_var 5) (de_var 9) (de_bin op_addAll pAdd (de_bin op_addAll pAdd (de_var 6) (de_var 10)) de_int)) (nomark _))))) (dss_one (ds_setIx 5 (hu_of hr) (de_bin op_addAll pAdd (de_var 6) (de_var 10)) (de_var 5) (de_var 9))) dss_nil))))))))
    (dss_one (ds_ret (de_fnT call_tuple_of pTuple rfl T.n_tuple PyProof.Rows.Boot.«tuple» (da_cons (de_var 4) da_nil))))))))
/-- distances(film, ways, place); slots: 0 film, 1 ways, 2 place -/
noncomputable def B_distances : SC :=
  (sSeq (sExpr (cCall F_check_ways [] (aCons (cVar 0) (aCons (cVar 1) aNil))))
  (sSeq (sExpr (cCall F_check_place [] (aCons (cVar 0) (aCons (cVar 2) aNil))))
  (sRet (cCall F_all_distances [] (aCons (cVar 0) (aCons (cVar 1) (aCons (cVar 2) aNil)))))))
noncomputable def F_distances : FnC := fnOf 3 3 B_distances
theorem sc_distances : FnScope ["film", "ways", "place"] ["film", "ways", "place"] (defScope (topS 10)) := ⟨rfl, rfl, rfl, by decide +kernel, rfl, by decide +kernel, by decide +kernel⟩
theorem ok_distances (T : Txt P w K mg base) : FnAt P w K mg base 4 "distances" ["film", "ways", "place"] F_distances :=
  fnAt_ok (b := B_distances) (N := ["film", "ways", "place"]) rfl rfl T.f_distances sc_distances (by decide +kernel) (fun _ _ _ _ _ _ us hl => match us, hl with | [_, _, _], _ => rfl) fun f cdv A outer s H E hr tk =>
    (dss_cons (ds_expr (de_callA [] (ok_check_ways T) tk hr (da_cons (de_var 0) (da_cons (de_var 1) da_nil))))
    (dss_cons (ds_expr (de_callA [] (ok_check_place T) tk hr (da_cons (de_var 0) (da_cons (de_var 2) da_nil))))
    (dss_one (ds_ret (de_callA [] (ok_all_distances T) tk hr (da_cons (de_var 0) (da_cons (de_var 1) (da_cons (de_var 2) da_nil))))))))
/-- route(film, ways, one, other); slots: 0 film, 1 ways, 2 one, 3 other, 4 left, 5 near, 6 level, 7 following, 8 row, 9 place, 10 minutes -/
noncomputable def B_route : SC :=
  (sSeq (sExpr (cCall F_check_ways [] (aCons (cVar 0) (aCons (cVar 1) aNil))))
  (sSeq (sExpr (cCall F_check_place [] (aCons (cVar 0) (aCons (cVar 2) aNil))))
  (sSeq (sExpr (cCall F_check_place [] (aCons (cVar 0) (aCons (cVar 3) aNil))))
  (sSeq (sSet 4 (cCall F_all_distances [] (aCons (cVar 0) (aCons (cVar 1) (aCons (cVar 3) aNil)))))
  (sSeq (sIf (cTst (cBin gIs (cIx (cVar 4) (cVar 2)) (cK .non))) (sRaise "WayError" (cK (.str "apart"))) sNil)
  (sSeq (sSet 5 (cCall F_neighbors [] (aCons (cVar 0) (aCons (cVar 1) aNil))))
  (sSeq (sSet 6 (cLst (aCons (cTup (aCons (cVar 2) aNil)) aNil)))
  (sSeq (sWhile (cTst (cBin gNe (cIx (cIx (cVar 6) (cK (.int 0))) (cNeg (cK (.int 1)))) (cVar 3))) (sSeq (sSet 7 cDnew)
  (sSeq (sFor (pV 8) (cVar 6) (sFor (pTup (pCons (pV 9) (pCons (pV 10) pNil))) (cIx (cVar 5) (cIx (cVar 8) (cNeg (cK (.int 1))))) (sIf (cAndT (cTst (cBin gIsNot (cIx (cVar 4) (cVar 9)) (cK .non))) (cTst (cBin gEq (cBin gAdd (cIx (cVar 4) (cVar 9)) (cVar 10)) (cIx (cVar 4) (cIx (cVar 8) (cNeg (cK (.int 1)))))))) (sSetIx 7 (cVar 7) (cVar 9) (cFn gMin2D (aCons (cGet2 (cVar 7) (cVar 9) (cBin gAdd (cVar 8) (cTup (aCons (cVar 9) aNil)))) (aCons (cBin gAdd (cVar 8) (cTup (aCons (cVar 9) aNil))) aNil)))) sNil)))
  (sSeq (sIf (cTst (cBin gIn (cVar 3) (cVar 7))) (sRet (cIx (cVar 7) (cVar 3))) sNil)
  (sSet 6 (cComp [9] (pV 9) cYes (cIx (cVar 7) (cVar 9)) (cFn gSortK (aCons (cVar 7) aNil))))))))
  (sRet (cIx (cVar 6) (cK (.int 0))))))))))))
noncomputable def F_route : FnC := fnOf 4 11 B_route
theorem sc_route : FnScope ["film", "ways", "one", "other", "left", "near", "level", "following", "row", "place", "minutes"] ["film", "ways", "one", "other"] (defScope (topS 11)) := ⟨rfl, rfl, rfl, by decide +kernel, rfl, by decide +kernel, by decide +kernel⟩
theorem ok_route (T : Txt P w K mg base) : FnAt P w K mg base 4 "route" ["film", "ways", "one", "other"] F_route :=
  fnAt_ok (b := B_route) (N := ["film", "ways", "one", "other", "left", "near", "level", "following", "row", "place", "minutes"]) rfl rfl T.f_route sc_route (by decide +kernel) (fun _ _ _ _ _ _ us hl => match us, hl with | [_, _, _, _], _ => rfl) fun f cdv A outer s H E hr tk =>
    (dss_cons (ds_expr (de_callA [] (ok_check_ways T) tk hr (da_cons (de_var 0) (da_cons (de_var 1) da_nil))))
    (dss_cons (ds_expr (de_callA [] (ok_check_place T) tk hr (da_cons (de_var 0) (da_cons (de_var 2) da_nil))))
    (dss_cons (ds_expr (de_callA [] (ok_check_place T) tk hr (da_cons (de_var 0) (da_cons (de_var 3) da_nil))))
    (dss_cons (ds_set 4 sc_route.nd (de_callA [] (ok_all_distances T) tk hr (da_cons (de_var 0) (da_cons (de_var 1) (da_cons (de_var 3) da_nil)))))
    (dss_cons (ds_if (dt_cmp op_isA pIs (de_ix (hu_of hr) (de_var 4) (de_var 2)) de_non (nomark _)) (dss_one (ds_raiseA T.err T.e_WayError tk hr de_str)) dss_nil)
    (dss_cons (ds_set 5 sc_route.nd (de_callA [] (ok_neighbors T) tk hr (da_cons (de_var 0) (da_cons (de_var 1) da_nil))))
    (dss_cons (ds_set 6 sc_route.nd (de_lst (da_cons (de_tup (da_cons (de_var 2) da_nil)) da_nil)))
    (dss_cons (ds_while (passes_of rfl) (dt_cmp (op_neA hr.units) pNe (de_ix (hu_of hr) (de_ix (hu_of hr) (de_var 6) de_int) (de_neg de_int)) (de_var 3) (nomark _)) (dss_cons (ds_set 7 sc_route.nd de_dnew)
    (dss_cons (ds_for (passes_of rfl) rfl (de_var 6) (dg_v 8 sc_route.nd) (dss_one (ds_for (passes_of rfl) rfl (de_ix (hu_of hr) (de_var 5) (de_ix (hu_of hr) (de_var 8) (de_neg de_int))) (dg_tup rfl (dgs_cons (dg_v 9 sc_route.nd) (dgs_cons (dg_v 10 sc_route.nd) dgs_nil))) (dss_one (ds_if (dt_w (dw_and (dt_cmp op_isNotA pIsNot (de_ix (hu_of hr) (de_var 4) (de_var 9)) de_non (nomark _)) (dw_and1 (dt_cmp (op_eqA hr.units) pEq (de_bin op_addAll pAdd (de_ix (hu_of hr) (de_var 4) (de_var 9)) (de_var 10)) (de_ix (hu_of hr) (de_var 4) (de_ix (hu_of hr) (de_var 8) (de_neg de_int))) (nomark _))))) (dss_one (ds_setIx 7 (hu_of hr) (de_fnB (call_min2D rfl hr.units) pMin2D rfl T.n_min PyProof.Rows.Boot.«min» (da_cons (de_get2 (hu_of hr) (de_var 7) (de_var 9) (de_bin op_addAll pAdd (de_var 8) (de_tup (da_cons (de_var 9) da_nil)))) (da_cons (de_bin op_addAll pAdd (de_var 8) (de_tup (da_cons (de_var 9) da_nil))) da_nil))) (de_var 7) (de_var 9))) dss_nil)))))
    (dss_cons (ds_if (dt_cmp (op_inAll hr) pIn (de_var 3) (de_var 7) (by rfl)) (dss_one (ds_ret (de_ix (hu_of hr) (de_var 7) (de_var 3)))) dss_nil)
    (dss_one (ds_setComp 6 [("place", 9)] rfl sc_route.nd (de_fnB (call_sortedDI rfl) pSortK rfl T.n_sorted PyProof.Rows.Boot.«sorted» (da_cons (de_var 7) da_nil)) (blkOk_by (N := ["film", "ways", "one", "other", "left", "near", "level", "following", "row", "place", "minutes"]) (sc := defScope (topS 11)) (own := [("place", 9)]) (by decide +kernel)) ⟨fun _ _ _ _ _ => (dg_v 9 sc_route.nd), fun _ _ _ _ _ => dpt_nil, fun _ _ _ _ _ => (de_ix (hu_of hr) (de_var 7) (de_var 9))⟩))))))
    (dss_one (ds_ret (de_ix (hu_of hr) (de_var 6) de_int)))))))))))
/-- _law_begin(script); slots: 0 script, 1 seed, 2 cell -/
noncomputable def B__law_begin : SC :=
  (sSeq (sSet 1 (cK (.int 1)))
  (sSeq (sFor (pV 2) (cVar 0) (sSet 1 (cBin gMod (cBin gAdd (cBin gAdd (cBin gMulA (cVar 1) (cK (.int 69621))) (cBin gMod (cFn gInt (aCons (cVar 2) aNil)) (cK (.int 2147483629)))) (cK (.int 7))) (cK (.int 2147483647)))))
  (sRet (cLst (aCons (cFn gList (aCons (cVar 0) aNil)) (aCons (cK (.int 0)) (aCons (cK (.int 0)) (aCons (cVar 1) aNil))))))))
noncomputable def F__law_begin : FnC := fnOf 1 3 B__law_begin
theorem sc__law_begin : FnScope ["script", "seed", "cell"] ["script"] (defScope (topS 13)) := ⟨rfl, rfl, rfl, by decide +kernel, rfl, by decide +kernel, by decide +kernel⟩
theorem ok__law_begin (T : Txt P w K mg base) : FnAt P w K mg base 1 "_law_begin" ["script"] F__law_begin :=
  fnAt_ok (b := B__law_begin) (N := ["script", "seed", "cell"]) rfl rfl T.f__law_begin sc__law_begin (by decide +kernel) (fun _ _ _ _ _ _ us hl => match us, hl with | [_], _ => rfl) fun f cdv A outer s H E hr tk =>
    (dss_cons (ds_set 1 sc__law_begin.nd de_int)
    (dss_cons (ds_for (passes_of rfl) rfl (de_var 0) (dg_v 2 sc__law_begin.nd) (dss_one (ds_set 1 sc__law_begin.nd (de_bin op_mod pMod (de_bin op_addAll pAdd (de_bin op_addAll pAdd (de_bin op_mulA pMulA (de_var 1) de_int) (de_bin op_mod pMod (de_fnT call_int1 pInt rfl T.n_int PyProof.Rows.Boot.«int» (da_cons (de_var 2) da_nil)) de_int)) de_int) de_int))))
    (dss_one (ds_ret (de_lst (da_cons (de_fnT call_list_of pList rfl T.n_list PyProof.Rows.Boot.«list» (da_cons (de_var 0) da_nil)) (da_cons de_int (da_cons de_int (da_cons (de_var 1) da_nil)))))))))
/-- _law_take(d, many); slots: 0 d, 1 many, 2 small, 3 digit -/
noncomputable def B__law_take : SC :=
  (sSeq (sIf (cAndT (cTst (cBin gEq (cIx (cVar 0) (cK (.int 2))) (cK (.int 0)))) (cTst (cBin gLtA (cIx (cVar 0) (cK (.int 1))) (cFn gLen (aCons (cIx (cVar 0) (cK (.int 0))) aNil))))) (sSeq (sSetIx 0 (cVar 0) (cK (.int 2)) (cFn gAbs (aCons (cFn gInt (aCons (cIx (cIx (cVar 0) (cK (.int 0))) (cIx (cVar 0) (cK (.int 1)))) aNil)) aNil)))
  (sSeq (sSetIx 0 (cVar 0) (cK (.int 1)) (cBin gAdd (cIx (cVar 0) (cK (.int 1))) (cK (.int 1))))
  (sIf (cTst (cBin gLtA (cIx (cVar 0) (cK (.int 2))) (cBin gPow (cK (.int 10)) (cK (.int 18))))) (sSeq (sSet 2 (cFn gInt (aCons (cIx (cVar 0) (cK (.int 2))) aNil)))
  (sSeq (sSetIx 0 (cVar 0) (cK (.int 2)) (cK (.int 0)))
  (sRet (cBin gMod (cVar 2) (cVar 1))))) sNil))) sNil)
  (sSeq (sIf (cTst (cBin gGtA (cIx (cVar 0) (cK (.int 2))) (cK (.int 0)))) (sSeq (sSet 3 (cBin gMod (cFn gInt (aCons (cIx (cVar 0) (cK (.int 2))) aNil)) (cVar 1)))
  (sSeq (sSetIx 0 (cVar 0) (cK (.int 2)) (cBin gDiv (cFn gInt (aCons (cIx (cVar 0) (cK (.int 2))) aNil)) (cVar 1)))
  (sRet (cTake (some 3) (cVar 3))))) sNil)
  (sSeq (sSetIx 0 (cVar 0) (cK (.int 3)) (cBin gMod (cFn gInt (aCons (cBin gAdd (cBin gMulA (cIx (cVar 0) (cK (.int 3))) (cK (.int 48271))) (cK (.int 11))) aNil)) (cK (.int 2147483647))))
  (sRet (cBin gMod (cFn gInt (aCons (cBin gDiv (cIx (cVar 0) (cK (.int 3))) (cK (.int 3))) aNil)) (cVar 1))))))
noncomputable def F__law_take : FnC := fnOf 2 4 B__law_take
theorem sc__law_take : FnScope ["d", "many", "small", "digit"] ["d", "many"] (defScope (topS 14)) := ⟨rfl, rfl, rfl, by decide +kernel, rfl, by decide +kernel, by decide +kernel⟩
theorem ok__law_take (T : Txt P w K mg base) : FnAt P w K mg base 1 "_law_take" ["d", "many"] F__law_take :=
  fnAt_ok (b := B__law_take) (N := ["d", "many", "small", "digit"]) rfl rfl T.f__law_take sc__law_take (by decide +kernel) (fun _ _ _ _ _ _ us hl => match us, hl with | [_, _], _ => rfl) fun f cdv A outer s H E hr tk =>
    (dss_cons (ds_if (dt_w (dw_and (dt_cmp (op_eqA hr.units) pEq (de_ix (hu_of hr) (de_var 0) de_int) de_int (nomark _)) (dw_and1 (dt_cmp (op_ltA hr.units) pCmpD (de_ix (hu_of hr) (de_var 0) de_int) (de_fnB call_lenA pLen rfl T.n_len PyProof.Rows.Boot.«len» (da_cons (de_ix (hu_of hr) (de_var 0) de_int) da_nil)) (nomark _))))) (dss_cons (ds_setIx 0 (hu_of hr) (de_fnB call_abs pAbs rfl T.n_abs PyProof.Rows.Boot.«abs» (da_cons (de_fnT call_int1 pInt rfl T.n_int PyProof.Rows.Boot.«int» (da_cons (de_ix (hu_of hr) (de_ix (hu_of hr) (de_var 0) de_int) (de_ix (hu_of hr) (de_var 0) de_int)) da_nil)) da_nil)) (de_var 0) de_int)
    (dss_cons (ds_setIx 0 (hu_of hr) (de_bin op_addAll pAdd (de_ix (hu_of hr) (de_var 0) de_int) de_int) (de_var 0) de_int)
    (dss_one (ds_if (dt_cmp (op_ltA hr.units) pCmpD (de_ix (hu_of hr) (de_var 0) de_int) (de_bin op_pow pPow de_int de_int) (nomark _)) (dss_cons (ds_set 2 sc__law_take.nd (de_fnT call_int1 pInt rfl T.n_int PyProof.Rows.Boot.«int» (da_cons (de_ix (hu_of hr) (de_var 0) de_int) da_nil)))
    (dss_cons (ds_setIx 0 (hu_of hr) de_int (de_var 0) de_int)
    (dss_one (ds_ret (de_bin op_mod pMod (de_var 2) (de_var 1)))))) dss_nil)))) dss_nil)
    (dss_cons (ds_if (dt_cmp (op_gtA hr.units) pCmpD (de_ix (hu_of hr) (de_var 0) de_int) de_int (nomark _)) (dss_cons (ds_set 3 sc__law_take.nd (de_bin op_mod pMod (de_fnT call_int1 pInt rfl T.n_int PyProof.Rows.Boot.«int» (da_cons (de_ix (hu_of hr) (de_var 0) de_int) da_nil)) (de_var 1)))
    (dss_cons (ds_setIx 0 (hu_of hr) (de_bin op_fdiv pDiv (de_fnT call_int1 pInt rfl T.n_int PyProof.Rows.Boot.«int» (da_cons (de_ix (hu_of hr) (de_var 0) de_int) da_nil)) (de_var 1)) (de_var 0) de_int)
    (dss_one (ds_ret (de_take (some 3) (de_var 3)))))) dss_nil)
    (dss_cons (ds_setIx 0 (hu_of hr) (de_bin op_mod pMod (de_fnT call_int1 pInt rfl T.n_int PyProof.Rows.Boot.«int» (da_cons (de_bin op_addAll pAdd (de_bin op_mulA pMulA (de_ix (hu_of hr) (de_var 0) de_int) de_int) de_int) da_nil)) de_int) (de_var 0) de_int)
    (dss_one (ds_ret (de_bin op_mod pMod (de_fnT call_int1 pInt rfl T.n_int PyProof.Rows.Boot.«int» (da_cons (de_bin op_fdiv pDiv (de_ix (hu_of hr) (de_var 0) de_int) de_int) da_nil)) (de_var 1)))))))
/-- _law_some(d, many); slots: 0 d, 1 many, 2 k -/
noncomputable def B__law_some : SC :=
  (sRet (cFn gTuple (aCons (cCompR rng1 [2] (pV 2) (cTst (cBin gEq (cCall F__law_take [0] (aCons (cVar 0) (aCons (cK (.int 2)) aNil))) (cK (.int 0)))) (cVar 2) (aCons (cVar 1) aNil)) aNil)))
noncomputable def F__law_some : FnC := fnOf 2 3 B__law_some
theorem sc__law_some : FnScope ["d", "many", "k"] ["d", "many"] (defScope (topS 16)) := ⟨rfl, rfl, rfl, by decide +kernel, rfl, by decide +kernel, by decide +kernel⟩
theorem ok__law_some (T : Txt P w K mg base) : FnAt P w K mg base 2 "_law_some" ["d", "many"] F__law_some :=
  fnAt_ok (b := B__law_some) (N := ["d", "many", "k"]) rfl rfl T.f__law_some sc__law_some (by decide +kernel) (fun _ _ _ _ _ _ us hl => match us, hl with | [_, _], _ => rfl) fun f cdv A outer s H E hr tk =>
    (dss_one (ds_ret (de_fnT call_tuple_of pTuple rfl T.n_tuple PyProof.Rows.Boot.«tuple» (da_cons (de_compR1 [("k", 2)] rfl sc__law_some.nd rfl T.n_range (da_cons (de_var 1) da_nil) (blkOk_by (N := ["d", "many", "k"]) (sc := defScope (topS 16)) (own := [("k", 2)]) (by decide +kernel)) ⟨fun _ _ _ _ _ => (dg_v 2 sc__law_some.nd), fun _ _ _ _ _ => (dpt_one (dt_cmp (op_eqA hr.units) pEq (de_callA [0] (ok__law_take T) takes0 hr (da_cons (de_var 0) (da_cons de_int da_nil))) de_int (nomark _))), fun _ _ _ _ _ => (de_var 2)⟩) da_nil))))
/-- _law_map(d); slots: 0 d, 1 places, 2 actors, 3 scenes, 4 rows, 5 k, 6 orders, 7 j, 8 first, 9 second, 10 film, 11 ways, 12 one -/
noncomputable def B__law_map : SC :=
  (sSeq (sSet 1 (cBin gAdd (cK (.int 1)) (cCall F__law_take [0] (aCons (cVar 0) (aCons (cK (.int 5)) aNil)))))
  (sSeq (sSet 2 (cBin gAdd (cK (.int 1)) (cCall F__law_take [0] (aCons (cVar 0) (aCons (cK (.int 2)) aNil)))))
  (sSeq (sSet 3 (cBin gAdd (cK (.int 1)) (cCall F__law_take [0] (aCons (cVar 0) (aCons (cK (.int 5)) aNil)))))
  (sSeq (sSet 4 (cCompR rng1 [5] (pV 5) cYes (cTup (aCons (cBin gAdd (cK (.str "s")) (cFn gStr (aCons (cVar 5) aNil))) (aCons (cCall F__law_take [0] (aCons (cVar 0) (aCons (cVar 1) aNil))) (aCons (cK (.str "any")) (aCons (cBin gAdd (cK (.int 10)) (cBin gMulA (cK (.int 5)) (cCall F__law_take [0] (aCons (cVar 0) (aCons (cK (.int 12)) aNil))))) (aCons (cK (.bl false)) (aCons (cCall F__law_some [0] (aCons (cVar 0) (aCons (cVar 2) aNil))) aNil))))))) (aCons (cVar 3) aNil)))
  (sSeq (sSet 6 (cLst aNil))
  (sSeq (sForR rng1 (pV 5) (aCons (cVar 3) aNil) (sSet 6 (cBin gAdd (cVar 6) (cCompR rng2 [7] (pV 7) (cTst (cBin gEq (cCall F__law_take [0] (aCons (cVar 0) (aCons (cK (.int 5)) aNil))) (cK (.int 0)))) (cTup (aCons (cVar 5) (aCons (cVar 7) aNil))) (aCons (cBin gAdd (cVar 5) (cK (.int 1))) (aCons (cVar 3) aNil))))))
  (sSeq (sIf (cTst (cBin gEq (cCall F__law_take [0] (aCons (cVar 0) (aCons (cK (.int 3)) aNil))) (cK (.int 0)))) (sSet 6 (cFn gSort (aCons (cComp [8, 9] (pTup (pCons (pV 8) (pCons (pV 9) pNil))) cYes (cTup (aCons (cVar 9) (aCons (cVar 8) aNil))) (cVar 6)) aNil))) sNil)
  (sSeq (sSet 10 (cTup (aCons (cFn gTuple (aCons (cCompR rng1 [5] (pV 5) cYes (cTup (aCons (cBin gAdd (cK (.str "p")) (cFn gStr (aCons (cVar 5) aNil))) (aCons (cK (.bl false)) aNil))) (aCons (cVar 1) aNil)) aNil)) (aCons (cFn gTuple (aCons (cCompR rng1 [5] (pV 5) cYes (cTup (aCons (cBin gAdd (cK (.str "a")) (cFn gStr (aCons (cVar 5) aNil))) (aCons (cK (.bl false)) aNil))) (aCons (cVar 2) aNil)) aNil)) (aCons (cFn gTuple (aCons (cVar 4) aNil)) (aCons (cFn gTuple (aCons (cVar 6) aNil)) (aCons (cTup (aCons (cK (.int 10)) (aCons (cK (.int 20)) (aCons (cK (.int 30)) aNil)))) aNil)))))))
  (sSeq (sSet 11 (cLst aNil))
  (sSeq (sForR rng1 (pV 5) (aCons (cIfE (cTst (cBin gGtA (cVar 1) (cK (.int 1)))) (cCall F__law_take [0] (aCons (cVar 0) (aCons (cK (.int 9)) aNil))) (cK (.int 0))) aNil) (sSeq (sSet 12 (cCall F__law_take [0] (aCons (cVar 0) (aCons (cBin gSub (cVar 1) (cK (.int 1))) aNil))))
  (sExpr (cApp 11 (cVar 11) (aCons (cTup (aCons (cVar 12) (aCons (cBin gAdd (cBin gAdd (cVar 12) (cK (.int 1))) (cCall F__law_take [0] (aCons (cVar 0) (aCons (cBin gSub (cBin gSub (cVar 1) (cVar 12)) (cK (.int 1))) aNil)))) (aCons (cIx (cLst (aCons (cBin gAdd (cK (.int 1)) (cCall F__law_take [0] (aCons (cVar 0) (aCons (cK (.int 30)) aNil)))) (aCons (cK (.int 240)) (aCons (cK (.int 5)) aNil)))) (cCall F__law_take [0] (aCons (cVar 0) (aCons (cK (.int 3)) aNil)))) aNil)))) aNil)))))
  (sRet (cTup (aCons (cVar 10) (aCons (cFn gTuple (aCons (cSortSet (cVar 11)) aNil)) aNil))))))))))))))
noncomputable def F__law_map : FnC := fnOf 1 13 B__law_map
theorem sc__law_map : FnScope ["d", "places", "actors", "scenes", "rows", "k", "orders", "j", "first", "second", "film", "ways", "one"] ["d"] (defScope (topS 15)) := ⟨rfl, rfl, rfl, by decide +kernel, rfl, by decide +kernel, by decide +kernel⟩
theorem ok__law_map (T : Txt P w K mg base) : FnAt P w K mg base 3 "_law_map" ["d"] F__law_map :=
  fnAt_ok (b := B__law_map) (N := ["d", "places", "actors", "scenes", "rows", "k", "orders", "j", "first", "second", "film", "ways", "one"]) rfl rfl T.f__law_map sc__law_map (by decide +kernel) (fun _ _ _ _ _ _ us hl => match us, hl with | [_], _ => rfl) fun f cdv A outer s H E hr tk =>
    (dss_cons (ds_set 1 sc__law_map.nd (de_bin op_addAll pAdd de_int (de_callA [0] (ok__law_take T) tk hr (da_cons (de_var 0) (da_cons de_int da_nil)))))
    (dss_cons (ds_set 2 sc__law_map.nd (de_bin op_addAll pAdd de_int (de_callA [0] (ok__law_take T) tk hr (da_cons (de_var 0) (da_cons de_int da_nil)))))
    (dss_cons (ds_set 3 sc__law_map.nd (de_bin op_addAll pAdd de_int (de_callA [0] (ok__law_take T) tk hr (da_cons (de_var 0) (da_cons de_int da_nil)))))
    (dss_cons (ds_setCompR1 4 [("k", 5)] rfl sc__law_map.nd rfl T.n_range (da_cons (de_var 3) da_nil) (blkOk_by (N := ["d", "places", "actors", "scenes", "rows", "k", "orders", "j", "first", "second", "film", "ways", "one"]) (sc := defScope (topS 15)) (own := [("k", 5)]) (by decide +kernel)) ⟨fun _ _ _ _ _ => (dg_v 5 sc__law_map.nd), fun _ _ _ _ _ => dpt_nil, fun _ _ _ _ _ => (de_tup (da_cons (de_bin op_addAll pAdd de_str (de_fnT call_str_int pStr rfl T.n_str PyProof.Rows.Boot.«str» (da_cons (de_var 5) da_nil))) (da_cons (de_callA [0] (ok__law_take T) takes0 hr (da_cons (de_var 0) (da_cons (de_var 1) da_nil))) (da_cons de_str (da_cons (de_bin op_addAll pAdd de_int (de_bin op_mulA pMulA de_int (de_callA [0] (ok__law_take T) takes0 hr (da_cons (de_var 0) (da_cons de_int da_nil))))) (da_cons de_bl (da_cons (de_callA [0] (ok__law_some T) takes0 hr (da_cons (de_var 0) (da_cons (de_var 2) da_nil))) da_nil)))))))⟩)
    (dss_cons (ds_set 6 sc__law_map.nd (de_lst da_nil))
    (dss_cons (ds_forR1 (passes_of rfl) rfl rfl T.n_range (da_cons (de_var 3) da_nil) (dg_v 5 sc__law_map.nd) (dss_one (ds_set 6 sc__law_map.nd (de_bin op_addAll pAdd (de_var 6) (de_compR2 [("j", 7)] rfl sc__law_map.nd rfl T.n_range (da_cons (de_bin op_addAll pAdd (de_var 5) de_int) (da_cons (de_var 3) da_nil)) (blkOk_by (N := ["d", "places", "actors", "scenes", "rows", "k", "orders", "j", "first", "second", "film", "ways", "one"]) (sc := defScope (topS 15)) (own := [("j", 7)]) (by decide +kernel)) ⟨fun _ _ _ _ _ => (dg_v 7 sc__law_map.nd), fun _ _ _ _ _ => (dpt_one (dt_cmp (op_eqA hr.units) pEq (de_callA [0] (ok__law_take T) takes0 hr (da_cons (de_var 0) (da_cons de_int da_nil))) de_int (nomark _))), fun _ _ _ _ _ => (de_tup (da_cons (de_var 5) (da_cons (de_var 7) da_nil)))⟩)))))
    (dss_cons (ds_if (dt_cmp (op_eqA hr.units) pEq (de_callA [0] (ok__law_take T) tk hr (da_cons (de_var 0) (da_cons de_int da_nil))) de_int (nomark _)) (dss_one (ds_set 6 sc__law_map.nd (de_fnB (call_sortD hr.units) pSort rfl T.n_sorted PyProof.Rows.Boot.«sorted» (da_cons (de_comp [("first", 8), ("second", 9)] rfl sc__law_map.nd (de_var 6) (blkOk_by (N := ["d", "places", "actors", "scenes", "rows", "k", "orders", "j", "first", "second", "film", "ways", "one"]) (sc := defScope (topS 15)) (own := [("first", 8), ("second", 9)]) (by decide +kernel)) ⟨fun _ _ _ _ _ => (dg_tup rfl (dgs_cons (dg_v 8 sc__law_map.nd) (dgs_cons (dg_v 9 sc__law_map.nd) dgs_nil))), fun _ _ _ _ _ => dpt_nil, fun _ _ _ _ _ => (de_tup (da_cons (de_var 9) (da_cons (de_var 8) da_nil)))⟩) da_nil)))) dss_nil)
    (dss_cons (ds_set 10 sc__law_map.nd (de_tup (da_cons (de_fnT call_tuple_of pTuple rfl T.n_tuple PyProof.Rows.Boot.«tuple» (da_cons (de_compR1 [("k", 5)] rfl sc__law_map.nd rfl T.n_range (da_cons (de_var 1) da_nil) (blkOk_by (N := ["d", "places", "actors", "scenes", "rows", "k", "orders", "j", "first", "second", "film", "ways", "one"]) (sc := defScope (topS 15)) (own := [("k", 5)]) (by decide +kernel)) ⟨fun _ _ _ _ _ => (dg_v 5 sc__law_map.nd), fun _ _ _ _ _ => dpt_nil, fun _ _ _ _ _ => (de_tup (da_cons (de_bin op_addAll pAdd de_str (de_fnT call_str_int pStr rfl T.n_str PyProof.Rows.Boot.«str» (da_cons (de_var 5) da_nil))) (da_cons de_bl da_nil)))⟩) da_nil)) (da_cons (de_fnT call_tuple_of pTuple rfl T.n_tuple PyProof.Rows.Boot.«tuple» (da_cons (de_compR1 [("k", 5)] rfl sc__law_map.nd rfl T.n_range (da_cons (de_var 2) da_nil) (blkOk_by (N := ["d", "places", "actors", "scenes", "rows", "k", "orders", "j", "first", "second", "film", "ways", "one"]) (sc := defScope (topS 15)) (own := [("k", 5)]) (by decide +kernel)) ⟨fun _ _ _ _ _ => (dg_v 5 sc__law_map.nd), fun _ _ _ _ _ => dpt_nil, fun _ _ _ _ _ => (de_tup (da_cons (de_bin op_addAll pAdd de_str (de_fnT call_str_int pStr rfl T.n_str PyProof.Rows.Boot.«str» (da_cons (de_var 5) da_nil))) (da_cons de_bl da_nil)))⟩) da_nil)) (da_cons (de_fnT call_tuple_of pTuple rfl T.n_tuple PyProof.Rows.Boot.«tuple» (da_cons (de_var 4) da_nil)) (da_cons (de_fnT call_tuple_of pTuple rfl T.n_tuple PyProof.Rows.Boot.«tuple» (da_cons (de_var 6) da_nil)) (da_cons (de_tup (da_cons de_int (da_cons de_int (da_cons de_int da_nil)))) da_nil)))))))
    (dss_cons (ds_set 11 sc__law_map.nd (de_lst da_nil))
    (dss_cons (ds_forR1 (passes_of rfl) rfl rfl T.n_range (da_cons (de_ife (dt_cmp (op_gtA hr.units) pCmpD (de_var 1) de_int (nomark _)) (de_callA [0] (ok__law_take T) tk hr (da_cons (de_var 0) (da_cons de_int da_nil))) de_int) da_nil) (dg_v 5 sc__law_map.nd) (dss_cons (ds_set 12 sc__law_map.nd (de_callA [0] (ok__law_take T) tk hr (da_cons (de_var 0) (da_cons (de_bin op_sub pSub (de_var 1) de_int) da_nil))))
    (dss_one (ds_expr (de_app 11 (de_var 11) (da_cons (de_tup (da_cons (de_var 12) (da_cons (de_bin op_addAll pAdd (de_bin op_addAll pAdd (de_var 12) de_int) (de_callA [0] (ok__law_take T) tk hr (da_cons (de_var 0) (da_cons (de_bin op_sub pSub (de_bin op_sub pSub (de_var 1) (de_var 12)) de_int) da_nil)))) (da_cons (de_ix (hu_of hr) (de_lst (da_cons (de_bin op_addAll pAdd de_int (de_callA [0] (ok__law_take T) tk hr (da_cons (de_var 0) (da_cons de_int da_nil)))) (da_cons de_int (da_cons de_int da_nil)))) (de_callA [0] (ok__law_take T) tk hr (da_cons (de_var 0) (da_cons de_int da_nil)))) da_nil)))) da_nil))))))
    (dss_one (ds_ret (de_tup (da_cons (de_var 10) (da_cons (de_fnT call_tuple_of pTuple rfl T.n_tuple PyProof.Rows.Boot.«tuple» (da_cons (de_sortSet rfl hr.units rfl T.n_sorted rfl T.n_set (de_var 11)) da_nil)) da_nil)))))))))))))))
/-- _law_far(film, ways); slots: 0 film, 1 ways, 2 many, 3 far, 4 k, 5 j, 6 turn, 7 one, 8 other, 9 minutes, 10 a, 11 b -/
noncomputable def B__law_far : SC :=
  (sSeq (sSet 2 (cFn gLen (aCons (cIx (cVar 0) (cK (.int 0))) aNil)))
  (sSeq (sSet 3 (cLst aNil))
  (sSeq (sForR rng1 (pV 4) (aCons (cVar 2) aNil) (sExpr (cApp 3 (cVar 3) (aCons (cCompR rng1 [5] (pV 5) cYes (cIfE (cTst (cBin gEq (cVar 5) (cVar 4))) (cK (.int 0)) (cK .non)) (aCons (cVar 2) aNil)) aNil))))
  (sSeq (sForR rng1 (pV 6) (aCons (cVar 2) aNil) (sFor (pTup (pCons (pV 7) (pCons (pV 8) (pCons (pV 9) pNil)))) (cVar 1) (sForR rng1 (pV 4) (aCons (cVar 2) aNil) (sFor (pTup (pCons (pV 10) (pCons (pV 11) pNil))) (cLst (aCons (cTup (aCons (cVar 7) (aCons (cVar 8) aNil))) (aCons (cTup (aCons (cVar 8) (aCons (cVar 7) aNil))) aNil))) (sIf (cAndT (cTst (cBin gIsNot (cIx (cIx (cVar 3) (cVar 4)) (cVar 10)) (cK .non))) (cOrT (cTst (cBin gIs (cIx (cIx (cVar 3) (cVar 4)) (cVar 11)) (cK .non))) (cTst (cBin gLtA (cBin gAdd (cIx (cIx (cVar 3) (cVar 4)) (cVar 10)) (cVar 9)) (cIx (cIx (cVar 3) (cVar 4)) (cVar 11)))))) (sSetIx 3 (cIx (cVar 3) (cVar 4)) (cVar 11) (cBin gAdd (cIx (cIx (cVar 3) (cVar 4)) (cVar 10)) (cVar 9))) sNil)))))
  (sRet (cTake (some 3) (cVar 3)))))))
noncomputable def F__law_far : FnC := fnOf 2 12 B__law_far
theorem sc__law_far : FnScope ["film", "ways", "many", "far", "k", "j", "turn", "one", "other", "minutes", "a", "b"] ["film", "ways"] (defScope (topS 17)) := ⟨rfl, rfl, rfl, by decide +kernel, rfl, by decide +kernel, by decide +kernel⟩
theorem ok__law_far (T : Txt P w K mg base) : FnAt P w K mg base 1 "_law_far" ["film", "ways"] F__law_far :=
  fnAt_ok (b := B__law_far) (N := ["film", "ways", "many", "far", "k", "j", "turn", "one", "other", "minutes", "a", "b"]) rfl rfl T.f__law_far sc__law_far (by decide +kernel) (fun _ _ _ _ _ _ us hl => match us, hl with | [_, _], _ => rfl) fun f cdv A outer s H E hr tk =>
    (dss_cons (ds_set 2 sc__law_far.nd (de_fnB call_lenA pLen rfl T.n_len PyProof.Rows.Boot.«len» (da_cons (de_ix (hu_of hr) (de_var 0) de_int) da_nil)))
    (dss_cons (ds_set 3 sc__law_far.nd (de_lst da_nil))
    (dss_cons (ds_forR1 (passes_of rfl) rfl rfl T.n_range (da_cons (de_var 2) da_nil) (dg_v 4 sc__law_far.nd) (dss_one (ds_expr (de_app 3 (de_var 3) (da_cons (de_compR1 [("j", 5)] rfl sc__law_far.nd rfl T.n_range (da_cons (de_var 2) da_nil) (blkOk_by (N := ["film", "ways", "many", "far", "k", "j", "turn", "one", "other", "minutes", "a", "b"]) (sc := defScope (topS 17)) (own := [("j", 5)]) (by decide +kernel)) ⟨fun _ _ _ _ _ => (dg_v 5 sc__law_far.nd), fun _ _ _ _ _ => dpt_nil, fun _ _ _ _ _ => (de_ife (dt_cmp (op_eqA hr.units) pEq (de_var 5) (de_var 4) (nomark _)) de_int de_non)⟩) da_nil)))))
    (dss_cons (ds_forR1 (passes_of rfl) rfl rfl T.n_range (da_cons (de_var 2) da_nil) (dg_v 6 sc__law_far.nd) (dss_one (ds_for (passes_of rfl) rfl (de_var 1) (dg_tup rfl (dgs_cons (dg_v 7 sc__law_far.nd) (dgs_cons (dg_v 8 sc__law_far.nd) (dgs_cons (dg_v 9 sc__law_far.nd) dgs_nil)))) (dss_one (ds_forR1 (passes_of rfl) rfl rfl T.n_range (da_cons (de_var 2) da_nil) (dg_v 4 sc__law_far.nd) (dss_one (ds_for (passes_of rfl) rfl (de_lst (da_cons (de_tup (da_cons (de_var 7) (da_cons (de_var 8) da_nil))) (da_cons (de_tup (da_cons (de_var 8) (da_cons (de_var 7) da_nil))) da_nil))) (dg_tup rfl (dgs_cons (dg_v 10 sc__law_far.nd) (dgs_cons (dg_v 11 sc__law_far.nd) dgs_nil))) (dss_one (ds_if (dt_w (dw_and (dt_cmp op_isNotA pIsNot (de_ix (hu_of hr) (de_ix (hu_of hr) (de_var 3) (de_var 4)) (de_var 10)) de_non (nomark _)) (dw_and1 (dt_w (dw_or (dt_cmp op_isA pIs (de_ix (hu_of hr) (de_ix (hu_of hr) (de_var 3) (de_var 4)) (de_var 11)) de_non (nomark _)) (dw_or1 (dt_cmp (op_ltA hr.units) pCmpD (de_bin op_addAll pAdd (de_ix (hu_of hr) (de_ix (hu_of hr) (de_var 3) (de_var 4)) (de_var 10)) (de_var 9)) (de_ix (hu_of hr) (de_ix (hu_of hr) (de_var 3) (de_var 4)) (de_var 11)) (nomark _)))))))) (dss_one (ds_setIx 3 (hu_of hr) (de_bin op_addAll pAdd (de_ix (hu_of hr) (de_ix (hu_of hr) (de_var 3) (de_var 4)) (de_var 10)) (de_var 9)) (de_ix (hu_of hr) (de_var 3) (de_var 4)) (de_var 11))) dss_nil)))))))))
    (dss_one (ds_ret (de_take (some 3) (de_var 3))))))))
/-- _law_rows(film, ways, one, other); slots: 0 film, 1 ways, 2 one, 3 other, 4 found, 5 level, 6 following, 7 row, 8 minutes, 9 a, 10 b, 11 more, 12 place, 13 target -/
noncomputable def B__law_rows : SC :=
  (sSeq (sSet 4 (cLst aNil))
  (sSeq (sSet 5 (cLst (aCons (cTup (aCons (cTup (aCons (cVar 2) aNil)) (aCons (cK (.int 0)) aNil))) aNil)))
  (sSeq (sWhile (cTst (cBin gGtA (cFn gLen (aCons (cVar 5) aNil)) (cK (.int 0)))) (sSeq (sSet 6 (cLst aNil))
  (sSeq (sFor (pTup (pCons (pV 7) (pCons (pV 8) pNil))) (cVar 5) (sSeq (sIf (cTst (cBin gEq (cIx (cVar 7) (cNeg (cK (.int 1)))) (cVar 3))) (sExpr (cApp 4 (cVar 4) (aCons (cTup (aCons (cVar 8) (aCons (cFn gLen (aCons (cVar 7) aNil)) (aCons (cVar 7) aNil)))) aNil))) sNil)
  (sFor (pTup (pCons (pV 9) (pCons (pV 10) (pCons (pV 11) pNil)))) (cVar 1) (sFor (pTup (pCons (pV 12) (pCons (pV 13) pNil))) (cLst (aCons (cTup (aCons (cVar 9) (aCons (cVar 10) aNil))) (aCons (cTup (aCons (cVar 10) (aCons (cVar 9) aNil))) aNil))) (sIf (cAndT (cTst (cBin gEq (cVar 12) (cIx (cVar 7) (cNeg (cK (.int 1)))))) (cTst (cBin gNotIn (cVar 13) (cVar 7)))) (sExpr (cApp 6 (cVar 6) (aCons (cTup (aCons (cBin gAdd (cVar 7) (cTup (aCons (cVar 13) aNil))) (aCons (cBin gAdd (cVar 8) (cVar 11)) aNil))) aNil))) sNil)))))
  (sSet 5 (cTake (some 6) (cVar 6))))))
  (sRet (cTake (some 4) (cVar 4))))))
noncomputable def F__law_rows : FnC := fnOf 4 14 B__law_rows
theorem sc__law_rows : FnScope ["film", "ways", "one", "other", "found", "level", "following", "row", "minutes", "a", "b", "more", "place", "target"] ["film", "ways", "one", "other"] (defScope (topS 19)) := ⟨rfl, rfl, rfl, by decide +kernel, rfl, by decide +kernel, by decide +kernel⟩
theorem ok__law_rows (T : Txt P w K mg base) : FnAt P w K mg base 1 "_law_rows" ["film", "ways", "one", "other"] F__law_rows :=
  fnAt_ok (b := B__law_rows) (N := ["film", "ways", "one", "other", "found", "level", "following", "row", "minutes", "a", "b", "more", "place", "target"]) rfl rfl T.f__law_rows sc__law_rows (by decide +kernel) (fun _ _ _ _ _ _ us hl => match us, hl with | [_, _, _, _], _ => rfl) fun f cdv A outer s H E hr tk =>
    (dss_cons (ds_set 4 sc__law_rows.nd (de_lst da_nil))
    (dss_cons (ds_set 5 sc__law_rows.nd (de_lst (da_cons (de_tup (da_cons (de_tup (da_cons (de_var 2) da_nil)) (da_cons de_int da_nil))) da_nil)))
    (dss_cons (ds_while (passes_of rfl) (dt_cmp (op_gtA hr.units) pCmpD (de_fnB call_lenA pLen rfl T.n_len PyProof.Rows.Boot.«len» (da_cons (de_var 5) da_nil)) de_int (nomark _)) (dss_cons (ds_set 6 sc__law_rows.nd (de_lst da_nil))
    (dss_cons (ds_for (passes_of rfl) rfl (de_var 5) (dg_tup rfl (dgs_cons (dg_v 7 sc__law_rows.nd) (dgs_cons (dg_v 8 sc__law_rows.nd) dgs_nil))) (dss_cons (ds_if (dt_cmp (op_eqA hr.units) pEq (de_ix (hu_of hr) (de_var 7) (de_neg de_int)) (de_var 3) (nomark _)) (dss_one (ds_expr (de_app 4 (de_var 4) (da_cons (de_tup (da_cons (de_var 8) (da_cons (de_fnB call_lenA pLen rfl T.n_len PyProof.Rows.Boot.«len» (da_cons (de_var 7) da_nil)) (da_cons (de_var 7) da_nil)))) da_nil)))) dss_nil)
    (dss_one (ds_for (passes_of rfl) rfl (de_var 1) (dg_tup rfl (dgs_cons (dg_v 9 sc__law_rows.nd) (dgs_cons (dg_v 10 sc__law_rows.nd) (dgs_cons (dg_v 11 sc__law_rows.nd) dgs_nil)))) (dss_one (ds_for (passes_of rfl) rfl (de_lst (da_cons (de_tup (da_cons (de_var 9) (da_cons (de_var 10) da_nil))) (da_cons (de_tup (da_cons (de_var 10) (da_cons (de_var 9) da_nil))) da_nil))) (dg_tup rfl (dgs_cons (dg_v 12 sc__law_rows.nd) (dgs_cons (dg_v 13 sc__law_rows.nd) dgs_nil))) (dss_one (ds_if (dt_w (dw_and (dt_cmp (op_eqA hr.units) pEq (de_var 12) (de_ix (hu_of hr) (de_var 7) (de_neg de_int)) (nomark _)) (dw_and1 (dt_cmp (op_notInAll hr) pNotIn (de_var 13) (de_var 7) (by rfl))))) (dss_one (ds_expr (de_app 6 (de_var 6) (da_cons (de_tup (da_cons (de_bin op_addAll pAdd (de_var 7) (de_tup (da_cons (de_var 13) da_nil))) (da_cons (de_bin op_addAll pAdd (de_var 8) (de_var 11)) da_nil))) da_nil)))) dss_nil))))))))
    (dss_one (ds_set 5 sc__law_rows.nd (de_take (some 6) (de_var 6)))))))
    (dss_one (ds_ret (de_take (some 4) (de_var 4)))))))
/-- law(script); slots: 0 script, 1 d, 2 film, 3 ways, 4 many, 5 far, 6 place, 7 one, 8 other, 9 rows, 10 wrong, 11 places, 12 three, 13 good, 14 told, 15 code, 16 k -/
noncomputable def B_law : SC :=
  (sSeq (sSet 1 (cCall F__law_begin [] (aCons (cVar 0) aNil)))
  (sSeq (sAsg (pTup (pCons (pV 2) (pCons (pV 3) pNil))) (cCall F__law_map [1] (aCons (cVar 1) aNil)))
  (sSeq (sSet 4 (cFn gLen (aCons (cIx (cVar 2) (cK (.int 0))) aNil)))
  (sSeq (sSet 5 (cCall F__law_far [] (aCons (cVar 2) (aCons (cVar 3) aNil))))
  (sSeq (sIf (cTst (cBin gIsNot (cAsk "WayError" (cCall F_check_ways [] (aCons (cVar 2) (aCons (cVar 3) aNil)))) (cK .non))) (sRet (cK (.bl false))) sNil)
  (sSeq (sForR rng1 (pV 6) (aCons (cVar 4) aNil) (sIf (cTst (cBin gNe (cAsk "WayError" (cCall F_distances [] (aCons (cVar 2) (aCons (cVar 3) (aCons (cVar 6) aNil))))) (cFn gTuple (aCons (cIx (cVar 5) (cVar 6)) aNil)))) (sRet (cK (.bl false))) sNil))
  (sSeq (sSet 7 (cCall F__law_take [1] (aCons (cVar 1) (aCons (cVar 4) aNil))))
  (sSeq (sSet 8 (cCall F__law_take [1] (aCons (cVar 1) (aCons (cVar 4) aNil))))
  (sSeq (sSet 9 (cCall F__law_rows [] (aCons (cVar 2) (aCons (cVar 3) (aCons (cVar 7) (aCons (cVar 8) aNil))))))
  (sSeq (sIf (cTst (cBin gNe (cAsk "WayError" (cCall F_route [] (aCons (cVar 2) (aCons (cVar 3) (aCons (cVar 7) (aCons (cVar 8) aNil)))))) (cIfE (cTst (cBin gGtA (cFn gLen (aCons (cVar 9) aNil)) (cK (.int 0)))) (cIx (cFn gMinL (aCons (cVar 9) aNil)) (cK (.int 2))) (cK (.str "apart"))))) (sRet (cK (.bl false))) sNil)
  (sSeq (sFor (pV 10) (cTup (aCons (cNeg (cK (.int 1))) (aCons (cVar 4) aNil))) (sSeq (sIf (cOrT (cTst (cBin gNe (cAsk "WayError" (cCall F_distances [] (aCons (cVar 2) (aCons (cVar 3) (aCons (cVar 10) aNil))))) (cK (.str "unknown")))) (cTst (cBin gNe (cAsk "WayError" (cCall F_route [] (aCons (cVar 2) (aCons (cVar 3) (aCons (cVar 10) (aCons (cVar 7) aNil)))))) (cK (.str "unknown"))))) (sRet (cK (.bl false))) sNil)
  (sIf (cTst (cBin gNe (cAsk "WayError" (cCall F_route [] (aCons (cVar 2) (aCons (cVar 3) (aCons (cVar 7) (aCons (cVar 10) aNil)))))) (cK (.str "unknown")))) (sRet (cK (.bl false))) sNil)))
  (sSeq (sSet 11 (cTup (aCons (cTup (aCons (cK (.str "x")) (aCons (cK (.bl false)) aNil))) (aCons (cTup (aCons (cK (.str "y")) (aCons (cK (.bl false)) aNil))) (aCons (cTup (aCons (cK (.str "z")) (aCons (cK (.bl false)) aNil))) aNil)))))
  (sSeq (sSet 12 (cTup (aCons (cVar 11) (aCons (cIx (cVar 2) (cK (.int 1))) (aCons (cIx (cVar 2) (cK (.int 2))) (aCons (cIx (cVar 2) (cK (.int 3))) (aCons (cIx (cVar 2) (cK (.int 4))) aNil)))))))
  (sSeq (sSet 13 (cTup (aCons (cTup (aCons (cK (.int 0)) (aCons (cK (.int 1)) (aCons (cK (.int 5)) aNil)))) (aCons (cTup (aCons (cK (.int 0)) (aCons (cK (.int 2)) (aCons (cK (.int 1)) aNil)))) (aCons (cTup (aCons (cK (.int 1)) (aCons (cK (.int 2)) (aCons (cK (.int 240)) aNil)))) aNil)))))
  (sSeq (sFor (pTup (pCons (pV 14) (pCons (pV 15) pNil))) (cLst (aCons (cTup (aCons (cVar 13) (aCons (cK .non) aNil))) (aCons (cTup (aCons (cTup (aCons (cTup (aCons (cK (.int 0)) (aCons (cK (.int 1)) (aCons (cK (.int 5)) aNil)))) (aCons (cTup (aCons (cK (.int 0)) (aCons (cK (.int 1)) (aCons (cK (.int 6)) aNil)))) aNil))) (aCons (cK .non) aNil))) (aCons (cTup (aCons (cBin gMulA (cTup (aCons (cTup (aCons (cK (.int 0)) (aCons (cK (.int 1)) (aCons (cK (.int 5)) aNil)))) aNil)) (cK (.int 2))) (aCons (cK (.str "order")) aNil))) (aCons (cTup (aCons (cRev (cVar 13)) (aCons (cK (.str "order")) aNil))) (aCons (cTup (aCons (cTup (aCons (cTup (aCons (cK (.int 1)) (aCons (cK (.int 0)) (aCons (cK (.int 5)) aNil)))) aNil)) (aCons (cK (.str "order")) aNil))) (aCons (cTup (aCons (cTup (aCons (cTup (aCons (cK (.int 1)) (aCons (cK (.int 1)) (aCons (cK (.int 5)) aNil)))) aNil)) (aCons (cK (.str "order")) aNil))) (aCons (cTup (aCons (cTup (aCons (cTup (aCons (cK (.int 0)) (aCons (cK (.int 3)) (aCons (cK (.int 5)) aNil)))) aNil)) (aCons (cK (.str "place")) aNil))) (aCons (cTup (aCons (cTup (aCons (cTup (aCons (cNeg (cK (.int 1))) (aCons (cK (.int 0)) (aCons (cK (.int 5)) aNil)))) aNil)) (aCons (cK (.str "place")) aNil))) (aCons (cTup (aCons (cTup (aCons (cTup (aCons (cK (.int 0)) (aCons (cK (.int 1)) (aCons (cK (.int 0)) aNil)))) aNil)) (aCons (cK (.str "minutes")) aNil))) (aCons (cTup (aCons (cTup (aCons (cTup (aCons (cK (.int 0)) (aCons (cK (.int 1)) (aCons (cK (.int 241)) aNil)))) aNil)) (aCons (cK (.str "minutes")) aNil))) (aCons (cTup (aCons (cFn gTuple (aCons (cCompR rng1 [16] (pV 16) cYes (cTup (aCons (cK (.int 0)) (aCons (cK (.int 1)) (aCons (cBin gAdd (cK (.int 1)) (cVar 16)) aNil)))) (aCons (cK (.int 40)) aNil)) aNil)) (aCons (cK .non) aNil))) (aCons (cTup (aCons (cFn gTuple (aCons (cCompR rng1 [16] (pV 16) cYes (cTup (aCons (cK (.int 0)) (aCons (cK (.int 1)) (aCons (cBin gAdd (cK (.int 1)) (cVar 16)) aNil)))) (aCons (cK (.int 41)) aNil)) aNil)) (aCons (cK (.str "many")) aNil))) (aCons (cTup (aCons (cBin gAdd (cVar 13) (cTup (aCons (cTup (aCons (cK (.int 3)) (aCons (cK (.int 9)) (aCons (cK (.int 0)) aNil)))) aNil))) (aCons (cK (.str "place")) aNil))) (aCons (cTup (aCons (cTup (aCons (cTup (aCons (cK (.int 0)) (aCons (cK (.int 1)) (aCons (cK (.int 0)) aNil)))) (aCons (cTup (aCons (cK (.int 0)) (aCons (cK (.int 9)) (aCons (cK (.int 1)) aNil)))) aNil))) (aCons (cK (.str "minutes")) aNil))) aNil))))))))))))))) (sSeq (sIf (cTst (cBin gNe (cAsk "WayError" (cCall F_check_ways [] (aCons (cVar 12) (aCons (cVar 14) aNil)))) (cVar 15))) (sRet (cK (.bl false))) sNil)
  (sIf (cAndT (cTst (cBin gIsNot (cVar 15) (cK .non))) (cTst (cBin gNe (cAsk "WayError" (cCall F_distances [] (aCons (cVar 12) (aCons (cVar 14) (aCons (cK (.int 9)) aNil))))) (cVar 15)))) (sRet (cK (.bl false))) sNil)))
  (sRet (cK (.bl true))))))))))))))))))
noncomputable def F_law : FnC := fnOf 1 17 B_law
theorem sc_law : FnScope ["script", "d", "film", "ways", "many", "far", "place", "one", "other", "rows", "wrong", "places", "three", "good", "told", "code", "k"] ["script"] (defScope (topS 20)) := ⟨rfl, rfl, rfl, by decide +kernel, rfl, by decide +kernel, by decide +kernel⟩
theorem ok_law (T : Txt P w K mg base) : FnAt P w K mg base 7 "law" ["script"] F_law :=
  fnAt_okT (b := B_law) (N := ["script", "d", "film", "ways", "many", "far", "place", "one", "other", "rows", "wrong", "places", "three", "good", "told", "code", "k"]) rfl rfl T.f_law T.tb sc_law (by decide +kernel) (fun _ _ _ _ _ _ us hl => match us, hl with | [_], _ => rfl) fun f c p tT TB A outer s H E hr tk =>
    (dss_cons (ds_set 1 sc_law.nd (de_callA [] (ok__law_begin T) tk hr (da_cons (de_var 0) da_nil)))
    (dss_cons (ds_asg (de_callA [1] (ok__law_map T) tk hr (da_cons (de_var 1) da_nil)) (dg_tup rfl (dgs_cons (dg_v 2 sc_law.nd) (dgs_cons (dg_v 3 sc_law.nd) dgs_nil))))
    (dss_cons (ds_set 4 sc_law.nd (de_fnB call_lenA pLen rfl T.n_len PyProof.Rows.Boot.«len» (da_cons (de_ix (hu_of hr) (de_var 2) de_int) da_nil)))
    (dss_cons (ds_set 5 sc_law.nd (de_callA [] (ok__law_far T) tk hr (da_cons (de_var 2) (da_cons (de_var 3) da_nil))))
    (dss_cons (ds_if (dt_cmp op_isNotA pIsNot (de_ask (k := 3) ⟨_, _, tT, TB, rfl⟩ T.f__law_asked sc__law_asked T.e_WayError hr (fun A2 outer2 s2 H2 E2 f2 c2 hr tk => (de_callA [] (ok_check_ways T) tk hr (da_cons (de_var 2) (da_cons (de_var 3) da_nil))))) de_non (nomark _)) (dss_one (ds_ret de_bl)) dss_nil)
    (dss_cons (ds_forR1 (passes_of rfl) rfl rfl T.n_range (da_cons (de_var 4) da_nil) (dg_v 6 sc_law.nd) (dss_one (ds_if (dt_cmp (op_neA hr.units) pNe (de_ask (k := 4) ⟨_, _, tT, TB, rfl⟩ T.f__law_asked sc__law_asked T.e_WayError hr (fun A2 outer2 s2 H2 E2 f2 c2 hr tk => (de_callA [] (ok_distances T) tk hr (da_cons (de_var 2) (da_cons (de_var 3) (da_cons (de_var 6) da_nil)))))) (de_fnT call_tuple_of pTuple rfl T.n_tuple PyProof.Rows.Boot.«tuple» (da_cons (de_ix (hu_of hr) (de_var 5) (de_var 6)) da_nil)) (nomark _)) (dss_one (ds_ret de_bl)) dss_nil)))
    (dss_cons (ds_set 7 sc_law.nd (de_callA [1] (ok__law_take T) tk hr (da_cons (de_var 1) (da_cons (de_var 4) da_nil))))
    (dss_cons (ds_set 8 sc_law.nd (de_callA [1] (ok__law_take T) tk hr (da_cons (de_var 1) (da_cons (de_var 4) da_nil))))
    (dss_cons (ds_set 9 sc_law.nd (de_callA [] (ok__law_rows T) tk hr (da_cons (de_var 2) (da_cons (de_var 3) (da_cons (de_var 7) (da_cons (de_var 8) da_nil))))))
    (dss_cons (ds_if (dt_cmp (op_neA hr.units) pNe (de_ask (k := 4) ⟨_, _, tT, TB, rfl⟩ T.f__law_asked sc__law_asked T.e_WayError hr (fun A2 outer2 s2 H2 E2 f2 c2 hr tk => (de_callA [] (ok_route T) tk hr (da_cons (de_var 2) (da_cons (de_var 3) (da_cons (de_var 7) (da_cons (de_var 8) da_nil))))))) (de_ife (dt_cmp (op_gtA hr.units) pCmpD (de_fnB call_lenA pLen rfl T.n_len PyProof.Rows.Boot.«len» (da_cons (de_var 9) da_nil)) de_int (nomark _)) (de_ix (hu_of hr) (de_fnB (call_minD rfl hr.units) pMinL rfl T.n_min PyProof.Rows.Boot.«min» (da_cons (de_var 9) da_nil)) de_int) de_str) (nomark _)) (dss_one (ds_ret de_bl)) dss_nil)
    (dss_cons (ds_for (passes_of rfl) rfl (de_tup (da_cons (de_neg de_int) (da_cons (de_var 4) da_nil))) (dg_v 10 sc_law.nd) (dss_cons (ds_if (dt_w (dw_or (dt_cmp (op_neA hr.units) pNe (de_ask (k := 4) ⟨_, _, tT, TB, rfl⟩ T.f__law_asked sc__law_asked T.e_WayError hr (fun A2 outer2 s2 H2 E2 f2 c2 hr tk => (de_callA [] (ok_distances T) tk hr (da_cons (de_var 2) (da_cons (de_var 3) (da_cons (de_var 10) da_nil)))))) de_str (nomark _)) (dw_or1 (dt_cmp (op_neA hr.units) pNe (de_ask (k := 4) ⟨_, _, tT, TB, rfl⟩ T.f__law_asked sc__law_asked T.e_WayError hr (fun A2 outer2 s2 H2 E2 f2 c2 hr tk => (de_callA [] (ok_route T) tk hr (da_cons (de_var 2) (da_cons (de_var 3) (da_cons (de_var 10) (da_cons (de_var 7) da_nil))))))) de_str (nomark _))))) (dss_one (ds_ret de_bl)) dss_nil)
    (dss_one (ds_if (dt_cmp (op_neA hr.units) pNe (de_ask (k := 4) ⟨_, _, tT, TB, rfl⟩ T.f__law_asked sc__law_asked T.e_WayError hr (fun A2 outer2 s2 H2 E2 f2 c2 hr tk => (de_callA [] (ok_route T) tk hr (da_cons (de_var 2) (da_cons (de_var 3) (da_cons (de_var 7) (da_cons (de_var 10) da_nil))))))) de_str (nomark _)) (dss_one (ds_ret de_bl)) dss_nil))))
    (dss_cons (ds_set 11 sc_law.nd (de_tup (da_cons (de_tup (da_cons de_str (da_cons de_bl da_nil))) (da_cons (de_tup (da_cons de_str (da_cons de_bl da_nil))) (da_cons (de_tup (da_cons de_str (da_cons de_bl da_nil))) da_nil)))))
    (dss_cons (ds_set 12 sc_law.nd (de_tup (da_cons (de_var 11) (da_cons (de_ix (hu_of hr) (de_var 2) de_int) (da_cons (de_ix (hu_of hr) (de_var 2) de_int) (da_cons (de_ix (hu_of hr) (de_var 2) de_int) (da_cons (de_ix (hu_of hr) (de_var 2) de_int) da_nil)))))))
    (dss_cons (ds_set 13 sc_law.nd (de_tup (da_cons (de_tup (da_cons de_int (da_cons de_int (da_cons de_int da_nil)))) (da_cons (de_tup (da_cons de_int (da_cons de_int (da_cons de_int da_nil)))) (da_cons (de_tup (da_cons de_int (da_cons de_int (da_cons de_int da_nil)))) da_nil)))))
    (dss_cons (ds_for (passes_of rfl) rfl (de_lst (da_cons (de_tup (da_cons (de_var 13) (da_cons de_non da_nil))) (da_cons (de_tup (da_cons (de_tup (da_cons (de_tup (da_cons de_int (da_cons de_int (da_cons de_int da_nil)))) (da_cons (de_tup (da_cons de_int (da_cons de_int (da_cons de_int da_nil)))) da_nil))) (da_cons de_non da_nil))) (da_cons (de_tup (da_cons (de_bin op_mulA pMulA (de_tup (da_cons (de_tup (da_cons de_int (da_cons de_int (da_cons de_int da_nil)))) da_nil)) de_int) (da_cons de_str da_nil))) (da_cons (de_tup (da_cons (de_rev (de_var 13)) (da_cons de_str da_nil))) (da_cons (de_tup (da_cons (de_tup (da_cons (de_tup (da_cons de_int (da_cons de_int (da_cons de_int da_nil)))) da_nil)) (da_cons de_str da_nil))) (da_cons (de_tup (da_cons (de_tup (da_cons (de_tup (da_cons de_int (da_cons de_int (da_cons de_int da_nil)))) da_nil)) (da_cons de_str da_nil))) (da_cons (de_tup (da_cons (de_tup (da_cons (de_tup (da_cons de_int (da_cons de_int (da_cons de_int da_nil)))) da_nil)) (da_cons de_str da_nil))) (da_cons (de_tup (da_cons (de_tup (da_cons (de_tup (da_cons (de_neg de_int) (da_cons de_int (da_cons de_int da_nil)))) da_nil)) (da_cons de_str da_nil))) (da_cons (de_tup (da_cons (de_tup (da_cons (de_tup (da_cons de_int (da_cons de_int (da_cons de_int da_nil)))) da_nil)) (da_cons de_str da_nil))) (da_cons (de_tup (da_cons (de_tup (da_cons (de_tup (da_cons de_int (da_cons de_int (da_cons de_int da_nil)))) da_nil)) (da_cons de_str da_nil))) (da_cons (de_tup (da_cons (de_fnT call_tuple_of pTuple rfl T.n_tuple PyProof.Rows.Boot.«tuple» (da_cons (de_compR1 [("k", 16)] rfl sc_law.nd rfl T.n_range (da_cons de_int da_nil) (blkOk_by (N := ["script", "d", "film", "ways", "many", "far", "place", "one", "other", "rows", "wrong", "places", "three", "good", "told", "code", "k"]) (sc := defScope (topS 20)) (own := [("k", 16)]) (by decide +kernel)) ⟨fun _ _ _ _ _ => (dg_v 16 sc_law.nd), fun _ _ _ _ _ => dpt_nil, fun _ _ _ _ _ => (de_tup (da_cons de_int (da_cons de_int (da_cons (de_bin op_addAll pAdd de_int (de_var 16)) da_nil))))⟩) da_nil)) (da_cons de_non da_nil))) (da_cons (de_tup (da_cons (de_fnT call_tuple_of pTuple rfl T.n_tuple PyProof.Rows.Boot.«tuple» (da_cons (de_compR1 [("k", 16)] rfl sc_law.nd rfl T.n_range (da_cons de_int da_nil) (blkOk_by (N := ["script", "d", "film", "ways", "many", "far", "place", "one", "other", "rows", "wrong", "places", "three", "good", "told", "code", "k"]) (sc := defScope (topS 20)) (own := [("k", 16)]) (by decide +kernel)) ⟨fun _ _ _ _ _ => (dg_v 16 sc_law.nd), fun _ _ _ _ _ => dpt_nil, fun _ _ _ _ _ => (de_tup (da_cons de_int (da_cons de_int (da_cons (de_bin op_addAll pAdd de_int (de_var 16)) da_nil))))⟩) da_nil)) (da_cons de_str da_nil))) (da_cons (de_tup (da_cons (de_bin op_addAll pAdd (de_var 13) (de_tup (da_cons (de_tup (da_cons de_int (da_cons de_int (da_cons de_int da_nil)))) da_nil))) (da_cons de_str da_nil))) (da_cons (de_tup (da_cons (de_tup (da_cons (de_tup (da_cons de_int (da_cons de_int (da_cons de_int da_nil)))) (da_cons (de_tup (da_cons de_int (da_cons de_int (da_cons de_int da_nil)))) da_nil))) (da_cons de_str da_nil))) da_nil))))))))))))))) (dg_tup rfl (dgs_cons (dg_v 14 sc_law.nd) (dgs_cons (dg_v 15 sc_law.nd) dgs_nil))) (dss_cons (ds_if (dt_cmp (op_neA hr.units) pNe (de_ask (k := 3) ⟨_, _, tT, TB, rfl⟩ T.f__law_asked sc__law_asked T.e_WayError hr (fun A2 outer2 s2 H2 E2 f2 c2 hr tk => (de_callA [] (ok_check_ways T) tk hr (da_cons (de_var 12) (da_cons (de_var 14) da_nil))))) (de_var 15) (nomark _)) (dss_one (ds_ret de_bl)) dss_nil)
    (dss_one (ds_if (dt_w (dw_and (dt_cmp op_isNotA pIsNot (de_var 15) de_non (nomark _)) (dw_and1 (dt_cmp (op_neA hr.units) pNe (de_ask (k := 4) ⟨_, _, tT, TB, rfl⟩ T.f__law_asked sc__law_asked T.e_WayError hr (fun A2 outer2 s2 H2 E2 f2 c2 hr tk => (de_callA [] (ok_distances T) tk hr (da_cons (de_var 12) (da_cons (de_var 14) (da_cons de_int da_nil)))))) (de_var 15) (nomark _))))) (dss_one (ds_ret de_bl)) dss_nil))))
    (dss_one (ds_ret de_bl)))))))))))))))))
end
/-! ## the head -/
def hFa : List He.Fa := [.glo "check_ways", .glo "check_place", .glo "neighbors", .glo "all_distances", .glo "distances", .glo "route", .glo "_law_begin", .glo "_law_take", .glo "_law_some", .glo "_law_map", .glo "_law_far", .glo "_law_rows", .glo "law", .glo "_law_asked", .keep "check_ways", .keep "check_place", .keep "neighbors", .keep "all_distances", .keep "distances", .keep "route", .keep "_law_begin", .keep "_law_take", .keep "_law_some", .keep "_law_map", .keep "_law_far", .keep "_law_rows", .keep "law", .keep "_law_asked", .free "abs", .free "int", .free "len", .free "list", .free "min", .free "range", .free "set", .free "sorted", .free "str", .free "tuple", .free "super", .int "MOST_MINUTES" (240), .int "MOST_WAYS" (40), .glo "WayError"]
def hFn : List He.FnD := [dfn "check_ways" (topS 6), dfn "check_place" (topS 7), dfn "neighbors" (topS 8), dfn "all_distances" (topS 9), dfn "distances" (topS 10), dfn "route" (topS 11), dfn "_law_begin" (topS 13), dfn "_law_take" (topS 14), dfn "_law_some" (topS 16), dfn "_law_map" (topS 15), dfn "_law_far" (topS 17), dfn "_law_rows" (topS 19), dfn "law" (topS 20), dfn "_law_asked" (topS 18)]
def sInit : Stmt := match topS 1 with
  | .ClassDef (body := b) .. => b.getD 0 (.Pass ⟨0, 0, 0, 0⟩)
  | s => s
def hBx (K : PySem.W.Frag) : Bool := noList K && (lamB K && (iniB PySem.Challenge.pw_callsheets_k51_ways_and_distances K (He.ga K "CallError") (He.ma K (He.ga K "CallError") "__init__") "CallError.__init__" && subB' K (He.ga K "CallError") (He.ma K (He.ga K "CallError") "__init__") (He.ga K "WayError")))
def hD : HeadD := ⟨5, hFa, hFn, hBx, fun K => He.ma K (He.ga K "CallError") "__init__", iniVal "CallError.__init__" (defArgs sInit) (defBody sInit) (defScope sInit)⟩
theorem top_law {K : PySem.W.Frag} {mg : Str → Option Value} {h : Heap} (X : K.In h) (G : h.Ns mainGlobals mg) (c : hD.ob K = hD.val) : TopF K mg "law" (topS 20) := top_of X G c 12 26 12
theorem txt_of {w : World} {K : PySem.W.Frag} {mg : Str → Option Value} {h base : Heap} (X : K.In h) (G : h.Ns mainGlobals mg) (c : hD.ob K = hD.val) (TB : TabAt K mg base) : Txt PySem.Challenge.pw_callsheets_k51_ways_and_distances w K mg base := by
  have b := HeadD.bxOk c
  change hBx K = true at b
  unfold hBx at b
  simp only [Bool.and_eq_true] at b
  obtain ⟨hl, hlam, hi, h0⟩ := b
  obtain ⟨cda, cc, fd, I, ty, df⟩ := iniC_of X G hi (HeadD.ini c) (free_of X G c 38) (by kernel_rfl)
  have FI : FnOk PySem.Challenge.pw_callsheets_k51_ways_and_distances w K mg base (L2.CX PySem.Challenge.pw_callsheets_k51_ways_and_distances w) 1 (He.ma K (He.ga K "CallError") "__init__") fd ["self", "code"] (spInit K (He.ga K "CallError") (He.ma K (He.ga K "CallError") "__init__")) := init_fn (by rfl) I rfl
  have FB : L2.Binds K fd ["self", "code"] [] := by
    obtain ⟨_, _, _, dV, _, _, _, _, _, _, rfl⟩ := I.fn
    obtain rfl : dV = .none := df
    exact .all fun us hl => match us, hl with | [_, _], _ => by with_unfolding_all rfl
  exact {
    f_check_ways := top_of X G c 0 14 0
    f_check_place := top_of X G c 1 15 1
    f_neighbors := top_of X G c 2 16 2
    f_all_distances := top_of X G c 3 17 3
    f_distances := top_of X G c 4 18 4
    f_route := top_of X G c 5 19 5
    f__law_begin := top_of X G c 6 20 6
    f__law_take := top_of X G c 7 21 7
    f__law_some := top_of X G c 8 22 8
    f__law_map := top_of X G c 9 23 9
    f__law_far := top_of X G c 10 24 10
    f__law_rows := top_of X G c 11 25 11
    f_law := top_of X G c 12 26 12
    f__law_asked := top_of X G c 13 27 13
    n_abs := free_of X G c 28
    n_int := free_of X G c 29
    n_len := free_of X G c 30
    n_list := free_of X G c 31
    n_min := free_of X G c 32
    n_range := free_of X G c 33
    n_set := free_of X G c 34
    n_sorted := free_of X G c 35
    n_str := free_of X G c 36
    n_tuple := free_of X G c 37
    i_MOST_MINUTES := int_of X G c 39
    i_MOST_WAYS := int_of X G c 40
    tb := TB
    err := ⟨⟨fd, FI, FB⟩, ty⟩
    e_WayError := ⟨⟨_, (subB'_ok h0).1, He.glo_ok X G ((HeadD.says c).fact 41 rfl), (subB'_ok h0).2.1, (subB'_ok h0).2.2⟩⟩ }
end A2
end S_G
section S_A3a
set_option Elab.async false
set_option linter.all false
set_option maxRecDepth 100000
set_option maxHeartbeats 1000000
open PySem PySem.Spec L2
open PyProof.Rows hiding St
open PySem.W (alike alikeAll dataLt AlikeAll AllAlike Sortable minD maxD EachIs dataLe)
namespace A2
/-! ## evaluation: what simp knows of the combinators -/
@[simp] theorem imm_non : D.imm .non = true := rfl
@[simp] theorem imm_bl {b} : D.imm (.bl b) = true := rfl
@[simp] theorem imm_int {i} : D.imm (.int i) = true := rfl
@[simp] theorem imm_str {s} : D.imm (.str s) = true := rfl
@[simp] theorem imm_tup {ds} : D.imm (.tup ds) = D.imms ds := rfl
@[simp] theorem imm_lst {ds} : D.imm (.lst ds) = false := rfl
@[simp] theorem imm_dct {ds} : D.imm (.dct ds) = false := rfl
@[simp] theorem imm_fdct {ds} : D.imm (.fdct ds) = false := rfl
@[simp] theorem imm_flst {ds} : D.imm (.flst ds) = D.imms ds := rfl
@[simp] theorem imms_nil : D.imms [] = true := rfl
@[simp] theorem imms_cons {d ds} : D.imms (d :: ds) = (d.imm && D.imms ds) := rfl
@[simp] theorem get_tmp {d σ} : RV.get σ (.tmp d) = some d := rfl
@[simp] theorem get_plc {s p} {σ : DSt} : RV.get σ (.plc s p) = (match σ[s]? with | some (some d) => getP d p | _ => none) := rfl
@[simp] theorem getP_nil {d} : getP d [] = some d := by cases d <;> rfl
@[simp] theorem getP_ix {ds k p} : getP (.lst ds) (.ix k :: p) = (match ds[k]? with | some d => getP d p | none => none) := rfl
@[simp] theorem setP_nil {d e} : setP d [] e = e := by cases d <;> rfl
@[simp] theorem setP_ix {ds k p e} : setP (.lst ds) (.ix k :: p) e = (match ds[k]? with | some d => .lst (ds.set k (setP d p e)) | none => .lst ds) := rfl
@[simp] theorem bind_ok {α β} {a : α} {σ} {f : α → DSt → Res β} : (Res.ok a σ).bind f = f a σ := rfl
@[simp] theorem bind_err {α β} {x} {σ} {f : α → DSt → Res β} : (Res.err x σ : Res α).bind f = .err x σ := rfl
@[simp] theorem bind_bad {α β} {f : α → DSt → Res β} : (Res.bad : Res α).bind f = .bad := rfl
@[simp] theorem bindS_ok {α} {a : α} {σ} {f : α → DSt → SRes} : bindS (.ok a σ) f = f a σ := rfl
@[simp] theorem bindS_err {α} {x} {σ} {f : α → DSt → SRes} : bindS (.err x σ : Res α) f = .er x σ := rfl
@[simp] theorem bindS_bad {α} {f : α → DSt → SRes} : bindS (.bad : Res α) f = .bad := rfl
@[simp] theorem stab_tmp {d r} : stab (.tmp d) r = true := rfl
@[simp] theorem stab_nil {s r} : stab (.plc s []) r = true := rfl
@[simp] theorem stab_cons {s x p r} : stab (.plc s (x :: p)) r = r.isEmpty := rfl
@[simp] theorem run_K {d σ} : (cK d).run σ = .ok (.tmp d) σ := rfl
@[simp] theorem run_var {i} {σ : DSt} : (cVar i).run σ = (match σ[i]? with | some (some d) => if d.imm then .ok (.tmp d) σ else .ok (.plc i []) σ | _ => .bad) := rfl
@[simp] theorem run_bin {g a b σ} : (cBin g a b).run σ = (a.run σ).bind fun x σ1 => (b.run σ1).bind fun y σ2 => if stab x b.rw then fin2 g x y σ2 else .bad := rfl
@[simp] theorem run_chain {g g2 a b c σ} : (cChain g g2 a b c).run σ = (a.run σ).bind fun x σ1 => (b.run σ1).bind fun y σ2 => if stab x b.rw then chainK g g2 c x y σ2 else .bad := rfl
@[simp] theorem run_fn {g a σ} : (cFn g a).run σ = (a.run σ).bind (finA g) := rfl
@[simp] theorem run_nilA {σ} : aNil.run σ = .ok [] σ := rfl
@[simp] theorem run_consA {c a σ} : (aCons c a).run σ = (c.run σ).bind fun x σ1 => (a.run σ1).bind fun xs σ2 => if stab x a.rw then .ok (x :: xs) σ2 else .bad := rfl
@[simp] theorem run_ix {a b σ} : (cIx a b).run σ = (a.run σ).bind fun x σ1 => (b.run σ1).bind fun y σ2 => if stab x b.rw then ixOf x y σ2 else .bad := rfl
@[simp] theorem run_tup {a σ} : (cTup a).run σ = (a.run σ).bind (dispOf .tup) := rfl
@[simp] theorem run_lst {a σ} : (cLst a).run σ = (a.run σ).bind (dispOf .lst) := rfl
@[simp] theorem run_take {t c σ} : (cTake t c).run σ = (c.run σ).bind (takeOf t) := rfl
@[simp] theorem run_tst {c σ} : (cTst c).run σ = (c.run σ).bind tstOf := rfl
@[simp] theorem run_tru {c σ} : (cTru c).run σ = (c.run σ).bind truOf := rfl
@[simp] theorem run_andT {a b σ} : (cAndT a b).run σ = (a.run σ).bind fun c σ1 => if c then b.run σ1 else .ok false σ1 := rfl
@[simp] theorem run_orT {a b σ} : (cOrT a b).run σ = (a.run σ).bind fun c σ1 => if c then .ok true σ1 else b.run σ1 := rfl
@[simp] theorem run_notT {a σ} : (cNotT a).run σ = (a.run σ).bind fun c σ1 => .ok (!c) σ1 := rfl
@[simp] theorem run_ifE {t a b σ} : (cIfE t a b).run σ = (t.run σ).bind fun c σ1 => if c then a.run σ1 else b.run σ1 := rfl
@[simp] theorem run_val {t σ} : (cVal t).run σ = (t.run σ).bind fun c σ1 => .ok (.tmp (.bl c)) σ1 := rfl
@[simp] theorem run_andV {a b σ} : (cAndV a b).run σ = (cIfE (cTst a) b (cK (.bl false))).run σ := rfl
@[simp] theorem run_orV {a b σ} : (cOrV a b).run σ = (cIfE (cTst a) (cK (.bl true)) b).run σ := rfl
@[simp] theorem run_notV {a σ} : (cNotV a).run σ = (cVal (cNotT (cTst a))).run σ := rfl
@[simp] theorem run_neg {a σ} : (cNeg a).run σ = (a.run σ).bind negOf := rfl
@[simp] theorem run_call {f lw a σ} : (cCall f lw a).run σ = (a.run σ).bind (callOf f lw) := rfl
@[simp] theorem run_yes {σ} : cYes.run σ = .ok true σ := rfl
@[simp] theorem run_nilS {σ} : sNil.run σ = .nx σ := rfl
@[simp] theorem run_seq {a b σ} : (sSeq a b).run σ = (match a.run σ with | .nx σ1 => b.run σ1 | r => r) := rfl
@[simp] theorem run_if {t a b σ} : (sIf t a b).run σ = bindS (t.run σ) fun c σ1 => if c then a.run σ1 else b.run σ1 := rfl
@[simp] theorem run_expr {c σ} : (sExpr c).run σ = bindS (c.run σ) fun _ σ1 => .nx σ1 := rfl
@[simp] theorem run_ret {c σ} : (sRet c).run σ = bindS (c.run σ) fun x σ1 => (match x with | .tmp d => .rt d σ1 | .plc _ _ => .bad) := rfl
@[simp] theorem run_retN {σ} : sRetN.run σ = .rt .non σ := rfl
@[simp] theorem run_set {i c σ} : (sSet i c).run σ = bindS (c.run σ) (setOf i) := rfl
@[simp] theorem run_asg {p c σ} : (sAsg p c).run σ = bindS (c.run σ) (asgOf p) := rfl
@[simp] theorem run_raise {nm c σ} : (sRaise nm c).run σ = bindS (c.run σ) (raiseOf nm) := rfl
@[simp] theorem run_setIx {s o i c σ} : (sSetIx s o i c).run σ = bindS (c.run σ) fun x σ1 => bindS (o.run σ1) fun y σ2 => bindS (i.run σ2) fun z σ3 => if stab y i.rw then (match storeAt s x y z σ3 with | some σ' => .nx σ' | none => .bad) else .bad := rfl
@[simp] theorem run_for {p c b σ} : (sFor p c b).run σ = bindS (c.run σ) (forOf p b) := rfl
@[simp] theorem run_forR {g p a b σ} : (sForR g p a b).run σ = bindS (a.run σ) (forROf g p b) := rfl
@[simp] theorem run_pV {i d} {σ : DSt} : (pV i).run d σ = if i < σ.length then some (σ.set i (some d)) else none := rfl
@[simp] theorem run_pTup {r d} {σ : DSt} : (pTup r).run d σ = (match d with | .tup ds => if ds.length = r.n then r.run ds σ else none | _ => none) := rfl
@[simp] theorem run_pNil {σ : DSt} : pNil.run [] σ = some σ := rfl
@[simp] theorem run_pCons {p r d ds} {σ : DSt} : (pCons p r).run (d :: ds) σ = (p.run d σ).bind (r.run ds) := rfl
@[simp] theorem n_pNil : pNil.n = 0 := rfl
@[simp] theorem n_pCons {p r} : (pCons p r).n = r.n + 1 := rfl
@[simp] theorem run_app {s o a σ} : (cApp s o a).run σ = runM "list" o a (appOf s) σ := rfl
@[simp] theorem run_comp {vs p t c s σ} : (cComp vs p t c s).run σ = (s.run σ).bind (compOf p t c vs) := rfl
@[simp] theorem run_compR {g vs p t c a σ} : (cCompR g vs p t c a).run σ = (a.run σ).bind (compROf g p t c vs) := rfl
@[simp] theorem rw_K {d} : (cK d).rw = [] := rfl
@[simp] theorem rw_var {i} : (cVar i).rw = [] := rfl
@[simp] theorem rw_bin {g a b} : (cBin g a b).rw = a.rw ++ b.rw := rfl
@[simp] theorem rw_chain {g g2 a b c} : (cChain g g2 a b c).rw = (a.rw ++ b.rw) ++ c.rw := rfl
@[simp] theorem rw_fn {g a} : (cFn g a).rw = a.rw ++ [] := rfl
@[simp] theorem rw_nilA : aNil.rw = [] := rfl
@[simp] theorem rw_consA {c a} : (aCons c a).rw = c.rw ++ a.rw := rfl
@[simp] theorem rw_ix {a b} : (cIx a b).rw = a.rw ++ b.rw := rfl
@[simp] theorem rw_tup {a} : (cTup a).rw = a.rw ++ [] := rfl
@[simp] theorem rw_lst {a} : (cLst a).rw = a.rw ++ [] := rfl
@[simp] theorem rw_tst {c} : (cTst c).rw = c.rw := rfl
@[simp] theorem rw_tru {c} : (cTru c).rw = c.rw := rfl
@[simp] theorem rw_andT {a b} : (cAndT a b).rw = a.rw ++ b.rw := rfl
@[simp] theorem rw_orT {a b} : (cOrT a b).rw = a.rw ++ b.rw := rfl
@[simp] theorem rw_notT {a} : (cNotT a).rw = a.rw := rfl
@[simp] theorem rw_ifE {t a b} : (cIfE t a b).rw = t.rw ++ (a.rw ++ b.rw) := rfl
@[simp] theorem rw_neg {a} : (cNeg a).rw = a.rw := rfl
@[simp] theorem rw_call {f lw a} : (cCall f lw a).rw = a.rw ++ lw := rfl
@[simp] theorem rw_yes : cYes.rw = [] := rfl
@[simp] theorem rw_pV {i} : (pV i).rw = [i] := rfl
@[simp] theorem rw_pTup {r} : (pTup r).rw = r.rw := rfl
@[simp] theorem rw_pNil : pNil.rw = [] := rfl
@[simp] theorem rw_pCons {p r} : (pCons p r).rw = p.rw ++ r.rw := rfl
@[simp] theorem tst_bl {k σ} : tstOf (.tmp (.bl k)) σ = .ok k σ := rfl
@[simp] theorem fin2_eq {g x y σ} : fin2 g x y σ = (match x.get σ, y.get σ with | some d1, some d2 => (match g d1 d2 with | some d => .ok (.tmp d) σ | none => .bad) | _, _ => .bad) := rfl
@[simp] theorem finA_eq {g xs σ} : finA g xs σ = (match getAll σ xs with | some ds => (match g ds with | some d => .ok (.tmp d) σ | none => .bad) | none => .bad) := rfl
@[simp] theorem getAll_nil {σ} : getAll σ [] = some [] := rfl
@[simp] theorem getAll_cons {σ x r} : getAll σ (x :: r) = (match x.get σ, getAll σ r with | some d, some ds => some (d :: ds) | _, _ => none) := rfl
@[simp] theorem chainK_eq {g1 g2 c x y σ} : chainK g1 g2 c x y σ = (match x.get σ, y.get σ with
  | some d1, some d2 => (match g1 d1 d2 with
    | some (.bl true) => (c.run σ).bind fun z σ3 => if stab y c.rw then fin2 g2 y z σ3 else .bad
    | some (.bl false) => .ok (.tmp (.bl false)) σ
    | _ => .bad)
  | _, _ => .bad) := rfl
@[simp] theorem tmps_nil : tmps [] = some [] := rfl
@[simp] theorem tmps_cons {d r} : tmps (.tmp d :: r) = (tmps r).map (d :: ·) := rfl
@[simp] theorem setOf_tmp {i d} {σ : DSt} : setOf i (.tmp d) σ = if i < σ.length then .nx (σ.set i (some d)) else .bad := rfl
@[simp] theorem asgOf_tmp {p d} {σ : DSt} : asgOf p (.tmp d) σ = (match p.run d σ with | some σ' => .nx σ' | none => .bad) := rfl
@[simp] theorem take_tmp {t d σ} : takeOf t (.tmp d) σ = .ok (.tmp d) σ := rfl
@[simp] theorem take_plc {t s} {σ : DSt} : takeOf t (.plc s []) σ = (match σ[s]? with | some (some d) => if t = some s then .ok (.tmp d) (σ.set s none) else .bad | _ => .bad) := rfl
theorem size_big : 1000000 ≤ sizeLine := by rw [sizeLine_eq]; decide
@[simp] theorem disp_eq {mk xs σ} : dispOf mk xs σ = (match tmps xs with | some ds => if ds.length ≤ sizeLine then .ok (.tmp (mk ds)) σ else .bad | none => .bad) := rfl
@[simp] theorem size0 : (0 : Nat) ≤ sizeLine := Nat.zero_le _
@[simp] theorem size1 : (1 : Nat) ≤ sizeLine := by rw [sizeLine_eq]; decide
@[simp] theorem size2 : (2 : Nat) ≤ sizeLine := by rw [sizeLine_eq]; decide
@[simp] theorem size3 : (3 : Nat) ≤ sizeLine := by rw [sizeLine_eq]; decide
@[simp] theorem size4 : (4 : Nat) ≤ sizeLine := by rw [sizeLine_eq]; decide
@[simp] theorem size5 : (5 : Nat) ≤ sizeLine := by rw [sizeLine_eq]; decide
@[simp] theorem size6 : (6 : Nat) ≤ sizeLine := by rw [sizeLine_eq]; decide
theorem ixN_nat {n : Nat} {i : Int} (h0 : 0 ≤ i) (h1 : i < n) : ixN n i = some i.toNat := by
  unfold ixN
  rw [if_pos h0, if_pos h1]
theorem atI_pos {α : Type} {xs : List α} {i : Int} (h0 : 0 ≤ i) (h1 : i < xs.length) : L2.atI xs i = xs[i.toNat]? := by
  unfold L2.atI
  rw [ixN_nat h0 h1]
  rfl
@[simp] theorem atI_0 {α : Type} {x : α} {xs : List α} : L2.atI (x :: xs) 0 = some x := by
  rw [atI_pos (by omega) (by simp only [List.length_cons]; omega)]
  rfl
@[simp] theorem outs_nil {n asg σ} : outsOf n asg σ = (List.range n).map fun i => if i ∈ asg then none else (σ[i]?).join := rfl
theorem lend_nil : ∀ (rvs : List RV) (k : Nat), lendOk ([] : List Nat) [] k rvs = true
  | [], _ => rfl
  | .tmp d :: r, k => by unfold lendOk; rw [lend_nil r]; rfl
  | .plc s [] :: r, k => by unfold lendOk; rw [lend_nil r]; simp
  | .plc s (x :: p) :: r, k => by unfold lendOk; rw [lend_nil r]; simp
theorem wb_nil : ∀ (rvs : List RV) (k : Nat) (os σ : DSt), wb ([] : List Nat) k rvs os σ = σ
  | [], _, os, σ => by cases os <;> rfl
  | x :: r, k, [], σ => rfl
  | .tmp d :: r, k, o :: os, σ => wb_nil r (k + 1) os σ
  | .plc s [] :: r, k, o :: os, σ => by
    have := wb_nil r (k + 1) os σ
    unfold wb
    simpa using this
  | .plc s (x :: p) :: r, k, o :: os, σ => wb_nil r (k + 1) os σ
theorem call_pure {f : FnC} {rvs : List RV} {σ : DSt} {ds : List D} {d : D} {outs : DSt} (hrw : f.rw = []) (hg : getAll σ rvs = some ds) (hn : ds.length = f.n) (hp : (places rvs).Nodup) (hr : f.run ds = .ok d outs) : callOf f [] rvs σ = .ok (.tmp d) σ := by
  unfold callOf
  rw [hg]
  dsimp only
  rw [hrw, if_pos ⟨hp, lend_nil _ 0, hn⟩, hr]
  dsimp only
  rw [wb_nil]
theorem call_pure_err {f : FnC} {rvs : List RV} {σ : DSt} {ds : List D} {x : Exc} (hrw : f.rw = []) (hg : getAll σ rvs = some ds) (hn : ds.length = f.n) (hp : (places rvs).Nodup) (hr : f.run ds = .err x) : callOf f [] rvs σ = .err x σ := by
  unfold callOf
  rw [hg]
  dsimp only
  rw [hrw, if_pos ⟨hp, lend_nil _ 0, hn⟩, hr]
  dsimp only
  rw [wb_nil]
/-- a def's run by its body's -/
def finR (n : Nat) (asg : List Nat) : SRes → CRes
  | .nx σ => .ok .non (outsOf n asg σ)
  | .rt d σ => .ok d (outsOf n asg σ)
  | .er x _ => .err x
  | _ => .bad
@[simp] theorem finR_nx {n asg σ} : finR n asg (.nx σ) = .ok .non (outsOf n asg σ) := rfl
@[simp] theorem finR_rt {n asg d σ} : finR n asg (.rt d σ) = .ok d (outsOf n asg σ) := rfl
@[simp] theorem finR_er {n asg x σ} : finR n asg (.er x σ) = .err x := rfl
theorem fn_run {n m : Nat} {b : SC} {ds : List D} (asg : List Nat) (h : b.asg = asg) : (fnOf n m b).run ds = finR n asg (b.run (ds.map some ++ List.replicate (m - n) none)) := by
  subst h
  show fnRun n m b ds = _
  unfold fnRun finR
  cases b.run (ds.map some ++ List.replicate (m - n) none) <;> rfl
/-! ### loops -/
theorem forRun_nil {p b σ} : forRun p b [] σ = .nx σ := rfl
theorem forRun_cons {p b d ds σ} : forRun p b (d :: ds) σ = (match p.run d σ with
    | some σ1 => (match b.run σ1 with
      | .nx σ2 => forRun p b ds σ2
      | .ct σ2 => forRun p b ds σ2
      | .bk σ2 => .nx σ2
      | r => r)
    | none => .bad) := rfl
theorem forRun_nx {p : PC} {b : SC} {d : D} {ds : List D} {σ σ1 σ2 : DSt} (h1 : p.run d σ = some σ1) (h2 : b.run σ1 = .nx σ2) : forRun p b (d :: ds) σ = forRun p b ds σ2 := by
  rw [forRun_cons, h1]
  dsimp only
  rw [h2]
theorem tg2 {i j : Nat} {σ : DSt} {a b : D} (hi : i < σ.length) (hj : j < σ.length) : (pTup (pCons (pV i) (pCons (pV j) pNil))).run (.tup [a, b]) σ = some ((σ.set i (some a)).set j (some b)) := by
  simp [hi, hj]
theorem tg3 {i j k : Nat} {σ : DSt} {a b c : D} (hi : i < σ.length) (hj : j < σ.length) (hk : k < σ.length) : (pTup (pCons (pV i) (pCons (pV j) (pCons (pV k) pNil)))).run (.tup [a, b, c]) σ = some (((σ.set i (some a)).set j (some b)).set k (some c)) := by
  simp [hi, hj, hk]
/-- a comprehension whose turns only compute -/
theorem compRun_pure {p : PC} {c : EC} {vs : List Nat} {f : D → D} {σ : DSt} : ∀ {ds acc : List D}, (∀ d ∈ ds, ∃ σ1 σ3, p.run d σ = some σ1 ∧ c.run σ1 = .ok (.tmp (f d)) σ3 ∧ wipeD σ3 vs = σ) → compRun p cYes c vs ds acc σ = .ok (acc ++ ds.map f) σ
  | [], acc, _ => by simp [compRun]
  | d :: ds, acc, h => by
    obtain ⟨σ1, σ3, h1, h2, h3⟩ := h d (List.mem_cons_self ..)
    unfold compRun
    rw [h1]
    dsimp only
    rw [show cYes.run σ1 = .ok true σ1 from rfl]
    dsimp only
    rw [h2]
    dsimp only
    rw [h3, compRun_pure fun e he => h e (List.mem_cons_of_mem _ he)]
    simp
/-- .. with a test -/
theorem compRun_filter {p : PC} {t : TC} {c : EC} {vs : List Nat} {q : D → Bool} {f : D → D} {σ : DSt} : ∀ {ds acc : List D}, (∀ d ∈ ds, ∃ σ1 σ3, p.run d σ = some σ1 ∧ t.run σ1 = .ok (q d) σ1 ∧ (q d = true → c.run σ1 = .ok (.tmp (f d)) σ3 ∧ wipeD σ3 vs = σ) ∧ (q d = false → wipeD σ1 vs = σ)) →
    compRun p t c vs ds acc σ = .ok (acc ++ (ds.filter q).map f) σ
  | [], acc, _ => by simp [compRun]
  | d :: ds, acc, h => by
    obtain ⟨σ1, σ3, h1, h2, h3, h4⟩ := h d (List.mem_cons_self ..)
    unfold compRun
    rw [h1]
    dsimp only
    rw [h2]
    cases hq : q d with
    | true =>
      obtain ⟨h5, h6⟩ := h3 hq
      dsimp only
      rw [h5]
      dsimp only
      rw [h6, compRun_filter fun e he => h e (List.mem_cons_of_mem _ he)]
      simp [List.filter_cons, hq]
    | false =>
      dsimp only
      rw [h4 hq, compRun_filter fun e he => h e (List.mem_cons_of_mem _ he)]
      simp [List.filter_cons, hq]
end A2
end S_A3a
section S_M2
set_option Elab.async false
set_option linter.all false
set_option maxRecDepth 100000
set_option maxHeartbeats 2000000
open PySem PySem.Spec L2
open PyProof.Rows hiding St
namespace A2
/-- the stream of numbers -/
def stm (xs : List Int) (p : Nat) (c seed : Int) : D := .lst [.lst (xs.map .int), .int p, .int c, .int seed]
def StOk (xs : List Int) (p : Nat) (c seed : Int) : Prop := 0 ≤ c ∧ 0 ≤ seed ∧ seed < 2147483647
theorem ints_get (xs : List Int) (i : Nat) : (xs.map D.int)[i]? = (xs[i]?).map D.int := by rw [List.getElem?_map]
theorem n1 {α : Type} {a b c d : α} : ixN [a, b, c, d].length 1 = some 1 := ixN_nat (by omega) (by simp only [List.length_cons, List.length_nil]; omega)
theorem n2 {α : Type} {a b c d : α} : ixN [a, b, c, d].length 2 = some 2 := ixN_nat (by omega) (by simp only [List.length_cons, List.length_nil]; omega)
theorem take_eq {xs : List Int} {p : Nat} {c seed m : Int} (ok : StOk xs p c seed) (h1 : 1 ≤ m) (h2 : m < 1073741824) :
    ∃ r p' c' seed', F__law_take.run [stm xs p c seed, .int m] = .ok (.int r) [some (stm xs p' c' seed'), some (.int m)] ∧ StOk xs p' c' seed' ∧ 0 ≤ r ∧ r < m := by
  obtain ⟨o1, o2, o3⟩ := ok
  have e18 : powC 10 18 = true := by decide
  have m0 : (0 : Int) < m := by omega
  have dv : ∀ i, divC i m = true := fun i => by unfold divC; simp; omega
  have md : ∀ i : Int, 0 ≤ i % m ∧ i % m < m := fun i => ⟨Int.emod_nonneg _ (by omega), Int.emod_lt_of_pos _ m0⟩
  have m1 : mulC seed 48271 = true := by unfold mulC; simp
  by_cases hc : c = 0 ∧ p < xs.length
  · obtain ⟨rfl, hp⟩ := hc
    have hx : (xs.map D.int)[p]? = some (.int xs[p]) := by rw [List.getElem?_map, List.getElem?_eq_getElem hp]; rfl
    by_cases hv : (if xs[p] < 0 then -xs[p] else xs[p]) < 1000000000000000000
    · refine ⟨_, p + 1, 0, seed, ?_, ⟨by omega, o2, o3⟩, md (if xs[p] < 0 then -xs[p] else xs[p])⟩
      rw [F__law_take, fn_run [2, 3] rfl]
      simp [B__law_take, stm, ixOf, ixN_nat, gEq, eqD, gLtA, gGtA, gCmpD, gLen, hp, itemOf, gAbs, gInt, storeAt, storeD, gAdd, gPow, gI, e18, hv, gMod, m0, List.range_succ]
    · have hv0 : 0 < (if xs[p] < 0 then -xs[p] else xs[p]) := by omega
      refine ⟨_, p + 1, (if xs[p] < 0 then -xs[p] else xs[p]) / m, seed, ?_, ⟨Int.ediv_nonneg (by omega) (by omega), o2, o3⟩, md (if xs[p] < 0 then -xs[p] else xs[p])⟩
      rw [F__law_take, fn_run [2, 3] rfl]
      simp [B__law_take, stm, ixOf, ixN_nat, gEq, eqD, gLtA, gGtA, gCmpD, gLen, hp, itemOf, gAbs, gInt, storeAt, storeD, gAdd, gPow, gI, e18, hv, hv0, gMod, gDiv, dv, m0, List.range_succ]
  · by_cases c0 : c = 0
    · have hp : ¬ p < xs.length := fun z => hc ⟨c0, z⟩
      subst c0
      have dv3 : ∀ i, divC i 3 = true := fun i => rfl
      refine ⟨((seed * 48271 + 11) % 2147483647 / 3) % m, p, 0, (seed * 48271 + 11) % 2147483647, ?_, ⟨by omega, Int.emod_nonneg _ (by omega), Int.emod_lt_of_pos _ (by omega)⟩, md _⟩
      rw [F__law_take, fn_run [2, 3] rfl]
      simp [B__law_take, stm, ixOf, ixN_nat, gEq, eqD, gLtA, gGtA, gCmpD, gLen, hp, itemOf, gAbs, gInt, storeAt, storeD, gAdd, gPow, gI, e18, gMod, gDiv, dv, dv3, m0, List.range_succ, gMulA, gMul, m1]
    · have cp : 0 < c := by omega
      refine ⟨c % m, p, c / m, seed, ?_, ⟨Int.ediv_nonneg (by omega) (by omega), o2, o3⟩, md _⟩
      rw [F__law_take, fn_run [2, 3] rfl]
      simp [B__law_take, stm, ixOf, ixN_nat, gEq, eqD, gLtA, gGtA, gCmpD, gLen, itemOf, gAbs, gInt, storeAt, storeD, gAdd, gPow, gI, e18, gMod, gDiv, dv, m0, List.range_succ, c0, cp]
end A2
end S_M2
section S_M3
set_option Elab.async false
set_option linter.all false
set_option maxRecDepth 100000
set_option maxHeartbeats 2000000
open PySem PySem.Spec L2
open PyProof.Rows hiding St
open PySem.W (alike alikeAll dataLt AlikeAll AllAlike Sortable minD maxD EachIs dataLe)
namespace A2
/-! ## tuples of ints in order -/
theorem alike_intsA : ∀ xs ys : List Int, alikeAll (toPys (xs.map .int)) (toPys (ys.map .int)) = true
  | [], _ => rfl
  | x :: xs, [] => rfl
  | x :: xs, y :: ys => by
    show (true && alikeAll (toPys (xs.map .int)) (toPys (ys.map .int))) = true
    rw [alike_intsA xs ys]
    rfl
theorem lay_ints : ∀ xs : List Int, PyData.canLayAll0 (toPys (xs.map .int)) = true
  | [] => rfl
  | x :: xs => by
    show ((PyData.int x).canLay0 && PyData.canLayAll0 (toPys (xs.map .int))) = true
    rw [lay_ints xs]
    rfl
theorem depth_intsA : ∀ xs : List Int, PyData.depthAll (toPys (xs.map .int)) = 0
  | [] => rfl
  | x :: xs => by
    show max (PyData.int x).depth (PyData.depthAll (toPys (xs.map .int))) = 0
    rw [depth_intsA xs]
    rfl
theorem lex_ints : ∀ xs ys : List Int, PyProof.Rows.lexLt PyProof.Rows.itemOrd (PySem.W.keyToksAll (toPys (xs.map .int))) (PySem.W.keyToksAll (toPys (ys.map .int))) = ltI xs ys
  | [], [] => by decide
  | [], y :: ys => by
    show PyProof.Rows.lexLt PyProof.Rows.itemOrd [.inl 0] (.inl 1 :: _) = true
    rfl
  | x :: xs, [] => by
    show PyProof.Rows.lexLt PyProof.Rows.itemOrd (.inl 1 :: _) [.inl 0] = false
    rfl
  | x :: xs, y :: ys => by
    by_cases h : x = y
    · subst h
      have e : PyData.eqv (.int x) (.int x) = true := by simp [PyData.eqv]
      refine (PySem.W.dataLt_all_yes (x := .int x) (y := .int x) (xs := toPys (xs.map .int)) (ys := toPys (ys.map .int)) rfl e).trans ?_
      rw [lex_ints xs ys]
      simp [ltI]
    · have e : PyData.eqv (.int x) (.int y) = false := by simp [PyData.eqv, h]
      refine (PySem.W.dataLt_all_no (x := .int x) (y := .int y) (xs := toPys (xs.map .int)) (ys := toPys (ys.map .int)) rfl e).trans ?_
      rw [PySem.W.dataLt_int]
      simp [ltI, h]
theorem lt_tupI (xs ys : List Int) : dataLt (toPy (tupI xs)) (toPy (tupI ys)) = ltI xs ys := (PySem.W.dataLt_tuple _ _).trans (lex_ints xs ys)
theorem alike_tupI (xs ys : List Int) : alike (toPy (tupI xs)) (toPy (tupI ys)) = true := alike_intsA xs ys
theorem alikeOk_tupI (xs ys : List Int) : alikeOk (tupI xs) (tupI ys) = true := by
  have h1 : (toPy (tupI xs)).canLay0 = true := by
    show (PyData.tuple (toPys (xs.map .int))).canLay0 = true
    simpa [PyData.canLay0] using lay_ints xs
  have h2 : (toPy (tupI ys)).canLay0 = true := by
    show (PyData.tuple (toPys (ys.map .int))).canLay0 = true
    simpa [PyData.canLay0] using lay_ints ys
  have h3 : (toPy (tupI xs)).depth = 1 := by
    show (PyData.tuple (toPys (xs.map .int))).depth = 1
    simp [PyData.depth, depth_intsA]
  unfold alikeOk
  rw [h1, h2, alike_tupI, h3]
  simp [isNone, toPy, tupI]
  omega
theorem ply_tupI : ∀ xs : List Int, (tupI xs).ply = true := fun xs => by
  show D.plys (xs.map .int) = true
  exact plys_of fun d hd => by
    obtain ⟨i, _, rfl⟩ := List.mem_map.mp hd
    rfl
@[simp] theorem imm_tupI (xs : List Int) : (tupI xs).imm = true := imms_ints xs
@[simp] theorem imms_ints' (xs : List Int) : D.imms (xs.map D.int) = true := imms_ints xs
@[simp] theorem imms_tupI (xs : List (List Int)) : D.imms (xs.map tupI) = true := imms_rows xs
/-- the least of rows -/
def minI (x : List Int) (xs : List (List Int)) : List Int := xs.foldl (fun a y => if ltI y a = true then y else a) x
theorem minDD_tupI : ∀ (xs : List (List Int)) (x : List Int), minDD (tupI x) (xs.map tupI) = tupI (minI x xs)
  | [], x => rfl
  | y :: ys, x => by
    show minDD (if dataLt (toPy (tupI y)) (toPy (tupI x)) = true then tupI y else tupI x) (ys.map tupI) = tupI (minI (if ltI y x = true then y else x) ys)
    rw [lt_tupI, ← minDD_tupI ys]
    split <;> rfl
theorem minI_mem : ∀ (xs : List (List Int)) (x : List Int), minI x xs ∈ x :: xs
  | [], x => List.mem_cons_self ..
  | y :: ys, x => by
    have h := minI_mem ys (if ltI y x = true then y else x)
    have e : minI x (y :: ys) = minI (if ltI y x = true then y else x) ys := rfl
    rw [e]
    rcases List.mem_cons.mp h with h | h
    · rw [h]
      split
      · exact List.mem_cons_of_mem _ (List.mem_cons_self ..)
      · exact List.mem_cons_self ..
    · exact List.mem_cons_of_mem _ (List.mem_cons_of_mem _ h)
theorem minI_le {n : Nat} : ∀ (xs : List (List Int)) (x : List Int), (∀ y ∈ x :: xs, y.length = n) → ∀ y ∈ x :: xs, ltI y (minI x xs) = false
  | [], x, _, y, hy => by
    rw [List.mem_singleton.mp hy]
    exact ltI_irr x
  | z :: zs, x, hn, y, hy => by
    have e : minI x (z :: zs) = minI (if ltI z x = true then z else x) zs := rfl
    rw [e]
    have hx := hn x (List.mem_cons_self ..)
    have hz := hn z (List.mem_cons_of_mem _ (List.mem_cons_self ..))
    have hl : ∀ w ∈ (if ltI z x = true then z else x) :: zs, w.length = n := fun w hw => by
      rcases List.mem_cons.mp hw with rfl | hw
      · split
        · exact hz
        · exact hx
      · exact hn w (List.mem_cons_of_mem _ (List.mem_cons_of_mem _ hw))
    have ih := minI_le zs (if ltI z x = true then z else x) hl
    have up : ∀ w, w.length = n → ltI w (if ltI z x = true then z else x) = false → ltI w (minI (if ltI z x = true then z else x) zs) = false := fun w hw h => by
      cases hc : ltI w (minI (if ltI z x = true then z else x) zs) with
      | false => rfl
      | true =>
        have hm := ih _ (List.mem_cons_self ..)
        have hml := hl _ (minI_mem zs (if ltI z x = true then z else x))
        have hal := hl _ (List.mem_cons_self ..)
        rcases ltI_tri (hal.trans hml.symm) with h1 | h1 | h1
        · rw [h1] at hm; cases hm
        · rw [← h1, h] at hc; cases hc
        · have := ltI_trans hc h1
          rw [h] at this; cases this
    rcases List.mem_cons.mp hy with rfl | hy
    · refine up y hx ?_
      split
      · rename_i h1
        cases hc : ltI y z with
        | false => rfl
        | true =>
          have := ltI_trans hc h1
          rw [ltI_irr] at this; cases this
      · exact ltI_irr _
    · rcases List.mem_cons.mp hy with rfl | hy
      · refine up y hz ?_
        split
        · exact ltI_irr _
        · rename_i h1
          simpa using h1
      · exact ih y (List.mem_cons_of_mem _ hy)
theorem best_rows (x : List Int) (xs : List (List Int)) : gMinL [.lst (tupI x :: xs.map tupI)] = some (tupI (minI x xs)) := by
  have hok : bestOk (tupI x :: xs.map tupI) = true := by
    have hall : ∀ d ∈ tupI x :: xs.map tupI, ∃ y, d = tupI y := fun d hd => by
      rcases List.mem_cons.mp hd with rfl | hd
      · exact ⟨x, rfl⟩
      · obtain ⟨y, _, rfl⟩ := List.mem_map.mp hd
        exact ⟨y, rfl⟩
    have hpy : ∀ p ∈ toPys (tupI x :: xs.map tupI), ∃ y, p = toPy (tupI y) := fun p hp => by
      rw [toPys_map] at hp
      obtain ⟨d, hd, rfl⟩ := List.mem_map.mp hp
      obtain ⟨y, rfl⟩ := hall d hd
      exact ⟨y, rfl⟩
    have hdep : ∀ ps : List PyData, (∀ p ∈ ps, ∃ y, p = toPy (tupI y)) → PyData.depthAll ps ≤ 60 := by
      intro ps
      induction ps with
      | nil => intro _; exact Nat.zero_le _
      | cons p ps ih =>
        intro h
        obtain ⟨y, rfl⟩ := h p (List.mem_cons_self ..)
        have h3 : (toPy (tupI y)).depth = 1 := by
          show (PyData.tuple (toPys (y.map .int))).depth = 1
          simp [PyData.depth, depth_intsA]
        show max (toPy (tupI y)).depth (PyData.depthAll ps) ≤ 60
        rw [h3]
        have := ih fun p hp => h p (List.mem_cons_of_mem _ hp)
        omega
    unfold bestOk
    simp only [Bool.and_eq_true, decide_eq_true_eq]
    refine ⟨plys_of fun d hd => ?_, ?_, ?_, hdep _ hpy⟩
    · obtain ⟨y, rfl⟩ := hall d hd
      exact ply_tupI y
    · refine List.all_eq_true.mpr fun p hp => List.all_eq_true.mpr fun q hq => ?_
      obtain ⟨y, rfl⟩ := hpy p hp
      obtain ⟨z, rfl⟩ := hpy q hq
      exact alike_tupI y z
    · refine List.all_eq_true.mpr fun p hp => ?_
      obtain ⟨y, rfl⟩ := hpy p hp
      rfl
  show (match seqOf (.lst (tupI x :: xs.map tupI)) with
    | some (e :: es) => if bestOk (e :: es) = true then some (minDD e es) else none
    | _ => none) = _
  show (if bestOk (tupI x :: xs.map tupI) = true then some (minDD (tupI x) (xs.map tupI)) else none) = _
  rw [if_pos hok, minDD_tupI]
end A2
end S_M3
section S_M4
set_option Elab.async false
set_option linter.all false
set_option maxRecDepth 100000
set_option maxHeartbeats 2000000
open PySem PySem.Spec L2
open PyProof.Rows hiding St
open PySem.W (alike alikeAll dataLt AlikeAll AllAlike Sortable minD maxD EachIs dataLe)
namespace A2
@[simp] theorem gLtA_int {i j : Int} : gLtA (.int i) (.int j) = some (.bl (decide (i < j))) := rfl
@[simp] theorem gGtA_int {i j : Int} : gGtA (.int i) (.int j) = some (.bl (decide (j < i))) := rfl
@[simp] theorem gLeA_int {i j : Int} : gLeA (.int i) (.int j) = some (.bl (decide (i ≤ j))) := rfl
@[simp] theorem gGeA_int {i j : Int} : gGeA (.int i) (.int j) = some (.bl (decide (j ≤ i))) := rfl
@[simp] theorem gAdd_int {i j : Int} : gAdd (.int i) (.int j) = some (.int (i + j)) := rfl
@[simp] theorem gSub_int {i j : Int} : gSub (.int i) (.int j) = some (.int (i - j)) := rfl
@[simp] theorem gEq_int {i j : Int} : gEq (.int i) (.int j) = some (.bl (decide (i = j))) := rfl
@[simp] theorem gNe_int {i j : Int} : gNe (.int i) (.int j) = some (.bl (!decide (i = j))) := rfl
@[simp] theorem gLen_tup {ds : List D} : gLen [.tup ds] = some (.int ds.length) := rfl
@[simp] theorem gLen_lst {ds : List D} : gLen [.lst ds] = some (.int ds.length) := rfl
@[simp] theorem gIs_non {d : D} : gIs d .non = some (.bl (isNon d)) := by cases d <;> rfl
@[simp] theorem gIsNot_non {d : D} : gIsNot d .non = some (.bl (!isNon d)) := by cases d <;> rfl
@[simp] theorem isNon_non : isNon .non = true := rfl
@[simp] theorem isNon_int {i : Int} : isNon (.int i) = false := rfl
@[simp] theorem isNon_tup {ds} : isNon (.tup ds) = false := rfl
theorem gLtA_tupI (x y : List Int) : gLtA (tupI x) (tupI y) = some (.bl (ltI x y)) := by
  show gCmpD _ _ (tupI x) (tupI y) = _
  unfold gCmpD
  show (if alikeOk (tupI x) (tupI y) = true then some (D.bl (dataLt (toPy (tupI x)) (toPy (tupI y)))) else none) = _
  rw [if_pos (alikeOk_tupI x y), lt_tupI]
/-! ## films, ways -/
abbrev Way := Nat × Nat × Int
def rowW (w : Way) : List Int := [(w.1 : Int), (w.2.1 : Int), w.2.2]
def encW (w : Way) : D := .tup [.int w.1, .int w.2.1, .int w.2.2]
theorem encW_tupI (w : Way) : encW w = tupI (rowW w) := rfl
@[simp] theorem imm_encW (w : Way) : (encW w).imm = true := rfl
@[simp] theorem imms_encW : ∀ ws : List Way, D.imms (ws.map encW) = true
  | [] => rfl
  | w :: ws => imms_encW ws
def filmD (ps rest : List D) : D := .tup (.tup ps :: rest)
def WayOk (n : Nat) (w : Way) : Prop := w.1 < w.2.1 ∧ w.2.1 < n ∧ 1 ≤ w.2.2 ∧ w.2.2 ≤ 240
structure FilmOk (n : Nat) (ps rest : List D) : Prop where
  i1 : D.imms ps = true
  i2 : D.imms rest = true
  len : ps.length = n
structure WaysOk (n : Nat) (ws : List Way) : Prop where
  few : ws.length ≤ 40
  each : ∀ w ∈ ws, WayOk n w
  srt : SrtI (ws.map rowW)
noncomputable def Bcw : SC := match B_check_ways with | _ => (sSeq (sAsg (pTup (pCons (pV 5) (pCons (pV 6) (pCons (pV 7) pNil)))) (cVar 4))
  (sSeq (sIf (cOrT (cNotT (cTst (cChain gLeA gLtA (cK (.int 0)) (cVar 5) (cVar 2)))) (cNotT (cTst (cChain gLeA gLtA (cK (.int 0)) (cVar 6) (cVar 2))))) (sRaise "WayError" (cK (.str "place"))) sNil)
  (sSeq (sIf (cOrT (cNotT (cTst (cBin gLtA (cVar 5) (cVar 6)))) (cAndT (cTst (cBin gIsNot (cVar 3) (cK .non))) (cNotT (cTst (cBin gLtA (cVar 3) (cVar 4)))))) (sRaise "WayError" (cK (.str "order"))) sNil)
  (sSeq (sIf (cNotT (cTst (cChain gLeA gLeA (cK (.int 1)) (cVar 7) (cK (.int 240))))) (sRaise "WayError" (cK (.str "minutes"))) sNil)
  (sSet 3 (cVar 4))))))
theorem cw_turn {film ways : D} {n : Nat} {w : Way} {b x4 x5 x6 x7 : Option D} {bd : D} (hb : b = some bd) (hbi : bd.imm = true) (hw : WayOk n w) (hlt : bd = .non ∨ ∃ v, bd = encW v ∧ ltI (rowW v) (rowW w) = true) :
    Bcw.run [some film, some ways, some (.int n), b, some (encW w), x5, x6, x7] = .nx [some film, some ways, some (.int n), some (encW w), some (encW w), some (.int w.1), some (.int w.2.1), some (.int w.2.2)] := by
  subst hb
  obtain ⟨h1, h2, h3, h4⟩ := hw
  have g1 : (0 : Int) ≤ (w.1 : Int) := by omega
  have g2 : (w.1 : Int) < n := by omega
  have g3 : (0 : Int) ≤ (w.2.1 : Int) := by omega
  have g4 : (w.2.1 : Int) < n := by omega
  have g5 : (w.1 : Int) < w.2.1 := by omega
  rcases hlt with rfl | ⟨v, rfl, hlt⟩
  · simp [Bcw, encW, g1, g2, g3, g4, g5, h3, h4]
  · have hl : gLtA (.tup [.int v.1, .int v.2.1, .int v.2.2]) (.tup [.int w.1, .int w.2.1, .int w.2.2]) = some (.bl true) := by
      rw [← hlt]
      exact gLtA_tupI (rowW v) (rowW w)
    simp [Bcw, encW, g1, g2, g3, g4, g5, h3, h4, hl]
theorem cw_loop {film ways : D} {n : Nat} : ∀ (ws : List Way) (bd : D) (x4 x5 x6 x7 : Option D), bd.imm = true → (∀ w ∈ ws, WayOk n w) → SrtI (ws.map rowW) → (bd = .non ∨ ∃ v, bd = encW v ∧ ∀ w ∈ ws, ltI (rowW v) (rowW w) = true) →
    ∃ y3 y4 y5 y6 y7, forRun (pV 4) Bcw (ws.map encW) [some film, some ways, some (.int n), some bd, x4, x5, x6, x7] = .nx [some film, some ways, some (.int n), y3, y4, y5, y6, y7]
  | [], bd, x4, x5, x6, x7, _, _, _, _ => ⟨_, _, _, _, _, rfl⟩
  | w :: ws, bd, x4, x5, x6, x7, hi, hw, hs, hb => by
    have hs' := List.pairwise_cons.mp hs
    obtain ⟨y3, y4, y5, y6, y7, ih⟩ := cw_loop (film := film) (ways := ways) ws (encW w) (some (encW w)) (some (.int w.1)) (some (.int w.2.1)) (some (.int w.2.2)) rfl (fun v hv => hw v (List.mem_cons_of_mem _ hv)) hs'.2 (.inr ⟨w, rfl, fun v hv => hs'.1 _ (List.mem_map.mpr ⟨v, hv, rfl⟩)⟩)
    refine ⟨y3, y4, y5, y6, y7, ?_⟩
    have t := cw_turn (film := film) (ways := ways) (x4 := some (encW w)) (x5 := x5) (x6 := x6) (x7 := x7) (b := some bd) rfl hi (hw w (List.mem_cons_self ..)) (hb.imp id fun ⟨v, e, h⟩ => ⟨v, e, h w (List.mem_cons_self ..)⟩)
    rw [List.map_cons, forRun_cons]
    simp only [run_pV, List.length_cons, List.length_nil, List.set_cons_succ, List.set_cons_zero]
    rw [if_pos (by decide)]
    dsimp only
    rw [t]
    exact ih
theorem check_ways_eq {n : Nat} {ps rest : List D} {ws : List Way} (F : FilmOk n ps rest) (W : WaysOk n ws) : ∃ outs, F_check_ways.run [filmD ps rest, .tup (ws.map encW)] = .ok .non outs := by
  obtain ⟨y3, y4, y5, y6, y7, h⟩ := cw_loop (film := filmD ps rest) (ways := .tup (ws.map encW)) (n := n) ws .non none none none none rfl W.each W.srt (.inl rfl)
  have hB : B_check_ways = (sSeq (sIf (cTst (cBin gGtA (cFn gLen (aCons (cVar 1) aNil)) (cK (.int 40)))) (sRaise "WayError" (cK (.str "many"))) sNil)
    (sSeq (sSet 2 (cFn gLen (aCons (cIx (cVar 0) (cK (.int 0))) aNil)))
    (sSeq (sSet 3 (cK .non)) (sFor (pV 4) (cVar 1) Bcw)))) := rfl
  have h40 : ¬ ((40 : Int) < (ws.length : Int)) := by have := W.few; omega
  rw [F_check_ways, fn_run B_check_ways.asg rfl, hB]
  simp [filmD, F.i1, F.i2, F.len, ixOf, h40, forOf, itemsOf, loopOk]
  rw [show (D.tup (D.tup ps :: rest)) = filmD ps rest from rfl, h]
  exact ⟨_, rfl⟩
end A2
end S_M4
section S_MC
set_option Elab.async false
set_option linter.all false
set_option maxRecDepth 100000
set_option maxHeartbeats 2000000
open PySem PySem.Spec L2
open PyProof.Rows hiding St
namespace A2
theorem callN1 {f : FnC} {a d : D} {outs σ : DSt} (hn : f.n = 1) (hrw : f.rw = []) (hr : f.run [a] = .ok d outs) : callOf f [] [.tmp a] σ = .ok (.tmp d) σ := call_pure hrw rfl hn.symm List.Pairwise.nil hr
theorem callN2 {f : FnC} {a b d : D} {outs σ : DSt} (hn : f.n = 2) (hrw : f.rw = []) (hr : f.run [a, b] = .ok d outs) : callOf f [] [.tmp a, .tmp b] σ = .ok (.tmp d) σ := call_pure hrw rfl hn.symm List.Pairwise.nil hr
theorem callE2 {f : FnC} {a b : D} {x : Exc} {σ : DSt} (hn : f.n = 2) (hrw : f.rw = []) (hr : f.run [a, b] = .err x) : callOf f [] [.tmp a, .tmp b] σ = .err x σ := call_pure_err hrw rfl hn.symm List.Pairwise.nil hr
theorem callN3 {f : FnC} {a b c d : D} {outs σ : DSt} (hn : f.n = 3) (hrw : f.rw = []) (hr : f.run [a, b, c] = .ok d outs) : callOf f [] [.tmp a, .tmp b, .tmp c] σ = .ok (.tmp d) σ := call_pure hrw rfl hn.symm List.Pairwise.nil hr
theorem callN5 {f : FnC} {a b c e g d : D} {outs σ : DSt} (hn : f.n = 5) (hrw : f.rw = []) (hr : f.run [a, b, c, e, g] = .ok d outs) : callOf f [] [.tmp a, .tmp b, .tmp c, .tmp e, .tmp g] σ = .ok (.tmp d) σ := call_pure hrw rfl hn.symm List.Pairwise.nil hr
theorem callE5 {f : FnC} {a b c e g : D} {x : Exc} {σ : DSt} (hn : f.n = 5) (hrw : f.rw = []) (hr : f.run [a, b, c, e, g] = .err x) : callOf f [] [.tmp a, .tmp b, .tmp c, .tmp e, .tmp g] σ = .err x σ := call_pure_err hrw rfl hn.symm List.Pairwise.nil hr
theorem callN6 {f : FnC} {a b c e g h d : D} {outs σ : DSt} (hn : f.n = 6) (hrw : f.rw = []) (hr : f.run [a, b, c, e, g, h] = .ok d outs) : callOf f [] [.tmp a, .tmp b, .tmp c, .tmp e, .tmp g, .tmp h] σ = .ok (.tmp d) σ := call_pure hrw rfl hn.symm List.Pairwise.nil hr
theorem callE6 {f : FnC} {a b c e g h : D} {x : Exc} {σ : DSt} (hn : f.n = 6) (hrw : f.rw = []) (hr : f.run [a, b, c, e, g, h] = .err x) : callOf f [] [.tmp a, .tmp b, .tmp c, .tmp e, .tmp g, .tmp h] σ = .err x σ := call_pure_err hrw rfl hn.symm List.Pairwise.nil hr
def wayErr (s : Str) : Exc := ⟨"WayError", [("code", .str s)]⟩
theorem film_imm {n : Nat} {ps rest : List D} (F : FilmOk n ps rest) : (filmD ps rest).imm = true := by simp [filmD, F.i1, F.i2]
def absI (i : Int) : Int := if i < 0 then -i else i
theorem boolsOf_bls : ∀ bs : List Bool, boolsOf (bs.map D.bl) = some bs
  | [] => rfl
  | b :: r => by
    show (boolsOf (r.map D.bl)).map (b :: ·) = _
    rw [boolsOf_bls r]
    rfl
theorem gAll_bls (bs : List Bool) : gAll [.lst (bs.map D.bl)] = some (.bl (bs.all id)) := by
  unfold gAll gTru
  simp [seqOf, boolsOf_bls]
theorem ix_ints {σ : DSt} {xs : List Int} {u : Nat} (hu : u < xs.length) : ixOf (.tmp (.tup (xs.map .int))) (.tmp (.int (u : Int))) σ = .ok (.tmp (.int (xs.getD u 0))) σ := by
  have hg : L2.atI (xs.map D.int) (u : Int) = some (.int (xs.getD u 0)) := by
    rw [atI_pos (by omega) (by rw [List.length_map]; omega), Int.toNat_natCast, List.getElem?_map, List.getElem?_eq_getElem hu, List.getD_eq_getElem?_getD, List.getElem?_eq_getElem hu]
    rfl
  unfold ixOf
  simp only [get_tmp, hg, imm_int, if_true]
def dI : D → Int
  | .int i => i
  | _ => 0
def dW : D → Way
  | .tup [.int a, .int b, .int c] => (a.toNat, b.toNat, c)
  | _ => (0, 0, 0)
@[simp] theorem dW_enc (w : Way) : dW (encW w) = w := by
  show (((w.1 : Int).toNat, (w.2.1 : Int).toNat, w.2.2) : Way) = w
  simp
end A2
end S_MC
section S_M5
set_option Elab.async false
set_option linter.all false
set_option maxRecDepth 100000
set_option maxHeartbeats 2000000
open PySem PySem.Spec L2
open PyProof.Rows hiding St
open PySem.W (alike alikeAll dataLt AlikeAll AllAlike Sortable minD maxD EachIs dataLe)
namespace A2
/-! ## neighbors -/
abbrev Adj := List (Nat × Int)
def encP (p : Nat × Int) : D := .tup [.int p.1, .int p.2]
def encA (l : Adj) : D := .lst (l.map encP)
@[simp] theorem imm_encA (l : Adj) : (encA l).imm = false := rfl
@[simp] theorem imm_encP (p) : (encP p).imm = true := rfl
def addP (near : List Adj) (u : Nat) (p : Nat × Int) : List Adj := near.set u (near.getD u [] ++ [p])
def nbStep (near : List Adj) (w : Way) : List Adj := addP (addP near w.1 (w.2.1, w.2.2)) w.2.1 (w.1, w.2.2)
theorem addP_len {near : List Adj} {u p} : (addP near u p).length = near.length := by unfold addP; simp
theorem app_at {σ : DSt} {near : List Adj} {u s : Nat} {i : Int} {p : Nat × Int} {x : RV} (hs : σ[s]? = some (some (.lst (near.map encA)))) (hx : x = .plc s [.ix u]) (hu : u < near.length) (hl : (near.getD u []).length < sizeLine) :
    appOf s x [.tmp (encP p)] σ = .ok (.tmp .non) (σ.set s (some (.lst ((addP near u p).map encA)))) := by
  subst hx
  unfold appOf
  dsimp only
  rw [if_pos rfl, hs]
  have hg : (near.map encA)[u]? = some (encA (near.getD u [])) := by
    rw [List.getElem?_map, List.getElem?_eq_getElem hu, List.getD_eq_getElem?_getD, List.getElem?_eq_getElem hu]
    rfl
  simp only [getP_ix, hg, getP_nil, setP_ix, setP_nil, encA]
  rw [if_pos (by rw [List.length_map]; exact hl)]
  have e : (near.map encA).set u (D.lst ((near.getD u []).map encP ++ [encP p])) = (addP near u p).map encA := by
    unfold addP
    rw [List.map_set]
    show _ = (List.map encA near).set u (D.lst (((near.getD u []) ++ [p]).map encP))
    rw [List.map_append]
    rfl
  rw [e]
theorem ix_near {σ : DSt} {near : List Adj} {u s : Nat} (hs : σ[s]? = some (some (.lst (near.map encA)))) (hu : u < near.length) : ixOf (.plc s []) (.tmp (.int (u : Int))) σ = .ok (.plc s [.ix u]) σ := by
  have hg : (near.map encA)[u]? = some (encA (near.getD u [])) := by
    rw [List.getElem?_map, List.getElem?_eq_getElem hu, List.getD_eq_getElem?_getD, List.getElem?_eq_getElem hu]
    rfl
  unfold ixOf
  simp only [get_plc, hs, getP_nil, get_tmp]
  rw [ixN_nat (by omega) (by rw [List.length_map]; omega)]
  simp only [Int.toNat_natCast, hg]
  unfold itemOf
  rw [imm_encA]
  rfl
theorem isK_near {σ : DSt} {near : List Adj} {u s : Nat} (hs : σ[s]? = some (some (.lst (near.map encA)))) (hu : u < near.length) : isK "list" (.plc s [.ix u]) σ = true := by
  have hg : (near.map encA)[u]? = some (encA (near.getD u [])) := by
    rw [List.getElem?_map, List.getElem?_eq_getElem hu, List.getD_eq_getElem?_getD, List.getElem?_eq_getElem hu]
    rfl
  unfold isK
  simp only [get_plc, hs, getP_ix, hg, getP_nil]
  rfl
noncomputable def Bnb : SC := (sSeq (sExpr (cApp 2 (cIx (cVar 2) (cVar 4)) (aCons (cTup (aCons (cVar 5) (aCons (cVar 6) aNil))) aNil)))
  (sExpr (cApp 2 (cIx (cVar 2) (cVar 5)) (aCons (cTup (aCons (cVar 4) (aCons (cVar 6) aNil))) aNil))))
theorem getD_addP_same {near : List Adj} {u p} (h : u < near.length) : (addP near u p).getD u [] = near.getD u [] ++ [p] := by
  unfold addP
  rw [List.getD_eq_getElem?_getD, List.getElem?_set_self h]
  rfl
theorem getD_addP_ne {near : List Adj} {u v p} (h : u ≠ v) : (addP near u p).getD v [] = near.getD v [] := by
  unfold addP
  rw [List.getD_eq_getElem?_getD, List.getElem?_set_ne h, List.getD_eq_getElem?_getD]
theorem nb_turn {film ways x3 : Option D} {near : List Adj} {w : Way} {n : Nat} (hw : w.1 < w.2.1 ∧ w.2.1 < n) (hn : near.length = n) (hl : ∀ u, (near.getD u []).length < 1000) :
    Bnb.run [film, ways, some (.lst (near.map encA)), x3, some (.int w.1), some (.int w.2.1), some (.int w.2.2)] = .nx [film, ways, some (.lst ((nbStep near w).map encA)), x3, some (.int w.1), some (.int w.2.1), some (.int w.2.2)] := by
  have big : 1000 < sizeLine := by rw [sizeLine_eq]; decide
  have u1 : w.1 < near.length := by omega
  have u2 : w.2.1 < (addP near w.1 (w.2.1, w.2.2)).length := by rw [addP_len]; omega
  have l2 : ((addP near w.1 (w.2.1, w.2.2)).getD w.2.1 []).length < 1000 := by
    rw [getD_addP_ne (by omega)]
    exact hl _
  have a1 := app_at (σ := [film, ways, some (.lst (near.map encA)), x3, some (.int w.1), some (.int w.2.1), some (.int w.2.2)]) (near := near) (u := w.1) (s := 2) (p := (w.2.1, w.2.2)) (x := .plc 2 [.ix w.1]) (i := 0) rfl rfl u1 (by have := hl w.1; omega)
  have a2 := app_at (σ := [film, ways, some (.lst ((addP near w.1 (w.2.1, w.2.2)).map encA)), x3, some (.int w.1), some (.int w.2.1), some (.int w.2.2)]) (near := addP near w.1 (w.2.1, w.2.2)) (u := w.2.1) (s := 2) (p := (w.1, w.2.2)) (x := .plc 2 [.ix w.2.1]) (i := 0) rfl rfl u2 (by omega)
  have i1 := ix_near (σ := [film, ways, some (.lst (near.map encA)), x3, some (.int w.1), some (.int w.2.1), some (.int w.2.2)]) (near := near) (u := w.1) (s := 2) rfl u1
  have i2 := ix_near (σ := [film, ways, some (.lst ((addP near w.1 (w.2.1, w.2.2)).map encA)), x3, some (.int w.1), some (.int w.2.1), some (.int w.2.2)]) (near := addP near w.1 (w.2.1, w.2.2)) (u := w.2.1) (s := 2) rfl u2
  have k1 := isK_near (σ := [film, ways, some (.lst (near.map encA)), x3, some (.int w.1), some (.int w.2.1), some (.int w.2.2)]) (near := near) (u := w.1) (s := 2) rfl u1
  have k2 := isK_near (σ := [film, ways, some (.lst ((addP near w.1 (w.2.1, w.2.2)).map encA)), x3, some (.int w.1), some (.int w.2.1), some (.int w.2.2)]) (near := addP near w.1 (w.2.1, w.2.2)) (u := w.2.1) (s := 2) rfl u2
  unfold encP at a1 a2
  simp [Bnb, runM, i1, k1, a1, i2, k2, a2]
  rfl
theorem nbStep_len {near : List Adj} {w : Way} : (nbStep near w).length = near.length := by unfold nbStep; rw [addP_len, addP_len]
theorem nbStep_small {near : List Adj} {w : Way} {k : Nat} (hw : w.1 < w.2.1) (h : ∀ u, (near.getD u []).length ≤ k) : ∀ u, ((nbStep near w).getD u []).length ≤ k + 1 := by
  have one : ∀ (nr : List Adj) (x u : Nat) (p : Nat × Int), ((addP nr x p).getD u []).length ≤ (nr.getD u []).length + (if x = u then 1 else 0) := fun nr x u p => by
    by_cases hx : x = u
    · subst hx
      rw [if_pos rfl]
      by_cases hl : x < nr.length
      · rw [getD_addP_same hl]
        simp
      · unfold addP
        rw [List.set_eq_of_length_le (by omega)]
        omega
    · rw [getD_addP_ne hx]
      omega
  intro u
  have h1 := one (addP near w.1 (w.2.1, w.2.2)) w.2.1 u (w.1, w.2.2)
  have h2 := one near w.1 u (w.2.1, w.2.2)
  have h3 := h u
  show ((addP (addP near w.1 (w.2.1, w.2.2)) w.2.1 (w.1, w.2.2)).getD u []).length ≤ k + 1
  split at h1 <;> split at h2 <;> omega
theorem nb_loop {film ways x3 : Option D} {n : Nat} : ∀ (ws : List Way) (near : List Adj) (k : Nat) (x4 x5 x6 : Option D), (∀ w ∈ ws, w.1 < w.2.1 ∧ w.2.1 < n) → near.length = n → (∀ u, (near.getD u []).length ≤ k) → k + ws.length < 1000 →
    ∃ y4 y5 y6, forRun (pTup (pCons (pV 4) (pCons (pV 5) (pCons (pV 6) pNil)))) Bnb (ws.map encW) [film, ways, some (.lst (near.map encA)), x3, x4, x5, x6] = .nx [film, ways, some (.lst ((ws.foldl nbStep near).map encA)), x3, y4, y5, y6]
  | [], near, k, x4, x5, x6, _, _, _, _ => ⟨_, _, _, rfl⟩
  | w :: ws, near, k, x4, x5, x6, hw, hn, hl, hk => by
    simp only [List.length_cons] at hk
    obtain ⟨y4, y5, y6, ih⟩ := nb_loop (film := film) (ways := ways) (x3 := x3) ws (nbStep near w) (k + 1) (some (.int w.1)) (some (.int w.2.1)) (some (.int w.2.2)) (fun v hv => hw v (List.mem_cons_of_mem _ hv)) (nbStep_len.trans hn) (nbStep_small (hw w (List.mem_cons_self ..)).1 hl) (by omega)
    refine ⟨y4, y5, y6, ?_⟩
    have t := nb_turn (film := film) (ways := ways) (x3 := x3) (hw w (List.mem_cons_self ..)) hn (fun u => by have := hl u; omega)
    show forRun _ Bnb (D.tup [.int w.1, .int w.2.1, .int w.2.2] :: ws.map encW) _ = _
    rw [forRun_nx (tg3 (by simp) (by simp) (by simp)) t]
    exact ih
def Edge (ws : List Way) (u v : Nat) (m : Int) : Prop := ∃ w ∈ ws, w = (u, v, m) ∨ w = (v, u, m)
theorem nbs_mem {n : Nat} : ∀ (ws : List Way) (near : List Adj), (∀ w ∈ ws, w.1 < w.2.1 ∧ w.2.1 < n) → near.length = n → ∀ u, u < n → ∀ v m, (v, m) ∈ (ws.foldl nbStep near).getD u [] ↔ (v, m) ∈ near.getD u [] ∨ Edge ws u v m
  | [], near, _, _, u, _, v, m => by simp [Edge]
  | w :: ws, near, hw, hn, u, hu, v, m => by
    have ih := nbs_mem ws (nbStep near w) (fun v hv => hw v (List.mem_cons_of_mem _ hv)) (nbStep_len.trans hn) u hu v m
    rw [List.foldl_cons, ih]
    obtain ⟨h1, h2⟩ := hw w (List.mem_cons_self ..)
    have key : (v, m) ∈ (nbStep near w).getD u [] ↔ (v, m) ∈ near.getD u [] ∨ (w = (u, v, m) ∨ w = (v, u, m)) := by
      unfold nbStep
      obtain ⟨a, b, c⟩ := w
      dsimp only at h1 h2 ⊢
      by_cases e2 : b = u
      · subst e2
        rw [getD_addP_same (by rw [addP_len]; omega), getD_addP_ne (by omega)]
        simp only [List.mem_append, List.mem_singleton, Prod.mk.injEq]
        constructor
        · rintro (h | ⟨h, h'⟩)
          · exact .inl h
          · exact .inr (.inr ⟨h.symm, trivial, h'.symm⟩)
        · rintro (h | ⟨h, h', h''⟩ | ⟨h, h', h''⟩)
          · exact .inl h
          · omega
          · exact .inr ⟨h.symm, h''.symm⟩
      · rw [getD_addP_ne e2]
        by_cases e1 : a = u
        · subst e1
          rw [getD_addP_same (by omega)]
          simp only [List.mem_append, List.mem_singleton, Prod.mk.injEq]
          constructor
          · rintro (h | ⟨h, h'⟩)
            · exact .inl h
            · exact .inr (.inl ⟨trivial, h.symm, h'.symm⟩)
          · rintro (h | ⟨h, h', h''⟩ | ⟨h, h', h''⟩)
            · exact .inl h
            · exact .inr ⟨h'.symm, h''.symm⟩
            · omega
        · rw [getD_addP_ne e1]
          simp only [Prod.mk.injEq]
          constructor
          · exact .inl
          · rintro (h | ⟨h, _⟩ | ⟨_, h, _⟩)
            · exact h
            · exact absurd h e1
            · exact absurd h e2
    rw [key]
    unfold Edge
    constructor
    · rintro ((h | h) | ⟨x, hx, h⟩)
      · exact .inl h
      · exact .inr ⟨w, List.mem_cons_self .., h⟩
      · exact .inr ⟨x, List.mem_cons_of_mem _ hx, h⟩
    · rintro (h | ⟨x, hx, h⟩)
      · exact .inl (.inl h)
      · rcases List.mem_cons.mp hx with rfl | hx
        · exact .inl (.inr h)
        · exact .inr ⟨x, hx, h⟩
theorem nbs_small : ∀ (ws : List Way) (near : List Adj) (k : Nat), (∀ w ∈ ws, w.1 < w.2.1) → (∀ u, (near.getD u []).length ≤ k) → ∀ u, ((ws.foldl nbStep near).getD u []).length ≤ k + ws.length
  | [], near, k, _, h, u => h u
  | w :: ws, near, k, hw, h, u => by
    have := nbs_small ws (nbStep near w) (k + 1) (fun v hv => hw v (List.mem_cons_of_mem _ hv)) (nbStep_small (hw w (List.mem_cons_self ..)) h) u
    rw [List.foldl_cons, List.length_cons]
    omega
theorem neighbors_eq {n : Nat} {ps rest : List D} {ws : List Way} (F : FilmOk n ps rest) (hn : n ≤ 1000) (hw : ∀ w ∈ ws, w.1 < w.2.1 ∧ w.2.1 < n) (few : ws.length ≤ 40) :
    ∃ (near : List Adj) (outs : DSt), F_neighbors.run [filmD ps rest, .tup (ws.map encW)] = .ok (.lst (near.map encA)) outs ∧ near.length = n ∧ (∀ u, (near.getD u []).length ≤ 40) ∧ ∀ u, u < n → ∀ v m, (v, m) ∈ near.getD u [] ↔ Edge ws u v m := by
  have big : 1000 < sizeLine := by rw [sizeLine_eq]; decide
  let near0 : List Adj := ps.map fun _ => []
  have g0 : ∀ u, near0.getD u [] = [] := fun u => by
    rw [List.getD_eq_getElem?_getD, List.getElem?_map]
    cases ps[u]? <;> rfl
  have l0 : near0.length = n := by show (ps.map _).length = n; rw [List.length_map]; exact F.len
  obtain ⟨y4, y5, y6, h⟩ := nb_loop (film := some (filmD ps rest)) (ways := some (.tup (ws.map encW))) (x3 := none) ws near0 0 none none none hw l0 (fun u => by rw [g0]; exact Nat.le_refl _) (by omega)
  have hB : B_neighbors = (sSeq (sSet 2 (cComp [3] (pV 3) cYes (cLst aNil) (cIx (cVar 0) (cK (.int 0)))))
    (sSeq (sFor (pTup (pCons (pV 4) (pCons (pV 5) (pCons (pV 6) pNil)))) (cVar 1) Bnb) (sRet (cTake (some 2) (cVar 2))))) := rfl
  have hc : compRun (pV 3) cYes (cLst aNil) [3] ps [] [some (filmD ps rest), some (.tup (ws.map encW)), none, none, none, none, none] = .ok ([] ++ ps.map fun _ => .lst []) [some (filmD ps rest), some (.tup (ws.map encW)), none, none, none, none, none] :=
    compRun_pure fun d _ => ⟨[some (filmD ps rest), some (.tup (ws.map encW)), none, some d, none, none, none], [some (filmD ps rest), some (.tup (ws.map encW)), none, some d, none, none, none], by simp, by simp, rfl⟩
  have e0 : ps.map (fun _ => D.lst []) = near0.map encA := by
    show _ = (ps.map _).map encA
    rw [List.map_map]
    rfl
  rw [List.nil_append, e0] at hc
  have key : ∃ outs, F_neighbors.run [filmD ps rest, .tup (ws.map encW)] = .ok (.lst ((ws.foldl nbStep near0).map encA)) outs := by
    rw [F_neighbors, fn_run [2, 4, 5, 6] rfl, hB]
    have hl : ps.length ≤ sizeLine := by rw [F.len]; omega
    have i1 := F.i1
    have i2 := F.i2
    have hf : (cIx (cVar 0) (cK (.int 0))).run [some (filmD ps rest), some (.tup (ws.map encW)), none, none, none, none, none] = .ok (.tmp (.tup ps)) [some (filmD ps rest), some (.tup (ws.map encW)), none, none, none, none, none] := by
      simp [filmD, i1, i2, ixOf]
    have hcomp : (cComp [3] (pV 3) cYes (cLst aNil) (cIx (cVar 0) (cK (.int 0)))).run [some (filmD ps rest), some (.tup (ws.map encW)), none, none, none, none, none] = .ok (.tmp (.lst (near0.map encA))) [some (filmD ps rest), some (.tup (ws.map encW)), none, none, none, none, none] := by
      rw [run_comp, hf, bind_ok]
      simp [compOf, itemsOf, i1, loopOk, compEnd, hl, ownOk, subB, wipeD, hc, restore]
    show ∃ outs, finR 2 [2, 4, 5, 6] ((sSeq _ _).run [some (filmD ps rest), some (.tup (ws.map encW)), none, none, none, none, none]) = _
    rw [run_seq, run_set, hcomp]
    simp only [bindS_ok, setOf_tmp, List.length_cons, List.length_nil, Nat.reduceAdd, Nat.reduceLT, if_true, List.set_cons_succ, List.set_cons_zero]
    have hfor : (sFor (pTup (pCons (pV 4) (pCons (pV 5) (pCons (pV 6) pNil)))) (cVar 1) Bnb).run [some (filmD ps rest), some (.tup (ws.map encW)), some (.lst (near0.map encA)), none, none, none, none] = .nx [some (filmD ps rest), some (.tup (ws.map encW)), some (.lst ((ws.foldl nbStep near0).map encA)), none, y4, y5, y6] := by
      rw [run_for]
      simp [forOf, itemsOf, loopOk, h]
    rw [run_seq, hfor]
    simp
  obtain ⟨outs, key⟩ := key
  refine ⟨ws.foldl nbStep near0, outs, key, ?_, fun u => ?_, fun u hu v m => ?_⟩
  · have : ∀ (ws : List Way) (near : List Adj), (ws.foldl nbStep near).length = near.length := by
      intro ws
      induction ws with
      | nil => intro near; rfl
      | cons w ws ih => intro near; rw [List.foldl_cons, ih, nbStep_len]
    rw [this, l0]
  · have := nbs_small ws near0 0 (fun w h => (hw w h).1) (fun u => by rw [g0]; exact Nat.le_refl _) u
    omega
  · rw [nbs_mem ws near0 hw l0 u hu v m, g0]
    simp
end A2
end S_M5
section S_M6
set_option Elab.async false
set_option linter.all false
set_option maxRecDepth 100000
set_option maxHeartbeats 2000000
open PySem PySem.Spec L2
open PyProof.Rows hiding St
namespace A2
/-! ## all_distances, one turn -/
def encO : Option Int → D
  | none => .non
  | some d => .int d
@[simp] theorem imm_encO (x) : (encO x).imm = true := by cases x <;> rfl
@[simp] theorem isNon_encO (x) : isNon (encO x) = x.isNone := by cases x <;> rfl
theorem imms_encO : ∀ f : List (Option Int), D.imms (f.map encO) = true
  | [] => rfl
  | x :: f => by rw [List.map_cons, imms_cons, imm_encO, imms_encO f]; rfl
def encKV (p : Nat × Int) : D × D := (.int p.1, .int p.2)
def foundD (f : List (Option Int)) : D := .lst (f.map encO)
def waitD (w : Adj) : D := .dct (w.map encKV)
@[simp] theorem imm_foundD (f) : (foundD f).imm = false := rfl
@[simp] theorem imm_waitD (f) : (waitD f).imm = false := rfl
def lookW : Adj → Nat → Option Int
  | [], _ => none
  | (k, d) :: r, q => if k = q then some d else lookW r q
def setW : Adj → Nat → Int → Adj
  | [], q, d => [(q, d)]
  | (k, e) :: r, q, d => if k = q then (k, d) :: r else (k, e) :: setW r q d
def dropW (w : Adj) (q : Nat) : Adj := w.filter fun p => decide (p.1 ≠ q)
theorem lookD_W : ∀ (w : Adj) (q : Nat), lookD (w.map encKV) (.inl (q : Int)) = (lookW w q).map .int
  | [], q => rfl
  | (k, d) :: r, q => by
    show (if ((k : Nat) : Int) = (q : Int) then some (D.int d) else lookD (r.map encKV) (.inl (q : Int))) = (if k = q then some d else lookW r q).map .int
    rw [lookD_W r q]
    by_cases h : k = q
    · subst h; simp
    · rw [if_neg h, if_neg (by omega)]
theorem setD_W : ∀ (w : Adj) (q : Nat) (d : Int), setD (w.map encKV) (.inl (q : Int)) (.int d) = (setW w q d).map encKV
  | [], q, d => rfl
  | (k, e) :: r, q, d => by
    show (if ((k : Nat) : Int) = (q : Int) then (D.int k, D.int d) :: r.map encKV else (D.int k, D.int e) :: setD (r.map encKV) (.inl (q : Int)) (.int d)) = (if k = q then (k, d) :: r else (k, e) :: setW r q d).map encKV
    rw [setD_W r q d]
    by_cases h : k = q
    · subst h; simp [encKV]
    · rw [if_neg h, if_neg (by omega)]; rfl
theorem dropD_W : ∀ (w : Adj) (q : Nat), dropD (w.map encKV) (.inl (q : Int)) = (dropW w q).map encKV
  | [], q => rfl
  | (k, e) :: r, q => by
    show (if ((k : Nat) : Int) = (q : Int) then dropD (r.map encKV) (.inl (q : Int)) else (D.int k, D.int e) :: dropD (r.map encKV) (.inl (q : Int))) = _
    rw [dropD_W r q]
    unfold dropW
    by_cases h : k = q
    · subst h; simp
    · rw [if_neg (by omega), List.filter_cons, if_pos (by simpa using h)]; rfl
theorem setW_len : ∀ (w : Adj) (q : Nat) (d : Int), (setW w q d).length ≤ w.length + 1
  | [], q, d => Nat.le_refl _
  | (k, e) :: r, q, d => by
    unfold setW
    split
    · simp
    · have := setW_len r q d
      simp only [List.length_cons]
      omega
def relaxStep (f : List (Option Int)) (d : Int) (w : Adj) (p : Nat × Int) : Adj := if f.getD p.1 (some 0) = none ∧ d + p.2 < (lookW w p.1).getD (d + p.2 + 1) then setW w p.1 (d + p.2) else w
noncomputable def Brx : SC := (sIf (cAndT (cTst (cBin gIs (cIx (cVar 4) (cVar 9)) (cK .non))) (cTst (cBin gLtA (cBin gAdd (cVar 6) (cVar 10)) (cGet2 (cVar 5) (cVar 9) (cBin gAdd (cBin gAdd (cVar 6) (cVar 10)) (cK (.int 1))))))) (sSetIx 5 (cVar 5) (cVar 9) (cBin gAdd (cVar 6) (cVar 10))) sNil)
theorem ix_found {σ : DSt} {f : List (Option Int)} {u s : Nat} (hs : σ[s]? = some (some (foundD f))) (hu : u < f.length) : ixOf (.plc s []) (.tmp (.int (u : Int))) σ = .ok (.tmp (encO (f.getD u (some 0)))) σ := by
  have hg : (f.map encO)[u]? = some (encO (f.getD u (some 0))) := by
    rw [List.getElem?_map, List.getElem?_eq_getElem hu, List.getD_eq_getElem?_getD, List.getElem?_eq_getElem hu]
    rfl
  unfold ixOf
  simp only [get_plc, hs, getP_nil, get_tmp, foundD]
  rw [ixN_nat (by omega) (by rw [List.length_map]; omega)]
  simp only [Int.toNat_natCast, hg]
  unfold itemOf
  rw [if_pos (imm_encO _)]
theorem get2_W {σ : DSt} {w : Adj} {s u : Nat} {d : Int} (hs : σ[s]? = some (some (waitD w))) : get2Of (.plc s []) (.tmp (.int (u : Int))) (.tmp (.int d)) σ = .ok (.tmp (.int ((lookW w u).getD d))) σ := by
  unfold get2Of
  simp only [get_plc, hs, getP_nil, get_tmp, waitD, keyOf]
  rw [lookD_W]
  cases lookW w u <;> rfl
@[simp] theorem run_get2 {a b c σ} : (cGet2 a b c).run σ = run3 "dict" a b c get2Of σ := rfl
@[simp] theorem run_dpop {s a b σ} : (cDpop s a b).run σ = (a.run σ).bind fun x σ1 => if isK "dict" x σ1 = true then (b.run σ1).bind fun y σ2 => if stab x b.rw then dpopOf s x y σ2 else .bad else .bad := rfl
@[simp] theorem rw_get2 {a b c} : (cGet2 a b c).rw = a.rw ++ (b.rw ++ c.rw) := rfl
theorem isK_W {σ : DSt} {w : Adj} {s : Nat} (hs : σ[s]? = some (some (waitD w))) : isK "dict" (.plc s []) σ = true := by
  unfold isK
  simp only [get_plc, hs, getP_nil]
  rfl
theorem store_W {σ : DSt} {w : Adj} {s u : Nat} {d : Int} (hs : σ[s]? = some (some (waitD w))) (hl : w.length < sizeLine) : storeAt s (.tmp (.int d)) (.plc s []) (.tmp (.int (u : Int))) σ = some (σ.set s (some (waitD (setW w u d)))) := by
  unfold storeAt
  simp only [get_tmp, hs, getP_nil, waitD, storeD, keyOf, if_true, setP_nil]
  rw [if_pos (by rw [List.length_map]; exact hl), setD_W]
  rfl
theorem rx_turn {film ways place near now : Option D} {f : List (Option Int)} {w : Adj} {d : Int} {p : Nat × Int} (hp : p.1 < f.length) (hl : w.length < sizeLine) :
    Brx.run [film, ways, place, near, some (foundD f), some (waitD w), some (.int d), now, none, some (.int p.1), some (.int p.2)] = .nx [film, ways, place, near, some (foundD f), some (waitD (relaxStep f d w p)), some (.int d), now, none, some (.int p.1), some (.int p.2)] := by
  have i1 := ix_found (σ := [film, ways, place, near, some (foundD f), some (waitD w), some (.int d), now, none, some (.int p.1), some (.int p.2)]) (s := 4) rfl hp
  have g1 := get2_W (σ := [film, ways, place, near, some (foundD f), some (waitD w), some (.int d), now, none, some (.int p.1), some (.int p.2)]) (s := 5) (u := p.1) (d := d + p.2 + 1) rfl
  have k1 := isK_W (σ := [film, ways, place, near, some (foundD f), some (waitD w), some (.int d), now, none, some (.int p.1), some (.int p.2)]) (s := 5) rfl
  have s1 := store_W (σ := [film, ways, place, near, some (foundD f), some (waitD w), some (.int d), now, none, some (.int p.1), some (.int p.2)]) (s := 5) (u := p.1) (d := d + p.2) rfl hl
  unfold relaxStep
  generalize f.getD p.1 (some 0) = v at i1 ⊢
  cases v with
  | none =>
    by_cases h2 : d + p.2 < (lookW w p.1).getD (d + p.2 + 1)
    · rw [if_pos ⟨rfl, h2⟩]
      simp [Brx, i1, run3, k1, g1, h2, s1, encO]
    · rw [if_neg fun z => h2 z.2]
      simp [Brx, i1, run3, k1, g1, h2, encO]
  | some e =>
    rw [if_neg fun z => by cases z.1]
    simp [Brx, i1, encO]
theorem relaxStep_len {f d w p} : (relaxStep f d w p).length ≤ w.length + 1 := by
  unfold relaxStep
  split
  · exact setW_len _ _ _
  · omega
theorem rx_loop {film ways place near now : Option D} {f : List (Option Int)} {d : Int} : ∀ (l : Adj) (w : Adj) (x9 x10 : Option D), (∀ p ∈ l, p.1 < f.length) → w.length + l.length < sizeLine →
    ∃ y9 y10, forRun (pTup (pCons (pV 9) (pCons (pV 10) pNil))) Brx (l.map encP) [film, ways, place, near, some (foundD f), some (waitD w), some (.int d), now, none, x9, x10] = .nx [film, ways, place, near, some (foundD f), some (waitD (l.foldl (relaxStep f d) w)), some (.int d), now, none, y9, y10]
  | [], w, x9, x10, _, _ => ⟨_, _, rfl⟩
  | p :: l, w, x9, x10, hp, hl => by
    simp only [List.length_cons] at hl
    have hr := relaxStep_len (f := f) (d := d) (w := w) (p := p)
    obtain ⟨y9, y10, ih⟩ := rx_loop (film := film) (ways := ways) (place := place) (near := near) (now := now) l (relaxStep f d w p) (some (.int p.1)) (some (.int p.2)) (fun q hq => hp q (List.mem_cons_of_mem _ hq)) (by omega)
    refine ⟨y9, y10, ?_⟩
    show forRun _ Brx (D.tup [.int p.1, .int p.2] :: l.map encP) _ = _
    rw [forRun_nx (tg2 (by simp) (by simp)) (rx_turn (hp p (List.mem_cons_self ..)) (by omega))]
    exact ih
/-! the least of what waits -/
def rowK (p : Nat × Int) : List Int := [p.2, p.1]
theorem lookW_mem : ∀ {w : Adj} {k : Nat} {d : Int}, (w.map (·.1)).Nodup → (k, d) ∈ w → lookW w k = some d
  | (k0, d0) :: r, k, d, hn, h => by
    have hn' := List.nodup_cons.mp hn
    unfold lookW
    rcases List.mem_cons.mp h with h | h
    · cases h; rw [if_pos rfl]
    · have : k0 ≠ k := fun z => hn'.1 (List.mem_map.mpr ⟨(k, d), h, z.symm⟩)
      rw [if_neg this]
      exact lookW_mem hn'.2 h
theorem keys_W (w : Adj) : (w.map encKV).map (·.1) = w.map fun p => D.int p.1 := by
  rw [List.map_map]; rfl
def fK (w : Adj) (d : D) : D := match d with
  | .int k => (match lookW w k.toNat with
    | some v => tupI [v, k]
    | none => .non)
  | _ => .non
theorem fK_map {w : Adj} (hn : (w.map (·.1)).Nodup) : (w.map fun p => D.int p.1).map (fK w) = (w.map rowK).map tupI := by
  rw [List.map_map, List.map_map]
  refine List.map_congr_left fun p hp => ?_
  show fK w (.int p.1) = tupI (rowK p)
  unfold fK
  simp only [Int.toNat_natCast]
  rw [lookW_mem hn hp]
  rfl
noncomputable def cMn : EC := (cFn gMinL (aCons (cCompK 5 [8] (pV 8) cYes (cTup (aCons (cIx (cVar 5) (cVar 8)) (aCons (cVar 8) aNil)))) aNil))
theorem cln_rows : ∀ rs : List (List Int), D.clns (rs.map tupI) = true
  | [] => rfl
  | r :: rs => by
    have h : (tupI r).cln = true := by
      show D.clns (r.map .int) = true
      induction r with
      | nil => rfl
      | cons a r ih => exact ih
    show ((tupI r).cln && D.clns (rs.map tupI)) = true
    rw [h, cln_rows rs]
    rfl
theorem min_run {film ways place near found x6 x7 x9 x10 : Option D} {w : Adj} (hn : (w.map (·.1)).Nodup) (hw : w ≠ []) (hl : w.length ≤ sizeLine) :
    ∃ q ∈ w, (∀ p ∈ w, q.2 ≤ p.2) ∧ cMn.run [film, ways, place, near, found, some (waitD w), x6, x7, none, x9, x10] = .ok (.tmp (.tup [.int q.2, .int q.1])) [film, ways, place, near, found, some (waitD w), x6, x7, none, x9, x10] := by
  obtain ⟨p0, w', rfl⟩ : ∃ p0 w', w = p0 :: w' := by
    cases w with
    | nil => exact absurd rfl hw
    | cons a b => exact ⟨a, b, rfl⟩
  have hmem := minI_mem (w'.map rowK) (rowK p0)
  rw [← List.map_cons] at hmem
  obtain ⟨q, hq, eq⟩ := List.mem_map.mp hmem
  have hle := minI_le (n := 2) (w'.map rowK) (rowK p0) (fun y hy => by
    rw [← List.map_cons] at hy
    obtain ⟨p, _, rfl⟩ := List.mem_map.mp hy
    rfl)
  refine ⟨q, hq, fun p hp => ?_, ?_⟩
  · have := hle (rowK p) (by rw [← List.map_cons]; exact List.mem_map.mpr ⟨p, hp, rfl⟩)
    rw [← eq] at this
    simp [ltI, rowK] at this
    omega
  · have hc : compRun (pV 8) cYes (cTup (aCons (cIx (cVar 5) (cVar 8)) (aCons (cVar 8) aNil))) [8] ((p0 :: w').map fun p => D.int p.1) [] [film, ways, place, near, found, some (.fdct ((p0 :: w').map encKV)), x6, x7, none, x9, x10] = .ok ([] ++ ((p0 :: w').map fun p => D.int p.1).map (fK (p0 :: w'))) [film, ways, place, near, found, some (.fdct ((p0 :: w').map encKV)), x6, x7, none, x9, x10] :=
      compRun_pure fun d hd => by
        obtain ⟨p, hp, rfl⟩ := List.mem_map.mp hd
        refine ⟨[film, ways, place, near, found, some (.fdct ((p0 :: w').map encKV)), x6, x7, some (.int p.1), x9, x10], [film, ways, place, near, found, some (.fdct ((p0 :: w').map encKV)), x6, x7, some (.int p.1), x9, x10], by simp, ?_, rfl⟩
        have hk : lookD ((p0 :: w').map encKV) (.inl (p.1 : Int)) = some (.int p.2) := by rw [lookD_W, lookW_mem hn hp]; rfl
        have hi : ixOf (.plc 5 []) (.tmp (.int (p.1 : Int))) [film, ways, place, near, found, some (.fdct ((p0 :: w').map encKV)), x6, x7, some (.int p.1), x9, x10] = .ok (.tmp (.int p.2)) [film, ways, place, near, found, some (.fdct ((p0 :: w').map encKV)), x6, x7, some (.int p.1), x9, x10] := by
          unfold ixOf
          simp only [get_plc, get_tmp, List.getElem?_cons_succ, List.getElem?_cons_zero, getP_nil, keyOf, hk]
          rfl
        have hf : fK (p0 :: w') (.int p.1) = .tup [.int p.2, .int p.1] := by
          unfold fK
          simp only [Int.toNat_natCast]
          rw [lookW_mem hn hp]
          rfl
        rw [hf]
        clear hk
        generalize (p0 :: w').map encKV = KV at hi ⊢
        simp [hi]
    rw [List.nil_append, fK_map hn] at hc
    have hk : compKOf 5 (pV 8) cYes (cTup (aCons (cIx (cVar 5) (cVar 8)) (aCons (cVar 8) aNil))) [8] [film, ways, place, near, found, some (waitD (p0 :: w')), x6, x7, none, x9, x10] = .ok (.tmp (.lst (((p0 :: w').map rowK).map tupI))) [film, ways, place, near, found, some (waitD (p0 :: w')), x6, x7, none, x9, x10] := by
      unfold compKOf
      simp only [List.getElem?_cons_succ, List.getElem?_cons_zero, waitD]
      rw [if_pos ⟨by
        refine List.all_eq_true.mpr fun kv hkv => ?_
        obtain ⟨p, _, rfl⟩ := List.mem_map.mp hkv
        rfl, rfl, by decide⟩]
      rw [keys_W]
      unfold compEnd
      rw [if_pos ⟨by rw [List.length_map]; exact hl, rfl, rfl, rfl⟩]
      simp only [wipeD, List.set_cons_succ, List.set_cons_zero]
      rw [hc]
      simp only []
      rw [if_pos (show (D.lst (((p0 :: w').map rowK).map tupI)).cln = true from cln_rows _)]
    have hb := best_rows (rowK p0) (w'.map rowK)
    show (cFn gMinL _).run _ = _
    rw [run_fn, run_consA]
    show ((compKOf 5 (pV 8) cYes (cTup (aCons (cIx (cVar 5) (cVar 8)) (aCons (cVar 8) aNil))) [8] [film, ways, place, near, found, some (waitD (p0 :: w')), x6, x7, none, x9, x10]).bind _).bind _ = _
    rw [hk]
    simp only [bind_ok, run_nilA, stab_tmp, if_true, finA_eq, getAll_cons, getAll_nil, get_tmp, List.map_cons, hb]
    rw [← eq]
    rfl
end A2
end S_M6
section S_M7
set_option Elab.async false
set_option linter.all false
set_option maxRecDepth 100000
set_option maxHeartbeats 2000000
open PySem PySem.Spec L2
open PyProof.Rows hiding St
namespace A2
/-! ## all_distances: the plain law -/
theorem setW_keys : ∀ (w : Adj) (q : Nat) (x : Int), ∀ k, k ∈ (setW w q x).map (·.1) ↔ k = q ∨ k ∈ w.map (·.1)
  | [], q, x, k => by simp [setW]
  | (a, e) :: r, q, x, k => by
    unfold setW
    split
    · rename_i h
      subst h
      simp
    · have := setW_keys r q x k
      simp only [List.map_cons, List.mem_cons, this]
      constructor <;> intro h <;> rcases h with h | h | h <;> simp [h]
theorem setW_nodup : ∀ (w : Adj) (q : Nat) (x : Int), (w.map (·.1)).Nodup → ((setW w q x).map (·.1)).Nodup
  | [], q, x, _ => by simp [setW]
  | (a, e) :: r, q, x, h => by
    have h' := List.nodup_cons.mp h
    unfold setW
    split
    · exact h
    · rename_i ne
      refine List.nodup_cons.mpr ⟨fun z => ?_, setW_nodup r q x h'.2⟩
      rcases (setW_keys r q x a).mp z with z | z
      · exact ne z
      · exact h'.1 z
theorem setW_new : ∀ (w : Adj) (q : Nat) (x : Int), (q, x) ∈ setW w q x
  | [], q, x => List.mem_singleton.mpr rfl
  | (a, e) :: r, q, x => by
    unfold setW
    split
    · rename_i h
      subst h
      exact List.mem_cons_self ..
    · exact List.mem_cons_of_mem _ (setW_new r q x)
theorem setW_old : ∀ (w : Adj) (q : Nat) (x : Int) (v : Nat) (e : Int), v ≠ q → (v, e) ∈ w → (v, e) ∈ setW w q x
  | (a, b) :: r, q, x, v, e, ne, h => by
    unfold setW
    rcases List.mem_cons.mp h with h | h
    · cases h
      rw [if_neg ne]
      exact List.mem_cons_self ..
    · split
      · exact List.mem_cons_of_mem _ h
      · exact List.mem_cons_of_mem _ (setW_old r q x v e ne h)
theorem setW_from : ∀ (w : Adj) (q : Nat) (x : Int) (p : Nat × Int), p ∈ setW w q x → p = (q, x) ∨ p ∈ w
  | [], q, x, p, h => .inl (List.mem_singleton.mp h)
  | (a, b) :: r, q, x, p, h => by
    unfold setW at h
    split at h
    · rename_i e
      subst e
      rcases List.mem_cons.mp h with h | h
      · exact .inl h
      · exact .inr (List.mem_cons_of_mem _ h)
    · rcases List.mem_cons.mp h with h | h
      · exact .inr (by rw [h]; exact List.mem_cons_self ..)
      · exact (setW_from r q x p h).imp id fun z => List.mem_cons_of_mem _ z
theorem lookW_some : ∀ {w : Adj} {k : Nat} {d : Int}, lookW w k = some d → (k, d) ∈ w
  | (a, b) :: r, k, d, h => by
    unfold lookW at h
    split at h
    · rename_i e
      subst e
      cases h
      exact List.mem_cons_self ..
    · exact List.mem_cons_of_mem _ (lookW_some h)
abbrev at' (f : List (Option Int)) (v : Nat) : Option Int := f.getD v none
theorem getD_both {f : List (Option Int)} {v : Nat} (h : v < f.length) (x y : Option Int) : f.getD v x = f.getD v y := by
  rw [List.getD_eq_getElem?_getD, List.getD_eq_getElem?_getD, List.getElem?_eq_getElem h]
  rfl
structure RxS (f : List (Option Int)) (d : Int) (l w w' : Adj) : Prop where
  nod : (w'.map (·.1)).Nodup
  frm : ∀ p ∈ w', p ∈ w ∨ (at' f p.1 = none ∧ ∃ m, (p.1, m) ∈ l ∧ p.2 = d + m)
  old : ∀ v e, (v, e) ∈ w → ∃ e', e' ≤ e ∧ (v, e') ∈ w'
  new : ∀ v m, (v, m) ∈ l → at' f v = none → ∃ e', e' ≤ d + m ∧ (v, e') ∈ w'
theorem rx_spec {f : List (Option Int)} {d : Int} : ∀ (l w : Adj), (∀ p ∈ l, p.1 < f.length) → (w.map (·.1)).Nodup → RxS f d l w (l.foldl (relaxStep f d) w)
  | [], w, _, hn => ⟨hn, fun p h => .inl h, fun v e h => ⟨e, Int.le_refl _, h⟩, fun v m h => nomatch h⟩
  | (u, m) :: l, w, hl, hn => by
    have hu : u < f.length := hl (u, m) (List.mem_cons_self ..)
    have one : RxS f d [(u, m)] w (relaxStep f d w (u, m)) := by
      unfold relaxStep
      dsimp only
      split
      · rename_i hc
        obtain ⟨c1, c2⟩ := hc
        have c1' : at' f u = none := (getD_both hu _ _).trans c1
        refine ⟨setW_nodup _ _ _ hn, fun p hp => ?_, fun v e hv => ?_, fun v m' hv _ => ?_⟩
        · rcases setW_from _ _ _ _ hp with rfl | hp
          · exact .inr ⟨c1', m, List.mem_singleton.mpr rfl, rfl⟩
          · exact .inl hp
        · by_cases e1 : v = u
          · subst e1
            rw [lookW_mem hn hv] at c2
            exact ⟨d + m, by simpa using Int.le_of_lt c2, setW_new _ _ _⟩
          · exact ⟨e, Int.le_refl _, setW_old _ _ _ _ _ e1 hv⟩
        · cases List.mem_singleton.mp hv
          exact ⟨d + m, Int.le_refl _, setW_new _ _ _⟩
      · rename_i hc
        refine ⟨hn, fun p hp => .inl hp, fun v e hv => ⟨e, Int.le_refl _, hv⟩, fun v m' hv hf => ?_⟩
        cases List.mem_singleton.mp hv
        have c1 : f.getD u (some 0) = none := (getD_both hu _ _).trans hf
        have c2 : ¬ d + m < (lookW w u).getD (d + m + 1) := fun z => hc ⟨c1, z⟩
        cases hlk : lookW w u with
        | none =>
          rw [hlk] at c2
          simp at c2
          omega
        | some e =>
          rw [hlk] at c2
          simp at c2
          exact ⟨e, c2, lookW_some hlk⟩
    have ih := rx_spec (f := f) (d := d) l (relaxStep f d w (u, m)) (fun p hp => hl p (List.mem_cons_of_mem _ hp)) one.nod
    refine ⟨ih.nod, fun p hp => ?_, fun v e hv => ?_, fun v m' hv hf => ?_⟩
    · rcases ih.frm p hp with h | ⟨h1, m', h2, h3⟩
      · rcases one.frm p h with h | ⟨h1, m', h2, h3⟩
        · exact .inl h
        · refine .inr ⟨h1, m', ?_, h3⟩
          rw [List.mem_singleton.mp h2]
          exact List.mem_cons_self ..
      · exact .inr ⟨h1, m', List.mem_cons_of_mem _ h2, h3⟩
    · obtain ⟨e1, l1, h1⟩ := one.old v e hv
      obtain ⟨e2, l2, h2⟩ := ih.old v e1 h1
      exact ⟨e2, Int.le_trans l2 l1, h2⟩
    · rcases List.mem_cons.mp hv with h | h
      · obtain ⟨e1, l1, h1⟩ := one.new v m' (List.mem_singleton.mpr h) hf
        obtain ⟨e2, l2, h2⟩ := ih.old v e1 h1
        exact ⟨e2, Int.le_trans l2 l1, h2⟩
      · exact ih.new v m' h hf
/-- between two turns -/
structure DInv (n src : Nat) (E : Nat → Nat → Int → Prop) (f : List (Option Int)) (w : Adj) : Prop where
  len : f.length = n
  nod : (w.map (·.1)).Nodup
  kn : ∀ p ∈ w, p.1 < n ∧ at' f p.1 = none
  fa : ∀ v d, at' f v = some d → (v = src ∧ d = 0) ∨ ∃ u e m, E u v m ∧ at' f u = some e ∧ d = e + m
  wa : ∀ p ∈ w, (p.1 = src ∧ p.2 = 0) ∨ ∃ u e m, E u p.1 m ∧ at' f u = some e ∧ p.2 = e + m
  cl : ∀ u d v m, at' f u = some d → E u v m → (∃ e, at' f v = some e ∧ e ≤ d + m) ∨ ∃ e, (v, e) ∈ w ∧ e ≤ d + m
  le : ∀ u d p, at' f u = some d → p ∈ w → d ≤ p.2
  so : at' f src = some 0 ∨ (src, 0) ∈ w
  nn : ∀ p ∈ w, 0 ≤ p.2
  n0 : ∀ v d, at' f v = some d → 0 ≤ d
theorem at_set {f : List (Option Int)} {u v : Nat} {d : Int} (hu : u < f.length) : at' (f.set u (some d)) v = if v = u then some d else at' f v := by
  unfold at'
  rw [List.getD_eq_getElem?_getD, List.getD_eq_getElem?_getD]
  by_cases h : v = u
  · subst h
    rw [if_pos rfl, List.getElem?_set_self hu]
    rfl
  · rw [if_neg h, List.getElem?_set_ne (Ne.symm h)]
theorem mem_dropW {w : Adj} {q : Nat} {p : Nat × Int} : p ∈ dropW w q ↔ p ∈ w ∧ p.1 ≠ q := by
  unfold dropW
  rw [List.mem_filter]
  simp
theorem nodup_key {w : Adj} (h : (w.map (·.1)).Nodup) {k : Nat} {a b : Int} (h1 : (k, a) ∈ w) (h2 : (k, b) ∈ w) : a = b := by
  have e1 := lookW_mem h h1
  have e2 := lookW_mem h h2
  rw [e1] at e2
  exact Option.some.inj e2
theorem DInv.step {n src : Nat} {E : Nat → Nat → Int → Prop} {f : List (Option Int)} {w : Adj} {q : Nat × Int} {l : Adj} (I : DInv n src E f w) (hE : ∀ u v m, E u v m → v < n ∧ 0 ≤ m) (hl : ∀ v m, (v, m) ∈ l ↔ E q.1 v m) (hq : q ∈ w) (hmin : ∀ p ∈ w, q.2 ≤ p.2) :
    DInv n src E (f.set q.1 (some q.2)) (l.foldl (relaxStep (f.set q.1 (some q.2)) q.2) (dropW w q.1)) := by
  obtain ⟨qn, qf⟩ := I.kn q hq
  have hu : q.1 < f.length := by rw [I.len]; exact qn
  have hlen : (f.set q.1 (some q.2)).length = n := by rw [List.length_set]; exact I.len
  have hdn : ((dropW w q.1).map (·.1)).Nodup := by
    unfold dropW
    exact List.Nodup.sublist (List.Sublist.map _ List.filter_sublist) I.nod
  have hll : ∀ p ∈ l, p.1 < (f.set q.1 (some q.2)).length := fun p hp => by
    rw [hlen]
    exact (hE q.1 p.1 p.2 ((hl p.1 p.2).mp hp)).1
  have S := rx_spec (f := f.set q.1 (some q.2)) (d := q.2) l (dropW w q.1) hll hdn
  have fs : ∀ v, at' (f.set q.1 (some q.2)) v = if v = q.1 then some q.2 else at' f v := fun v => at_set hu
  have up : ∀ u e, at' f u = some e → at' (f.set q.1 (some q.2)) u = some e := fun u e h => by
    rw [fs, if_neg fun z => ?_]
    · exact h
    · rw [z, qf] at h
      cases h
  have nonn : ∀ v, at' (f.set q.1 (some q.2)) v = none → v ≠ q.1 ∧ at' f v = none := fun v h => by
    rw [fs] at h
    split at h
    · cases h
    · rename_i ne
      exact ⟨ne, h⟩
  refine ⟨hlen, S.nod, fun p hp => ?_, fun v d h => ?_, fun p hp => ?_, fun u d v m h he => ?_, fun u d p h hp => ?_, ?_, fun p hp => ?_, fun v d h => ?_⟩
  · rcases S.frm p hp with h | ⟨h1, m, h2, h3⟩
    · obtain ⟨h1, h2⟩ := mem_dropW.mp h
      obtain ⟨k1, k2⟩ := I.kn p h1
      exact ⟨k1, by rw [fs, if_neg h2]; exact k2⟩
    · exact ⟨(hE _ _ _ ((hl _ _).mp h2)).1, h1⟩
  · rw [fs] at h
    split at h
    · rename_i e
      subst e
      cases h
      rcases I.wa q hq with h | ⟨u, e, m, h1, h2, h3⟩
      · exact .inl h
      · exact .inr ⟨u, e, m, h1, up u e h2, h3⟩
    · rcases I.fa v d h with h | ⟨u, e, m, h1, h2, h3⟩
      · exact .inl h
      · exact .inr ⟨u, e, m, h1, up u e h2, h3⟩
  · rcases S.frm p hp with h | ⟨h1, m, h2, h3⟩
    · obtain ⟨h1, _⟩ := mem_dropW.mp h
      rcases I.wa p h1 with h | ⟨u, e, m, h1, h2, h3⟩
      · exact .inl h
      · exact .inr ⟨u, e, m, h1, up u e h2, h3⟩
    · exact .inr ⟨q.1, q.2, m, (hl _ _).mp h2, by rw [fs, if_pos rfl], h3⟩
  · rw [fs] at h
    split at h
    · rename_i e1
      subst e1
      cases h
      cases hv : at' (f.set q.1 (some q.2)) v with
      | none =>
        obtain ⟨e', l1, h1⟩ := S.new v m ((hl v m).mpr he) hv
        exact .inr ⟨e', h1, l1⟩
      | some e =>
        refine .inl ⟨e, rfl, ?_⟩
        have m0 := (hE _ _ _ he).2
        rw [fs] at hv
        split at hv
        · cases hv
          omega
        · have := I.le v e q hv hq
          omega
    · rcases I.cl u d v m h he with ⟨e, h1, h2⟩ | ⟨e, h1, h2⟩
      · exact .inl ⟨e, up v e h1, h2⟩
      · by_cases ev : v = q.1
        · subst ev
          refine .inl ⟨q.2, by rw [fs, if_pos rfl], ?_⟩
          rw [nodup_key I.nod hq h1]
          exact h2
        · obtain ⟨e', l1, h3⟩ := S.old v e (mem_dropW.mpr ⟨h1, ev⟩)
          exact .inr ⟨e', h3, by omega⟩
  · have key : d ≤ q.2 := by
      rw [fs] at h
      split at h
      · cases h; exact Int.le_refl _
      · exact I.le u d q h hq
    rcases S.frm p hp with h1 | ⟨h1, m, h2, h3⟩
    · have := hmin p (mem_dropW.mp h1).1
      omega
    · have := (hE _ _ _ ((hl _ _).mp h2)).2
      omega
  · rcases I.so with h | h
    · exact .inl (up _ _ h)
    · by_cases e : src = q.1
      · left
        rw [e, fs, if_pos rfl]
        rw [e] at h
        rw [nodup_key I.nod hq h]
      · obtain ⟨e', l1, h3⟩ := S.old src 0 (mem_dropW.mpr ⟨h, e⟩)
        -- the entry of src stays 0: it comes from the old one
        rcases S.frm _ h3 with h4 | ⟨h4, m, h5, h6⟩
        · have := nodup_key I.nod (mem_dropW.mp h4).1 h
          subst this
          exact .inr h3
        · have m0 := (hE _ _ _ ((hl _ _).mp h5)).2
          have q0 := hmin _ h
          dsimp only at h6 q0
          have qn0 := I.nn q hq
          have : e' = 0 := by omega
          subst this
          exact .inr h3
  · rcases S.frm p hp with h | ⟨_, m, h2, h3⟩
    · exact I.nn p (mem_dropW.mp h).1
    · have a1 := I.nn q hq
      have a2 := (hE _ _ _ ((hl _ _).mp h2)).2
      omega
  · rw [fs] at h
    split at h
    · cases h
      exact I.nn q hq
    · exact I.n0 v d h
end A2
end S_M7
section S_M8
set_option Elab.async false
set_option linter.all false
set_option maxRecDepth 100000
set_option maxHeartbeats 2000000
open PySem PySem.Spec L2
open PyProof.Rows hiding St
namespace A2
/-! ## all_distances, joined -/
noncomputable def Bdj : SC := (sSeq (sAsg (pTup (pCons (pV 6) (pCons (pV 7) pNil))) cMn) (sSeq (sExpr (cDpop 5 (cVar 5) (cVar 7))) (sSeq (sSetIx 4 (cVar 4) (cVar 7) (cVar 6)) (sFor (pTup (pCons (pV 9) (pCons (pV 10) pNil))) (cIx (cVar 3) (cVar 7)) Brx))))
theorem run_while {t b σ} : (sWhile t b).run σ = whileRun t b σ := rfl
theorem pop_W {σ : DSt} {w : Adj} {s u : Nat} {d : Int} (hs : σ[s]? = some (some (waitD w))) (h : lookW w u = some d) : dpopOf s (.plc s []) (.tmp (.int (u : Int))) σ = .ok (.tmp (.int d)) (σ.set s (some (waitD (dropW w u)))) := by
  unfold dpopOf
  simp only [get_tmp, if_true, hs, keyOf, getP_nil, waitD]
  rw [lookD_W, h]
  simp only [Option.map_some, imm_int, if_true, setP_nil, dropD_W]
theorem store_F {σ : DSt} {f : List (Option Int)} {s u : Nat} {d : Int} (hs : σ[s]? = some (some (foundD f))) (hu : u < f.length) : storeAt s (.tmp (.int d)) (.plc s []) (.tmp (.int (u : Int))) σ = some (σ.set s (some (foundD (f.set u (some d))))) := by
  unfold storeAt
  simp only [get_tmp, hs, getP_nil, foundD, storeD, if_true, setP_nil]
  rw [ixN_nat (by omega) (by rw [List.length_map]; omega)]
  simp only [Option.map_some, Int.toNat_natCast, List.map_set]
  rfl
theorem imms_adj : ∀ l : Adj, D.imms (l.map encP) = true
  | [] => rfl
  | x :: l => imms_adj l
theorem fold_len {f : List (Option Int)} {d : Int} : ∀ (l w : Adj), (l.foldl (relaxStep f d) w).length ≤ w.length + l.length
  | [], w => Nat.le_refl _
  | p :: l, w => by
    have h1 := fold_len (f := f) (d := d) l (relaxStep f d w p)
    have h2 := relaxStep_len (f := f) (d := d) (w := w) (p := p)
    rw [List.foldl_cons, List.length_cons]
    omega
theorem dj_turn {film ways place x6 x7 x9 x10 : Option D} {near : List Adj} {n src : Nat} {E : Nat → Nat → Int → Prop} {f : List (Option Int)} {w : Adj} (I : DInv n src E f w) (hn : near.length = n) (hs : ∀ u, (near.getD u []).length ≤ 40) (hm : ∀ u, u < n → ∀ v m, (v, m) ∈ near.getD u [] ↔ E u v m) (hE : ∀ u v m, E u v m → v < n ∧ 0 ≤ m) (hw : w ≠ []) (hl : w.length ≤ 900000) :
    ∃ f' w' y6 y7 y9 y10, Bdj.run [film, ways, place, some (.lst (near.map encA)), some (foundD f), some (waitD w), x6, x7, none, x9, x10] = .nx [film, ways, place, some (.lst (near.map encA)), some (foundD f'), some (waitD w'), y6, y7, none, y9, y10] ∧ DInv n src E f' w' ∧ f'.countP Option.isNone + 1 = f.countP Option.isNone ∧ w'.length ≤ w.length + 40 := by
  have big := size_big
  obtain ⟨q, hq, hmin, hr⟩ := min_run (film := film) (ways := ways) (place := place) (near := some (.lst (near.map encA))) (found := some (foundD f)) (x6 := x6) (x7 := x7) (x9 := x9) (x10 := x10) I.nod hw (by omega)
  obtain ⟨qn, qf⟩ := I.kn q hq
  have hu : q.1 < f.length := by rw [I.len]; exact qn
  have hdl : (dropW w q.1).length ≤ w.length := List.length_filter_le ..
  have hsl := hs q.1
  obtain ⟨y9, y10, hloop⟩ := rx_loop (film := film) (ways := ways) (place := place) (near := some (.lst (near.map encA))) (now := some (.int q.1)) (f := f.set q.1 (some q.2)) (d := q.2) (near.getD q.1 []) (dropW w q.1) x9 x10 (fun p hp => by
    rw [List.length_set, I.len]
    exact (hE _ _ _ ((hm _ qn p.1 p.2).mp hp)).1) (by omega)
  refine ⟨f.set q.1 (some q.2), (near.getD q.1 []).foldl (relaxStep (f.set q.1 (some q.2)) q.2) (dropW w q.1), some (.int q.2), some (.int q.1), y9, y10, ?_, I.step hE (hm _ qn) hq hmin, ?_, ?_⟩
  · have p1 := pop_W (σ := [film, ways, place, some (.lst (near.map encA)), some (foundD f), some (waitD w), some (.int q.2), some (.int q.1), none, x9, x10]) (s := 5) rfl (lookW_mem I.nod hq)
    have k1 := isK_W (σ := [film, ways, place, some (.lst (near.map encA)), some (foundD f), some (waitD w), some (.int q.2), some (.int q.1), none, x9, x10]) (s := 5) rfl
    have s1 := store_F (σ := [film, ways, place, some (.lst (near.map encA)), some (foundD f), some (waitD (dropW w q.1)), some (.int q.2), some (.int q.1), none, x9, x10]) (s := 4) (d := q.2) rfl hu
    have i1 := ix_near (σ := [film, ways, place, some (.lst (near.map encA)), some (foundD (f.set q.1 (some q.2))), some (waitD (dropW w q.1)), some (.int q.2), some (.int q.1), none, x9, x10]) (near := near) (u := q.1) (s := 3) rfl (by omega)
    have hg : (near.map encA)[q.1]? = some (encA (near.getD q.1 [])) := by
      rw [List.getElem?_map, List.getElem?_eq_getElem (by omega), List.getD_eq_getElem?_getD, List.getElem?_eq_getElem (by omega)]
      rfl
    have t1 : (pTup (pCons (pV 6) (pCons (pV 7) pNil))).run (.tup [.int q.2, .int q.1]) [film, ways, place, some (.lst (near.map encA)), some (foundD f), some (waitD w), x6, x7, none, x9, x10] = some [film, ways, place, some (.lst (near.map encA)), some (foundD f), some (waitD w), some (.int q.2), some (.int q.1), none, x9, x10] := tg2 (by simp) (by simp)
    unfold Bdj
    rw [run_seq, run_asg, hr, bindS_ok, asgOf_tmp, t1]
    have hfor : forOf (pTup (pCons (pV 9) (pCons (pV 10) pNil))) Brx (.plc 3 [.ix q.1]) [film, ways, place, some (.lst (near.map encA)), some (foundD (f.set q.1 (some q.2))), some (waitD (dropW w q.1)), some (.int q.2), some (.int q.1), none, x9, x10] = .nx [film, ways, place, some (.lst (near.map encA)), some (foundD (f.set q.1 (some q.2))), some (waitD ((near.getD q.1 []).foldl (relaxStep (f.set q.1 (some q.2)) q.2) (dropW w q.1))), some (.int q.2), some (.int q.1), none, y9, y10] := by
      unfold forOf
      simp only [get_plc, List.getElem?_cons_succ, List.getElem?_cons_zero, getP_ix, hg, getP_nil, encA, itemsOf, imms_adj, if_true]
      rw [if_pos (show loopOk _ (.plc 3 [.ix q.1]) = true from rfl)]
      exact hloop
    simp [p1, k1, s1, i1, hfor]
  · have h1 := List.countP_set (p := Option.isNone) (a := some q.2) hu
    have h2 : f[q.1] = none := by
      have : at' f q.1 = none := qf
      unfold at' at this
      rw [List.getD_eq_getElem?_getD, List.getElem?_eq_getElem hu] at this
      exact this
    have h3 : 0 < f.countP Option.isNone := List.countP_pos_iff.mpr ⟨f[q.1], List.getElem_mem hu, by rw [h2]; rfl⟩
    rw [h2] at h1
    simp at h1
    omega
  · have := fold_len (f := f.set q.1 (some q.2)) (d := q.2) (near.getD q.1 []) (dropW w q.1)
    omega
theorem tru_W {σ : DSt} {w : Adj} (hs : σ[5]? = some (some (waitD w))) : (cTru (cVar 5)).run σ = .ok (!w.isEmpty) σ := by
  simp only [run_tru, run_var, hs, imm_waitD, Bool.false_eq_true, if_false, bind_ok]
  unfold truOf
  simp only [get_plc, hs, getP_nil, waitD, truD]
  cases w <;> rfl
theorem dj_loop {film ways place : Option D} {near : List Adj} {n src : Nat} {E : Nat → Nat → Int → Prop} (hn : near.length = n) (hs : ∀ u, (near.getD u []).length ≤ 40) (hm : ∀ u, u < n → ∀ v m, (v, m) ∈ near.getD u [] ↔ E u v m) (hE : ∀ u v m, E u v m → v < n ∧ 0 ≤ m) : ∀ (k : Nat) (f : List (Option Int)) (w : Adj) (x6 x7 x9 x10 : Option D), f.countP Option.isNone = k → w.length + 40 * k ≤ 900000 → DInv n src E f w →
    ∃ f' y6 y7 y9 y10, whileRun (cTru (cVar 5)) Bdj [film, ways, place, some (.lst (near.map encA)), some (foundD f), some (waitD w), x6, x7, none, x9, x10] = .nx [film, ways, place, some (.lst (near.map encA)), some (foundD f'), some (waitD []), y6, y7, none, y9, y10] ∧ DInv n src E f' []
  | k, f, w, x6, x7, x9, x10, hk, hl, I => by
    rw [whileRun_step, tru_W rfl, bindS_ok]
    cases hw : w with
    | nil =>
      subst hw
      exact ⟨f, x6, x7, x9, x10, rfl, I⟩
    | cons p w0 =>
      have hw' : w ≠ [] := by rw [hw]; exact List.cons_ne_nil _ _
      rw [← hw]
      obtain ⟨f', w', y6, y7, y9, y10, hr, I', hc, hl'⟩ := dj_turn (film := film) (ways := ways) (place := place) (x6 := x6) (x7 := x7) (x9 := x9) (x10 := x10) I hn hs hm hE hw' (by omega)
      have e : (!w.isEmpty) = true := by rw [hw]; rfl
      rw [e, if_pos rfl, hr]
      match k, hk with
      | 0, hk => omega
      | k + 1, hk =>
        exact dj_loop hn hs hm hE k f' w' y6 y7 y9 y10 (by omega) (by omega) I'
theorem DInv.init {n src : Nat} {E : Nat → Nat → Int → Prop} (h : src < n) : DInv n src E (List.replicate n none) [(src, 0)] := by
  have hz : ∀ v, at' (List.replicate n (none : Option Int)) v = none := fun v => by
    unfold at'
    rw [List.getD_eq_getElem?_getD, List.getElem?_replicate]
    split <;> rfl
  exact {
    len := List.length_replicate
    nod := by simp
    kn := fun p hp => by
      cases List.mem_singleton.mp hp
      exact ⟨h, hz _⟩
    fa := fun v d e => by rw [hz] at e; cases e
    wa := fun p hp => by
      cases List.mem_singleton.mp hp
      exact .inl ⟨rfl, rfl⟩
    cl := fun u d v m e => by rw [hz] at e; cases e
    le := fun u d p e => by rw [hz] at e; cases e
    so := .inr (List.mem_singleton.mpr rfl)
    nn := fun p hp => by
      cases List.mem_singleton.mp hp
      exact Int.le_refl _
    n0 := fun v d e => by rw [hz] at e; cases e }
theorem repD_non : ∀ n : Nat, repD n [D.non] = (List.replicate n none).map encO
  | 0 => rfl
  | n + 1 => by
    show [D.non] ++ repD n [D.non] = _
    rw [repD_non n]
    rfl
theorem mul_non {n : Nat} (hn : n ≤ 1000) : gMulA (.lst [.non]) (.int n) = some (foundD (List.replicate n none)) := by
  have big := size_big
  have e : [D.non].length * n = n := by rw [List.length_singleton, Nat.one_mul]
  have h : -(2 ^ 63) ≤ (n : Int) ∧ (n : Int) < 2 ^ 63 ∧ [D.non].length * (n : Int).toNat ≤ sizeLine ∧ D.imms [D.non] = true := ⟨by omega, by omega, by rw [Int.toNat_natCast, e]; omega, rfl⟩
  unfold gMulA gMul
  dsimp only
  rw [if_pos h, Int.toNat_natCast, repD_non]
  rfl
theorem dict1_W {a b c d x5 x6 x7 x8 x9 x10 : Option D} {src : Nat} : (cDict1 (cVar 2) (cK (.int 0))).run [a, b, some (.int src), c, d, x5, x6, x7, x8, x9, x10] = .ok (.tmp (waitD [(src, 0)])) [a, b, some (.int src), c, d, x5, x6, x7, x8, x9, x10] := rfl
theorem tuple_F (f : List (Option Int)) : gTuple [foundD f] = some (.tup (f.map encO)) := by
  unfold gTuple foundD
  dsimp only
  rw [if_pos (imms_encO f)]
theorem hB_ad : B_all_distances = (sSeq (sSet 3 (cCall F_neighbors [] (aCons (cVar 0) (aCons (cVar 1) aNil))))
    (sSeq (sSet 4 (cBin gMulA (cLst (aCons (cK .non) aNil)) (cFn gLen (aCons (cIx (cVar 0) (cK (.int 0))) aNil))))
    (sSeq (sSet 5 (cDict1 (cVar 2) (cK (.int 0))))
    (sSeq (sWhile (cTru (cVar 5)) Bdj)
    (sRet (cFn gTuple (aCons (cVar 4) aNil))))))) := rfl
theorem rw_nb : F_neighbors.rw = [] := rfl
theorem n_nb : F_neighbors.n = 2 := rfl
theorem call_nb {a b : D} {near : D} {no σ : DSt} (nr : F_neighbors.run [a, b] = .ok near no) : callOf F_neighbors [] [.tmp a, .tmp b] σ = .ok (.tmp near) σ := call_pure rw_nb rfl n_nb.symm List.Pairwise.nil nr
theorem fn_rt {n m : Nat} {b : SC} {ds : List D} {d : D} {σ : DSt} (h : b.run (ds.map some ++ List.replicate (m - n) none) = .rt d σ) : (fnOf n m b).run ds = .ok d (outsOf n b.asg σ) := by
  rw [fn_run b.asg rfl, h]
  rfl
theorem fn_er {n m : Nat} {b : SC} {ds : List D} {x : Exc} {σ : DSt} (h : b.run (ds.map some ++ List.replicate (m - n) none) = .er x σ) : (fnOf n m b).run ds = .err x := by
  rw [fn_run b.asg rfl, h]
  rfl
theorem seq_nx {a b : SC} {σ σ1 : DSt} {r : SRes} (h1 : a.run σ = .nx σ1) (h2 : b.run σ1 = r) : (sSeq a b).run σ = r := by
  rw [run_seq, h1]
  exact h2
theorem seq_rt {a b : SC} {σ σ1 : DSt} {d : D} (h1 : a.run σ = .rt d σ1) : (sSeq a b).run σ = .rt d σ1 := by
  rw [run_seq, h1]
theorem seq_er {a b : SC} {σ σ1 : DSt} {x : Exc} (h1 : a.run σ = .er x σ1) : (sSeq a b).run σ = .er x σ1 := by
  rw [run_seq, h1]
theorem lst_non (σ : DSt) : (cLst (aCons (cK .non) aNil)).run σ = .ok (.tmp (.lst [.non])) σ := by
  simp
theorem set_bin {i : Nat} {g : D → D → Option D} {a b : EC} {σ : DSt} {x y d : D} (h1 : a.run σ = .ok (.tmp x) σ) (h2 : b.run σ = .ok (.tmp y) σ) (hrw : b.rw = b.rw) (hg : g x y = some d) (hi : i < σ.length) : (sSet i (cBin g a b)).run σ = .nx (σ.set i (some d)) := by
  rw [run_set, run_bin, h1, bind_ok, h2, bind_ok, stab_tmp, if_pos rfl, fin2_eq]
  simp only [get_tmp, hg, bindS_ok, setOf_tmp, if_pos hi]
theorem ad_h3 {n src : Nat} {ps rest : List D} {ws : List Way} {near : List Adj} {no : DSt} {f : List (Option Int)} {y6 y7 y9 y10 : Option D} (F : FilmOk n ps rest) (hn : n ≤ 1000)
    (nr : F_neighbors.run [filmD ps rest, .tup (ws.map encW)] = .ok (.lst (near.map encA)) no) : (sSet 3 (cCall F_neighbors [] (aCons (cVar 0) (aCons (cVar 1) aNil)))).run [some (filmD ps rest), some (.tup (ws.map encW)), some (.int src), none, none, none, none, none, none, none, none] = .nx [some (filmD ps rest), some (.tup (ws.map encW)), some (.int src), some (.lst (near.map encA)), none, none, none, none, none, none, none] := by
  have i1 := F.i1
  have i2 := F.i2
  have hi : (filmD ps rest).imm = true := by simp [filmD, i1, i2]
  have c1 := fun σ => call_nb (σ := σ) nr
  have hx : ∀ σ, ixOf (.tmp (filmD ps rest)) (.tmp (.int 0)) σ = .ok (.tmp (.tup ps)) σ := fun σ => by simp [filmD, ixOf, i1]
  have hm := mul_non hn
  have hgt := tuple_F f
  have hpl := F.len
  simp [hi, c1]
theorem ad_h4 {n src : Nat} {ps rest : List D} {ws : List Way} {near : List Adj} {no : DSt} {f : List (Option Int)} {y6 y7 y9 y10 : Option D} (F : FilmOk n ps rest) (hn : n ≤ 1000)
    (nr : F_neighbors.run [filmD ps rest, .tup (ws.map encW)] = .ok (.lst (near.map encA)) no) : (sSet 4 (cBin gMulA (cLst (aCons (cK .non) aNil)) (cFn gLen (aCons (cIx (cVar 0) (cK (.int 0))) aNil)))).run [some (filmD ps rest), some (.tup (ws.map encW)), some (.int src), some (.lst (near.map encA)), none, none, none, none, none, none, none] = .nx [some (filmD ps rest), some (.tup (ws.map encW)), some (.int src), some (.lst (near.map encA)), some (foundD (List.replicate n none)), none, none, none, none, none, none] := by
  have i1 := F.i1
  have i2 := F.i2
  have hi : (filmD ps rest).imm = true := by simp [filmD, i1, i2]
  have c1 := fun σ => call_nb (σ := σ) nr
  have hx : ∀ σ, ixOf (.tmp (filmD ps rest)) (.tmp (.int 0)) σ = .ok (.tmp (.tup ps)) σ := fun σ => by simp [filmD, ixOf, i1]
  have hm := mul_non hn
  have hgt := tuple_F f
  have hpl := F.len
  exact set_bin (lst_non _) (by simp [hi, hx, hpl]) rfl hm (by simp)
theorem ad_h5 {n src : Nat} {ps rest : List D} {ws : List Way} {near : List Adj} {no : DSt} {f : List (Option Int)} {y6 y7 y9 y10 : Option D} (F : FilmOk n ps rest) (hn : n ≤ 1000)
    (nr : F_neighbors.run [filmD ps rest, .tup (ws.map encW)] = .ok (.lst (near.map encA)) no) : (sSet 5 (cDict1 (cVar 2) (cK (.int 0)))).run [some (filmD ps rest), some (.tup (ws.map encW)), some (.int src), some (.lst (near.map encA)), some (foundD (List.replicate n none)), none, none, none, none, none, none] = .nx [some (filmD ps rest), some (.tup (ws.map encW)), some (.int src), some (.lst (near.map encA)), some (foundD (List.replicate n none)), some (waitD [(src, 0)]), none, none, none, none, none] := by
  have i1 := F.i1
  have i2 := F.i2
  have hi : (filmD ps rest).imm = true := by simp [filmD, i1, i2]
  have c1 := fun σ => call_nb (σ := σ) nr
  have hx : ∀ σ, ixOf (.tmp (filmD ps rest)) (.tmp (.int 0)) σ = .ok (.tmp (.tup ps)) σ := fun σ => by simp [filmD, ixOf, i1]
  have hm := mul_non hn
  have hgt := tuple_F f
  have hpl := F.len
  rw [run_set, dict1_W]
  simp
theorem ad_h6 {n src : Nat} {ps rest : List D} {ws : List Way} {near : List Adj} {no : DSt} {f : List (Option Int)} {y6 y7 y9 y10 : Option D} (F : FilmOk n ps rest) (hn : n ≤ 1000)
    (nr : F_neighbors.run [filmD ps rest, .tup (ws.map encW)] = .ok (.lst (near.map encA)) no) : (sRet (cFn gTuple (aCons (cVar 4) aNil))).run [some (filmD ps rest), some (.tup (ws.map encW)), some (.int src), some (.lst (near.map encA)), some (foundD f), some (waitD []), y6, y7, none, y9, y10] = .rt (.tup (f.map encO)) [some (filmD ps rest), some (.tup (ws.map encW)), some (.int src), some (.lst (near.map encA)), some (foundD f), some (waitD []), y6, y7, none, y9, y10] := by
  have i1 := F.i1
  have i2 := F.i2
  have hi : (filmD ps rest).imm = true := by simp [filmD, i1, i2]
  have c1 := fun σ => call_nb (σ := σ) nr
  have hx : ∀ σ, ixOf (.tmp (filmD ps rest)) (.tmp (.int 0)) σ = .ok (.tmp (.tup ps)) σ := fun σ => by simp [filmD, ixOf, i1]
  have hm := mul_non hn
  have hgt := tuple_F f
  have hpl := F.len
  simp [hgt]
theorem ad_join {n src : Nat} {ps rest : List D} {ws : List Way} {near : List Adj} {no : DSt} {f : List (Option Int)} {y6 y7 y9 y10 : Option D} (F : FilmOk n ps rest) (hn : n ≤ 1000)
    (nr : F_neighbors.run [filmD ps rest, .tup (ws.map encW)] = .ok (.lst (near.map encA)) no)
    (hl : whileRun (cTru (cVar 5)) Bdj [some (filmD ps rest), some (.tup (ws.map encW)), some (.int src), some (.lst (near.map encA)), some (foundD (List.replicate n none)), some (waitD [(src, 0)]), none, none, none, none, none] = .nx [some (filmD ps rest), some (.tup (ws.map encW)), some (.int src), some (.lst (near.map encA)), some (foundD f), some (waitD []), y6, y7, none, y9, y10]) :
    ∃ outs, F_all_distances.run [filmD ps rest, .tup (ws.map encW), .int src] = .ok (.tup (f.map encO)) outs := by
  have hr := seq_nx (ad_h3 (src := src) (f := f) (y6 := none) (y7 := none) (y9 := none) (y10 := none) F hn nr) (seq_nx (ad_h4 (src := src) (f := f) (y6 := none) (y7 := none) (y9 := none) (y10 := none) F hn nr) (seq_nx (ad_h5 (src := src) (f := f) (y6 := none) (y7 := none) (y9 := none) (y10 := none) F hn nr) (seq_nx (run_while.trans hl) (ad_h6 F hn nr))))
  rw [← hB_ad] at hr
  exact ⟨_, fn_rt (n := 3) (m := 11) (b := B_all_distances) (ds := [filmD ps rest, .tup (ws.map encW), .int src]) hr⟩
theorem all_distances_eq {n src : Nat} {ps rest : List D} {ws : List Way} (F : FilmOk n ps rest) (hn : n ≤ 1000) (W : WaysOk n ws) (hs : src < n) :
    ∃ f outs, F_all_distances.run [filmD ps rest, .tup (ws.map encW), .int src] = .ok (.tup (f.map encO)) outs ∧ DInv n src (Edge ws) f [] := by
  have big := size_big
  obtain ⟨near, no, nr, nl, ns, nm⟩ := neighbors_eq F hn (fun w h => ⟨(W.each w h).1, (W.each w h).2.1⟩) W.few
  have hE : ∀ u v m, Edge ws u v m → v < n ∧ 0 ≤ m := fun u v m ⟨w, hw, h⟩ => by
    obtain ⟨a, b, c, d⟩ := W.each w hw
    rcases h with rfl | rfl
    · dsimp only at a b c d
      exact ⟨b, by omega⟩
    · dsimp only at a b c d
      exact ⟨by omega, by omega⟩
  obtain ⟨f, y6, y7, y9, y10, hl, I⟩ := dj_loop (film := some (filmD ps rest)) (ways := some (.tup (ws.map encW))) (place := some (.int src)) nl ns nm hE _ (List.replicate n none) [(src, 0)] none none none none rfl (by
    have : (List.replicate n (none : Option Int)).countP Option.isNone ≤ n := by
      have := List.countP_le_length (p := Option.isNone) (l := List.replicate n (none : Option Int))
      rw [List.length_replicate] at this
      exact this
    simp only [List.length_cons, List.length_nil]
    omega) (DInv.init hs)
  obtain ⟨outs, h⟩ := ad_join F hn nr hl
  exact ⟨f, outs, h, I⟩
end A2
end S_M8
section S_M10
set_option Elab.async false
set_option linter.all false
set_option maxRecDepth 100000
set_option maxHeartbeats 2000000
open PySem PySem.Spec L2
open PyProof.Rows hiding St
namespace A2
/-! ## the law's own way of counting (rounds of relaxing) gives the same row -/
def relF (a b : Nat) (m : Int) (r : List (Option Int)) : List (Option Int) := match at' r a with
  | none => r
  | some x => match at' r b with
    | none => r.set b (some (x + m))
    | some y => if x + m < y then r.set b (some (x + m)) else r
def wayF (r : List (Option Int)) (w : Way) : List (Option Int) := relF w.2.1 w.1 w.2.2 (relF w.1 w.2.1 w.2.2 r)
def passF (ws : List Way) (r : List (Option Int)) : List (Option Int) := ws.foldl wayF r
def iterF (ws : List Way) : Nat → List (Option Int) → List (Option Int)
  | 0, r => r
  | t + 1, r => passF ws (iterF ws t r)
def row0 (n k : Nat) : List (Option Int) := (List.range n).map fun j => if j = k then some 0 else none
@[simp] theorem relF_len {a b m r} : (relF a b m r).length = r.length := by
  unfold relF
  split
  · rfl
  · split
    · simp
    · split <;> simp
@[simp] theorem wayF_len {r w} : (wayF r w).length = r.length := by unfold wayF; simp
@[simp] theorem passF_len {ws r} : (passF ws r).length = r.length := by
  unfold passF
  induction ws generalizing r with
  | nil => rfl
  | cons w ws ih => rw [List.foldl_cons, ih, wayF_len]
structure Cl (n : Nat) (E : Nat → Nat → Int → Prop) (f : List (Option Int)) : Prop where
  len : f.length = n
  cl : ∀ u d v m, at' f u = some d → E u v m → ∃ e, at' f v = some e ∧ e ≤ d + m
structure Snd (f r : List (Option Int)) : Prop where
  len : r.length = f.length
  up : ∀ v d, at' r v = some d → ∃ e, at' f v = some e ∧ e ≤ d
theorem at_set' {r : List (Option Int)} {b v : Nat} {d : Int} : at' (r.set b (some d)) v = if v = b ∧ b < r.length then some d else at' r v := by
  by_cases hb : b < r.length
  · rw [at_set hb]
    by_cases h : v = b
    · rw [if_pos h, if_pos ⟨h, hb⟩]
    · rw [if_neg h, if_neg fun z => h z.1]
  · rw [List.set_eq_of_length_le (by omega), if_neg fun z => hb z.2]
theorem rel_snd {n E f r a b m} (C : Cl n E f) (S : Snd f r) (hE : E a b m) : Snd f (relF a b m r) := by
  refine ⟨by rw [relF_len]; exact S.len, fun v d h => ?_⟩
  unfold relF at h
  cases ha : at' r a with
  | none => rw [ha] at h; exact S.up v d h
  | some x =>
    rw [ha] at h
    have key : at' (r.set b (some (x + m))) v = some d → ∃ e, at' f v = some e ∧ e ≤ d := fun h => by
      rw [at_set'] at h
      split at h
      · rename_i hv
        cases h
        obtain ⟨e, h1, h2⟩ := S.up a x ha
        obtain ⟨e', h3, h4⟩ := C.cl a e b m h1 hE
        exact ⟨e', by rw [hv.1]; exact h3, by omega⟩
      · exact S.up v d h
    dsimp only at h
    cases hb : at' r b with
    | none => rw [hb] at h; exact key h
    | some y =>
      rw [hb] at h
      dsimp only at h
      split at h
      · exact key h
      · exact S.up v d h
def Done (f r : List (Option Int)) (v : Nat) (d : Int) : Prop := at' f v = some d ∧ at' r v = some d
theorem rel_keep {n E f r a b m v d} (C : Cl n E f) (S : Snd f r) (hE : E a b m) (D : Done f r v d) : Done f (relF a b m r) v d := by
  refine ⟨D.1, ?_⟩
  unfold relF
  cases ha : at' r a with
  | none => exact D.2
  | some x =>
    dsimp only
    cases hb : at' r b with
    | none =>
      dsimp only
      rw [at_set', if_neg fun z => ?_]
      · exact D.2
      · rw [← z.1, D.2] at hb; cases hb
    | some y =>
      dsimp only
      split
      · rename_i hlt
        rw [at_set', if_neg fun z => ?_]
        · exact D.2
        · have e1 := D.2
          rw [z.1, hb] at e1
          cases e1
          obtain ⟨e, h1, h2⟩ := S.up a x ha
          obtain ⟨e', h3, h4⟩ := C.cl a e b m h1 hE
          have e2 := D.1
          rw [z.1, h3] at e2
          cases e2
          omega
      · exact D.2
theorem rel_new {n E f r a b m x d} (C : Cl n E f) (S : Snd f r) (hb : b < r.length) (D : Done f r a x) (hf : at' f b = some d) (he : d = x + m) : Done f (relF a b m r) b d := by
  refine ⟨hf, ?_⟩
  unfold relF
  rw [D.2]
  dsimp only
  cases h : at' r b with
  | none =>
    dsimp only
    rw [at_set', if_pos ⟨rfl, hb⟩, he]
  | some y =>
    dsimp only
    obtain ⟨e, h1, h2⟩ := S.up b y h
    rw [hf] at h1
    cases h1
    split
    · rw [at_set', if_pos ⟨rfl, hb⟩, he]
    · rw [h]
      congr 1
      omega
theorem way_snd {n ws f r w} (C : Cl n (Edge ws) f) (S : Snd f r) (hw : w ∈ ws) : Snd f (wayF r w) :=
  rel_snd C (rel_snd C S ⟨w, hw, .inl rfl⟩) ⟨w, hw, .inr rfl⟩
theorem way_keep {n ws f r w v d} (C : Cl n (Edge ws) f) (S : Snd f r) (hw : w ∈ ws) (D : Done f r v d) : Done f (wayF r w) v d :=
  rel_keep C (rel_snd C S ⟨w, hw, .inl rfl⟩) ⟨w, hw, .inr rfl⟩ (rel_keep C S ⟨w, hw, .inl rfl⟩ D)
theorem way_new {n ws f r w u v m x d} (C : Cl n (Edge ws) f) (S : Snd f r) (hw : w ∈ ws) (hv : v < n) (h : w = (u, v, m) ∨ w = (v, u, m)) (D : Done f r u x) (hf : at' f v = some d) (he : d = x + m) : Done f (wayF r w) v d := by
  have hl : v < r.length := by rw [S.len, C.len]; exact hv
  rcases h with rfl | rfl
  · exact rel_keep C (rel_snd C S ⟨_, hw, .inl rfl⟩) ⟨_, hw, .inr rfl⟩ (rel_new C S hl D hf he)
  · exact rel_new C (rel_snd C S ⟨_, hw, .inl rfl⟩) (by rw [relF_len]; exact hl) (rel_keep C S ⟨_, hw, .inl rfl⟩ D) hf he
theorem pass_all {n ws f} (C : Cl n (Edge ws) f) : ∀ (l : List Way) (r : List (Option Int)), (∀ w ∈ l, w ∈ ws) → Snd f r → Snd f (l.foldl wayF r) ∧ ∀ v d, Done f r v d → Done f (l.foldl wayF r) v d
  | [], r, _, S => ⟨S, fun _ _ h => h⟩
  | w :: l, r, h, S => by
    have hw := h w (List.mem_cons_self ..)
    obtain ⟨h1, h2⟩ := pass_all C l (wayF r w) (fun x hx => h x (List.mem_cons_of_mem _ hx)) (way_snd C S hw)
    exact ⟨h1, fun v d D => h2 v d (way_keep C S hw D)⟩
theorem pass_new {n ws f u v m x d} (C : Cl n (Edge ws) f) (hv : v < n) (hf : at' f v = some d) (he : d = x + m) : ∀ (l : List Way) (r : List (Option Int)), (∀ w ∈ l, w ∈ ws) → Snd f r → Done f r u x → (∃ w ∈ l, w = (u, v, m) ∨ w = (v, u, m)) → Done f (l.foldl wayF r) v d
  | [], r, _, _, _, ⟨w, hw, _⟩ => nomatch hw
  | w :: l, r, h, S, D, ⟨w', hw', h'⟩ => by
    have hw := h w (List.mem_cons_self ..)
    have hr := fun x hx => h x (List.mem_cons_of_mem _ hx)
    rcases List.mem_cons.mp hw' with rfl | hin
    · exact (pass_all C l (wayF r w') hr (way_snd C S hw)).2 v d (way_new C S hw hv h' D hf he)
    · exact pass_new C hv hf he l (wayF r w) hr (way_snd C S hw) (way_keep C S hw D) ⟨w', hin, h'⟩
def ltO (f : List (Option Int)) (d : Int) (u : Nat) : Bool := match at' f u with
  | some e => decide (e < d)
  | none => false
def cnt (n : Nat) (f : List (Option Int)) (d : Int) : Nat := (List.range n).countP (ltO f d)
theorem countP_lt' {p q : Nat → Bool} (hpq : ∀ x, p x = true → q x = true) {x : Nat} (hq : q x = true) (hp : p x = false) : ∀ l : List Nat, x ∈ l → l.countP p < l.countP q
  | y :: l, h => by
    have mono : l.countP p ≤ l.countP q := List.countP_mono_left fun x _ => hpq x
    rcases List.mem_cons.mp h with rfl | h
    · rw [List.countP_cons_of_pos hq, List.countP_cons_of_neg (by rw [hp]; simp)]
      omega
    · have ih := countP_lt' hpq hq hp l h
      rw [List.countP_cons, List.countP_cons]
      have := hpq y
      split <;> split
      · omega
      · rename_i h1 h2; exact absurd (this h1) h2
      · omega
      · omega
theorem at_lt {f : List (Option Int)} {v : Nat} {d : Int} (h : at' f v = some d) : v < f.length := by
  unfold at' at h
  rw [List.getD_eq_getElem?_getD] at h
  by_cases hv : v < f.length
  · exact hv
  · rw [List.getElem?_eq_none (by omega)] at h
    cases h
theorem DInv.Cl {n src : Nat} {E : Nat → Nat → Int → Prop} {f : List (Option Int)} (I : DInv n src E f []) : Cl n E f := ⟨I.len, fun u d v m h he => by
  rcases I.cl u d v m h he with h | ⟨e, h, _⟩
  · exact h
  · cases h⟩
theorem row0_at {n k v : Nat} : at' (row0 n k) v = if v = k ∧ v < n then some 0 else none := by
  unfold at' row0
  rw [List.getD_eq_getElem?_getD, List.getElem?_map]
  by_cases hv : v < n
  · rw [List.getElem?_eq_getElem (by rw [List.length_range]; exact hv), List.getElem_range]
    by_cases h : v = k
    · simp [h]; omega
    · simp [h]
  · rw [List.getElem?_eq_none (by rw [List.length_range]; omega), if_neg fun z => hv z.2]
    rfl
theorem iter_inv {n src : Nat} {ws : List Way} {f : List (Option Int)} (I : DInv n src (Edge ws) f []) (hs : src < n) (hm : ∀ u v m, Edge ws u v m → v < n ∧ 1 ≤ m) : ∀ t, Snd f (iterF ws t (row0 n src)) ∧ Done f (iterF ws t (row0 n src)) src 0 ∧ ∀ v d, at' f v = some d → cnt n f d ≤ t → Done f (iterF ws t (row0 n src)) v d
  | 0 => by
    have f0 : at' f src = some 0 := by
      rcases I.so with h | h
      · exact h
      · cases h
    have S0 : Snd f (row0 n src) := ⟨by unfold row0; rw [List.length_map, List.length_range, I.len], fun v d h => by
      rw [row0_at] at h
      split at h
      · rename_i e
        cases h
        exact ⟨0, by rw [e.1]; exact f0, Int.le_refl _⟩
      · cases h⟩
    have D0 : Done f (row0 n src) src 0 := ⟨f0, by rw [row0_at, if_pos ⟨rfl, hs⟩]⟩
    refine ⟨S0, D0, fun v d h hc => ?_⟩
    rcases I.fa v d h with ⟨rfl, rfl⟩ | ⟨u, e, m, h1, h2, h3⟩
    · exact D0
    · have hp := (hm u v m h1).2
      have hu := at_lt h2
      rw [I.len] at hu
      have : 0 < cnt n f d := by
        unfold cnt
        exact List.countP_pos_iff.mpr ⟨u, List.mem_range.mpr hu, by unfold ltO; rw [h2]; simp; omega⟩
      omega
  | t + 1 => by
    obtain ⟨S, D, P⟩ := iter_inv I hs hm t
    obtain ⟨h1, h2⟩ := pass_all I.Cl ws (iterF ws t (row0 n src)) (fun _ h => h) S
    refine ⟨h1, h2 _ _ D, fun v d h hc => ?_⟩
    rcases I.fa v d h with ⟨rfl, rfl⟩ | ⟨u, e, m, q1, q2, q3⟩
    · exact h2 _ _ D
    · obtain ⟨hv, hp⟩ := hm u v m q1
      have hu := at_lt q2
      rw [I.len] at hu
      have hlt : cnt n f e < cnt n f d := by
        refine countP_lt' (fun x hx => ?_) (x := u) ?_ ?_ _ (List.mem_range.mpr hu)
        · unfold ltO at hx ⊢
          cases hx' : at' f x with
          | none => rw [hx'] at hx; cases hx
          | some y =>
            rw [hx'] at hx
            simp at hx ⊢
            omega
        · unfold ltO; rw [q2]; simp; omega
        · unfold ltO; rw [q2]; simp
      exact pass_new I.Cl hv h q3 ws _ (fun _ h => h) S (P u e q2 (by omega)) q1
theorem bf_eq {n src : Nat} {ws : List Way} {f : List (Option Int)} (I : DInv n src (Edge ws) f []) (hs : src < n) (hm : ∀ u v m, Edge ws u v m → v < n ∧ 1 ≤ m) : iterF ws n (row0 n src) = f := by
  obtain ⟨S, _, P⟩ := iter_inv I hs hm n
  have pt : ∀ v, at' (iterF ws n (row0 n src)) v = at' f v := fun v => by
    cases hf : at' f v with
    | some d =>
      have : cnt n f d ≤ n := by
        have := List.countP_le_length (p := ltO f d) (l := List.range n)
        rw [List.length_range] at this
        exact this
      exact (P v d hf this).2
    | none =>
      cases hr : at' (iterF ws n (row0 n src)) v with
      | none => rfl
      | some d =>
        obtain ⟨e, h, _⟩ := S.up v d hr
        rw [hf] at h
        cases h
  refine List.ext_getElem S.len fun v h1 h2 => ?_
  have := pt v
  unfold at' at this
  rw [List.getD_eq_getElem?_getD, List.getD_eq_getElem?_getD, List.getElem?_eq_getElem h1, List.getElem?_eq_getElem h2] at this
  exact this
end A2
end S_M10
section S_M12
set_option Elab.async false
set_option linter.all false
set_option maxRecDepth 100000
set_option maxHeartbeats 2000000
open PySem PySem.Spec L2
open PyProof.Rows hiding St
namespace A2
/-! ## _law_far -/
def farD (rows : List (List (Option Int))) : D := .lst (rows.map foundD)
@[simp] theorem imm_farD (r) : (farD r).imm = false := rfl
theorem rows_get {rows : List (List (Option Int))} {k : Nat} (hk : k < rows.length) : (rows.map foundD)[k]? = some (foundD (rows.getD k [])) := by
  rw [List.getElem?_map, List.getElem?_eq_getElem hk, List.getD_eq_getElem?_getD, List.getElem?_eq_getElem hk]
  rfl
theorem ix_row {σ : DSt} {rows : List (List (Option Int))} {k s : Nat} (hs : σ[s]? = some (some (farD rows))) (hk : k < rows.length) : ixOf (.plc s []) (.tmp (.int (k : Int))) σ = .ok (.plc s [.ix k]) σ := by
  unfold ixOf
  simp only [get_plc, hs, getP_nil, get_tmp, farD]
  rw [ixN_nat (by omega) (by rw [List.length_map]; omega)]
  simp only [Int.toNat_natCast, rows_get hk]
  unfold itemOf
  rw [imm_foundD]
  rfl
theorem ix_cell {σ : DSt} {rows : List (List (Option Int))} {k a s : Nat} (hs : σ[s]? = some (some (farD rows))) (hk : k < rows.length) (ha : a < (rows.getD k []).length) : ixOf (.plc s [.ix k]) (.tmp (.int (a : Int))) σ = .ok (.tmp (encO (at' (rows.getD k []) a))) σ := by
  have hg : ((rows.getD k []).map encO)[a]? = some (encO (at' (rows.getD k []) a)) := by
    unfold at'
    rw [List.getElem?_map, List.getElem?_eq_getElem ha, List.getD_eq_getElem?_getD (i := a), List.getElem?_eq_getElem ha]
    rfl
  unfold ixOf
  simp only [get_plc, hs, farD, getP_ix, rows_get hk, getP_nil, get_tmp]
  unfold foundD
  dsimp only
  rw [ixN_nat (by omega) (by rw [List.length_map]; omega)]
  simp only [Int.toNat_natCast, hg]
  unfold itemOf
  rw [if_pos (imm_encO _)]
theorem store_cell {σ : DSt} {rows : List (List (Option Int))} {k b s : Nat} {d : Int} (hs : σ[s]? = some (some (farD rows))) (hk : k < rows.length) (hb : b < (rows.getD k []).length) : storeAt s (.tmp (.int d)) (.plc s [.ix k]) (.tmp (.int (b : Int))) σ = some (σ.set s (some (farD (rows.set k ((rows.getD k []).set b (some d)))))) := by
  unfold storeAt
  simp only [get_tmp, hs, if_true, farD, getP_ix, rows_get hk, getP_nil]
  unfold foundD storeD
  dsimp only
  rw [ixN_nat (by omega) (by rw [List.length_map]; omega)]
  simp only [Option.map_some, Int.toNat_natCast]
  have hg := rows_get hk
  unfold foundD at hg
  simp only [setP_ix, hg, setP_nil]
  congr 3
  rw [List.map_set, List.map_set]
  rfl
noncomputable def Bif : SC := (sIf (cAndT (cTst (cBin gIsNot (cIx (cIx (cVar 3) (cVar 4)) (cVar 10)) (cK .non))) (cOrT (cTst (cBin gIs (cIx (cIx (cVar 3) (cVar 4)) (cVar 11)) (cK .non))) (cTst (cBin gLtA (cBin gAdd (cIx (cIx (cVar 3) (cVar 4)) (cVar 10)) (cVar 9)) (cIx (cIx (cVar 3) (cVar 4)) (cVar 11)))))) (sSetIx 3 (cIx (cVar 3) (cVar 4)) (cVar 11) (cBin gAdd (cIx (cIx (cVar 3) (cVar 4)) (cVar 10)) (cVar 9))) sNil)
theorem set_same {rows : List (List (Option Int))} {k : Nat} : rows.set k (rows.getD k []) = rows := by
  by_cases hk : k < rows.length
  · refine List.ext_getElem (by simp) fun i h1 h2 => ?_
    rw [List.getElem_set]
    split
    · rename_i e
      subst e
      rw [List.getD_eq_getElem?_getD, List.getElem?_eq_getElem hk]
      rfl
    · rfl
  · exact List.set_eq_of_length_le (by omega)
theorem bif_turn {film ways x5 x6 x7 x8 : Option D} {rows : List (List (Option Int))} {n k a b : Nat} {m : Int} (hk : k < rows.length) (ha : a < (rows.getD k []).length) (hb : b < (rows.getD k []).length) :
    Bif.run [film, ways, some (.int n), some (farD rows), some (.int k), x5, x6, x7, x8, some (.int m), some (.int a), some (.int b)] = .nx [film, ways, some (.int n), some (farD (rows.set k (relF a b m (rows.getD k [])))), some (.int k), x5, x6, x7, x8, some (.int m), some (.int a), some (.int b)] := by
  have i1 := ix_row (σ := [film, ways, some (.int n), some (farD rows), some (.int k), x5, x6, x7, x8, some (.int m), some (.int a), some (.int b)]) (s := 3) rfl hk
  have i2 := ix_cell (σ := [film, ways, some (.int n), some (farD rows), some (.int k), x5, x6, x7, x8, some (.int m), some (.int a), some (.int b)]) (s := 3) rfl hk ha
  have i3 := ix_cell (σ := [film, ways, some (.int n), some (farD rows), some (.int k), x5, x6, x7, x8, some (.int m), some (.int a), some (.int b)]) (s := 3) rfl hk hb
  have s1 := fun d => store_cell (σ := [film, ways, some (.int n), some (farD rows), some (.int k), x5, x6, x7, x8, some (.int m), some (.int a), some (.int b)]) (s := 3) (d := d) rfl hk hb
  unfold relF
  have hsame : farD (rows.set k (rows.getD k [])) = farD rows := by rw [set_same]
  have hset : ∀ d, rows.set k ((rows.getD k []).set b (some d)) = rows.set k ((rows.getD k []).set b (some d)) := fun d => rfl
  generalize hva : at' (rows.getD k []) a = va at i2 ⊢
  generalize hvb : at' (rows.getD k []) b = vb at i3 ⊢
  generalize rows.getD k [] = rk at s1 hsame ⊢
  cases va with
  | none =>
    dsimp only
    rw [hsame]
    simp [Bif, i1, i2, encO]
  | some x =>
    cases vb with
    | none =>
      dsimp only
      simp [Bif, i1, i2, i3, encO, s1]
    | some y =>
      dsimp only
      by_cases h : x + m < y
      · rw [if_pos h]
        simp [Bif, i1, i2, i3, encO, s1, h]
      · rw [if_neg h, hsame]
        simp [Bif, i1, i2, i3, encO, h]
noncomputable def Bpr : SC := (sFor (pTup (pCons (pV 10) (pCons (pV 11) pNil))) (cLst (aCons (cTup (aCons (cVar 7) (aCons (cVar 8) aNil))) (aCons (cTup (aCons (cVar 8) (aCons (cVar 7) aNil))) aNil))) Bif)
theorem getD_set_same {rows : List (List (Option Int))} {k : Nat} {x} (hk : k < rows.length) : (rows.set k x).getD k [] = x := by
  rw [List.getD_eq_getElem?_getD, List.getElem?_set_self hk]
  rfl
theorem bpr_turn {film ways x5 x6 x10 x11 : Option D} {rows : List (List (Option Int))} {n k : Nat} {w : Way} (hk : k < rows.length) (h1 : w.1 < (rows.getD k []).length) (h2 : w.2.1 < (rows.getD k []).length) :
    Bpr.run [film, ways, some (.int n), some (farD rows), some (.int k), x5, x6, some (.int w.1), some (.int w.2.1), some (.int w.2.2), x10, x11] = .nx [film, ways, some (.int n), some (farD (rows.set k (wayF (rows.getD k []) w))), some (.int k), x5, x6, some (.int w.1), some (.int w.2.1), some (.int w.2.2), some (.int w.2.1), some (.int w.1)] := by
  have t1 := bif_turn (film := film) (ways := ways) (x5 := x5) (x6 := x6) (x7 := some (.int w.1)) (x8 := some (.int w.2.1)) (n := n) (m := w.2.2) hk h1 h2
  have hk' : k < (rows.set k (relF w.1 w.2.1 w.2.2 (rows.getD k []))).length := by rw [List.length_set]; exact hk
  have t2 := bif_turn (film := film) (ways := ways) (x5 := x5) (x6 := x6) (x7 := some (.int w.1)) (x8 := some (.int w.2.1)) (n := n) (m := w.2.2) (a := w.2.1) (b := w.1) hk' (by rw [getD_set_same hk, relF_len]; exact h2) (by rw [getD_set_same hk, relF_len]; exact h1)
  rw [getD_set_same hk, List.set_set] at t2
  have hd : (cLst (aCons (cTup (aCons (cVar 7) (aCons (cVar 8) aNil))) (aCons (cTup (aCons (cVar 8) (aCons (cVar 7) aNil))) aNil))).run [film, ways, some (.int n), some (farD rows), some (.int k), x5, x6, some (.int w.1), some (.int w.2.1), some (.int w.2.2), x10, x11] = .ok (.tmp (.lst [.tup [.int w.1, .int w.2.1], .tup [.int w.2.1, .int w.1]])) [film, ways, some (.int n), some (farD rows), some (.int k), x5, x6, some (.int w.1), some (.int w.2.1), some (.int w.2.2), x10, x11] := by
    simp
  unfold Bpr
  rw [run_for, hd, bindS_ok]
  unfold forOf
  simp only [get_tmp, itemsOf, imms_cons, imm_tup, imm_int, imms_nil, Bool.and_self, if_true, loopOk]
  rw [forRun_nx (tg2 (by simp) (by simp)) t1, forRun_nx (tg2 (by simp) (by simp)) t2]
  rfl
theorem pre_get {α : Type} {pre : List (List α)} {x : List α} {r} : (pre ++ x :: r).getD pre.length [] = x := by
  rw [List.getD_eq_getElem?_getD, List.getElem?_append_right (Nat.le_refl _), Nat.sub_self]
  rfl
theorem pre_set {α : Type} {pre : List α} {x y : α} {r} : (pre ++ x :: r).set pre.length y = pre ++ y :: r := by
  rw [List.set_append_right _ _ (Nat.le_refl _), Nat.sub_self]
  rfl
theorem range_loop {film ways x5 x6 : Option D} {n : Nat} {w : Way} (h1 : w.1 < n) (h2 : w.2.1 < n) : ∀ (todo pre : List (List (Option Int))) (x4 x10 x11 : Option D), (∀ r ∈ todo, r.length = n) →
    ∃ y4 y10 y11, forRun (pV 4) Bpr (rangeD (pre.length : Int) todo.length) [film, ways, some (.int n), some (farD (pre ++ todo)), x4, x5, x6, some (.int w.1), some (.int w.2.1), some (.int w.2.2), x10, x11] = .nx [film, ways, some (.int n), some (farD (pre ++ todo.map fun r => wayF r w)), y4, x5, x6, some (.int w.1), some (.int w.2.1), some (.int w.2.2), y10, y11]
  | [], pre, x4, x10, x11, _ => ⟨_, _, _, rfl⟩
  | r :: todo, pre, x4, x10, x11, hl => by
    have hr := hl r (List.mem_cons_self ..)
    have hk : pre.length < (pre ++ r :: todo).length := by simp
    have t := bpr_turn (film := film) (ways := ways) (x5 := x5) (x6 := x6) (x10 := x10) (x11 := x11) (n := n) (rows := pre ++ r :: todo) (k := pre.length) (w := w) hk (by rw [pre_get]; omega) (by rw [pre_get]; omega)
    rw [pre_get, pre_set] at t
    obtain ⟨y4, y10, y11, ih⟩ := range_loop (film := film) (ways := ways) (x5 := x5) (x6 := x6) h1 h2 todo (pre ++ [wayF r w]) (some (.int pre.length)) (some (.int w.2.1)) (some (.int w.1)) (fun q hq => hl q (List.mem_cons_of_mem _ hq))
    refine ⟨y4, y10, y11, ?_⟩
    rw [List.append_assoc, List.append_assoc, List.length_append, List.length_singleton] at ih
    show forRun (pV 4) Bpr (.int (pre.length : Int) :: rangeD ((pre.length : Int) + 1) todo.length) _ = _
    rw [forRun_nx (show (pV 4).run (.int (pre.length : Int)) [film, ways, some (.int n), some (farD (pre ++ r :: todo)), x4, x5, x6, some (.int w.1), some (.int w.2.1), some (.int w.2.2), x10, x11] = some [film, ways, some (.int n), some (farD (pre ++ r :: todo)), some (.int (pre.length : Int)), x5, x6, some (.int w.1), some (.int w.2.1), some (.int w.2.2), x10, x11] by simp) t]
    exact ih
noncomputable def Bwy : SC := (sForR rng1 (pV 4) (aCons (cVar 2) aNil) Bpr)
theorem inR_small {n : Nat} (h : n ≤ 1000) : inR (n : Int) = true := by
  unfold inR
  simp
  omega
theorem rng1_eq {n : Nat} (h : n ≤ 1000) : rng1 [.int (n : Int)] = some (0, n) := by
  have hR := inR_small h
  unfold rng1
  dsimp only
  rw [if_pos hR, Int.toNat_natCast]
theorem forROf_eq {g : List D → Option (Int × Nat)} {p : PC} {b : SC} {rvs : List RV} {σ : DSt} {lo : Int} {n : Nat} (h : rngOf g σ rvs = some (lo, n)) : forROf g p b rvs σ = forRun p b (rangeD lo n) σ := by
  unfold forROf
  rw [h]
theorem compROf_eq {g : List D → Option (Int × Nat)} {p : PC} {t : TC} {c : EC} {vs : List Nat} {rvs : List RV} {σ : DSt} {lo : Int} {n : Nat} (h : rngOf g σ rvs = some (lo, n)) : compROf g p t c vs rvs σ = compEnd p t c vs (rangeD lo n) σ := by
  unfold compROf
  rw [h]
theorem forRg {g : List D → Option (Int × Nat)} {p : PC} {b : SC} {e : EC} {σ σ1 : DSt} {d : D} {lo : Int} {n : Nat} (hg : g [d] = some (lo, n)) (hs : e.run σ = .ok (.tmp d) σ1) : (sForR g p (aCons e aNil) b).run σ = forRun p b (rangeD lo n) σ1 := by
  rw [run_forR, run_consA, hs, bind_ok, run_nilA, bind_ok, stab_tmp, if_pos rfl, bindS_ok]
  exact forROf_eq hg
theorem compRg {g : List D → Option (Int × Nat)} {p : PC} {t : TC} {c : EC} {vs : List Nat} {e : EC} {σ σ1 : DSt} {d : D} {lo : Int} {n : Nat} (hg : g [d] = some (lo, n)) (hs : e.run σ = .ok (.tmp d) σ1) : (cCompR g vs p t c (aCons e aNil)).run σ = compEnd p t c vs (rangeD lo n) σ1 := by
  rw [run_compR, run_consA, hs, bind_ok, run_nilA, bind_ok, stab_tmp, if_pos rfl, bind_ok]
  exact compROf_eq hg
theorem var_int {σ : DSt} {s : Nat} {i : Int} (hs : σ[s]? = some (some (.int i))) : (cVar s).run σ = .ok (.tmp (.int i)) σ := by
  rw [run_var, hs]
  rfl
theorem forR1 {p : PC} {b : SC} {σ : DSt} {n s : Nat} (h : n ≤ 1000) (hs : σ[s]? = some (some (.int (n : Int)))) : (sForR rng1 p (aCons (cVar s) aNil) b).run σ = forRun p b (rangeD 0 n) σ := forRg (rng1_eq h) (var_int hs)
theorem compR1 {p : PC} {t : TC} {c : EC} {vs : List Nat} {σ : DSt} {n s : Nat} (h : n ≤ 1000) (hs : σ[s]? = some (some (.int (n : Int)))) : (cCompR rng1 vs p t c (aCons (cVar s) aNil)).run σ = compEnd p t c vs (rangeD 0 n) σ := compRg (rng1_eq h) (var_int hs)
theorem bwy_turn {film ways x4 x5 x6 x10 x11 : Option D} {n : Nat} {w : Way} {rows : List (List (Option Int))} (hn : n ≤ 1000) (h1 : w.1 < n) (h2 : w.2.1 < n) (hl : rows.length = n) (hr : ∀ r ∈ rows, r.length = n) :
    ∃ y4 y10 y11, Bwy.run [film, ways, some (.int n), some (farD rows), x4, x5, x6, some (.int w.1), some (.int w.2.1), some (.int w.2.2), x10, x11] = .nx [film, ways, some (.int n), some (farD (rows.map fun r => wayF r w)), y4, x5, x6, some (.int w.1), some (.int w.2.1), some (.int w.2.2), y10, y11] := by
  obtain ⟨y4, y10, y11, h⟩ := range_loop (film := film) (ways := ways) (x5 := x5) (x6 := x6) h1 h2 rows [] x4 x10 x11 hr
  refine ⟨y4, y10, y11, ?_⟩
  rw [hl, List.nil_append, show ((([] : List (List (Option Int))).length : Nat) : Int) = 0 from rfl] at h
  exact (forR1 (s := 2) hn rfl).trans h
theorem ways_loop {film ways x5 x6 : Option D} {n : Nat} (hn : n ≤ 1000) : ∀ (ws : List Way) (rows : List (List (Option Int))) (x4 x7 x8 x9 x10 x11 : Option D), (∀ w ∈ ws, WayOk n w) → rows.length = n → (∀ r ∈ rows, r.length = n) →
    ∃ y4 y7 y8 y9 y10 y11, forRun (pTup (pCons (pV 7) (pCons (pV 8) (pCons (pV 9) pNil)))) Bwy (ws.map encW) [film, ways, some (.int n), some (farD rows), x4, x5, x6, x7, x8, x9, x10, x11] = .nx [film, ways, some (.int n), some (farD (rows.map (passF ws))), y4, x5, x6, y7, y8, y9, y10, y11]
  | [], rows, x4, x7, x8, x9, x10, x11, _, _, _ => ⟨x4, x7, x8, x9, x10, x11, by
    rw [show rows.map (passF []) = rows from (List.map_congr_left fun _ _ => rfl).trans (List.map_id _)]
    rfl⟩
  | w :: ws, rows, x4, x7, x8, x9, x10, x11, hw, hl, hr => by
    obtain ⟨w1, w2, _, _⟩ := hw w (List.mem_cons_self ..)
    obtain ⟨z4, z10, z11, t⟩ := bwy_turn (film := film) (ways := ways) (x4 := x4) (x5 := x5) (x6 := x6) (x10 := x10) (x11 := x11) (w := w) (rows := rows) hn (by omega) w2 hl hr
    obtain ⟨y4, y7, y8, y9, y10, y11, ih⟩ := ways_loop (film := film) (ways := ways) (x5 := x5) (x6 := x6) hn ws (rows.map fun r => wayF r w) z4 (some (.int w.1)) (some (.int w.2.1)) (some (.int w.2.2)) z10 z11 (fun v hv => hw v (List.mem_cons_of_mem _ hv)) (by rw [List.length_map]; exact hl) (fun r hr' => by
      obtain ⟨q, hq, rfl⟩ := List.mem_map.mp hr'
      rw [wayF_len]
      exact hr q hq)
    refine ⟨y4, y7, y8, y9, y10, y11, ?_⟩
    show forRun _ Bwy (D.tup [.int w.1, .int w.2.1, .int w.2.2] :: ws.map encW) _ = _
    have ht : (pTup (pCons (pV 7) (pCons (pV 8) (pCons (pV 9) pNil)))).run (D.tup [.int w.1, .int w.2.1, .int w.2.2]) [film, ways, some (.int n), some (farD rows), x4, x5, x6, x7, x8, x9, x10, x11] = some [film, ways, some (.int n), some (farD rows), x4, x5, x6, some (.int w.1), some (.int w.2.1), some (.int w.2.2), x10, x11] := tg3 (i := 7) (j := 8) (k := 9) (σ := [film, ways, some (.int n), some (farD rows), x4, x5, x6, x7, x8, x9, x10, x11]) (by simp) (by simp) (by simp)
    rw [List.map_map] at ih
    exact (forRun_nx ht t).trans ih
noncomputable def Bps : SC := (sFor (pTup (pCons (pV 7) (pCons (pV 8) (pCons (pV 9) pNil)))) (cVar 1) Bwy)
def iterR (ws : List Way) : Nat → List (List (Option Int)) → List (List (Option Int))
  | 0, r => r
  | t + 1, r => iterR ws t (r.map (passF ws))
theorem turns_loop {film x5 : Option D} {n : Nat} {ws : List Way} (hn : n ≤ 1000) (hw : ∀ w ∈ ws, WayOk n w) : ∀ (t : Nat) (lo : Int) (rows : List (List (Option Int))) (x4 x6 x7 x8 x9 x10 x11 : Option D), rows.length = n → (∀ r ∈ rows, r.length = n) →
    ∃ y4 y6 y7 y8 y9 y10 y11, forRun (pV 6) Bps (rangeD lo t) [film, some (.tup (ws.map encW)), some (.int n), some (farD rows), x4, x5, x6, x7, x8, x9, x10, x11] = .nx [film, some (.tup (ws.map encW)), some (.int n), some (farD (iterR ws t rows)), y4, x5, y6, y7, y8, y9, y10, y11]
  | 0, lo, rows, x4, x6, x7, x8, x9, x10, x11, _, _ => ⟨_, _, _, _, _, _, _, rfl⟩
  | t + 1, lo, rows, x4, x6, x7, x8, x9, x10, x11, hl, hr => by
    obtain ⟨z4, z7, z8, z9, z10, z11, h⟩ := ways_loop (film := film) (ways := some (.tup (ws.map encW))) (x5 := x5) (x6 := some (.int lo)) hn ws rows x4 x7 x8 x9 x10 x11 hw hl hr
    obtain ⟨y4, y6, y7, y8, y9, y10, y11, ih⟩ := turns_loop (film := film) (x5 := x5) hn hw t (lo + 1) (rows.map (passF ws)) z4 (some (.int lo)) z7 z8 z9 z10 z11 (by rw [List.length_map]; exact hl) (fun r hr' => by
      obtain ⟨q, hq, rfl⟩ := List.mem_map.mp hr'
      rw [passF_len]
      exact hr q hq)
    refine ⟨y4, y6, y7, y8, y9, y10, y11, ?_⟩
    have b1 : Bps.run [film, some (.tup (ws.map encW)), some (.int n), some (farD rows), x4, x5, some (.int lo), x7, x8, x9, x10, x11] = .nx [film, some (.tup (ws.map encW)), some (.int n), some (farD (rows.map (passF ws))), z4, x5, some (.int lo), z7, z8, z9, z10, z11] := by
      unfold Bps
      rw [run_for]
      simp only [run_var, List.getElem?_cons_succ, List.getElem?_cons_zero, imm_tup, imms_encW, if_true, bindS_ok]
      unfold forOf
      simp only [get_tmp, itemsOf, imms_encW, if_true, loopOk]
      exact h
    show forRun (pV 6) Bps (.int lo :: rangeD (lo + 1) t) _ = _
    rw [forRun_nx (show (pV 6).run (.int lo) [film, some (.tup (ws.map encW)), some (.int n), some (farD rows), x4, x5, x6, x7, x8, x9, x10, x11] = some [film, some (.tup (ws.map encW)), some (.int n), some (farD rows), x4, x5, some (.int lo), x7, x8, x9, x10, x11] by simp) b1]
    exact ih
theorem iterR_map {ws : List Way} : ∀ (t : Nat) (rows : List (List (Option Int))), iterR ws t rows = rows.map (iterF ws t)
  | 0, rows => (List.map_id _).symm.trans (List.map_congr_left fun _ _ => rfl)
  | t + 1, rows => by
    show iterR ws t (rows.map (passF ws)) = _
    rw [iterR_map t, List.map_map]
    refine List.map_congr_left fun r _ => ?_
    show iterF ws t (passF ws r) = iterF ws (t + 1) r
    have : ∀ (t : Nat) (r : List (Option Int)), iterF ws t (passF ws r) = passF ws (iterF ws t r) := fun t => by
      induction t with
      | zero => intro r; rfl
      | succ t ih => intro r; show passF ws (iterF ws t (passF ws r)) = _; rw [ih]; rfl
    exact this t r
noncomputable def Bk : SC := (sExpr (cApp 3 (cVar 3) (aCons (cCompR rng1 [5] (pV 5) cYes (cIfE (cTst (cBin gEq (cVar 5) (cVar 4))) (cK (.int 0)) (cK .non)) (aCons (cVar 2) aNil)) aNil)))
theorem rangeD_map : ∀ (n lo : Nat), rangeD (lo : Int) n = (List.range' lo n).map fun (i : Nat) => D.int (i : Int)
  | 0, lo => rfl
  | n + 1, lo => by
    rw [List.range'_succ, List.map_cons, ← rangeD_map n (lo + 1)]
    rfl
theorem bk_comp {film ways x6 x7 x8 x9 x10 x11 : Option D} {n k : Nat} {rows : List (List (Option Int))} (hn : n ≤ 1000) : (cCompR rng1 [5] (pV 5) cYes (cIfE (cTst (cBin gEq (cVar 5) (cVar 4))) (cK (.int 0)) (cK .non)) (aCons (cVar 2) aNil)).run [film, ways, some (.int n), some (farD rows), some (.int k), none, x6, x7, x8, x9, x10, x11] = .ok (.tmp (foundD (row0 n k))) [film, ways, some (.int n), some (farD rows), some (.int k), none, x6, x7, x8, x9, x10, x11] := by
  have big := size_big
  have hc : compRun (pV 5) cYes (cIfE (cTst (cBin gEq (cVar 5) (cVar 4))) (cK (.int 0)) (cK .non)) [5] (rangeD 0 n) [] [film, ways, some (.int n), some (farD rows), some (.int k), none, x6, x7, x8, x9, x10, x11] = .ok ([] ++ (rangeD 0 n).map fun d => if dI d = k then .int 0 else .non) [film, ways, some (.int n), some (farD rows), some (.int k), none, x6, x7, x8, x9, x10, x11] :=
    compRun_pure fun d hd => by
      rw [show (0 : Int) = ((0 : Nat) : Int) from rfl, rangeD_map] at hd
      obtain ⟨i, _, rfl⟩ := List.mem_map.mp hd
      refine ⟨[film, ways, some (.int n), some (farD rows), some (.int k), some (.int (i : Int)), x6, x7, x8, x9, x10, x11], [film, ways, some (.int n), some (farD rows), some (.int k), some (.int (i : Int)), x6, x7, x8, x9, x10, x11], by simp, ?_, rfl⟩
      by_cases h : (i : Int) = k
      · simp [dI, h]
      · simp [dI, h]
  have e0 : (rangeD 0 n).map (fun d => if dI d = (k : Int) then D.int 0 else .non) = (row0 n k).map encO := by
    rw [show (0 : Int) = ((0 : Nat) : Int) from rfl, rangeD_map]
    unfold row0
    rw [List.map_map, List.map_map, List.range_eq_range']
    refine List.map_congr_left fun i _ => ?_
    show (if (i : Int) = (k : Int) then D.int 0 else .non) = encO (if i = k then some 0 else none)
    by_cases h : i = k
    · subst h
      rw [if_pos rfl, if_pos rfl]
      rfl
    · rw [if_neg h, if_neg (show ¬ ((i : Nat) : Int) = (k : Int) by omega)]
      rfl
  rw [List.nil_append, e0] at hc
  rw [compR1 (s := 2) hn rfl]
  unfold compEnd
  rw [if_pos ⟨by rw [rangeD_len]; omega, rfl, rfl, rfl⟩]
  simp only [wipeD, List.set_cons_succ, List.set_cons_zero]
  rw [hc]
  rfl
theorem bk_app {film ways x6 x7 x8 x9 x10 x11 : Option D} {n k : Nat} {rows : List (List (Option Int))} (hl : rows.length ≤ 1000) : appOf 3 (.plc 3 []) [.tmp (foundD (row0 n k))] [film, ways, some (.int n), some (farD rows), some (.int k), none, x6, x7, x8, x9, x10, x11] = .ok (.tmp .non) [film, ways, some (.int n), some (farD (rows ++ [row0 n k])), some (.int k), none, x6, x7, x8, x9, x10, x11] := by
  have big := size_big
  unfold appOf
  dsimp only
  simp only [if_true, List.getElem?_cons_succ, List.getElem?_cons_zero, getP_nil, farD, setP_nil, List.length_map]
  rw [if_pos (by omega)]
  simp only [List.map_append, List.map_cons, List.map_nil, List.set_cons_succ, List.set_cons_zero]
theorem app_slot {c : EC} {s : Nat} {σ σ' : DSt} {d : D} (hs : (cVar s).run σ = .ok (.plc s []) σ) (hk : isK "list" (.plc s []) σ = true) (hc : c.run σ = .ok (.tmp d) σ) (ha : appOf s (.plc s []) [.tmp d] σ = .ok (.tmp .non) σ') : (sExpr (cApp s (cVar s) (aCons c aNil))).run σ = .nx σ' := by
  rw [run_expr, run_app]
  unfold runM
  rw [hs, bind_ok, if_pos hk, run_consA, hc, bind_ok, run_nilA, bind_ok, stab_tmp, if_pos rfl, bind_ok, stab_nil, if_pos rfl, ha]
  rfl
theorem bk_turn {film ways x6 x7 x8 x9 x10 x11 : Option D} {n k : Nat} {rows : List (List (Option Int))} (hn : n ≤ 1000) (hl : rows.length ≤ 1000) :
    Bk.run [film, ways, some (.int n), some (farD rows), some (.int k), none, x6, x7, x8, x9, x10, x11] = .nx [film, ways, some (.int n), some (farD (rows ++ [row0 n k])), some (.int k), none, x6, x7, x8, x9, x10, x11] := by
  have hcomp := bk_comp (film := film) (ways := ways) (x6 := x6) (x7 := x7) (x8 := x8) (x9 := x9) (x10 := x10) (x11 := x11) (k := k) (rows := rows) hn
  have happ := bk_app (film := film) (ways := ways) (n := n) (x6 := x6) (x7 := x7) (x8 := x8) (x9 := x9) (x10 := x10) (x11 := x11) (k := k) (rows := rows) hl
  exact app_slot (s := 3) rfl rfl hcomp happ
theorem k_loop {film ways x6 x7 x8 x9 x10 x11 : Option D} {n : Nat} (hn : n ≤ 1000) : ∀ (t k : Nat) (x4 : Option D), k + t ≤ n →
    ∃ y4, forRun (pV 4) Bk (rangeD (k : Int) t) [film, ways, some (.int n), some (farD ((List.range k).map (row0 n))), x4, none, x6, x7, x8, x9, x10, x11] = .nx [film, ways, some (.int n), some (farD ((List.range (k + t)).map (row0 n))), y4, none, x6, x7, x8, x9, x10, x11]
  | 0, k, x4, _ => ⟨x4, rfl⟩
  | t + 1, k, x4, h => by
    have t1 := bk_turn (film := film) (ways := ways) (x6 := x6) (x7 := x7) (x8 := x8) (x9 := x9) (x10 := x10) (x11 := x11) (k := k) (rows := (List.range k).map (row0 n)) hn (by rw [List.length_map, List.length_range]; omega)
    have e : (List.range k).map (row0 n) ++ [row0 n k] = (List.range (k + 1)).map (row0 n) := by
      rw [List.range_succ, List.map_append]
      rfl
    rw [e] at t1
    obtain ⟨y4, ih⟩ := k_loop (film := film) (ways := ways) (x6 := x6) (x7 := x7) (x8 := x8) (x9 := x9) (x10 := x10) (x11 := x11) hn t (k + 1) (some (.int k)) (by omega)
    refine ⟨y4, ?_⟩
    rw [show k + 1 + t = k + (t + 1) by omega] at ih
    show forRun (pV 4) Bk (.int (k : Int) :: rangeD ((k : Int) + 1) t) _ = _
    exact (forRun_nx (show (pV 4).run (.int (k : Int)) [film, ways, some (.int n), some (farD ((List.range k).map (row0 n))), x4, none, x6, x7, x8, x9, x10, x11] = some [film, ways, some (.int n), some (farD ((List.range k).map (row0 n))), some (.int k), none, x6, x7, x8, x9, x10, x11] by simp) t1).trans ih
theorem hB_far : B__law_far = (sSeq (sSet 2 (cFn gLen (aCons (cIx (cVar 0) (cK (.int 0))) aNil)))
  (sSeq (sSet 3 (cLst aNil))
  (sSeq (sForR rng1 (pV 4) (aCons (cVar 2) aNil) Bk)
  (sSeq (sForR rng1 (pV 6) (aCons (cVar 2) aNil) Bps)
  (sRet (cTake (some 3) (cVar 3))))))) := rfl
theorem law_far_eq {n : Nat} {ps rest : List D} {ws : List Way} (F : FilmOk n ps rest) (hn : n ≤ 1000) (W : WaysOk n ws) :
    ∃ outs, F__law_far.run [filmD ps rest, .tup (ws.map encW)] = .ok (farD ((List.range n).map fun k => iterF ws n (row0 n k))) outs := by
  have hi : (filmD ps rest).imm = true := by simp [filmD, F.i1, F.i2]
  have hpl := F.len
  have hx : ∀ σ, ixOf (.tmp (filmD ps rest)) (.tmp (.int 0)) σ = .ok (.tmp (.tup ps)) σ := fun σ => by simp [filmD, ixOf, F.i1]
  have h2 : (sSet 2 (cFn gLen (aCons (cIx (cVar 0) (cK (.int 0))) aNil))).run [some (filmD ps rest), some (.tup (ws.map encW)), none, none, none, none, none, none, none, none, none, none] = .nx [some (filmD ps rest), some (.tup (ws.map encW)), some (.int n), none, none, none, none, none, none, none, none, none] := by
    simp [hi, hx, hpl]
  have h3 : (sSet 3 (cLst aNil)).run [some (filmD ps rest), some (.tup (ws.map encW)), some (.int n), none, none, none, none, none, none, none, none, none] = .nx [some (filmD ps rest), some (.tup (ws.map encW)), some (.int n), some (farD ((List.range 0).map (row0 n))), none, none, none, none, none, none, none, none] := by
    simp [farD]
  obtain ⟨y4, h4⟩ := k_loop (film := some (filmD ps rest)) (ways := some (.tup (ws.map encW))) (x6 := none) (x7 := none) (x8 := none) (x9 := none) (x10 := none) (x11 := none) hn n 0 none (by omega)
  rw [Nat.zero_add, show ((0 : Nat) : Int) = 0 from rfl] at h4
  obtain ⟨z4, z6, z7, z8, z9, z10, z11, h5⟩ := turns_loop (film := some (filmD ps rest)) (x5 := none) hn W.each n 0 ((List.range n).map (row0 n)) y4 none none none none none none (by rw [List.length_map, List.length_range]) (fun r hr => by
    obtain ⟨k, _, rfl⟩ := List.mem_map.mp hr
    unfold row0
    rw [List.length_map, List.length_range])
  rw [iterR_map, List.map_map] at h5
  have h4' := (forR1 (p := pV 4) (b := Bk) (σ := [some (filmD ps rest), some (.tup (ws.map encW)), some (.int n), some (farD ((List.range 0).map (row0 n))), none, none, none, none, none, none, none, none]) (s := 2) hn rfl).trans h4
  have h5' := (forR1 (p := pV 6) (b := Bps) (σ := [some (filmD ps rest), some (.tup (ws.map encW)), some (.int n), some (farD ((List.range n).map (row0 n))), y4, none, none, none, none, none, none, none]) (s := 2) hn rfl).trans h5
  have h6 : (sRet (cTake (some 3) (cVar 3))).run [some (filmD ps rest), some (.tup (ws.map encW)), some (.int n), some (farD ((List.range n).map (iterF ws n ∘ row0 n))), z4, none, z6, z7, z8, z9, z10, z11] = .rt (farD ((List.range n).map (iterF ws n ∘ row0 n))) [some (filmD ps rest), some (.tup (ws.map encW)), some (.int n), none, z4, none, z6, z7, z8, z9, z10, z11] := by
    simp
  have h := seq_nx h2 (seq_nx h3 (seq_nx h4' (seq_nx h5' h6)))
  rw [← hB_far] at h
  exact ⟨_, fn_rt (n := 2) (m := 12) (b := B__law_far) (ds := [filmD ps rest, .tup (ws.map encW)]) h⟩
end A2
end S_M12
section S_M13
set_option Elab.async false
set_option linter.all false
set_option maxRecDepth 100000
set_option maxHeartbeats 2000000
open PySem PySem.Spec L2
open PyProof.Rows hiding St
namespace A2
/-! ## the stream: callers of _law_take -/
def IsSt (d : D) : Prop := ∃ xs p c seed, d = stm xs p c seed ∧ StOk xs p c seed
theorem IsSt.imm {d : D} (h : IsSt d) : d.imm = false := by
  obtain ⟨xs, p, c, seed, rfl, _⟩ := h
  rfl
theorem rw_tk : F__law_take.rw = [0] := rfl
theorem set2 {σ : DSt} {s : Nat} {a : Option D} : (wb [0] 0 [.plc s [], .tmp (.int 0)] [a, none] σ) = σ.set s a := rfl
theorem take_call {d : D} {m : Int} (hd : IsSt d) (h1 : 1 ≤ m) (h2 : m < 1073741824) : ∃ r d', IsSt d' ∧ 0 ≤ r ∧ r < m ∧ ∀ (σ : DSt) (s : Nat), σ[s]? = some (some d) → callOf F__law_take [s] [.plc s [], .tmp (.int m)] σ = .ok (.tmp (.int r)) (σ.set s (some d')) := by
  obtain ⟨xs, p, c, seed, rfl, ok⟩ := hd
  obtain ⟨r, p', c', seed', hr, ok', r0, r1⟩ := take_eq ok h1 h2
  refine ⟨r, stm xs p' c' seed', ⟨xs, p', c', seed', rfl, ok'⟩, r0, r1, fun σ s hs => ?_⟩
  have hg : getAll σ [.plc s [], .tmp (.int m)] = some [stm xs p c seed, .int m] := by
    simp only [getAll_cons, getAll_nil, get_plc, hs, getP_nil, get_tmp]
  unfold callOf
  rw [hg]
  dsimp only
  rw [rw_tk, if_pos ⟨by simp [places], by simp [lendOk], rfl⟩, hr]
  rfl
theorem take_run {d : D} {m : Int} (hd : IsSt d) (h1 : 1 ≤ m) (h2 : m < 1073741824) : ∃ r d', IsSt d' ∧ 0 ≤ r ∧ r < m ∧ ∀ (σ : DSt) (s : Nat) (e : EC), σ[s]? = some (some d) → e.run σ = .ok (.tmp (.int m)) σ → (cCall F__law_take [s] (aCons (cVar s) (aCons e aNil))).run σ = .ok (.tmp (.int r)) (σ.set s (some d')) := by
  obtain ⟨r, d', i, r0, r1, h⟩ := take_call hd h1 h2
  refine ⟨r, d', i, r0, r1, fun σ s e hs he => ?_⟩
  have hv : (cVar s).run σ = .ok (.plc s []) σ := by
    rw [run_var, hs]
    dsimp only
    rw [hd.imm]
    rfl
  rw [run_call, run_consA, hv, bind_ok, run_consA, he, bind_ok, run_nilA, bind_ok, stab_tmp, if_pos rfl, bind_ok, stab_nil, if_pos rfl, bind_ok]
  exact h σ s hs
/-! _law_begin -/
theorem begin_loop : ∀ (ns : List Int) (seed : Int) (x2 : Option D) (x0 : Option D), 0 ≤ seed → seed < 2147483647 → ∃ seed' y2, forRun (pV 2) (sSet 1 (cBin gMod (cBin gAdd (cBin gAdd (cBin gMulA (cVar 1) (cK (.int 69621))) (cBin gMod (cFn gInt (aCons (cVar 2) aNil)) (cK (.int 2147483629)))) (cK (.int 7))) (cK (.int 2147483647)))) (ns.map .int) [x0, some (.int seed), x2] = .nx [x0, some (.int seed'), y2] ∧ 0 ≤ seed' ∧ seed' < 2147483647
  | [], seed, x2, x0, h1, h2 => ⟨seed, x2, rfl, h1, h2⟩
  | i :: ns, seed, x2, x0, h1, h2 => by
    obtain ⟨seed', y2, h, a, b⟩ := begin_loop ns ((seed * 69621 + i % 2147483629 + 7) % 2147483647) (some (.int i)) x0 (Int.emod_nonneg _ (by omega)) (Int.emod_lt_of_pos _ (by omega))
    refine ⟨seed', y2, ?_, a, b⟩
    have m1 : gMulA (.int seed) (.int 69621) = some (.int (seed * 69621)) := by
      have : mulC seed 69621 = true := by unfold mulC; simp
      unfold gMulA gMul
      dsimp only
      rw [if_pos this]
    generalize gMulA = g at m1 h ⊢
    have t : (sSet 1 (cBin gMod (cBin gAdd (cBin gAdd (cBin g (cVar 1) (cK (.int 69621))) (cBin gMod (cFn gInt (aCons (cVar 2) aNil)) (cK (.int 2147483629)))) (cK (.int 7))) (cK (.int 2147483647)))).run [x0, some (.int seed), some (.int i)] = .nx [x0, some (.int ((seed * 69621 + i % 2147483629 + 7) % 2147483647)), some (.int i)] := by
      simp [m1, gMod, gI, gInt]
    rw [List.map_cons]
    exact (forRun_nx (show (pV 2).run (.int i) [x0, some (.int seed), x2] = some [x0, some (.int seed), some (.int i)] by simp) t).trans h
theorem law_begin_eq {ns : List Int} (h : ns.length ≤ 63) : ∃ d outs, F__law_begin.run [.flst (ns.map .int)] = .ok d outs ∧ IsSt d := by
  obtain ⟨seed, y2, hl, a, b⟩ := begin_loop ns 1 none (some (.flst (ns.map .int))) (by omega) (by omega)
  have ii := imms_ints ns
  have h1 : (sSet 1 (cK (.int 1))).run [some (.flst (ns.map .int)), none, none] = .nx [some (.flst (ns.map .int)), some (.int 1), none] := by simp
  have h2 : (sFor (pV 2) (cVar 0) (sSet 1 (cBin gMod (cBin gAdd (cBin gAdd (cBin gMulA (cVar 1) (cK (.int 69621))) (cBin gMod (cFn gInt (aCons (cVar 2) aNil)) (cK (.int 2147483629)))) (cK (.int 7))) (cK (.int 2147483647))))).run [some (.flst (ns.map .int)), some (.int 1), none] = .nx [some (.flst (ns.map .int)), some (.int seed), y2] := by
    rw [← hl]
    generalize (sSet 1 (cBin gMod (cBin gAdd (cBin gAdd (cBin gMulA (cVar 1) (cK (.int 69621))) (cBin gMod (cFn gInt (aCons (cVar 2) aNil)) (cK (.int 2147483629)))) (cK (.int 7))) (cK (.int 2147483647)))) = B
    rw [run_for]
    simp [ii, forOf, itemsOf, loopOk]
  have h3 : (sRet (cLst (aCons (cFn gList (aCons (cVar 0) aNil)) (aCons (cK (.int 0)) (aCons (cK (.int 0)) (aCons (cVar 1) aNil)))))).run [some (.flst (ns.map .int)), some (.int seed), y2] = .rt (stm ns 0 0 seed) [some (.flst (ns.map .int)), some (.int seed), y2] := by
    simp [ii, gList, stm]
  have h := seq_nx h1 (seq_nx h2 h3)
  exact ⟨stm ns 0 0 seed, _, fn_rt (n := 1) (m := 3) (b := B__law_begin) (ds := [.flst (ns.map .int)]) h, ns, 0, 0, seed, rfl, by omega, a, b⟩
end A2
end S_M13
section S_M14
set_option Elab.async false
set_option linter.all false
set_option maxRecDepth 100000
set_option maxHeartbeats 2000000
open PySem PySem.Spec L2
open PyProof.Rows hiding St
namespace A2
theorem compRun_t {p : PC} {t : TC} {c : EC} {vs : List Nat} {d e : D} {ds acc : List D} {σ σ1 σ2 σ3 : DSt} (h1 : p.run d σ = some σ1) (h2 : t.run σ1 = .ok true σ2) (h3 : c.run σ2 = .ok (.tmp e) σ3) : compRun p t c vs (d :: ds) acc σ = compRun p t c vs ds (acc ++ [e]) (wipeD σ3 vs) := by
  conv => lhs; unfold compRun
  rw [h1]
  dsimp only
  rw [h2]
  dsimp only
  rw [h3]
theorem compRun_f {p : PC} {t : TC} {c : EC} {vs : List Nat} {d : D} {ds acc : List D} {σ σ1 σ2 : DSt} (h1 : p.run d σ = some σ1) (h2 : t.run σ1 = .ok false σ2) : compRun p t c vs (d :: ds) acc σ = compRun p t c vs ds acc (wipeD σ2 vs) := by
  conv => lhs; unfold compRun
  rw [h1]
  dsimp only
  rw [h2]
theorem take_eq0 {d : D} {m : Int} (hd : IsSt d) (h1 : 1 ≤ m) (h2 : m < 1073741824) : ∃ (k : Bool) (d' : D), IsSt d' ∧ ∀ (σ : DSt) (s : Nat), σ[s]? = some (some d) → (cTst (cBin gEq (cCall F__law_take [s] (aCons (cVar s) (aCons (cK (.int m)) aNil))) (cK (.int 0)))).run σ = .ok k (σ.set s (some d')) := by
  obtain ⟨r, d', i, r0, r1, h⟩ := take_run hd h1 h2
  refine ⟨decide (r = 0), d', i, fun σ s hs => ?_⟩
  rw [run_tst, run_bin, h σ s _ hs run_K, bind_ok, run_K, bind_ok, stab_tmp, if_pos rfl, fin2_eq]
  simp only [get_tmp, gEq_int, bind_ok, tst_bl]
theorem some_loop {x1 : Option D} : ∀ (n : Nat) (lo : Int) (acc : List D) (d : D), IsSt d → ∃ (ks : List Int) (d' : D), IsSt d' ∧ compRun (pV 2) (cTst (cBin gEq (cCall F__law_take [0] (aCons (cVar 0) (aCons (cK (.int 2)) aNil))) (cK (.int 0)))) (cVar 2) [2] (rangeD lo n) acc [some d, x1, none] = .ok (acc ++ ks.map .int) [some d', x1, none] ∧ ks.length ≤ n
  | 0, lo, acc, d, h => ⟨[], d, h, by show Res.ok acc _ = _; rw [List.map_nil, List.append_nil], Nat.le_refl _⟩
  | n + 1, lo, acc, d, h => by
    obtain ⟨k, d1, i1, ht⟩ := take_eq0 (m := 2) h (by omega) (by omega)
    have hp : (pV 2).run (.int lo) [some d, x1, none] = some [some d, x1, some (.int lo)] := by simp
    have hT := ht [some d, x1, some (.int lo)] 0 rfl
    cases k with
    | true =>
      obtain ⟨ks, d', i', hr, hl⟩ := some_loop (x1 := x1) n (lo + 1) (acc ++ [.int lo]) d1 i1
      refine ⟨lo :: ks, d', i', ?_, by simp only [List.length_cons]; omega⟩
      show compRun _ _ _ _ (.int lo :: rangeD (lo + 1) n) _ _ = _
      refine (compRun_t hp hT (show (cVar 2).run [some d1, x1, some (.int lo)] = .ok (.tmp (.int lo)) [some d1, x1, some (.int lo)] by simp)).trans ?_
      refine Eq.trans hr ?_
      rw [List.append_assoc]
      rfl
    | false =>
      obtain ⟨ks, d', i', hr, hl⟩ := some_loop (x1 := x1) n (lo + 1) acc d1 i1
      refine ⟨ks, d', i', ?_, by omega⟩
      show compRun _ _ _ _ (.int lo :: rangeD (lo + 1) n) _ _ = _
      exact (compRun_f hp hT).trans hr
theorem compEnd_eq {p : PC} {t : TC} {c : EC} {vs : List Nat} {ds acc : List D} {σ σ' : DSt} (h : ds.length ≤ 1000) (h1 : ownOk σ vs = true) (h2 : subB p.rw vs = true) (h3 : subB vs p.rw = true) (h4 : compRun p t c vs ds [] (wipeD σ vs) = .ok acc σ') : compEnd p t c vs ds σ = .ok (.tmp (.lst acc)) (restore σ σ' vs) := by
  have big := size_big
  unfold compEnd
  rw [if_pos ⟨by omega, h1, h2, h3⟩, h4]
theorem some_eq {d : D} {m : Nat} (hd : IsSt d) (hm : m ≤ 1000) : ∃ (ks : List Int) (d' : D), IsSt d' ∧ ks.length ≤ m ∧ F__law_some.run [d, .int m] = .ok (.tup (ks.map D.int)) [some d', some (.int m)] := by
  obtain ⟨ks, d', i, h, hl⟩ := some_loop (x1 := some (.int m)) m 0 [] d hd
  refine ⟨ks, d', i, hl, ?_⟩
  have hc : (cCompR rng1 [2] (pV 2) (cTst (cBin gEq (cCall F__law_take [0] (aCons (cVar 0) (aCons (cK (.int 2)) aNil))) (cK (.int 0)))) (cVar 2) (aCons (cVar 1) aNil)).run [some d, some (.int m), none] = .ok (.tmp (.lst (ks.map .int))) [some d', some (.int m), none] :=
    (compR1 (s := 1) hm rfl).trans (compEnd_eq (σ := [some d, some (.int m), none]) (σ' := [some d', some (.int m), none]) (vs := [2]) (show (rangeD 0 m).length ≤ 1000 by rw [rangeD_len]; exact hm) rfl rfl rfl h)
  have h : B__law_some.run [some d, some (.int m), none] = .rt (.tup (ks.map .int)) [some d', some (.int m), none] := by
    unfold B__law_some
    rw [run_ret, run_fn, run_consA, hc, bind_ok, run_nilA, bind_ok, stab_tmp, if_pos rfl, bind_ok, finA_eq]
    simp only [getAll_cons, getAll_nil, get_tmp]
    unfold gTuple
    dsimp only
    rw [if_pos (imms_ints ks)]
    rfl
  exact fn_rt (n := 2) (m := 3) (b := B__law_some) (ds := [d, .int m]) h
theorem rw_sm : F__law_some.rw = [0] := rfl
theorem some_run {d : D} {m : Nat} (hd : IsSt d) (hm : m ≤ 1000) : ∃ (ks : List Int) (d' : D), IsSt d' ∧ ks.length ≤ m ∧ ∀ (σ : DSt) (s : Nat) (e : EC), σ[s]? = some (some d) → e.run σ = .ok (.tmp (.int m)) σ → (cCall F__law_some [s] (aCons (cVar s) (aCons e aNil))).run σ = .ok (.tmp (.tup (ks.map D.int))) (σ.set s (some d')) := by
  obtain ⟨ks, d', i, hl, hr⟩ := some_eq hd hm
  refine ⟨ks, d', i, hl, fun σ s e hs he => ?_⟩
  have hv : (cVar s).run σ = .ok (.plc s []) σ := by
    rw [run_var, hs]
    dsimp only
    rw [hd.imm]
    rfl
  rw [run_call, run_consA, hv, bind_ok, run_consA, he, bind_ok, run_nilA, bind_ok, stab_tmp, if_pos rfl, bind_ok, stab_nil, if_pos rfl, bind_ok]
  have hg : getAll σ [.plc s [], .tmp (.int m)] = some [d, .int m] := by
    simp only [getAll_cons, getAll_nil, get_plc, hs, getP_nil, get_tmp]
  unfold callOf
  rw [hg]
  dsimp only
  rw [rw_sm, if_pos ⟨by simp [places], by simp [lendOk], rfl⟩, hr]
  rfl
end A2
end S_M14
section S_M15
set_option Elab.async false
set_option linter.all false
set_option maxRecDepth 100000
set_option maxHeartbeats 2000000
open PySem PySem.Spec L2
open PyProof.Rows hiding St
namespace A2
/-! ## _law_map, parts -/
theorem set_add_take {d : D} {m : Int} (hd : IsSt d) (h1 : 1 ≤ m) (h2 : m < 1073741824) : ∃ (r : Int) (d' : D), IsSt d' ∧ 0 ≤ r ∧ r < m ∧ ∀ (σ : DSt) (i : Nat), i < σ.length → σ[0]? = some (some d) → (sSet i (cBin gAdd (cK (.int 1)) (cCall F__law_take [0] (aCons (cVar 0) (aCons (cK (.int m)) aNil))))).run σ = .nx ((σ.set 0 (some d')).set i (some (.int (1 + r)))) := by
  obtain ⟨r, d', i, r0, r1, h⟩ := take_run hd h1 h2
  refine ⟨r, d', i, r0, r1, fun σ j hj hs => ?_⟩
  rw [run_set, run_bin, run_K, bind_ok, h σ 0 _ hs run_K, bind_ok, stab_tmp, if_pos rfl, fin2_eq]
  simp only [get_tmp, gAdd_int, bindS_ok, setOf_tmp, List.length_set, if_pos hj]
theorem bin_run {g : D → D → Option D} {a b : EC} {σ σ1 σ2 : DSt} {x y d : D} (h1 : a.run σ = .ok (.tmp x) σ1) (h2 : b.run σ1 = .ok (.tmp y) σ2) (hg : g x y = some d) : (cBin g a b).run σ = .ok (.tmp d) σ2 := by
  rw [run_bin, h1, bind_ok, h2, bind_ok, stab_tmp, if_pos rfl, fin2_eq]
  simp only [get_tmp, hg]
theorem consA_run {c : EC} {a : AC} {σ σ1 σ2 : DSt} {x : D} {xs : List RV} (h1 : c.run σ = .ok (.tmp x) σ1) (h2 : a.run σ1 = .ok xs σ2) : (aCons c a).run σ = .ok (.tmp x :: xs) σ2 := by
  rw [run_consA, h1, bind_ok, h2, bind_ok, stab_tmp, if_pos rfl]
theorem fn1_run {g : List D → Option D} {c : EC} {σ σ1 : DSt} {x d : D} (h1 : c.run σ = .ok (.tmp x) σ1) (hg : g [x] = some d) : (cFn g (aCons c aNil)).run σ = .ok (.tmp d) σ1 := by
  rw [run_fn, consA_run h1 run_nilA, bind_ok, finA_eq]
  simp only [getAll_cons, getAll_nil, get_tmp, hg]
theorem str_num {k : Nat} (hk : k ≤ 1000) : gStr [.int (k : Int)] = some (.str (toString (k : Int))) := by
  unfold gStr
  dsimp only
  rw [if_pos]
  have : ((k : Int)).natAbs = k := Int.natAbs_natCast k
  rw [this]
  by_cases h0 : k = 0
  · subst h0; decide
  · have := Nat.log2_lt h0 (k := 1920)
    refine this.mpr ?_
    have : (2 : Nat) ^ 10 ≤ 2 ^ 1920 := Nat.pow_le_pow_right (by omega) (by omega)
    omega
theorem rows_gen {p : PC} {c : EC} {vs : List Nat} (σ : D → DSt) (Pk : Nat → Prop) (PE : D → Prop) (h : ∀ (k : Nat) (d : D), IsSt d → Pk k → ∃ (e d' : D) (σ1 σ3 : DSt), IsSt d' ∧ (e.imm = true ∧ PE e) ∧ p.run (.int (k : Int)) (σ d) = some σ1 ∧ c.run σ1 = .ok (.tmp e) σ3 ∧ wipeD σ3 vs = σ d') : ∀ (n lo : Nat) (acc : List D) (d : D), IsSt d → (∀ k, lo ≤ k → k < lo + n → Pk k) → ∃ (es : List D) (d' : D), IsSt d' ∧ D.imms es = true ∧ (es.length = n ∧ ∀ e ∈ es, PE e) ∧ compRun p cYes c vs (rangeD (lo : Int) n) acc (σ d) = .ok (acc ++ es) (σ d')
  | 0, lo, acc, d, hd, _ => ⟨[], d, hd, rfl, ⟨rfl, fun _ h => nomatch h⟩, by show Res.ok acc _ = _; rw [List.append_nil]⟩
  | n + 1, lo, acc, d, hd, hP => by
    obtain ⟨e, d1, σ1, σ3, i1, ⟨im, pe⟩, q1, q2, q3⟩ := h lo d hd (hP lo (Nat.le_refl _) (by omega))
    obtain ⟨es, d', i', ims, ⟨hl, pes⟩, hr⟩ := rows_gen σ Pk PE h n (lo + 1) (acc ++ [e]) d1 i1 (fun k a b => hP k (by omega) (by omega))
    refine ⟨e :: es, d', i', by rw [imms_cons, im, ims]; rfl, ⟨by rw [List.length_cons, hl], fun x hx => (List.mem_cons.mp hx).elim (fun z => z ▸ pe) (pes x)⟩, ?_⟩
    show compRun _ _ _ _ (.int (lo : Int) :: rangeD ((lo : Int) + 1) n) _ _ = _
    refine (compRun_t q1 run_yes q2).trans ?_
    rw [q3]
    refine Eq.trans hr ?_
    rw [List.append_assoc]
    rfl
noncomputable def cRow : EC := (cTup (aCons (cBin gAdd (cK (.str "s")) (cFn gStr (aCons (cVar 5) aNil))) (aCons (cCall F__law_take [0] (aCons (cVar 0) (aCons (cVar 1) aNil))) (aCons (cK (.str "any")) (aCons (cBin gAdd (cK (.int 10)) (cBin gMulA (cK (.int 5)) (cCall F__law_take [0] (aCons (cVar 0) (aCons (cK (.int 12)) aNil))))) (aCons (cK (.bl false)) (aCons (cCall F__law_some [0] (aCons (cVar 0) (aCons (cVar 2) aNil))) aNil)))))))
theorem mul5 (r : Int) : gMulA (.int 5) (.int r) = some (.int (5 * r)) := by
  have : mulC 5 r = true := by unfold mulC; simp
  unfold gMulA gMul
  dsimp only
  rw [if_pos this]
theorem gAdd_str {x y : Str} (h : x.length + y.length ≤ sizeLine) : gAdd (.str x) (.str y) = some (.str (x ++ y)) := by
  unfold gAdd
  dsimp only
  rw [if_pos h]
end A2
end S_M15
section S_M16
set_option Elab.async false
set_option linter.all false
set_option maxRecDepth 100000
set_option maxHeartbeats 2000000
open PySem PySem.Spec L2
open PyProof.Rows hiding St
namespace A2
theorem num_len : ∀ k : Nat, k < 5 → ((toString (k : Int) : String) : Str).length ≤ 10 := by decide +kernel
theorem name_run {σ : DSt} {k s : Nat} {c : Str} (hc : c.length ≤ 10) (hk : k < 5) (hs : σ[s]? = some (some (.int (k : Int)))) : ∃ t : Str, (cBin gAdd (cK (.str c)) (cFn gStr (aCons (cVar s) aNil))).run σ = .ok (.tmp (.str t)) σ := by
  have big := size_big
  have hn := num_len k hk
  exact ⟨_, bin_run run_K (fn1_run (var_int hs) (str_num (by omega))) (gAdd_str (by omega))⟩
theorem tup_run {a : AC} {σ σ1 : DSt} {xs : List RV} {ds : List D} (h : a.run σ = .ok xs σ1) (ht : tmps xs = some ds) (hl : ds.length ≤ 1000) : (cTup a).run σ = .ok (.tmp (.tup ds)) σ1 := by
  have big := size_big
  rw [run_tup, h, bind_ok, disp_eq, ht]
  dsimp only
  rw [if_pos (by omega)]
theorem lst_run {a : AC} {σ σ1 : DSt} {xs : List RV} {ds : List D} (h : a.run σ = .ok xs σ1) (ht : tmps xs = some ds) (hl : ds.length ≤ 1000) : (cLst a).run σ = .ok (.tmp (.lst ds)) σ1 := by
  have big := size_big
  rw [run_lst, h, bind_ok, disp_eq, ht]
  dsimp only
  rw [if_pos (by omega)]
def s13 (d x1 x2 x3 x4 x5 x6 x7 x8 x9 x10 x11 x12 : Option D) : DSt := [d, x1, x2, x3, x4, x5, x6, x7, x8, x9, x10, x11, x12]
/-- a scene's row: its name, place, minutes, actors -/
def sceneD (t : Str) (q : Nat) (u : Int) (ks : List Int) : D := .tup [.str t, .int q, .str "any", .int u, .bl false, .tup (ks.map .int)]
def IsScene (p : Nat) (e : D) : Prop := ∃ t q u ks, q < p ∧ 10 ≤ u ∧ ks.length ≤ 5 ∧ e = sceneD t q u ks
theorem row_run {d : D} {p a k : Nat} {x3 x4 x6 x7 x8 x9 x10 x11 x12 : Option D} (hd : IsSt d) (hp : 1 ≤ p) (hp' : p ≤ 5) (ha : a ≤ 5) (hk : k < 5) :
    ∃ (e d' : D), IsSt d' ∧ (e.imm = true ∧ IsScene p e) ∧ cRow.run (s13 (some d) (some (.int p)) (some (.int a)) x3 x4 (some (.int (k : Int))) x6 x7 x8 x9 x10 x11 x12) = .ok (.tmp e) (s13 (some d') (some (.int p)) (some (.int a)) x3 x4 (some (.int (k : Int))) x6 x7 x8 x9 x10 x11 x12) := by
  obtain ⟨t, n1⟩ := name_run (σ := s13 (some d) (some (.int p)) (some (.int a)) x3 x4 (some (.int (k : Int))) x6 x7 x8 x9 x10 x11 x12) (s := 5) (c := "s") (by decide) hk rfl
  obtain ⟨r1, d1, i1, p0, p1, h1⟩ := take_run (m := p) hd (by omega) (by omega)
  obtain ⟨r1, rfl⟩ := Int.eq_ofNat_of_zero_le p0
  obtain ⟨r2, d2, i2, u0, _, h2⟩ := take_run (m := 12) i1 (by omega) (by omega)
  obtain ⟨ks, d3, i3, kl, h3⟩ := some_run (m := a) i2 (by omega)
  have e1 := h1 (s13 (some d) (some (.int p)) (some (.int a)) x3 x4 (some (.int (k : Int))) x6 x7 x8 x9 x10 x11 x12) 0 (cVar 1) rfl (var_int rfl)
  have e2 := h2 (s13 (some d1) (some (.int p)) (some (.int a)) x3 x4 (some (.int (k : Int))) x6 x7 x8 x9 x10 x11 x12) 0 (cK (.int 12)) rfl run_K
  have e3 := h3 (s13 (some d2) (some (.int p)) (some (.int a)) x3 x4 (some (.int (k : Int))) x6 x7 x8 x9 x10 x11 x12) 0 (cVar 2) rfl (var_int rfl)
  have e4 := bin_run run_K (bin_run run_K e2 (mul5 r2)) (gAdd_int (i := 10) (j := 5 * r2))
  refine ⟨.tup [.str t, .int r1, .str "any", .int (10 + 5 * r2), .bl false, .tup (ks.map .int)], d3, i3, ?_, ?_⟩
  · refine ⟨?_, t, r1, 10 + 5 * r2, ks, by omega, by omega, by omega, rfl⟩
    simp only [imm_tup, imms_cons, imm_str, imm_int, imm_bl, imms_ints, imms_nil, Bool.and_self]
  · exact tup_run (consA_run n1 (consA_run e1 (consA_run run_K (consA_run e4 (consA_run run_K (consA_run e3 run_nilA)))))) rfl (by simp)
end A2
end S_M16
section S_M17
set_option Elab.async false
set_option linter.all false
set_option maxRecDepth 100000
set_option maxHeartbeats 2000000
open PySem PySem.Spec L2
open PyProof.Rows hiding St
namespace A2
/-! ## _law_map: the orders -/
noncomputable def tOrd : TC := cTst (cBin gEq (cCall F__law_take [0] (aCons (cVar 0) (aCons (cK (.int 5)) aNil))) (cK (.int 0)))
noncomputable def cOrd : EC := cTup (aCons (cVar 5) (aCons (cVar 7) aNil))
theorem ord_loop {k : Int} {x1 x2 x3 x4 x6 x8 x9 x10 x11 x12 : Option D} : ∀ (n : Nat) (lo : Int) (acc : List D) (d : D), IsSt d → ∃ (js : List (List Int)) (d' : D), IsSt d' ∧ (∀ j ∈ js, j.length = 2) ∧ js.length ≤ n ∧ compRun (pV 7) tOrd cOrd [7] (rangeD lo n) acc (s13 (some d) x1 x2 x3 x4 (some (.int k)) x6 none x8 x9 x10 x11 x12) = .ok (acc ++ js.map tupI) (s13 (some d') x1 x2 x3 x4 (some (.int k)) x6 none x8 x9 x10 x11 x12)
  | 0, lo, acc, d, h => ⟨[], d, h, (fun _ h => by cases h), Nat.le_refl _, by show Res.ok acc _ = _; rw [List.map_nil, List.append_nil]⟩
  | n + 1, lo, acc, d, h => by
    obtain ⟨b, d1, i1, ht⟩ := take_eq0 (m := 5) h (by omega) (by omega)
    have hp : (pV 7).run (.int lo) (s13 (some d) x1 x2 x3 x4 (some (.int k)) x6 none x8 x9 x10 x11 x12) = some (s13 (some d) x1 x2 x3 x4 (some (.int k)) x6 (some (.int lo)) x8 x9 x10 x11 x12) := by simp [s13]
    have hT := ht (s13 (some d) x1 x2 x3 x4 (some (.int k)) x6 (some (.int lo)) x8 x9 x10 x11 x12) 0 rfl
    cases b with
    | true =>
      obtain ⟨js, d', i', hj, hl, hr⟩ := ord_loop (k := k) (x1 := x1) (x2 := x2) (x3 := x3) (x4 := x4) (x6 := x6) (x8 := x8) (x9 := x9) (x10 := x10) (x11 := x11) (x12 := x12) n (lo + 1) (acc ++ [tupI [k, lo]]) d1 i1
      refine ⟨[k, lo] :: js, d', i', fun j hj' => ?_, by simp only [List.length_cons]; omega, ?_⟩
      · rcases List.mem_cons.mp hj' with rfl | hj'
        · rfl
        · exact hj j hj'
      · show compRun _ _ _ _ (.int lo :: rangeD (lo + 1) n) _ _ = _
        refine (compRun_t hp hT (show cOrd.run (s13 (some d1) x1 x2 x3 x4 (some (.int k)) x6 (some (.int lo)) x8 x9 x10 x11 x12) = .ok (.tmp (tupI [k, lo])) (s13 (some d1) x1 x2 x3 x4 (some (.int k)) x6 (some (.int lo)) x8 x9 x10 x11 x12) from tup_run (consA_run (var_int rfl) (consA_run (var_int rfl) run_nilA)) rfl (by simp))).trans ?_
        refine Eq.trans hr ?_
        rw [List.append_assoc]
        rfl
    | false =>
      obtain ⟨js, d', i', hj, hl, hr⟩ := ord_loop (k := k) (x1 := x1) (x2 := x2) (x3 := x3) (x4 := x4) (x6 := x6) (x8 := x8) (x9 := x9) (x10 := x10) (x11 := x11) (x12 := x12) n (lo + 1) acc d1 i1
      refine ⟨js, d', i', hj, by omega, ?_⟩
      show compRun _ _ _ _ (.int lo :: rangeD (lo + 1) n) _ _ = _
      exact (compRun_f hp hT).trans hr
theorem rng2_eq {i n : Nat} (h1 : i ≤ 1000) (h2 : n ≤ 1000) : rng2 [.int (i : Int), .int (n : Int)] = some ((i : Int), n - i) := by
  have hR := inR_small h1
  have hS := inR_small h2
  unfold rng2
  dsimp only
  have e : ((n : Int) - (i : Int)).toNat = n - i := by omega
  rw [if_pos ⟨hR, hS⟩, e]
theorem compRg2 {g : List D → Option (Int × Nat)} {p : PC} {t : TC} {c : EC} {vs : List Nat} {e e2 : EC} {σ σ1 σ2 : DSt} {d d2 : D} {lo : Int} {n : Nat} (hg : g [d, d2] = some (lo, n)) (hs : e.run σ = .ok (.tmp d) σ1) (hs2 : e2.run σ1 = .ok (.tmp d2) σ2) : (cCompR g vs p t c (aCons e (aCons e2 aNil))).run σ = compEnd p t c vs (rangeD lo n) σ2 := by
  rw [run_compR, consA_run hs (consA_run hs2 run_nilA), bind_ok]
  exact compROf_eq hg
noncomputable def Bord : SC := (sSet 6 (cBin gAdd (cVar 6) (cCompR rng2 [7] (pV 7) tOrd cOrd (aCons (cBin gAdd (cVar 5) (cK (.int 1))) (aCons (cVar 3) aNil)))))
theorem cat_lst {a b : List D} (h : a.length + b.length ≤ 1000) (ha : D.imms a = true) (hb : D.imms b = true) : gAdd (.lst a) (.lst b) = some (.lst (a ++ b)) := by
  have big := size_big
  unfold gAdd
  dsimp only
  rw [if_pos ⟨by omega, ha, hb⟩]
theorem bord_turn {d : D} {k n : Nat} {x1 x2 x4 x8 x9 x10 x11 x12 : Option D} {os : List (List Int)} (hd : IsSt d) (hk : k < 1000) (hn : n ≤ 5) (ho : os.length ≤ 900) (h2 : ∀ j ∈ os, j.length = 2) : ∃ (os' : List (List Int)) (d' : D), IsSt d' ∧ (∀ j ∈ os', j.length = 2) ∧ os'.length ≤ os.length + 5 ∧
    Bord.run (s13 (some d) x1 x2 (some (.int n)) x4 (some (.int (k : Int))) (some (.lst (os.map tupI))) none x8 x9 x10 x11 x12) = .nx (s13 (some d') x1 x2 (some (.int n)) x4 (some (.int (k : Int))) (some (.lst (os'.map tupI))) none x8 x9 x10 x11 x12) := by
  obtain ⟨js, d', i', hj, hl, hr⟩ := ord_loop (k := k) (x1 := x1) (x2 := x2) (x3 := some (.int n)) (x4 := x4) (x6 := some (.lst (os.map tupI))) (x8 := x8) (x9 := x9) (x10 := x10) (x11 := x11) (x12 := x12) (n - (k + 1)) ((k : Int) + 1) [] d hd
  rw [List.nil_append] at hr
  refine ⟨os ++ js, d', i', fun j h => ?_, by rw [List.length_append]; omega, ?_⟩
  · rcases List.mem_append.mp h with h | h
    · exact h2 j h
    · exact hj j h
  · have hg : rng2 [.int ((k : Int) + 1), .int (n : Int)] = some ((k : Int) + 1, n - (k + 1)) := rng2_eq (i := k + 1) (by omega) (by omega)
    have hc : (cCompR rng2 [7] (pV 7) tOrd cOrd (aCons (cBin gAdd (cVar 5) (cK (.int 1))) (aCons (cVar 3) aNil))).run (s13 (some d) x1 x2 (some (.int n)) x4 (some (.int (k : Int))) (some (.lst (os.map tupI))) none x8 x9 x10 x11 x12) = .ok (.tmp (.lst (js.map tupI))) (s13 (some d') x1 x2 (some (.int n)) x4 (some (.int (k : Int))) (some (.lst (os.map tupI))) none x8 x9 x10 x11 x12) :=
      (compRg2 hg (bin_run (var_int rfl) run_K rfl) (var_int rfl)).trans (compEnd_eq (σ := s13 (some d) x1 x2 (some (.int n)) x4 (some (.int (k : Int))) (some (.lst (os.map tupI))) none x8 x9 x10 x11 x12) (σ' := s13 (some d') x1 x2 (some (.int n)) x4 (some (.int (k : Int))) (some (.lst (os.map tupI))) none x8 x9 x10 x11 x12) (vs := [7]) (show (rangeD ((k : Int) + 1) (n - (k + 1))).length ≤ 1000 by rw [rangeD_len]; omega) rfl rfl rfl hr)
    have hv : (cVar 6).run (s13 (some d) x1 x2 (some (.int n)) x4 (some (.int (k : Int))) (some (.lst (os.map tupI))) none x8 x9 x10 x11 x12) = .ok (.plc 6 []) (s13 (some d) x1 x2 (some (.int n)) x4 (some (.int (k : Int))) (some (.lst (os.map tupI))) none x8 x9 x10 x11 x12) := by simp [s13]
    have hcat := cat_lst (a := os.map tupI) (b := js.map tupI) (by rw [List.length_map, List.length_map]; omega) (imms_tupI os) (imms_tupI js)
    rw [List.map_append]
    unfold Bord
    rw [run_set, run_bin, hv, bind_ok, hc, bind_ok, stab_nil, if_pos rfl, fin2_eq]
    simp only [get_plc, s13, List.getElem?_cons_succ, List.getElem?_cons_zero, getP_nil, get_tmp, hcat, bindS_ok, setOf_tmp, List.length_cons, List.length_nil, List.set_cons_succ, List.set_cons_zero]
    rw [if_pos (by omega)]
end A2
end S_M17
section S_M18
set_option Elab.async false
set_option linter.all false
set_option maxRecDepth 100000
set_option maxHeartbeats 2000000
open PySem PySem.Spec L2
open PyProof.Rows hiding St
open PySem.W (alike alikeAll dataLt AlikeAll AllAlike Sortable minD maxD EachIs dataLe)
namespace A2
/-! ## _law_map: orders, ways -/
def okS (x : Option D) : Prop := ∀ d, x = some d → d.imm = true
theorem ords_loop {n : Nat} {x1 x2 x4 x8 x9 x10 x11 x12 : Option D} (hn : n ≤ 5) : ∀ (t k : Nat) (d : D) (x5 : Option D) (os : List (List Int)), IsSt d → okS x5 → k + t ≤ 5 → os.length ≤ 5 * k → (∀ j ∈ os, j.length = 2) →
    ∃ (os' : List (List Int)) (d' : D) (y5 : Option D), IsSt d' ∧ okS y5 ∧ (∀ j ∈ os', j.length = 2) ∧ os'.length ≤ 25 ∧ forRun (pV 5) Bord (rangeD (k : Int) t) (s13 (some d) x1 x2 (some (.int n)) x4 x5 (some (.lst (os.map tupI))) none x8 x9 x10 x11 x12) = .nx (s13 (some d') x1 x2 (some (.int n)) x4 y5 (some (.lst (os'.map tupI))) none x8 x9 x10 x11 x12)
  | 0, k, d, x5, os, hd, h5, hk, ho, h2 => ⟨os, d, x5, hd, h5, h2, by omega, rfl⟩
  | t + 1, k, d, x5, os, hd, h5, hk, ho, h2 => by
    obtain ⟨os1, d1, i1, g2, gl, hr⟩ := bord_turn (x1 := x1) (x2 := x2) (x4 := x4) (x8 := x8) (x9 := x9) (x10 := x10) (x11 := x11) (x12 := x12) (k := k) hd (by omega) hn (by omega) h2
    obtain ⟨os', d', y5, i', h5', g2', gl', hr'⟩ := ords_loop (x1 := x1) (x2 := x2) (x4 := x4) (x8 := x8) (x9 := x9) (x10 := x10) (x11 := x11) (x12 := x12) hn t (k + 1) d1 (some (.int (k : Int))) os1 i1 (fun d e => by cases e; rfl) (by omega) (by omega) g2
    refine ⟨os', d', y5, i', h5', g2', gl', ?_⟩
    show forRun (pV 5) Bord (.int (k : Int) :: rangeD ((k : Int) + 1) t) _ = _
    exact (forRun_nx (show (pV 5).run (.int (k : Int)) (s13 (some d) x1 x2 (some (.int n)) x4 x5 (some (.lst (os.map tupI))) none x8 x9 x10 x11 x12) = some (s13 (some d) x1 x2 (some (.int n)) x4 (some (.int (k : Int))) (some (.lst (os.map tupI))) none x8 x9 x10 x11 x12) by simp [s13]) hr).trans hr'
theorem plys_rows : ∀ rs : List (List Int), D.plys (rs.map tupI) = true
  | [] => rfl
  | r :: rs => by
    show ((tupI r).ply && D.plys (rs.map tupI)) = true
    rw [ply_tupI, plys_rows rs]
    rfl
theorem toPys_rows : ∀ rs : List (List Int), toPys (rs.map tupI) = rs.map fun r => toPy (tupI r)
  | [] => rfl
  | r :: rs => by
    show toPy (tupI r) :: toPys (rs.map tupI) = _
    rw [toPys_rows rs]
    rfl
theorem sortOk_rows (rs : List (List Int)) (h2 : ∀ r ∈ rs, r.length = 2) : sortOk (rs.map tupI) = true := by
  unfold sortOk
  rw [plys_rows, toPys_rows, Bool.true_and]
  have a1 : allAl (rs.map fun r => toPy (tupI r)) = true := by
    unfold allAl
    refine List.all_eq_true.mpr fun x hx => List.all_eq_true.mpr fun y hy => ?_
    obtain ⟨r, _, rfl⟩ := List.mem_map.mp hx
    obtain ⟨q, _, rfl⟩ := List.mem_map.mp hy
    exact alike_tupI r q
  have a2 : (rs.map fun r => toPy (tupI r)).all isTupC = true := by
    refine List.all_eq_true.mpr fun x hx => ?_
    obtain ⟨r, hr, rfl⟩ := List.mem_map.mp hx
    match r, h2 r hr with
    | [a, b], _ => rfl
  have a3 : ((rs.map fun r => toPy (tupI r)).all fun p => decide (p.depth ≤ 60)) = true := by
    refine List.all_eq_true.mpr fun x hx => ?_
    obtain ⟨r, _, rfl⟩ := List.mem_map.mp hx
    have : (toPy (tupI r)).depth = PyData.depthAll (toPys (r.map .int)) + 1 := rfl
    rw [this, depth_intsA]
    rfl
  rw [a1, a2, a3]
  rfl
theorem imms_all : ∀ l : List D, (∀ d ∈ l, d.imm = true) → D.imms l = true
  | [], _ => rfl
  | d :: l, h => by
    rw [imms_cons, h d (List.mem_cons_self ..), imms_all l fun e he => h e (List.mem_cons_of_mem _ he)]
    rfl
theorem gSort_rows (rs : List (List Int)) (h2 : ∀ r ∈ rs, r.length = 2) (h : rs.length ≤ 1000) : ∃ ds, gSort [.lst (rs.map tupI)] = some (.lst ds) ∧ D.imms ds = true ∧ ds.length ≤ 1000 := by
  refine ⟨_, by unfold gSort; dsimp only; rw [if_pos (sortOk_rows rs h2)], imms_all _ fun d hd => ?_, by rw [List.length_mergeSort, List.length_map]; exact h⟩
  obtain ⟨r, _, rfl⟩ := List.mem_map.mp (List.mem_mergeSort.mp hd)
  exact imm_tupI r
def swp (d : D) : D := match d with
  | .tup [x, y] => .tup [y, x]
  | d => d
noncomputable def cSwp : EC := (cFn gSort (aCons (cComp [8, 9] (pTup (pCons (pV 8) (pCons (pV 9) pNil))) cYes (cTup (aCons (cVar 9) (aCons (cVar 8) aNil))) (cVar 6)) aNil))
theorem compOf_lst {p : PC} {t : TC} {c : EC} {vs : List Nat} {x : RV} {σ : DSt} {ds : List D} (hx : x.get σ = some (.lst ds)) (hi : D.imms ds = true) (hl : loopOk (p.rw ++ (t.rw ++ c.rw)) x = true) : compOf p t c vs x σ = compEnd p t c vs ds σ := by
  unfold compOf
  rw [hx]
  simp only [itemsOf, hi, if_true]
  rw [if_pos hl]
theorem swp_run {x0 x1 x2 x3 x4 x5 x7 x10 x11 x12 : Option D} {os : List (List Int)} (h2 : ∀ j ∈ os, j.length = 2) (hl : os.length ≤ 25) : ∃ ds, D.imms ds = true ∧ ds.length ≤ 1000 ∧ cSwp.run (s13 x0 x1 x2 x3 x4 x5 (some (.lst (os.map tupI))) x7 none none x10 x11 x12) = .ok (.tmp (.lst ds)) (s13 x0 x1 x2 x3 x4 x5 (some (.lst (os.map tupI))) x7 none none x10 x11 x12) := by
  have hc : compRun (pTup (pCons (pV 8) (pCons (pV 9) pNil))) cYes (cTup (aCons (cVar 9) (aCons (cVar 8) aNil))) [8, 9] (os.map tupI) [] (s13 x0 x1 x2 x3 x4 x5 (some (.lst (os.map tupI))) x7 none none x10 x11 x12) = .ok ([] ++ (os.map tupI).map swp) (s13 x0 x1 x2 x3 x4 x5 (some (.lst (os.map tupI))) x7 none none x10 x11 x12) :=
    compRun_pure fun d hd => by
      obtain ⟨j, hj, rfl⟩ := List.mem_map.mp hd
      obtain ⟨a, b, rfl⟩ : ∃ a b, j = [a, b] := by
        match j, h2 j hj with
        | [a, b], _ => exact ⟨a, b, rfl⟩
      exact ⟨s13 x0 x1 x2 x3 x4 x5 (some (.lst (os.map tupI))) x7 (some (.int a)) (some (.int b)) x10 x11 x12, s13 x0 x1 x2 x3 x4 x5 (some (.lst (os.map tupI))) x7 (some (.int a)) (some (.int b)) x10 x11 x12, tg2 (i := 8) (j := 9) (σ := s13 x0 x1 x2 x3 x4 x5 (some (.lst (os.map tupI))) x7 none none x10 x11 x12) (by simp [s13]) (by simp [s13]), tup_run (consA_run (var_int rfl) (consA_run (var_int rfl) run_nilA)) rfl (by simp), rfl⟩
  have e : (os.map tupI).map swp = (os.map List.reverse).map tupI := by
    rw [List.map_map, List.map_map]
    refine List.map_congr_left fun j hj => ?_
    match j, h2 j hj with
    | [a, b], _ => rfl
  rw [List.nil_append, e] at hc
  obtain ⟨ds, g1, g2, g3⟩ := gSort_rows (os.map List.reverse) (fun r hr => by
    obtain ⟨j, hj, rfl⟩ := List.mem_map.mp hr
    rw [List.length_reverse]
    exact h2 j hj) (by rw [List.length_map]; omega)
  refine ⟨ds, g2, g3, ?_⟩
  have hv : (cVar 6).run (s13 x0 x1 x2 x3 x4 x5 (some (.lst (os.map tupI))) x7 none none x10 x11 x12) = .ok (.plc 6 []) (s13 x0 x1 x2 x3 x4 x5 (some (.lst (os.map tupI))) x7 none none x10 x11 x12) := by simp [s13]
  have hcomp : (cComp [8, 9] (pTup (pCons (pV 8) (pCons (pV 9) pNil))) cYes (cTup (aCons (cVar 9) (aCons (cVar 8) aNil))) (cVar 6)).run (s13 x0 x1 x2 x3 x4 x5 (some (.lst (os.map tupI))) x7 none none x10 x11 x12) = .ok (.tmp (.lst ((os.map List.reverse).map tupI))) (s13 x0 x1 x2 x3 x4 x5 (some (.lst (os.map tupI))) x7 none none x10 x11 x12) := by
    rw [run_comp, hv, bind_ok]
    refine (compOf_lst (x := .plc 6 []) (ds := os.map tupI) rfl (imms_tupI os) rfl).trans ?_
    exact compEnd_eq (σ := s13 x0 x1 x2 x3 x4 x5 (some (.lst (os.map tupI))) x7 none none x10 x11 x12) (σ' := s13 x0 x1 x2 x3 x4 x5 (some (.lst (os.map tupI))) x7 none none x10 x11 x12) (vs := [8, 9]) (by rw [List.length_map]; omega) rfl rfl rfl hc
  exact fn1_run hcomp g1
end A2
end S_M18
section S_M19
set_option Elab.async false
set_option linter.all false
set_option maxRecDepth 100000
set_option maxHeartbeats 2000000
open PySem PySem.Spec L2
open PyProof.Rows hiding St
namespace A2
/-! ## _law_map: ways -/
theorem app_run {c : EC} {s : Nat} {σ σ1 σ' : DSt} {d : D} (hs : (cVar s).run σ = .ok (.plc s []) σ) (hk : isK "list" (.plc s []) σ = true) (hc : c.run σ = .ok (.tmp d) σ1) (ha : appOf s (.plc s []) [.tmp d] σ1 = .ok (.tmp .non) σ') : (sExpr (cApp s (cVar s) (aCons c aNil))).run σ = .nx σ' := by
  rw [run_expr, run_app]
  unfold runM
  rw [hs, bind_ok, if_pos hk, consA_run hc run_nilA, bind_ok, stab_nil, if_pos rfl, ha]
  rfl
noncomputable def cMin : EC := (cIx (cLst (aCons (cBin gAdd (cK (.int 1)) (cCall F__law_take [0] (aCons (cVar 0) (aCons (cK (.int 30)) aNil)))) (aCons (cK (.int 240)) (aCons (cK (.int 5)) aNil)))) (cCall F__law_take [0] (aCons (cVar 0) (aCons (cK (.int 3)) aNil))))
theorem ix3 {σ : DSt} {a b c r : Int} (h0 : 0 ≤ r) (h3 : r < 3) : ixOf (.tmp (.lst [.int a, .int b, .int c])) (.tmp (.int r)) σ = .ok (.tmp (.int (if r = 0 then a else if r = 1 then b else c))) σ := by
  unfold ixOf
  simp only [get_tmp]
  rw [ixN_nat h0 (by simp only [List.length_cons, List.length_nil]; omega)]
  have : r = 0 ∨ r = 1 ∨ r = 2 := by omega
  rcases this with rfl | rfl | rfl <;> rfl
theorem min_take {d : D} (hd : IsSt d) : ∃ (m : Int) (d' : D), IsSt d' ∧ 1 ≤ m ∧ m ≤ 240 ∧ ∀ σ : DSt, σ[0]? = some (some d) → 0 < σ.length → ∃ τ, cMin.run σ = .ok (.tmp (.int m)) τ ∧ τ = σ.set 0 (some d') := by
  obtain ⟨r3, d1, i1, a3, b3, h3⟩ := take_run (m := 30) hd (by omega) (by omega)
  obtain ⟨r4, d2, i2, a4, b4, h4⟩ := take_run (m := 3) i1 (by omega) (by omega)
  refine ⟨if r4 = 0 then 1 + r3 else if r4 = 1 then 240 else 5, d2, i2, by split <;> (try split) <;> omega, by split <;> (try split) <;> omega, fun σ hs hl => ⟨_, ?_, rfl⟩⟩
  have e1 := bin_run run_K (h3 σ 0 (cK (.int 30)) hs run_K) (gAdd_int (i := 1) (j := r3))
  have e2 := lst_run (ds := [.int (1 + r3), .int 240, .int 5]) (consA_run e1 (consA_run (run_K (d := .int 240)) (consA_run (run_K (d := .int 5)) run_nilA))) rfl (by simp)
  have e3 := h4 (σ.set 0 (some d1)) 0 (cK (.int 3)) (by rw [List.getElem?_set_self hl]) run_K
  rw [List.set_set] at e3
  unfold cMin
  rw [run_ix, e2, bind_ok, e3, bind_ok, stab_tmp, if_pos rfl]
  exact ix3 a4 b4
noncomputable def Bway : SC := (sSeq (sSet 12 (cCall F__law_take [0] (aCons (cVar 0) (aCons (cBin gSub (cVar 1) (cK (.int 1))) aNil))))
  (sExpr (cApp 11 (cVar 11) (aCons (cTup (aCons (cVar 12) (aCons (cBin gAdd (cBin gAdd (cVar 12) (cK (.int 1))) (cCall F__law_take [0] (aCons (cVar 0) (aCons (cBin gSub (cBin gSub (cVar 1) (cVar 12)) (cK (.int 1))) aNil)))) (aCons cMin aNil)))) aNil))))
theorem way_turn {d : D} {n : Nat} {x2 x3 x4 x5 x6 x7 x8 x9 x10 x12 : Option D} {ws : List Way} (hd : IsSt d) (h1 : 2 ≤ n) (h5 : n ≤ 5) (hl : ws.length ≤ 900) : ∃ (w : Way) (d' : D), IsSt d' ∧ WayOk n w ∧
    Bway.run (s13 (some d) (some (.int n)) x2 x3 x4 x5 x6 x7 x8 x9 x10 (some (.lst (ws.map encW))) x12) = .nx (s13 (some d') (some (.int n)) x2 x3 x4 x5 x6 x7 x8 x9 x10 (some (.lst ((ws ++ [w]).map encW))) (some (.int w.1))) := by
  have big := size_big
  obtain ⟨r1, d1, i1, a1, b1, e1⟩ := take_run (m := (n : Int) - 1) hd (by omega) (by omega)
  obtain ⟨r2, d2, i2, a2, b2, e2⟩ := take_run (m := (n : Int) - r1 - 1) i1 (by omega) (by omega)
  obtain ⟨m, d3, i3, a3, b3, e3⟩ := min_take i2
  obtain ⟨u, rfl⟩ := Int.eq_ofNat_of_zero_le a1
  obtain ⟨v, hv⟩ := Int.eq_ofNat_of_zero_le (show 0 ≤ (u : Int) + 1 + r2 by omega)
  refine ⟨(u, v, m), d3, i3, ⟨by dsimp only; omega, by dsimp only; omega, a3, b3⟩, ?_⟩
  have f1 : (sSet 12 (cCall F__law_take [0] (aCons (cVar 0) (aCons (cBin gSub (cVar 1) (cK (.int 1))) aNil)))).run (s13 (some d) (some (.int n)) x2 x3 x4 x5 x6 x7 x8 x9 x10 (some (.lst (ws.map encW))) x12) = .nx (s13 (some d1) (some (.int n)) x2 x3 x4 x5 x6 x7 x8 x9 x10 (some (.lst (ws.map encW))) (some (.int (u : Int)))) := by
    rw [run_set, e1 (s13 (some d) (some (.int n)) x2 x3 x4 x5 x6 x7 x8 x9 x10 (some (.lst (ws.map encW))) x12) 0 _ rfl (bin_run (var_int rfl) run_K gSub_int), bindS_ok, setOf_tmp]
    simp [s13]
  have g1 := bin_run (var_int (σ := s13 (some d1) (some (.int n)) x2 x3 x4 x5 x6 x7 x8 x9 x10 (some (.lst (ws.map encW))) (some (.int (u : Int)))) (s := 12) rfl) run_K (gAdd_int (i := (u : Int)) (j := 1))
  have g2 := bin_run (bin_run (var_int (σ := s13 (some d1) (some (.int n)) x2 x3 x4 x5 x6 x7 x8 x9 x10 (some (.lst (ws.map encW))) (some (.int (u : Int)))) (s := 1) rfl) (var_int (s := 12) rfl) (gSub_int (i := (n : Int)) (j := (u : Int)))) run_K (gSub_int (i := (n : Int) - u) (j := 1))
  have g3 := e2 (s13 (some d1) (some (.int n)) x2 x3 x4 x5 x6 x7 x8 x9 x10 (some (.lst (ws.map encW))) (some (.int (u : Int)))) 0 _ rfl g2
  have g4 := bin_run g1 g3 (gAdd_int (i := (u : Int) + 1) (j := r2))
  obtain ⟨τ, g5, hτ⟩ := e3 (s13 (some d2) (some (.int n)) x2 x3 x4 x5 x6 x7 x8 x9 x10 (some (.lst (ws.map encW))) (some (.int (u : Int)))) rfl (by simp [s13])
  have hτ' : τ = s13 (some d3) (some (.int n)) x2 x3 x4 x5 x6 x7 x8 x9 x10 (some (.lst (ws.map encW))) (some (.int (u : Int))) := hτ
  rw [hτ'] at g5
  have g6 := tup_run (consA_run (var_int (σ := s13 (some d1) (some (.int n)) x2 x3 x4 x5 x6 x7 x8 x9 x10 (some (.lst (ws.map encW))) (some (.int (u : Int)))) (s := 12) rfl) (consA_run g4 (consA_run g5 run_nilA))) rfl (by simp)
  rw [hv] at g6
  have ha : appOf 11 (.plc 11 []) [.tmp (.tup [.int (u : Int), .int (v : Int), .int m])] (s13 (some d3) (some (.int n)) x2 x3 x4 x5 x6 x7 x8 x9 x10 (some (.lst (ws.map encW))) (some (.int (u : Int)))) = .ok (.tmp .non) (s13 (some d3) (some (.int n)) x2 x3 x4 x5 x6 x7 x8 x9 x10 (some (.lst ((ws ++ [(u, v, m)]).map encW))) (some (.int (u : Int)))) := by
    unfold appOf
    dsimp only
    simp only [if_true, s13, List.getElem?_cons_succ, List.getElem?_cons_zero, getP_nil, setP_nil, List.length_map]
    rw [if_pos (by omega)]
    simp only [List.map_append, List.map_cons, List.map_nil, List.set_cons_succ, List.set_cons_zero]
    rfl
  exact seq_nx f1 (app_run (by simp [s13]) rfl g6 ha)
end A2
end S_M19
section S_M20
set_option Elab.async false
set_option linter.all false
set_option maxRecDepth 100000
set_option maxHeartbeats 2000000
open PySem PySem.Spec L2
open PyProof.Rows hiding St
namespace A2
theorem wl_loop {n : Nat} {x2 x3 x4 x6 x7 x8 x9 x10 : Option D} (h1 : 2 ≤ n) (h5 : n ≤ 5) : ∀ (t : Nat) (lo : Int) (d : D) (x5 x12 : Option D) (ws : List Way), IsSt d → ws.length + t ≤ 40 → (∀ w ∈ ws, WayOk n w) →
    ∃ (ws' : List Way) (d' : D) (y5 y12 : Option D), IsSt d' ∧ ws'.length ≤ ws.length + t ∧ (∀ w ∈ ws', WayOk n w) ∧ forRun (pV 5) Bway (rangeD lo t) (s13 (some d) (some (.int n)) x2 x3 x4 x5 x6 x7 x8 x9 x10 (some (.lst (ws.map encW))) x12) = .nx (s13 (some d') (some (.int n)) x2 x3 x4 y5 x6 x7 x8 x9 x10 (some (.lst (ws'.map encW))) y12)
  | 0, lo, d, x5, x12, ws, hd, hl, hw => ⟨ws, d, x5, x12, hd, Nat.le_refl _, hw, rfl⟩
  | t + 1, lo, d, x5, x12, ws, hd, hl, hw => by
    obtain ⟨w, d1, i1, ok, hr⟩ := way_turn (x2 := x2) (x3 := x3) (x4 := x4) (x5 := some (.int lo)) (x6 := x6) (x7 := x7) (x8 := x8) (x9 := x9) (x10 := x10) (x12 := x12) (ws := ws) hd h1 h5 (by omega)
    obtain ⟨ws', d', y5, y12, i', l', w', hr'⟩ := wl_loop (x2 := x2) (x3 := x3) (x4 := x4) (x6 := x6) (x7 := x7) (x8 := x8) (x9 := x9) (x10 := x10) h1 h5 t (lo + 1) d1 (some (.int lo)) (some (.int w.1)) (ws ++ [w]) i1 (by rw [List.length_append, List.length_singleton]; omega) (fun v hv => by
      rcases List.mem_append.mp hv with hv | hv
      · exact hw v hv
      · rw [List.mem_singleton.mp hv]; exact ok)
    rw [List.length_append, List.length_singleton] at l'
    refine ⟨ws', d', y5, y12, i', by omega, w', ?_⟩
    show forRun (pV 5) Bway (.int lo :: rangeD (lo + 1) t) _ = _
    exact (forRun_nx (show (pV 5).run (.int lo) (s13 (some d) (some (.int n)) x2 x3 x4 x5 x6 x7 x8 x9 x10 (some (.lst (ws.map encW))) x12) = some (s13 (some d) (some (.int n)) x2 x3 x4 (some (.int lo)) x6 x7 x8 x9 x10 (some (.lst (ws.map encW))) x12) by simp [s13]) hr).trans hr'
theorem rowsD_enc : ∀ ws : List Way, rowsD (ws.map encW) = some (ws.map rowW)
  | [] => rfl
  | w :: ws => by
    show (match intsD [.int w.1, .int w.2.1, .int w.2.2], rowsD (ws.map encW) with | some a, some b => some (a :: b) | _, _ => none) = _
    rw [rowsD_enc ws]
    rfl
theorem rows_ways {P : Way → Prop} : ∀ l : List (List Int), (∀ z ∈ l, ∃ w, z = rowW w ∧ P w) → ∃ ws : List Way, l = ws.map rowW ∧ ∀ w ∈ ws, P w
  | [], _ => ⟨[], rfl, fun _ h => by cases h⟩
  | z :: l, h => by
    obtain ⟨w, e, hw⟩ := h z (List.mem_cons_self ..)
    obtain ⟨ws, e', hws⟩ := rows_ways l fun y hy => h y (List.mem_cons_of_mem _ hy)
    refine ⟨w :: ws, by rw [e, e']; rfl, fun v hv => ?_⟩
    rcases List.mem_cons.mp hv with rfl | hv
    · exact hw
    · exact hws v hv
theorem sort_ways {n : Nat} (hn : n ≤ 5) {ws : List Way} (hl : ws.length ≤ 40) (hw : ∀ w ∈ ws, WayOk n w) : ∃ ws', WaysOk n ws' ∧ ∀ (x : RV) (σ : DSt), x.get σ = some (.lst (ws.map encW)) → sortSetOf x σ = .ok (.tmp (.lst (ws'.map encW))) σ := by
  obtain ⟨ws', e, hw'⟩ := rows_ways (P := WayOk n) (sortU (ws.map rowW)) fun z hz => by
    obtain ⟨w, hwm, rfl⟩ := List.mem_map.mp (sortU_mem.mp hz)
    exact ⟨w, rfl, hw w hwm⟩
  have hlen := sortU_len (l := ws.map rowW)
  rw [e, List.length_map, List.length_map] at hlen
  refine ⟨ws', ⟨by omega, hw', by
    rw [← e]
    exact sortU_srt (n := 3) fun y hy => by
      obtain ⟨w, _, rfl⟩ := List.mem_map.mp hy
      rfl⟩, fun x σ hx => ?_⟩
  have hall : ((ws.map rowW).all (rowOk ((ws.map rowW).headD []).length)) = true := by
    refine List.all_eq_true.mpr fun z hz => ?_
    obtain ⟨w, hwm, rfl⟩ := List.mem_map.mp hz
    obtain ⟨q1, q2, q3, q4⟩ := hw w hwm
    have h3 : ((ws.map rowW).headD []).length = 3 := by
      cases ws with
      | nil => cases hwm
      | cons a b => rfl
    unfold rowOk
    rw [h3]
    simp [rowW]
    omega
  unfold sortSetOf
  rw [hx]
  dsimp only
  rw [rowsD_enc]
  dsimp only
  rw [if_pos ⟨by rw [List.length_map]; omega, hall, by cases ws <;> simp [rowW]⟩, e, List.map_map]
  rfl
end A2
end S_M20
section S_M21
set_option Elab.async false
set_option linter.all false
set_option maxRecDepth 100000
set_option maxHeartbeats 2000000
open PySem PySem.Spec L2
open PyProof.Rows hiding St
namespace A2
/-! ## _law_map, joined -/
theorem set_add_nat {d : D} {m : Nat} (hd : IsSt d) (h1 : 1 ≤ m) (h2 : m < 1000) : ∃ (r : Nat) (d' : D), IsSt d' ∧ 1 ≤ r ∧ r ≤ m ∧ ∀ (σ : DSt) (i : Nat), i < σ.length → σ[0]? = some (some d) → (sSet i (cBin gAdd (cK (.int 1)) (cCall F__law_take [0] (aCons (cVar 0) (aCons (cK (.int m)) aNil))))).run σ = .nx ((σ.set 0 (some d')).set i (some (.int (r : Int)))) := by
  obtain ⟨r, d', i, a, b, h⟩ := set_add_take (m := (m : Int)) hd (by omega) (by omega)
  obtain ⟨u, hu⟩ := Int.eq_ofNat_of_zero_le (show 0 ≤ 1 + r by omega)
  refine ⟨u, d', i, by omega, by omega, fun σ j hj hs => ?_⟩
  rw [h σ j hj hs, hu]
theorem own5 {x0 x1 x2 x3 x4 x5 x6 x7 x8 x9 x10 x11 x12 : Option D} (h : okS x5) : ownOk (s13 x0 x1 x2 x3 x4 x5 x6 x7 x8 x9 x10 x11 x12) [5] = true := by
  cases x5 with
  | none => rfl
  | some d =>
    have := h d rfl
    show (d.imm && true) = true
    rw [this]
    rfl
noncomputable def cNm (c : Str) (s : Nat) : EC := (cFn gTuple (aCons (cCompR rng1 [5] (pV 5) cYes (cTup (aCons (cBin gAdd (cK (.str c)) (cFn gStr (aCons (cVar 5) aNil))) (aCons (cK (.bl false)) aNil))) (aCons (cVar s) aNil)) aNil))
theorem gTuple_lst {es : List D} (h : D.imms es = true) : gTuple [.lst es] = some (.tup es) := by
  unfold gTuple
  dsimp only
  rw [if_pos h]
theorem names_run {d : D} {n s : Nat} {c : Str} {x1 x2 x3 x4 x5 x6 x7 x8 x9 x10 x11 x12 : Option D} (hd : IsSt d) (h5 : okS x5) (hn : n ≤ 5) (hc : c.length ≤ 10) (hs : (s13 (some d) x1 x2 x3 x4 x5 x6 x7 x8 x9 x10 x11 x12)[s]? = some (some (.int (n : Int)))) : ∃ es, D.imms es = true ∧ es.length = n ∧ (cNm c s).run (s13 (some d) x1 x2 x3 x4 x5 x6 x7 x8 x9 x10 x11 x12) = .ok (.tmp (.tup es)) (s13 (some d) x1 x2 x3 x4 x5 x6 x7 x8 x9 x10 x11 x12) := by
  have L : ∀ (t lo : Nat) (acc : List D), lo + t ≤ 5 → ∃ es : List D, D.imms es = true ∧ es.length = t ∧ compRun (pV 5) cYes (cTup (aCons (cBin gAdd (cK (.str c)) (cFn gStr (aCons (cVar 5) aNil))) (aCons (cK (.bl false)) aNil))) [5] (rangeD (lo : Int) t) acc (s13 (some d) x1 x2 x3 x4 none x6 x7 x8 x9 x10 x11 x12) = .ok (acc ++ es) (s13 (some d) x1 x2 x3 x4 none x6 x7 x8 x9 x10 x11 x12) := by
    intro t
    induction t with
    | zero => exact fun lo acc _ => ⟨[], rfl, rfl, by show Res.ok acc _ = _; rw [List.append_nil]⟩
    | succ t ih =>
      intro lo acc hl
      obtain ⟨y, n1⟩ := name_run (σ := s13 (some d) x1 x2 x3 x4 (some (.int (lo : Int))) x6 x7 x8 x9 x10 x11 x12) (s := 5) (k := lo) hc (by omega) rfl
      obtain ⟨es, im, le, hr⟩ := ih (lo + 1) (acc ++ [.tup [.str y, .bl false]]) (by omega)
      refine ⟨.tup [.str y, .bl false] :: es, by rw [imms_cons, im]; rfl, by rw [List.length_cons, le], ?_⟩
      show compRun _ _ _ _ (.int (lo : Int) :: rangeD ((lo : Int) + 1) t) _ _ = _
      refine (compRun_t (show (pV 5).run (.int (lo : Int)) (s13 (some d) x1 x2 x3 x4 none x6 x7 x8 x9 x10 x11 x12) = some (s13 (some d) x1 x2 x3 x4 (some (.int (lo : Int))) x6 x7 x8 x9 x10 x11 x12) by simp [s13]) run_yes (tup_run (ds := [.str y, .bl false]) (consA_run n1 (consA_run run_K run_nilA)) rfl (by simp))).trans ?_
      refine Eq.trans hr ?_
      rw [List.append_assoc]
      rfl
  obtain ⟨es, im, le, hr⟩ := L n 0 [] (by omega)
  refine ⟨es, im, le, ?_⟩
  have hcomp : (cCompR rng1 [5] (pV 5) cYes (cTup (aCons (cBin gAdd (cK (.str c)) (cFn gStr (aCons (cVar 5) aNil))) (aCons (cK (.bl false)) aNil))) (aCons (cVar s) aNil)).run (s13 (some d) x1 x2 x3 x4 x5 x6 x7 x8 x9 x10 x11 x12) = .ok (.tmp (.lst es)) (s13 (some d) x1 x2 x3 x4 x5 x6 x7 x8 x9 x10 x11 x12) := by
    refine ((compR1 (by omega) hs).trans (compEnd_eq (σ := s13 (some d) x1 x2 x3 x4 x5 x6 x7 x8 x9 x10 x11 x12) (σ' := s13 (some d) x1 x2 x3 x4 none x6 x7 x8 x9 x10 x11 x12) (vs := [5]) (show (rangeD 0 n).length ≤ 1000 by rw [rangeD_len]; omega) (own5 h5) rfl rfl hr)).trans ?_
    rfl
  exact fn1_run hcomp (gTuple_lst im)
end A2
end S_M21
section S_M22
set_option Elab.async false
set_option linter.all false
set_option maxRecDepth 100000
set_option maxHeartbeats 2000000
open PySem PySem.Spec L2
open PyProof.Rows hiding St
namespace A2
/-! ## _law_map, joined -/
noncomputable def sIfO : SC := (sIf (cTst (cBin gEq (cCall F__law_take [0] (aCons (cVar 0) (aCons (cK (.int 3)) aNil))) (cK (.int 0)))) (sSet 6 cSwp) sNil)
noncomputable def cFilm : EC := (cTup (aCons (cNm "p" 1) (aCons (cNm "a" 2) (aCons (cFn gTuple (aCons (cVar 4) aNil)) (aCons (cFn gTuple (aCons (cVar 6) aNil)) (aCons (cTup (aCons (cK (.int 10)) (aCons (cK (.int 20)) (aCons (cK (.int 30)) aNil)))) aNil))))))
noncomputable def cMany : EC := (cIfE (cTst (cBin gGtA (cVar 1) (cK (.int 1)))) (cCall F__law_take [0] (aCons (cVar 0) (aCons (cK (.int 9)) aNil))) (cK (.int 0)))
theorem hB_map : B__law_map =
  (sSeq (sSet 1 (cBin gAdd (cK (.int 1)) (cCall F__law_take [0] (aCons (cVar 0) (aCons (cK (.int 5)) aNil)))))
  (sSeq (sSet 2 (cBin gAdd (cK (.int 1)) (cCall F__law_take [0] (aCons (cVar 0) (aCons (cK (.int 2)) aNil)))))
  (sSeq (sSet 3 (cBin gAdd (cK (.int 1)) (cCall F__law_take [0] (aCons (cVar 0) (aCons (cK (.int 5)) aNil)))))
  (sSeq (sSet 4 (cCompR rng1 [5] (pV 5) cYes cRow (aCons (cVar 3) aNil)))
  (sSeq (sSet 6 (cLst aNil))
  (sSeq (sForR rng1 (pV 5) (aCons (cVar 3) aNil) Bord)
  (sSeq sIfO
  (sSeq (sSet 10 cFilm)
  (sSeq (sSet 11 (cLst aNil))
  (sSeq (sForR rng1 (pV 5) (aCons cMany aNil) Bway)
  (sRet (cTup (aCons (cVar 10) (aCons (cFn gTuple (aCons (cSortSet (cVar 11)) aNil)) aNil)))))))))))))) := rfl
theorem fnL_run {g : List D → Option D} {s : Nat} {σ : DSt} {ds : List D} {d : D} (hs : σ[s]? = some (some (.lst ds))) (hg : g [.lst ds] = some d) : (cFn g (aCons (cVar s) aNil)).run σ = .ok (.tmp d) σ := by
  have hv : (cVar s).run σ = .ok (.plc s []) σ := by
    rw [run_var, hs]
    rfl
  rw [run_fn, run_consA, hv, bind_ok, run_nilA, bind_ok, stab_nil, if_pos rfl, bind_ok, finA_eq]
  simp only [getAll_cons, getAll_nil, get_plc, hs, getP_nil, hg]
theorem set_run {i : Nat} {c : EC} {σ σ1 : DSt} {d : D} (h : c.run σ = .ok (.tmp d) σ1) (hi : i < σ1.length) : (sSet i c).run σ = .nx (σ1.set i (some d)) := by
  rw [run_set, h, bindS_ok, setOf_tmp, if_pos hi]
/-- the film's other parts: actors, scenes, orders, numbers -/
def RestOk (n : Nat) (rest : List D) : Prop := ∃ as es os, rest = [.tup as, .tup es, .tup os, .tup [.int 10, .int 20, .int 30]] ∧ 1 ≤ as.length ∧ as.length ≤ 2 ∧ 1 ≤ es.length ∧ es.length ≤ 5 ∧ ∀ e ∈ es, IsScene n e
theorem law_map_eq {d : D} (hd : IsSt d) : ∃ (n : Nat) (ps rest : List D) (ws : List Way) (d' : D), IsSt d' ∧ 1 ≤ n ∧ n ≤ 5 ∧ FilmOk n ps rest ∧ RestOk n rest ∧ WaysOk n ws ∧ F__law_map.run [d] = .ok (.tup [filmD ps rest, .tup (ws.map encW)]) [some d'] := by
  obtain ⟨n, d1, i1, n1, n5, e1⟩ := set_add_nat (m := 5) hd (by omega) (by omega)
  obtain ⟨a, d2, i2, a1, a2, e2⟩ := set_add_nat (m := 2) i1 (by omega) (by omega)
  obtain ⟨s, d3, i3, s1, s5, e3⟩ := set_add_nat (m := 5) i2 (by omega) (by omega)
  have h1 := e1 (s13 (some d) none none none none none none none none none none none none) 1 (by simp [s13]) rfl
  have h2 := e2 (s13 (some d1) (some (.int n)) none none none none none none none none none none none) 2 (by simp [s13]) rfl
  have h3 := e3 (s13 (some d2) (some (.int n)) (some (.int a)) none none none none none none none none none none) 3 (by simp [s13]) rfl
  obtain ⟨es, d4, i4, es1, ⟨es2, esS⟩, hr⟩ := rows_gen (p := pV 5) (c := cRow) (vs := [5]) (fun d => s13 (some d) (some (.int n)) (some (.int a)) (some (.int s)) none none none none none none none none none) (fun k => k < 5) (IsScene n) (fun k d hd hk => by
    obtain ⟨e, d', i, im, hr⟩ := row_run (x3 := some (.int s)) (x4 := none) (x6 := none) (x7 := none) (x8 := none) (x9 := none) (x10 := none) (x11 := none) (x12 := none) (p := n) (a := a) (k := k) hd n1 n5 (by omega) hk
    exact ⟨e, d', _, _, i, im, (by simp [s13]), hr, rfl⟩) s 0 [] d3 i3 (fun k _ h => by omega)
  have h4 := set_run (i := 4) ((compR1 (p := pV 5) (t := cYes) (c := cRow) (vs := [5]) (σ := s13 (some d3) (some (.int n)) (some (.int a)) (some (.int s)) none none none none none none none none none) (n := s) (s := 3) (by omega) rfl).trans (compEnd_eq (σ := s13 (some d3) (some (.int n)) (some (.int a)) (some (.int s)) none none none none none none none none none) (σ' := s13 (some d4) (some (.int n)) (some (.int a)) (some (.int s)) none none none none none none none none none) (vs := [5]) (show (rangeD 0 s).length ≤ 1000 by rw [rangeD_len]; omega) rfl rfl rfl hr)) (show 4 < 13 by decide)
  have h5 : (sSet 6 (cLst aNil)).run (s13 (some d4) (some (.int n)) (some (.int a)) (some (.int s)) (some (.lst es)) none none none none none none none none) = .nx (s13 (some d4) (some (.int n)) (some (.int a)) (some (.int s)) (some (.lst es)) none (some (.lst (([] : List (List Int)).map tupI))) none none none none none none) := set_run (lst_run run_nilA rfl (by simp)) (show 6 < 13 by decide)
  obtain ⟨os, d5, y5, i5, o5, os2, osl, hr5⟩ := ords_loop (n := s) (x1 := some (.int n)) (x2 := some (.int a)) (x4 := some (.lst es)) (x8 := none) (x9 := none) (x10 := none) (x11 := none) (x12 := none) s5 s 0 d4 none [] i4 (fun d e => by cases e) (by omega) (by simp) (fun j h => by cases h)
  have h6 := (forR1 (p := pV 5) (b := Bord) (σ := s13 (some d4) (some (.int n)) (some (.int a)) (some (.int s)) (some (.lst es)) none (some (.lst (([] : List (List Int)).map tupI))) none none none none none none) (s := 3) (n := s) (by omega) rfl).trans hr5
  obtain ⟨k, d6, i6, ht⟩ := take_eq0 (m := 3) i5 (by omega) (by omega)
  have h7 : ∃ ds, D.imms ds = true ∧ ds.length ≤ 1000 ∧ sIfO.run (s13 (some d5) (some (.int n)) (some (.int a)) (some (.int s)) (some (.lst es)) y5 (some (.lst (os.map tupI))) none none none none none none) = .nx (s13 (some d6) (some (.int n)) (some (.int a)) (some (.int s)) (some (.lst es)) y5 (some (.lst ds)) none none none none none none) := by
    have hT := ht (s13 (some d5) (some (.int n)) (some (.int a)) (some (.int s)) (some (.lst es)) y5 (some (.lst (os.map tupI))) none none none none none none) 0 rfl
    cases k with
    | false =>
      refine ⟨os.map tupI, imms_tupI os, by rw [List.length_map]; omega, ?_⟩
      unfold sIfO
      rw [run_if, hT, bindS_ok, if_neg (by decide), run_nilS]
      rfl
    | true =>
      obtain ⟨ds, m1, m2, hs⟩ := swp_run (x0 := some d6) (x1 := some (.int n)) (x2 := some (.int a)) (x3 := some (.int s)) (x4 := some (.lst es)) (x5 := y5) (x7 := none) (x10 := none) (x11 := none) (x12 := none) os2 osl
      refine ⟨ds, m1, m2, ?_⟩
      unfold sIfO
      rw [run_if, hT, bindS_ok, if_pos rfl]
      exact set_run hs (show 6 < 13 by decide)
  obtain ⟨ds, m1, m2, h7⟩ := h7
  obtain ⟨ps, p1, p2, q1⟩ := names_run (x1 := some (.int n)) (x2 := some (.int a)) (x3 := some (.int s)) (x4 := some (.lst es)) (x5 := y5) (x6 := some (.lst ds)) (x7 := none) (x8 := none) (x9 := none) (x10 := none) (x11 := none) (x12 := none) (c := "p") (s := 1) (n := n) i6 o5 n5 (by decide) rfl
  obtain ⟨as, b1, b2, q2⟩ := names_run (x1 := some (.int n)) (x2 := some (.int a)) (x3 := some (.int s)) (x4 := some (.lst es)) (x5 := y5) (x6 := some (.lst ds)) (x7 := none) (x8 := none) (x9 := none) (x10 := none) (x11 := none) (x12 := none) (c := "a") (s := 2) (n := a) i6 o5 (by omega) (by decide) rfl
  have q3 := fnL_run (σ := s13 (some d6) (some (.int n)) (some (.int a)) (some (.int s)) (some (.lst es)) y5 (some (.lst ds)) none none none none none none) (s := 4) rfl (gTuple_lst es1)
  have q4 := fnL_run (σ := s13 (some d6) (some (.int n)) (some (.int a)) (some (.int s)) (some (.lst es)) y5 (some (.lst ds)) none none none none none none) (s := 6) rfl (gTuple_lst m1)
  have q5 : (cTup (aCons (cK (.int 10)) (aCons (cK (.int 20)) (aCons (cK (.int 30)) aNil)))).run (s13 (some d6) (some (.int n)) (some (.int a)) (some (.int s)) (some (.lst es)) y5 (some (.lst ds)) none none none none none none) = .ok (.tmp (.tup [.int 10, .int 20, .int 30])) (s13 (some d6) (some (.int n)) (some (.int a)) (some (.int s)) (some (.lst es)) y5 (some (.lst ds)) none none none none none none) := tup_run (consA_run run_K (consA_run run_K (consA_run run_K run_nilA))) rfl (by simp)
  have q6 : cFilm.run (s13 (some d6) (some (.int n)) (some (.int a)) (some (.int s)) (some (.lst es)) y5 (some (.lst ds)) none none none none none none) = .ok (.tmp (filmD ps [.tup as, .tup es, .tup ds, .tup [.int 10, .int 20, .int 30]])) (s13 (some d6) (some (.int n)) (some (.int a)) (some (.int s)) (some (.lst es)) y5 (some (.lst ds)) none none none none none none) := tup_run (consA_run q1 (consA_run q2 (consA_run q3 (consA_run q4 (consA_run q5 run_nilA))))) rfl (by simp)
  have h8 := set_run (i := 10) q6 (show 10 < 13 by decide)
  have F : FilmOk n ps [.tup as, .tup es, .tup ds, .tup [.int 10, .int 20, .int 30]] := ⟨p1, by simp [b1, es1, m1], p2⟩
  have h9 : (sSet 11 (cLst aNil)).run (s13 (some d6) (some (.int n)) (some (.int a)) (some (.int s)) (some (.lst es)) y5 (some (.lst ds)) none none none (some (filmD ps [.tup as, .tup es, .tup ds, .tup [.int 10, .int 20, .int 30]])) none none) = .nx (s13 (some d6) (some (.int n)) (some (.int a)) (some (.int s)) (some (.lst es)) y5 (some (.lst ds)) none none none (some (filmD ps [.tup as, .tup es, .tup ds, .tup [.int 10, .int 20, .int 30]])) (some (.lst (([] : List Way).map encW))) none) := set_run (lst_run run_nilA rfl (by simp)) (show 11 < 13 by decide)
  have h10 : ∃ (ws : List Way) (d' : D) (z5 z12 : Option D), IsSt d' ∧ ws.length ≤ 40 ∧ (∀ w ∈ ws, WayOk n w) ∧ (sForR rng1 (pV 5) (aCons cMany aNil) Bway).run (s13 (some d6) (some (.int n)) (some (.int a)) (some (.int s)) (some (.lst es)) y5 (some (.lst ds)) none none none (some (filmD ps [.tup as, .tup es, .tup ds, .tup [.int 10, .int 20, .int 30]])) (some (.lst (([] : List Way).map encW))) none) = .nx (s13 (some d') (some (.int n)) (some (.int a)) (some (.int s)) (some (.lst es)) z5 (some (.lst ds)) none none none (some (filmD ps [.tup as, .tup es, .tup ds, .tup [.int 10, .int 20, .int 30]])) (some (.lst (ws.map encW))) z12) := by
    generalize filmD ps [.tup as, .tup es, .tup ds, .tup [.int 10, .int 20, .int 30]] = FD
    have hg := bin_run (var_int (σ := s13 (some d6) (some (.int n)) (some (.int a)) (some (.int s)) (some (.lst es)) y5 (some (.lst ds)) none none none (some FD) (some (.lst (([] : List Way).map encW))) none) (s := 1) rfl) (run_K (d := .int 1)) (gGtA_int (i := (n : Int)) (j := 1))
    by_cases hn : (1 : Int) < n
    · obtain ⟨r, d7, i7, r0, r1, e7⟩ := take_run (m := 9) i6 (by omega) (by omega)
      obtain ⟨u, rfl⟩ := Int.eq_ofNat_of_zero_le r0
      obtain ⟨ws, d', z5, z12, i', l', w', hw⟩ := wl_loop (n := n) (x2 := some (.int a)) (x3 := some (.int s)) (x4 := some (.lst es)) (x6 := some (.lst ds)) (x7 := none) (x8 := none) (x9 := none) (x10 := some FD) (by omega) n5 u 0 d7 y5 none [] i7 (by simp; omega) (fun w h => by cases h)
      refine ⟨ws, d', z5, z12, i', by simp at l'; omega, w', ?_⟩
      refine (forRg (rng1_eq (n := u) (by omega)) ?_).trans hw
      unfold cMany
      rw [run_ifE, run_tst, hg, bind_ok, tst_bl, bind_ok, decide_eq_true hn, if_pos rfl]
      exact e7 _ 0 _ rfl run_K
    · refine ⟨[], d6, y5, none, i6, by simp, (fun w h => by cases h), ?_⟩
      refine (forRg (rng1_eq (n := 0) (by omega)) ?_).trans rfl
      unfold cMany
      rw [run_ifE, run_tst, hg, bind_ok, tst_bl, bind_ok, decide_eq_false hn, if_neg (by decide)]
      exact run_K
  obtain ⟨ws, d', z5, z12, i', wl, wo, h10⟩ := h10
  obtain ⟨ws', W, hs⟩ := sort_ways n5 wl wo
  refine ⟨n, ps, _, ws', d', i', n1, n5, F, ⟨as, es, ds, rfl, by omega, by omega, by omega, by omega, esS⟩, W, ?_⟩
  have hv : (cVar 11).run (s13 (some d') (some (.int n)) (some (.int a)) (some (.int s)) (some (.lst es)) z5 (some (.lst ds)) none none none (some (filmD ps [.tup as, .tup es, .tup ds, .tup [.int 10, .int 20, .int 30]])) (some (.lst (ws.map encW))) z12) = .ok (.plc 11 []) (s13 (some d') (some (.int n)) (some (.int a)) (some (.int s)) (some (.lst es)) z5 (some (.lst ds)) none none none (some (filmD ps [.tup as, .tup es, .tup ds, .tup [.int 10, .int 20, .int 30]])) (some (.lst (ws.map encW))) z12) := rfl
  have hss : (cSortSet (cVar 11)).run (s13 (some d') (some (.int n)) (some (.int a)) (some (.int s)) (some (.lst es)) z5 (some (.lst ds)) none none none (some (filmD ps [.tup as, .tup es, .tup ds, .tup [.int 10, .int 20, .int 30]])) (some (.lst (ws.map encW))) z12) = .ok (.tmp (.lst (ws'.map encW))) (s13 (some d') (some (.int n)) (some (.int a)) (some (.int s)) (some (.lst es)) z5 (some (.lst ds)) none none none (some (filmD ps [.tup as, .tup es, .tup ds, .tup [.int 10, .int 20, .int 30]])) (some (.lst (ws.map encW))) z12) := by
    unfold cSortSet
    dsimp only
    rw [hv, bind_ok]
    exact hs _ _ rfl
  have hf : (cVar 10).run (s13 (some d') (some (.int n)) (some (.int a)) (some (.int s)) (some (.lst es)) z5 (some (.lst ds)) none none none (some (filmD ps [.tup as, .tup es, .tup ds, .tup [.int 10, .int 20, .int 30]])) (some (.lst (ws.map encW))) z12) = .ok (.tmp (filmD ps [.tup as, .tup es, .tup ds, .tup [.int 10, .int 20, .int 30]])) (s13 (some d') (some (.int n)) (some (.int a)) (some (.int s)) (some (.lst es)) z5 (some (.lst ds)) none none none (some (filmD ps [.tup as, .tup es, .tup ds, .tup [.int 10, .int 20, .int 30]])) (some (.lst (ws.map encW))) z12) := by
    rw [run_var]
    dsimp only [s13, List.getElem?_cons_succ, List.getElem?_cons_zero]
    rw [show (filmD ps [.tup as, .tup es, .tup ds, .tup [.int 10, .int 20, .int 30]]).imm = true by simp [filmD, F.i1, F.i2]]
    rfl
  have h11 : (sRet (cTup (aCons (cVar 10) (aCons (cFn gTuple (aCons (cSortSet (cVar 11)) aNil)) aNil)))).run (s13 (some d') (some (.int n)) (some (.int a)) (some (.int s)) (some (.lst es)) z5 (some (.lst ds)) none none none (some (filmD ps [.tup as, .tup es, .tup ds, .tup [.int 10, .int 20, .int 30]])) (some (.lst (ws.map encW))) z12) = .rt (.tup [filmD ps [.tup as, .tup es, .tup ds, .tup [.int 10, .int 20, .int 30]], .tup (ws'.map encW)]) (s13 (some d') (some (.int n)) (some (.int a)) (some (.int s)) (some (.lst es)) z5 (some (.lst ds)) none none none (some (filmD ps [.tup as, .tup es, .tup ds, .tup [.int 10, .int 20, .int 30]])) (some (.lst (ws.map encW))) z12) := by
    rw [run_ret, tup_run (consA_run hf (consA_run (fn1_run hss (gTuple_lst (imms_encW ws'))) run_nilA)) rfl (by simp)]
    rfl
  have h := seq_nx h1 (seq_nx h2 (seq_nx h3 (seq_nx h4 (seq_nx h5 (seq_nx h6 (seq_nx h7 (seq_nx h8 (seq_nx h9 (seq_nx h10 h11)))))))))
  have h' := (congrArg (fun b : SC => b.run (s13 (some d) none none none none none none none none none none none none)) hB_map).trans h
  exact fn_rt (n := 1) (m := 13) (b := B__law_map) (ds := [d]) h'
end A2
end S_M22
section S_A5a
set_option Elab.async false
set_option linter.all false
set_option maxRecDepth 100000
set_option maxHeartbeats 1000000
open PySem PySem.Spec L2
open PyProof.Rows hiding St
namespace A2
/-! ## evaluation: fields, methods -/
theorem ofString_inj {a b : String} (h : Str.ofString a = Str.ofString b) : a = b := by
  rw [Str.ofString_eq_toList, Str.ofString_eq_toList] at h
  have h1 : a.toList.map Char.toNat = b.toList.map Char.toNat := by
    have := congrArg (fun s : Str => s.cps.toList) h
    simpa using this
  have h2 : a.toList = b.toList := List.map_inj_right (f := Char.toNat) (fun x y e => Char.toNat_inj.mp e) |>.mp h1
  exact String.toList_inj.mp h2
@[simp] theorem ofString_eq {a b : String} : (Str.ofString a = Str.ofString b) = (a = b) := propext ⟨ofString_inj, fun h => by rw [h]⟩
@[simp] theorem imm_ins {c ws} : D.imm (.ins c ws) = false := rfl
@[simp] theorem getP_fl {c ws f p} : getP (.ins c ws) (.fl f :: p) = (match lookF ws f with | some d => getP d p | none => none) := rfl
@[simp] theorem setP_fl {c ws f p e} : setP (.ins c ws) (.fl f :: p) e = (match lookF ws f with | some d => .ins c (setF ws f (setP d p e)) | none => .ins c ws) := rfl
@[simp] theorem run_fld {cs f c σ} : (cFld cs f c).run σ = (c.run σ).bind (fldOf cs f) := rfl
@[simp] theorem rw_fld {cs f c} : (cFld cs f c).rw = c.rw := rfl
@[simp] theorem fldOf_eq {cs f x σ} : fldOf cs f x σ = (match x.get σ with
  | some (.ins c ws) => if c ∈ cs then (match lookF ws f with
    | some d => itemOf x (.fl f) d σ
    | none => .bad) else .bad
  | _ => .bad) := rfl
@[simp] theorem itemOf_eq {x st d σ} : itemOf x st d σ = if d.imm then .ok (.tmp d) σ else match x with
  | .tmp _ => .ok (.tmp d) σ
  | .plc s p => .ok (.plc s (p ++ [st])) σ := rfl
@[simp] theorem run_setF {s cs f o c σ} : (sSetF s cs f o c).run σ = bindS (c.run σ) fun x σ1 => bindS (o.run σ1) fun y σ2 => (match storeF s cs f x y σ2 with
  | some σ' => .nx σ'
  | none => .bad) := rfl
@[simp] theorem run_fldAug {s cs f h o c σ} : (sFldAug s cs f h o c).run σ = bindS (o.run σ) fun y σ1 => (match fldInt cs f y σ1 with
  | some (cn, v) => bindS (c.run σ1) fun z σ2 => if stab y c.rw then (match z.get σ2 with
    | some (.int j) => (match storeF s [cn] f (.tmp (.int (h v j))) y σ2 with
      | some σ' => .nx σ'
      | none => .bad)
    | _ => .bad) else .bad
  | none => .bad) := rfl
@[simp] theorem run_aug {i h c} {σ : DSt} : (sAug i h c).run σ = (match σ[i]? with
  | some (some (.int x)) => bindS (c.run σ) fun y σ1 => (match y.get σ1 with
    | some (.int j) => if i < σ1.length then .nx (σ1.set i (some (.int (h x j)))) else .bad
    | _ => .bad)
  | _ => .bad) := rfl
@[simp] theorem run_meth {cn m f lw o a σ} : (cMeth cn m f lw o a).run σ = (o.run σ).bind (methOf cn m f lw a) := rfl
@[simp] theorem run_make {cn f lw a σ} : (cMake cn f lw a).run σ = (a.run σ).bind (makeOf cn f lw) := rfl
@[simp] theorem run_popAt {s o a σ} : (cPopAt s o a).run σ = runM "list" o a (popAtOf s) σ := rfl
@[simp] theorem run_rg1 {mk c σ} : (cRg1 mk c).run σ = (c.run σ).bind (rg1Of mk) := rfl
@[simp] theorem run_rg2 {mk a b σ} : (cRg2 mk a b).run σ = (a.run σ).bind fun x σ1 => (b.run σ1).bind fun y σ2 => if stab x b.rw then rg2Of mk x y σ2 else .bad := rfl
@[simp] theorem rw_meth {cn m f lw o a} : (cMeth cn m f lw o a).rw = o.rw ++ (a.rw ++ lw) := rfl
@[simp] theorem rw_make {cn f lw a} : (cMake cn f lw a).rw = a.rw ++ lw := rfl
@[simp] theorem rw_popAt {s o a} : (cPopAt s o a).rw = o.rw ++ (a.rw ++ [s]) := rfl
@[simp] theorem rw_rg1 {mk c} : (cRg1 mk c).rw = c.rw ++ [] := rfl
/-! ### calls with one name lent -/
theorem getAll_tmps {σ : DSt} : ∀ ds : List D, getAll σ (ds.map RV.tmp) = some ds
  | [] => rfl
  | d :: ds => by
    show (match RV.get σ (.tmp d), getAll σ (ds.map RV.tmp) with | some a, some b => some (a :: b) | _, _ => none) = _
    rw [getAll_tmps ds]
    rfl
theorem places_tmps : ∀ ds : List D, places (ds.map RV.tmp) = []
  | [] => rfl
  | d :: ds => places_tmps ds
theorem lend_tmps {rw lw : List Nat} : ∀ (ds : List D) (k : Nat), lendOk rw lw k (ds.map RV.tmp) = true
  | [], k => rfl
  | d :: ds, k => by
    show (true && lendOk rw lw (k + 1) (ds.map RV.tmp)) = true
    rw [lend_tmps ds]
    rfl
theorem wb_tmps {rw : List Nat} : ∀ (ds : List D) (k : Nat) (os σ : DSt), wb rw k (ds.map RV.tmp) os σ = σ
  | [], k, os, σ => by cases os <;> rfl
  | d :: ds, k, [], σ => rfl
  | d :: ds, k, o :: os, σ => wb_tmps ds (k + 1) os σ
/-- f(x, ds..) where the name x at slot s is lent to be changed -/
theorem call_lent {f : FnC} {ds : List D} {σ : DSt} {s : Nat} {e d : D} {o : Option D} {outs : DSt} (hrw : f.rw = [0]) (hn : f.n = ds.length + 1) (hs : σ[s]? = some (some e)) (hr : f.run (e :: ds) = .ok d (o :: outs)) : callOf f [s] (.plc s [] :: ds.map .tmp) σ = .ok (.tmp d) (σ.set s o) := by
  have hg : getAll σ (.plc s [] :: ds.map .tmp) = some (e :: ds) := by
    rw [getAll_cons, getAll_tmps, get_plc, hs]
    simp only [getP_nil]
  unfold callOf
  rw [hg]
  dsimp only
  have hp : (places (.plc s [] :: ds.map RV.tmp)).Nodup := by
    show (s :: places (ds.map RV.tmp)).Nodup
    rw [places_tmps]
    simp
  have hl : lendOk f.rw [s] 0 (.plc s [] :: ds.map RV.tmp) = true := by
    show (decide (0 ∈ f.rw → s ∈ [s]) && lendOk f.rw [s] 1 (ds.map RV.tmp)) = true
    rw [lend_tmps]
    simp
  rw [if_pos ⟨hp, hl, by rw [List.length_cons, hn]⟩, hr]
  dsimp only
  have hw : wb f.rw 0 (.plc s [] :: ds.map RV.tmp) (o :: outs) σ = wb f.rw 1 (ds.map RV.tmp) outs (σ.set s o) := by
    rw [hrw]
    rfl
  rw [hw, wb_tmps]
theorem call_lent_err {f : FnC} {ds : List D} {σ : DSt} {s : Nat} {e : D} {x : Exc} (hrw : f.rw = [0]) (hn : f.n = ds.length + 1) (hs : σ[s]? = some (some e)) (hr : f.run (e :: ds) = .err x) : callOf f [s] (.plc s [] :: ds.map .tmp) σ = .err x (σ.set s none) := by
  have hg : getAll σ (.plc s [] :: ds.map .tmp) = some (e :: ds) := by
    rw [getAll_cons, getAll_tmps, get_plc, hs]
    simp only [getP_nil]
  unfold callOf
  rw [hg]
  dsimp only
  have hp : (places (.plc s [] :: ds.map RV.tmp)).Nodup := by
    show (s :: places (ds.map RV.tmp)).Nodup
    rw [places_tmps]
    simp
  have hl : lendOk f.rw [s] 0 (.plc s [] :: ds.map RV.tmp) = true := by
    show (decide (0 ∈ f.rw → s ∈ [s]) && lendOk f.rw [s] 1 (ds.map RV.tmp)) = true
    rw [lend_tmps]
    simp
  rw [if_pos ⟨hp, hl, by rw [List.length_cons, hn]⟩, hr]
  dsimp only
  have hw : wb f.rw 0 (.plc s [] :: ds.map RV.tmp) (killO f.rw 0 (e :: ds)) σ = wb f.rw 1 (ds.map RV.tmp) (killO f.rw 1 ds) (σ.set s none) := by
    rw [hrw]
    rfl
  rw [hw, wb_tmps]
theorem var_plc {σ : DSt} {s : Nat} {d : D} (hs : σ[s]? = some (some d)) (hi : d.imm = false) : (cVar s).run σ = .ok (.plc s []) σ := by
  rw [run_var, hs]
  dsimp only
  rw [hi]
  rfl
/-- s.m(ds..), the receiver a name -/
theorem meth_run {cn m : Str} {f : FnC} {s : Nat} {a : AC} {ds : List D} {ws : List (Str × D)} {d : D} {o : Option D} {outs σ : DSt} (hs : σ[s]? = some (some (.ins cn ws))) (hm : lookF ws m = none) (ha : a.run σ = .ok (ds.map .tmp) σ) (hrw : f.rw = [0]) (hn : f.n = ds.length + 1)
    (hr : f.run (.ins cn ws :: ds) = .ok d (o :: outs)) : (cMeth cn m f [s] (cVar s) a).run σ = .ok (.tmp d) (σ.set s o) := by
  rw [run_meth, var_plc hs imm_ins, bind_ok]
  unfold methOf
  have hi : isIns cn m (.plc s []) σ = true := by
    unfold isIns
    simp only [get_plc, hs, getP_nil, hm, decide_true, Option.isNone_none, Bool.and_self]
  rw [if_pos hi, ha, bind_ok, stab_nil, if_pos rfl]
  exact call_lent hrw hn hs hr
/-- cn(ds..) -/
theorem make_run {cn : Str} {f : FnC} {a : AC} {ds : List D} {d : D} {outs σ σ1 : DSt} (ha : a.run σ = .ok (ds.map .tmp) σ1) (hrw : f.rw = [0]) (hn : f.n = ds.length + 1)
    (hr : f.run (.ins cn [] :: ds) = .ok .non (some d :: outs)) : (cMake cn f [] a).run σ = .ok (.tmp d) σ1 := by
  rw [run_make, ha, bind_ok]
  unfold makeOf
  rw [getAll_tmps]
  dsimp only
  have hl : lendOk f.rw [] 0 (.tmp (.ins cn []) :: ds.map RV.tmp) = true := by
    show (true && lendOk f.rw [] 1 (ds.map RV.tmp)) = true
    rw [lend_tmps]
    rfl
  rw [if_pos ⟨by rw [places_tmps]; exact List.Pairwise.nil, hl, hn.symm, by rw [hrw]; simp⟩, hr]
  unfold madeOf
  dsimp only [List.getElem?_cons_zero]
  have hw : wb f.rw 0 (.tmp (.ins cn []) :: ds.map RV.tmp) ((some d :: outs).set 0 none) σ1 = wb f.rw 1 (ds.map RV.tmp) outs σ1 := rfl
  rw [hw, wb_tmps]
end A2
end S_A5a
section S_KC
set_option Elab.async false
set_option linter.all false
set_option maxRecDepth 100000
set_option maxHeartbeats 2000000
open PySem PySem.Spec L2
open PyProof.Rows hiding St
namespace A2
/-! ## scenes as records -/
structure Sc where
  nm : Str
  q : Nat
  u : Int
  ks : List Int
  deriving Inhabited
def encS (s : Sc) : D := sceneD s.nm s.q s.u s.ks
def ScOk (n : Nat) (s : Sc) : Prop := s.q < n ∧ 10 ≤ s.u ∧ s.ks.length ≤ 5
theorem scenes_of {n : Nat} : ∀ {es : List D}, (∀ e ∈ es, IsScene n e) → ∃ ss : List Sc, es = ss.map encS ∧ ∀ s ∈ ss, ScOk n s
  | [], _ => ⟨[], rfl, fun _ h => nomatch h⟩
  | e :: es, h => by
    obtain ⟨ss, h1, h2⟩ := scenes_of fun x hx => h x (List.mem_cons_of_mem _ hx)
    obtain ⟨t, q, u, ks, a, b, c, rfl⟩ := h e (List.mem_cons_self ..)
    refine ⟨⟨t, q, u, ks⟩ :: ss, by rw [h1]; rfl, fun s hs => ?_⟩
    rcases List.mem_cons.mp hs with rfl | hs
    · exact ⟨a, b, c⟩
    · exact h2 s hs
@[simp] theorem imm_encS (s : Sc) : (encS s).imm = true := by
  show D.imms [.str s.nm, .int s.q, .str "any", .int s.u, .bl false, .tup (s.ks.map .int)] = true
  simp only [imms_cons, imm_str, imm_int, imm_bl, imm_tup, imms_ints, imms_nil, Bool.and_self]
theorem imms_encS : ∀ ss : List Sc, D.imms (ss.map encS) = true
  | [] => rfl
  | s :: ss => by rw [List.map_cons, imms_cons, imm_encS, imms_encS ss]; rfl
/-! ## in, of numbers -/
theorem flat_ints : ∀ xs : List Int, (xs.map D.int).all flatD = true
  | [] => rfl
  | x :: xs => by
    show (true && (xs.map D.int).all flatD) = true
    rw [flat_ints xs]
    rfl
theorem any_ints (i : Int) : ∀ xs : List Int, ((xs.map D.int).any fun z => flatEq z (.int i)) = decide (i ∈ xs)
  | [] => rfl
  | x :: xs => by
    show ((x == i) || (xs.map D.int).any fun z => flatEq z (.int i)) = _
    rw [any_ints i xs]
    by_cases h : x = i
    · subst h
      simp
    · have : ¬ i = x := fun z => h z.symm
      simp [h, this]
theorem gIn_ints {i : Int} {xs : List Int} : gIn (.int i) (.tup (xs.map .int)) = some (.bl (decide (i ∈ xs))) := by
  have h : inD (.int i) (.tup (xs.map .int)) = some (decide (i ∈ xs)) := by
    unfold inD
    dsimp only [rowOf]
    rw [if_pos ⟨rfl, flat_ints xs⟩, any_ints]
  unfold gIn
  rw [h]
  rfl
theorem gNotIn_ints {i : Int} {xs : List Int} : gNotIn (.int i) (.tup (xs.map .int)) = some (.bl (decide (i ∉ xs))) := by
  have h : inD (.int i) (.tup (xs.map .int)) = some (decide (i ∈ xs)) := by
    unfold inD
    dsimp only [rowOf]
    rw [if_pos ⟨rfl, flat_ints xs⟩, any_ints]
  unfold gNotIn
  rw [h]
  show some (D.bl (!decide (i ∈ xs))) = _
  by_cases hh : i ∈ xs <;> simp [hh]
/-! ## items of tuples -/
theorem ix_tup {σ : DSt} {ds : List D} {i : Int} {d : D} (h0 : 0 ≤ i) (hg : ds[i.toNat]? = some d) (hi : d.imm = true) : ixOf (.tmp (.tup ds)) (.tmp (.int i)) σ = .ok (.tmp d) σ := by
  have hlt : i.toNat < ds.length := (List.getElem?_eq_some_iff.mp hg).1
  have ha : L2.atI ds i = some d := by rw [atI_pos h0 (by omega)]; exact hg
  unfold ixOf
  simp only [get_tmp, ha, hi, if_true]
theorem ix_scene {σ : DSt} {ss : List Sc} {i : Int} (h0 : 0 ≤ i) (h1 : i < ss.length) : ixOf (.tmp (.tup (ss.map encS))) (.tmp (.int i)) σ = .ok (.tmp (encS (ss.getD i.toNat default))) σ := by
  refine ix_tup h0 ?_ (imm_encS _)
  rw [List.getElem?_map, List.getD_eq_getElem?_getD, List.getElem?_eq_getElem (by omega)]
  rfl
theorem ix_scq {σ : DSt} {s : Sc} : ixOf (.tmp (encS s)) (.tmp (.int 1)) σ = .ok (.tmp (.int s.q)) σ := ix_tup (by omega) rfl rfl
theorem ix_scu {σ : DSt} {s : Sc} : ixOf (.tmp (encS s)) (.tmp (.int 3)) σ = .ok (.tmp (.int s.u)) σ := ix_tup (by omega) rfl rfl
theorem ix_sck {σ : DSt} {s : Sc} : ixOf (.tmp (encS s)) (.tmp (.int 5)) σ = .ok (.tmp (.tup (s.ks.map .int))) σ := ix_tup (by omega) rfl (imms_ints _)
/-- the film as the law makes it -/
def filmS (ps as : List D) (ss : List Sc) (os : List D) : D := filmD ps [.tup as, .tup (ss.map encS), .tup os, .tup [.int 10, .int 20, .int 30]]
theorem ix_film2 {σ : DSt} {ps as : List D} {ss : List Sc} {os : List D} : ixOf (.tmp (filmS ps as ss os)) (.tmp (.int 2)) σ = .ok (.tmp (.tup (ss.map encS))) σ := ix_tup (by omega) rfl (imms_encS ss)
theorem ix_film4 {σ : DSt} {ps as : List D} {ss : List Sc} {os : List D} : ixOf (.tmp (filmS ps as ss os)) (.tmp (.int 4)) σ = .ok (.tmp (.tup [.int 10, .int 20, .int 30])) σ := ix_tup (by omega) rfl rfl
theorem ix_t30 {σ : DSt} : ixOf (.tmp (.tup [.int 10, .int 20, .int 30])) (.tmp (.int 2)) σ = .ok (.tmp (.int 30)) σ := ix_tup (by omega) rfl rfl
/-! ## sorted numbers -/
open PySem.W (dataLe)
def srtI (xs : List Int) : List Int := xs.mergeSort fun a b => dataLe false toPy (.int a) (.int b)
theorem plys_ints : ∀ xs : List Int, D.plys (xs.map .int) = true
  | [] => rfl
  | x :: xs => plys_ints xs
theorem toPys_ints : ∀ xs : List Int, toPys (xs.map .int) = xs.map PyData.int
  | [] => rfl
  | x :: xs => by
    show PyData.int x :: toPys (xs.map .int) = _
    rw [toPys_ints xs]
    rfl
theorem sortOk_ints (xs : List Int) : sortOk (xs.map .int) = true := by
  unfold sortOk
  rw [plys_ints, toPys_ints, Bool.true_and]
  have a1 : allAl (xs.map PyData.int) = true := by
    unfold allAl
    refine List.all_eq_true.mpr fun x hx => List.all_eq_true.mpr fun y hy => ?_
    obtain ⟨r, _, rfl⟩ := List.mem_map.mp hx
    obtain ⟨q, _, rfl⟩ := List.mem_map.mp hy
    rfl
  have a2 : ((xs.map PyData.int).all fun p => !isNone p && !isTupA p) = true := by
    refine List.all_eq_true.mpr fun x hx => ?_
    obtain ⟨r, _, rfl⟩ := List.mem_map.mp hx
    rfl
  have a3 : ((xs.map PyData.int).all fun p => decide (p.depth ≤ 60)) = true := by
    refine List.all_eq_true.mpr fun x hx => ?_
    obtain ⟨r, _, rfl⟩ := List.mem_map.mp hx
    rfl
  rw [a1, a2, a3, Bool.or_true]
  rfl
theorem gSort_ints (xs : List Int) : gSort [.lst (xs.map .int)] = some (.lst ((srtI xs).map .int)) := by
  unfold gSort
  dsimp only
  rw [if_pos (sortOk_ints xs)]
  unfold srtI
  rw [List.map_mergeSort (s := dataLe false toPy) (fun a _ b _ => rfl)]
theorem srtI_len (xs : List Int) : (srtI xs).length = xs.length := List.length_mergeSort ..
theorem gTuple_ints (xs : List Int) : gTuple [.lst (xs.map .int)] = some (.tup (xs.map .int)) := by
  unfold gTuple
  dsimp only
  rw [if_pos (imms_ints xs)]
end A2
end S_KC
section S_MCp
set_option Elab.async false
set_option linter.all false
set_option maxRecDepth 100000
set_option maxHeartbeats 2000000
open PySem PySem.Spec L2
open PyProof.Rows hiding St
namespace A2
theorem check_place_eq {n : Nat} {ps rest : List D} {p : Int} (F : FilmOk n ps rest) : F_check_place.run [filmD ps rest, .int p] =
    if 0 ≤ p ∧ p < n then .ok .non [some (filmD ps rest), some (.int p)] else .err ⟨"WayError", [("code", .str "unknown")]⟩ := by
  rw [F_check_place, fn_run [] rfl]
  by_cases h1 : 0 ≤ p
  · by_cases h2 : p < n
    · rw [if_pos ⟨h1, h2⟩]
      simp [B_check_place, filmD, F.i1, F.i2, F.len, h1, h2, ixOf, List.range_succ]
    · rw [if_neg fun z => h2 z.2]
      simp [B_check_place, filmD, F.i1, F.i2, F.len, h1, h2, ixOf, raiseOf]
  · rw [if_neg fun z => h1 z.1]
    simp [B_check_place, filmD, F.i1, F.i2, F.len, h1, ixOf, raiseOf]
end A2
end S_MCp
section S_K51a
set_option Elab.async false
set_option linter.all false
set_option maxRecDepth 100000
set_option maxHeartbeats 1000000
open PySem PySem.Spec L2
open PyProof.Rows hiding St
namespace A2
/-! ## rows of places, plain -/
abbrev Rw := List Nat × Int
def endR (r : List Nat) : Nat := r.getLastD 0
def ext1 (p : Rw) (w : Way) : List Rw :=
  (if w.1 = endR p.1 ∧ w.2.1 ∉ p.1 then [(p.1 ++ [w.2.1], p.2 + w.2.2)] else []) ++ (if w.2.1 = endR p.1 ∧ w.1 ∉ p.1 then [(p.1 ++ [w.1], p.2 + w.2.2)] else [])
def extR (ws : List Way) (p : Rw) : List Rw := ws.flatMap (ext1 p)
def gather (ws : List Way) (other : Nat) : Nat → List Rw → List Rw
  | 0, _ => []
  | t + 1, lv => lv.filter (fun p => decide (endR p.1 = other)) ++ gather ws other t (lv.flatMap (extR ws))
def lvN (ws : List Way) : Nat → List Rw → List Rw
  | 0, lv => lv
  | k + 1, lv => lvN ws k (lv.flatMap (extR ws))
theorem mem_gather {ws : List Way} {other : Nat} {x : Rw} : ∀ {t : Nat} {lv : List Rw}, x ∈ gather ws other t lv ↔ ∃ k, k < t ∧ x ∈ lvN ws k lv ∧ endR x.1 = other
  | 0, lv => by simp [gather]
  | t + 1, lv => by
    unfold gather
    rw [List.mem_append, List.mem_filter, mem_gather (t := t)]
    constructor
    · rintro (⟨h1, h2⟩ | ⟨k, h1, h2, h3⟩)
      · exact ⟨0, by omega, h1, by simpa using h2⟩
      · exact ⟨k + 1, by omega, h2, h3⟩
    · rintro ⟨k, h1, h2, h3⟩
      cases k with
      | zero => exact .inl ⟨h2, by simpa using h3⟩
      | succ k => exact .inr ⟨k, by omega, h2, h3⟩
theorem lvN_snoc {ws : List Way} : ∀ (k : Nat) (lv : List Rw), lvN ws (k + 1) lv = (lvN ws k lv).flatMap (extR ws)
  | 0, lv => rfl
  | k + 1, lv => lvN_snoc k (lv.flatMap (extR ws))
theorem mem_ext {ws : List Way} {p q : Rw} : q ∈ extR ws p ↔ ∃ v x, Edge ws (endR p.1) v x ∧ v ∉ p.1 ∧ q = (p.1 ++ [v], p.2 + x) := by
  unfold extR ext1
  rw [List.mem_flatMap]
  constructor
  · rintro ⟨w, hw, h⟩
    rcases List.mem_append.mp h with h | h
    · split at h
      · rename_i hc
        exact ⟨w.2.1, w.2.2, ⟨w, hw, .inl (by rw [← hc.1])⟩, hc.2, List.mem_singleton.mp h⟩
      · cases h
    · split at h
      · rename_i hc
        exact ⟨w.1, w.2.2, ⟨w, hw, .inr (by rw [← hc.1])⟩, hc.2, List.mem_singleton.mp h⟩
      · cases h
  · rintro ⟨v, x, ⟨w, hw, e⟩, hv, rfl⟩
    refine ⟨w, hw, List.mem_append.mpr ?_⟩
    rcases e with e | e
    · subst e
      exact .inl (by rw [if_pos ⟨rfl, hv⟩]; exact List.mem_singleton.mpr rfl)
    · subst e
      exact .inr (by rw [if_pos ⟨rfl, hv⟩]; exact List.mem_singleton.mpr rfl)
theorem Edge.symm {ws : List Way} {u v : Nat} {m : Int} (h : Edge ws u v m) : Edge ws v u m := let ⟨w, hw, e⟩ := h; ⟨w, hw, e.symm⟩
theorem endR_snoc (r : List Nat) (v : Nat) : endR (r ++ [v]) = v := by simp [endR]
/-! ### tight walks -/
inductive TW (ws : List Way) (f : List (Option Int)) (one : Nat) (a : Int) : Nat → List Nat → Nat → Int → Prop
  | nil : at' f one = some a → TW ws f one a 0 [one] one a
  | snoc {k r u b v x e} : TW ws f one a k r u b → Edge ws u v x → at' f v = some e → e + x = b → TW ws f one a (k + 1) (r ++ [v]) v e
section
variable {ws : List Way} {f : List (Option Int)} {one n src : Nat} {a : Int}
theorem TW.at_ {k r u b} (h : TW ws f one a k r u b) : at' f u = some b := by cases h <;> assumption
theorem TW.end_ {k r u b} (h : TW ws f one a k r u b) : endR r = u := by
  cases h with
  | nil _ => rfl
  | snoc _ _ _ _ => exact endR_snoc ..
theorem TW.len {k r u b} (h : TW ws f one a k r u b) : r.length = k + 1 := by
  induction h with
  | nil _ => rfl
  | snoc _ _ _ _ ih => simp [ih]
theorem TW.ge (hm : ∀ u v m, Edge ws u v m → v < n ∧ 1 ≤ m) {k r u b} (h : TW ws f one a k r u b) : ∀ w ∈ r, ∃ c, at' f w = some c ∧ b ≤ c := by
  induction h with
  | nil h => exact fun w hw => by rw [List.mem_singleton.mp hw]; exact ⟨_, h, Int.le_refl _⟩
  | @snoc k r u b v x e h1 h2 h3 h4 ih =>
    intro w hw
    have := (hm _ _ _ h2).2
    rcases List.mem_append.mp hw with hw | hw
    · obtain ⟨c, e1, e2⟩ := ih w hw
      exact ⟨c, e1, by omega⟩
    · rw [List.mem_singleton.mp hw]
      exact ⟨e, h3, Int.le_refl _⟩
theorem TW.step (hm : ∀ u v m, Edge ws u v m → v < n ∧ 1 ≤ m) {k r u b} (h : TW ws f one a k r u b) : b + k ≤ a := by
  induction h with
  | nil h => simp
  | @snoc k r u b v x e h1 h2 h3 h4 ih =>
    have := (hm _ _ _ h2).2
    push_cast
    omega
/-- tight walks are gone through -/
theorem TW.found (hm : ∀ u v m, Edge ws u v m → v < n ∧ 1 ≤ m) {k r u b} (h : TW ws f one a k r u b) : (r, a - b) ∈ lvN ws k [([one], 0)] := by
  induction h with
  | nil h => simp [lvN]
  | @snoc k r u b v x e h1 h2 h3 h4 ih =>
    rw [lvN_snoc, List.mem_flatMap]
    refine ⟨_, ih, mem_ext.mpr ⟨v, x, ?_, fun hv => ?_, ?_⟩⟩
    · show Edge ws (endR r) v x
      rw [h1.end_]
      exact h2
    · obtain ⟨c, e1, e2⟩ := h1.ge hm v hv
      rw [h3] at e1
      cases e1
      have := (hm _ _ _ h2).2
      omega
    · show (r ++ [v], a - e) = (r ++ [v], a - b + x)
      rw [show a - e = a - b + x by omega]
theorem lvN_inv {P : Rw → Prop} (h : ∀ p q, P p → q ∈ extR ws p → P q) : ∀ (k : Nat) (lv : List Rw), (∀ p ∈ lv, P p) → ∀ p ∈ lvN ws k lv, P p
  | 0, lv, h0 => h0
  | k + 1, lv, h0 => lvN_inv h k _ fun q hq => by
    obtain ⟨p, hp, hq⟩ := List.mem_flatMap.mp hq
    exact h p q (h0 p hp) hq
theorem edge_le (I : DInv n src (Edge ws) f []) {u v : Nat} {x b : Int} (h : Edge ws u v x) (hb : at' f u = some b) : ∃ e, at' f v = some e ∧ e ≤ b + x := by
  rcases I.cl u b v x hb h with h | ⟨e, h, _⟩
  · exact h
  · cases h
/-- of a row gone through: no fewer minutes than the distance, and as many only along a tight walk -/
theorem rows_ge (I : DInv n src (Edge ws) f []) (h0 : at' f one = some a) (k : Nat) : ∀ p ∈ lvN ws k [([one], 0)], ∃ b, at' f (endR p.1) = some b ∧ a ≤ p.2 + b ∧ (a = p.2 + b → ∃ k, TW ws f one a k p.1 (endR p.1) b) :=
  lvN_inv (P := fun p => ∃ b, at' f (endR p.1) = some b ∧ a ≤ p.2 + b ∧ (a = p.2 + b → ∃ k, TW ws f one a k p.1 (endR p.1) b)) (fun p q ⟨b, h1, h2, h3⟩ hq => by
    obtain ⟨v, x, he, hv, rfl⟩ := mem_ext.mp hq
    obtain ⟨e, e1, e2⟩ := edge_le I he h1
    obtain ⟨b', e3, e4⟩ := edge_le I he.symm e1
    rw [h1] at e3
    cases e3
    refine ⟨e, by rw [endR_snoc]; exact e1, by show a ≤ p.2 + x + e; omega, fun q => ?_⟩
    have q' : a = p.2 + x + e := q
    obtain ⟨k, t⟩ := h3 (by omega)
    exact ⟨k + 1, by rw [endR_snoc]; exact .snoc t he e1 (by omega)⟩) k _ fun p hp => by
    rw [List.mem_singleton.mp hp]
    exact ⟨a, h0, by show a ≤ 0 + a; omega, fun _ => ⟨0, .nil h0⟩⟩
/-- apart: nothing is found -/
theorem rows_none (I : DInv n src (Edge ws) f []) (h0 : at' f one = none) (k : Nat) : ∀ p ∈ lvN ws k [([one], 0)], at' f (endR p.1) = none :=
  lvN_inv (P := fun p => at' f (endR p.1) = none) (fun p q h hq => by
    obtain ⟨v, x, he, hv, rfl⟩ := mem_ext.mp hq
    show at' f (endR (p.1 ++ [v])) = none
    rw [endR_snoc]
    cases e : at' f v with
    | none => rfl
    | some d =>
      obtain ⟨b, e1, _⟩ := edge_le I he.symm e
      rw [h] at e1
      cases e1) k _ fun p hp => by rw [List.mem_singleton.mp hp]; exact h0
/-- rows gone through have no place twice -/
theorem rows_nodup (hm : ∀ u v m, Edge ws u v m → v < n) (h0 : one < n) (k : Nat) : ∀ p ∈ lvN ws k [([one], 0)], p.1.Nodup ∧ (∀ v ∈ p.1, v < n) :=
  lvN_inv (P := fun p => p.1.Nodup ∧ (∀ v ∈ p.1, v < n)) (fun p q ⟨h1, h2⟩ hq => by
    obtain ⟨v, x, he, hv, rfl⟩ := mem_ext.mp hq
    refine ⟨List.nodup_append.mpr ⟨h1, by simp, fun y hy z hz => ?_⟩, fun y hy => ?_⟩
    · rw [List.mem_singleton.mp hz]
      exact fun e => hv (e ▸ hy)
    · rcases List.mem_append.mp hy with hy | hy
      · exact h2 y hy
      · rw [List.mem_singleton.mp hy]
        exact hm _ _ _ he) k _ fun p hp => by
    rw [List.mem_singleton.mp hp]
    exact ⟨by simp, fun v hv => by rw [List.mem_singleton.mp hv]; exact h0⟩
theorem rows_len (k : Nat) : ∀ (lv : List Rw) (l : Nat), (∀ p ∈ lv, p.1.length = l) → ∀ p ∈ lvN ws k lv, p.1.length = l + k := by
  induction k with
  | zero => exact fun lv l h p hp => h p hp
  | succ k ih =>
    intro lv l h p hp
    have := ih _ (l + 1) (fun q hq => by
      obtain ⟨p, hp, hq⟩ := List.mem_flatMap.mp hq
      obtain ⟨v, x, he, hv, rfl⟩ := mem_ext.mp hq
      simp [h p hp]) p hp
    omega
theorem nodup_le : ∀ {n : Nat} {l : List Nat}, l.Nodup → (∀ v ∈ l, v < n) → l.length ≤ n
  | 0, l, _, h2 => by
    cases l with
    | nil => exact Nat.le_refl _
    | cons v l => exact absurd (h2 v (List.mem_cons_self ..)) (Nat.not_lt_zero _)
  | n + 1, l, h1, h2 => by
    by_cases h : n ∈ l
    · have := nodup_le (n := n) (h1.erase n) fun v hv => by
        have h3 := (List.Nodup.mem_erase_iff h1).mp hv
        have := h2 v h3.2
        have := h3.1
        omega
      have := List.length_erase_of_mem h
      have := List.length_pos_of_mem h
      omega
    · have := nodup_le (n := n) h1 fun v hv => by
        have h3 : v ≠ n := fun e => h (e ▸ hv)
        have := h2 v hv
        omega
      omega
/-- a tight walk goes on -/
theorem tight_next (I : DInv n src (Edge ws) f []) {u : Nat} {b : Int} (h : at' f u = some b) (hu : u ≠ src) : ∃ v x e, Edge ws u v x ∧ at' f v = some e ∧ e + x = b := by
  rcases I.fa u b h with ⟨h1, _⟩ | ⟨v, e, x, h1, h2, h3⟩
  · exact absurd h1 hu
  · exact ⟨v, x, e, h1.symm, h2, h3.symm⟩
end
/-! ### the least of the rows -/
def flatF (p : Rw) : List Int := p.2 :: (p.1.length : Int) :: p.1.map fun (v : Nat) => (v : Int)
def rowN (r : List Nat) : D := tupI (r.map fun (v : Nat) => (v : Int))
def encR (p : Rw) : D := .tup [rowN p.1, .int p.2]
def encF (p : Rw) : D := .tup [.int p.2, .int p.1.length, rowN p.1]
theorem ltI_as {x y : List Int} (h : ltI x y = true) : ltI y x = false := by
  cases e : ltI y x with
  | false => rfl
  | true =>
    have := ltI_trans h e
    rw [ltI_irr] at this
    cases this
theorem pick_min {α : Type} (key : α → List Int) (t : α) : ∀ (xs : List α) (x : α), t ∈ x :: xs → (∀ y ∈ x :: xs, y = t ∨ ltI (key t) (key y) = true) → xs.foldl (fun a y => if ltI (key y) (key a) = true then y else a) x = t
  | [], x, h, _ => (List.mem_singleton.mp h).symm
  | y :: ys, x, h, hl => by
    rw [List.foldl_cons]
    refine pick_min key t ys _ ?_ fun z hz => ?_
    · rcases hl x (List.mem_cons_self ..) with hx | hx
      · subst hx
        rcases hl y (List.mem_cons_of_mem _ (List.mem_cons_self ..)) with hy | hy
        · subst hy
          rw [if_neg (by rw [ltI_irr]; exact Bool.false_ne_true)]
          exact List.mem_cons_self ..
        · rw [if_neg (by rw [ltI_as hy]; exact Bool.false_ne_true)]
          exact List.mem_cons_self ..
      · have hne : t ≠ x := fun e => by rw [e, ltI_irr] at hx; cases hx
        rcases List.mem_cons.mp h with h | h
        · exact absurd h hne
        · rcases List.mem_cons.mp h with h | h
          · subst h
            rw [if_pos hx]
            exact List.mem_cons_self ..
          · exact List.mem_cons_of_mem _ h
    · rcases List.mem_cons.mp hz with hz | hz
      · rw [hz]
        split
        · exact hl y (List.mem_cons_of_mem _ (List.mem_cons_self ..))
        · exact hl x (List.mem_cons_self ..)
      · exact hl z (List.mem_cons_of_mem _ (List.mem_cons_of_mem _ hz))
end A2
end S_K51a
section S_K51b
set_option Elab.async false
set_option linter.all false
set_option maxRecDepth 100000
set_option maxHeartbeats 1000000
open PySem PySem.Spec L2
open PyProof.Rows hiding St
open PySem.W (alike alikeAll dataLt AlikeAll AllAlike Sortable minD maxD EachIs dataLe)
namespace A2
/-! ## min(rows) -/
theorem eqvI : ∀ xs ys : List Int, PyData.eqvAll (toPys (xs.map .int)) (toPys (ys.map .int)) = decide (xs = ys)
  | [], [] => rfl
  | [], y :: ys => by rfl
  | x :: xs, [] => by rfl
  | x :: xs, y :: ys => by
    show (x == y && PyData.eqvAll (toPys (xs.map .int)) (toPys (ys.map .int))) = decide (x :: xs = y :: ys)
    rw [eqvI xs ys]
    by_cases h1 : x = y <;> by_cases h2 : xs = ys <;> simp [h1, h2]
theorem eqv_tupI (xs ys : List Int) : PyData.eqv (toPy (tupI xs)) (toPy (tupI ys)) = decide (xs = ys) := eqvI xs ys
theorem lt_encF (p q : Rw) : dataLt (toPy (encF p)) (toPy (encF q)) = ltI (flatF p) (flatF q) := by
  show dataLt (.tuple [.int p.2, .int p.1.length, toPy (rowN p.1)]) (.tuple [.int q.2, .int q.1.length, toPy (rowN q.1)]) = _
  rw [PySem.W.dataLt_tuple]
  unfold flatF
  have h3 : ∀ xs ys : List Int, PyProof.Rows.lexLt PyProof.Rows.itemOrd (PySem.W.keyToksAll [toPy (tupI xs)]) (PySem.W.keyToksAll [toPy (tupI ys)]) = ltI xs ys := fun xs ys => by
    by_cases h : xs = ys
    · subst h
      rw [PySem.W.dataLt_all_yes (alike_tupI xs xs) (by rw [eqv_tupI]; simp), ltI_irr]
      decide
    · rw [PySem.W.dataLt_all_no (alike_tupI xs ys) (by rw [eqv_tupI]; simp [h]), lt_tupI]
  have h1 : ∀ (x y : Int) (xs ys : List PyData) (us vs : List Int), PyProof.Rows.lexLt PyProof.Rows.itemOrd (PySem.W.keyToksAll xs) (PySem.W.keyToksAll ys) = ltI us vs → PyProof.Rows.lexLt PyProof.Rows.itemOrd (PySem.W.keyToksAll (.int x :: xs)) (PySem.W.keyToksAll (.int y :: ys)) = ltI (x :: us) (y :: vs) := fun x y xs ys us vs e => by
    by_cases h : x = y
    · subst h
      rw [PySem.W.dataLt_all_yes rfl (by simp [PyData.eqv]), e]
      simp [ltI]
    · rw [PySem.W.dataLt_all_no rfl (by simp [PyData.eqv, h]), PySem.W.dataLt_int]
      simp [ltI, h]
  exact h1 _ _ _ _ _ _ (h1 _ _ _ _ _ _ (h3 _ _))
theorem ply_encF (p : Rw) : (encF p).ply = true := by
  show (D.ply (.int p.2) && (D.ply (.int p.1.length) && ((rowN p.1).ply && true))) = true
  rw [show (rowN p.1).ply = true from ply_tupI _]
  rfl
theorem minDD_encF : ∀ (xs : List Rw) (x : Rw), minDD (encF x) (xs.map encF) = encF (xs.foldl (fun a y => if ltI (flatF y) (flatF a) = true then y else a) x)
  | [], x => rfl
  | y :: ys, x => by
    show minDD (if dataLt (toPy (encF y)) (toPy (encF x)) = true then encF y else encF x) (ys.map encF) = encF (ys.foldl _ (if ltI (flatF y) (flatF x) = true then y else x))
    rw [lt_encF, ← minDD_encF ys]
    split <;> rfl
theorem best_encF {t : Rw} {L : List Rw} (h : t ∈ L) (hl : ∀ y ∈ L, y = t ∨ ltI (flatF t) (flatF y) = true) : gMinL [.lst (L.map encF)] = some (encF t) := by
  cases L with
  | nil => cases h
  | cons x xs =>
  have hall : ∀ d ∈ encF x :: xs.map encF, ∃ y, d = encF y := fun d hd => by
    rcases List.mem_cons.mp hd with rfl | hd
    · exact ⟨x, rfl⟩
    · obtain ⟨y, _, rfl⟩ := List.mem_map.mp hd
      exact ⟨y, rfl⟩
  have hpy : ∀ p ∈ toPys (encF x :: xs.map encF), ∃ y, p = toPy (encF y) := fun p hp => by
    rw [toPys_map] at hp
    obtain ⟨d, hd, rfl⟩ := List.mem_map.mp hp
    obtain ⟨y, rfl⟩ := hall d hd
    exact ⟨y, rfl⟩
  have hdep : ∀ ps : List PyData, (∀ p ∈ ps, ∃ y, p = toPy (encF y)) → PyData.depthAll ps ≤ 60 := by
    intro ps
    induction ps with
    | nil => intro _; exact Nat.zero_le _
    | cons p ps ih =>
      intro h
      obtain ⟨y, rfl⟩ := h p (List.mem_cons_self ..)
      have h3 : (toPy (encF y)).depth = 2 := by
        show (PyData.tuple [.int y.2, .int y.1.length, .tuple (toPys ((y.1.map fun (v : Nat) => (v : Int)).map .int))]).depth = 2
        simp only [PyData.depth, PyData.depthAll, depth_intsA]
        rfl
      show max (toPy (encF y)).depth (PyData.depthAll ps) ≤ 60
      rw [h3]
      have := ih fun p hp => h p (List.mem_cons_of_mem _ hp)
      omega
  have hok : bestOk (encF x :: xs.map encF) = true := by
    unfold bestOk
    simp only [Bool.and_eq_true, decide_eq_true_eq]
    refine ⟨plys_of fun d hd => ?_, ?_, ?_, hdep _ hpy⟩
    · obtain ⟨y, rfl⟩ := hall d hd
      exact ply_encF y
    · refine List.all_eq_true.mpr fun p hp => List.all_eq_true.mpr fun q hq => ?_
      obtain ⟨y, rfl⟩ := hpy p hp
      obtain ⟨z, rfl⟩ := hpy q hq
      show (true && (true && (alike (toPy (rowN y.1)) (toPy (rowN z.1)) && true))) = true
      rw [show alike (toPy (rowN y.1)) (toPy (rowN z.1)) = true from alike_tupI _ _]
      rfl
    · refine List.all_eq_true.mpr fun p hp => ?_
      obtain ⟨y, rfl⟩ := hpy p hp
      rfl
  show (match seqOf (.lst (encF x :: xs.map encF)) with
    | some (e :: es) => if bestOk (e :: es) = true then some (minDD e es) else none
    | _ => none) = _
  show (if bestOk (encF x :: xs.map encF) = true then some (minDD (encF x) (xs.map encF)) else none) = _
  rw [if_pos hok, minDD_encF, pick_min flatF t xs x h hl]
/-! ## _law_rows -/
theorem imm_rowN (r : List Nat) : (rowN r).imm = true := imm_tupI _
theorem imm_encR (p : Rw) : (encR p).imm = true := by
  show ((rowN p.1).imm && (true && true)) = true
  rw [imm_rowN]
  rfl
theorem imms_encR (l : List Rw) : D.imms (l.map encR) = true := imms_of fun d hd => by
  obtain ⟨p, _, rfl⟩ := List.mem_map.mp hd
  exact imm_encR p
theorem atI_end {α : Type} {xs : List α} {x : α} (h : xs.getLast? = some x) : L2.atI xs (-1) = some x := by
  have hne : xs ≠ [] := fun z => by rw [z] at h; cases h
  have hpos : 0 < xs.length := List.length_pos_iff.mpr hne
  unfold L2.atI ixN
  rw [if_neg (by omega), if_pos (by omega)]
  rw [List.getLast?_eq_getElem?] at h
  have e : ((-1 : Int) + (xs.length : Int)).toNat = xs.length - 1 := by omega
  show xs[((-1 : Int) + (xs.length : Int)).toNat]? = some x
  rw [e]
  exact h
theorem ix_endR {σ : DSt} {r : List Nat} (h : r ≠ []) : ixOf (.tmp (rowN r)) (.tmp (.int (-1))) σ = .ok (.tmp (.int (endR r : Nat))) σ := by
  unfold ixOf
  simp only [get_tmp, rowN, tupI]
  have e : ((r.map fun (v : Nat) => (v : Int)).map D.int).getLast? = some (.int (endR r : Nat)) := by
    rw [List.getLast?_map, List.getLast?_map]
    cases r with
    | nil => exact absurd rfl h
    | cons a l => rw [endR, List.getLastD_eq_getLast?, List.getLast?_cons]; rfl
  rw [atI_end e]
  rfl
theorem notIn_row {v : Nat} {r : List Nat} : gNotIn (.int (v : Int)) (rowN r) = some (.bl (decide (v ∉ r))) := by
  have := gNotIn_ints (i := (v : Int)) (xs := r.map fun (v : Nat) => (v : Int))
  refine this.trans ?_
  have e : ((v : Int) ∈ r.map fun (v : Nat) => (v : Int)) ↔ v ∈ r := by
    rw [List.mem_map]
    constructor
    · rintro ⟨w, hw, e⟩
      have : w = v := by omega
      exact this ▸ hw
    · exact fun h => ⟨v, h, rfl⟩
  by_cases h : v ∈ r
  · have h' := e.mpr h
    rw [decide_eq_false (fun z => z h'), decide_eq_false (fun z => z h)]
  · have h' : ¬ ((v : Int) ∈ r.map fun (v : Nat) => (v : Int)) := fun z => h (e.mp z)
    rw [decide_eq_true h', decide_eq_true h]
theorem add_row {r : List Nat} {v : Nat} (h : r.length ≤ 1000) : gAdd (rowN r) (.tup [.int (v : Int)]) = some (rowN (r ++ [v])) := by
  have := size_big
  show (if ((r.map fun (v : Nat) => (v : Int)).map D.int).length + 1 ≤ sizeLine ∧ D.imms ((r.map fun (v : Nat) => (v : Int)).map D.int) = true ∧ D.imms [.int (v : Int)] = true then some (D.tup (((r.map fun (v : Nat) => (v : Int)).map D.int) ++ [.int (v : Int)])) else none) = _
  rw [if_pos ⟨by rw [List.length_map, List.length_map]; omega, imms_ints _, rfl⟩]
  unfold rowN tupI
  simp
def s14 (x0 x1 x2 x3 x4 x5 x6 x7 x8 x9 x10 x11 x12 x13 : Option D) : DSt := [x0, x1, x2, x3, x4, x5, x6, x7, x8, x9, x10, x11, x12, x13]
theorem app_lst {σ : DSt} {s : Nat} {ds : List D} {d : D} (hs : σ[s]? = some (some (.lst ds))) (hl : ds.length < sizeLine) : appOf s (.plc s []) [.tmp d] σ = .ok (.tmp .non) (σ.set s (some (.lst (ds ++ [d])))) := by
  unfold appOf
  dsimp only
  rw [if_pos rfl, hs]
  dsimp only
  rw [getP_nil]
  dsimp only
  rw [if_pos hl, setP_nil]
theorem isK_lst {σ : DSt} {s : Nat} {ds : List D} (hs : σ[s]? = some (some (.lst ds))) : isK "list" (.plc s []) σ = true := by
  unfold isK
  simp only [get_plc, hs, getP_nil]
  rfl
noncomputable def bPair : SC := sIf (cAndT (cTst (cBin gEq (cVar 12) (cIx (cVar 7) (cNeg (cK (.int 1)))))) (cTst (cBin gNotIn (cVar 13) (cVar 7)))) (sExpr (cApp 6 (cVar 6) (aCons (cTup (aCons (cBin gAdd (cVar 7) (cTup (aCons (cVar 13) aNil))) (aCons (cBin gAdd (cVar 8) (cVar 11)) aNil))) aNil))) sNil
noncomputable def bWays : SC := sFor (pTup (pCons (pV 12) (pCons (pV 13) pNil))) (cLst (aCons (cTup (aCons (cVar 9) (aCons (cVar 10) aNil))) (aCons (cTup (aCons (cVar 10) (aCons (cVar 9) aNil))) aNil))) bPair
noncomputable def bRow : SC := sSeq (sIf (cTst (cBin gEq (cIx (cVar 7) (cNeg (cK (.int 1)))) (cVar 3))) (sExpr (cApp 4 (cVar 4) (aCons (cTup (aCons (cVar 8) (aCons (cFn gLen (aCons (cVar 7) aNil)) (aCons (cVar 7) aNil)))) aNil))) sNil)
  (sFor (pTup (pCons (pV 9) (pCons (pV 10) (pCons (pV 11) pNil)))) (cVar 1) bWays)
noncomputable def bWh : SC := sSeq (sSet 6 (cLst aNil)) (sSeq (sFor (pTup (pCons (pV 7) (pCons (pV 8) pNil))) (cVar 5) bRow) (sSet 5 (cTake (some 6) (cVar 6))))
theorem hB_rows : B__law_rows = (sSeq (sSet 4 (cLst aNil))
  (sSeq (sSet 5 (cLst (aCons (cTup (aCons (cTup (aCons (cVar 2) aNil)) (aCons (cK (.int 0)) aNil))) aNil)))
  (sSeq (sWhile (cTst (cBin gGtA (cFn gLen (aCons (cVar 5) aNil)) (cK (.int 0)))) bWh)
  (sRet (cTake (some 4) (cVar 4)))))) := rfl
theorem bPair_turn {x0 x1 x2 x3 x4 x5 x9 x10 : Option D} {acc : List Rw} {r : List Nat} {m x : Int} {pl tg : Nat} (hr : r ≠ []) (hl : r.length ≤ 1000) (ha : acc.length < 16000000) :
    bPair.run (s14 x0 x1 x2 x3 x4 x5 (some (.lst (acc.map encR))) (some (rowN r)) (some (.int m)) x9 x10 (some (.int x)) (some (.int (pl : Int))) (some (.int (tg : Int)))) =
      .nx (s14 x0 x1 x2 x3 x4 x5 (some (.lst ((acc ++ if pl = endR r ∧ tg ∉ r then [(r ++ [tg], m + x)] else []).map encR))) (some (rowN r)) (some (.int m)) x9 x10 (some (.int x)) (some (.int (pl : Int))) (some (.int (tg : Int)))) := by
  have hz : (acc.map encR).length < sizeLine := by rw [List.length_map, sizeLine_eq]; omega
  by_cases h1 : pl = endR r
  · by_cases h2 : tg ∈ r
    · simp [bPair, s14, imm_rowN, ix_endR hr, notIn_row, negOf, h1, h2]
    · have e : (sExpr (cApp 6 (cVar 6) (aCons (cTup (aCons (cBin gAdd (cVar 7) (cTup (aCons (cVar 13) aNil))) (aCons (cBin gAdd (cVar 8) (cVar 11)) aNil))) aNil))).run (s14 x0 x1 x2 x3 x4 x5 (some (.lst (acc.map encR))) (some (rowN r)) (some (.int m)) x9 x10 (some (.int x)) (some (.int (pl : Int))) (some (.int (tg : Int)))) =
          .nx ((s14 x0 x1 x2 x3 x4 x5 (some (.lst (acc.map encR))) (some (rowN r)) (some (.int m)) x9 x10 (some (.int x)) (some (.int (pl : Int))) (some (.int (tg : Int)))).set 6 (some (.lst (acc.map encR ++ [encR (r ++ [tg], m + x)])))) :=
        app_run (var_plc rfl rfl) (isK_lst rfl) (by simp [s14, imm_rowN, add_row hl, encR]) (app_lst rfl hz)
      unfold bPair
      rw [run_if]
      have ht : (cAndT (cTst (cBin gEq (cVar 12) (cIx (cVar 7) (cNeg (cK (.int 1)))))) (cTst (cBin gNotIn (cVar 13) (cVar 7)))).run (s14 x0 x1 x2 x3 x4 x5 (some (.lst (acc.map encR))) (some (rowN r)) (some (.int m)) x9 x10 (some (.int x)) (some (.int (pl : Int))) (some (.int (tg : Int)))) = .ok true (s14 x0 x1 x2 x3 x4 x5 (some (.lst (acc.map encR))) (some (rowN r)) (some (.int m)) x9 x10 (some (.int x)) (some (.int (pl : Int))) (some (.int (tg : Int)))) := by
        simp [s14, imm_rowN, ix_endR hr, notIn_row, negOf, h1, h2]
      rw [ht, bindS_ok, if_pos rfl, e, if_pos ⟨h1, h2⟩, List.map_append]
      rfl
  · have h1' : ¬ ((pl : Int) = (endR r : Nat)) := by omega
    simp [bPair, s14, imm_rowN, ix_endR hr, negOf, h1, h1']
end A2
end S_K51b
section S_K51c
set_option Elab.async false
set_option linter.all false
set_option maxRecDepth 100000
set_option maxHeartbeats 1000000
open PySem PySem.Spec L2
open PyProof.Rows hiding St
namespace A2
theorem for_tup {p : PC} {b : SC} {ds : List D} {σ : DSt} (h : D.imms ds = true) : forOf p b (.tmp (.tup ds)) σ = forRun p b ds σ := by
  unfold forOf
  simp only [get_tmp, itemsOf]
  rw [if_pos h]
  rfl
theorem for_lstT {p : PC} {b : SC} {ds : List D} {σ : DSt} (h : D.imms ds = true) : forOf p b (.tmp (.lst ds)) σ = forRun p b ds σ := by
  unfold forOf
  simp only [get_tmp, itemsOf]
  rw [if_pos h]
  rfl
theorem for_lstP {p : PC} {b : SC} {ds : List D} {s : Nat} {σ : DSt} (hs : σ[s]? = some (some (.lst ds))) (h : D.imms ds = true) (hl : s ∉ p.rw ++ b.rw) : forOf p b (.plc s []) σ = forRun p b ds σ := by
  unfold forOf
  simp only [get_plc, hs, getP_nil, itemsOf]
  rw [if_pos h]
  exact if_pos (decide_eq_true hl)
theorem forS_run {p : PC} {c : EC} {b : SC} {σ : DSt} {x : RV} {r : SRes} (hc : c.run σ = .ok x σ) (h : forOf p b x σ = r) : (sFor p c b).run σ = r := by
  rw [run_for, hc, bindS_ok, h]
section
variable {x0 x1 x2 x3 x4 x5 : Option D}
theorem bWays_turn {acc : List Rw} {r : List Nat} {m : Int} {w : Way} {x12 x13 : Option D} (hr : r ≠ []) (hl : r.length ≤ 1000) (ha : acc.length + (ext1 (r, m) w).length ≤ 16000000) (hx : (ext1 (r, m) w).length ≤ 1 → acc.length < 16000000) (hw : w.1 ≠ w.2.1) :
    bWays.run (s14 x0 x1 x2 x3 x4 x5 (some (.lst (acc.map encR))) (some (rowN r)) (some (.int m)) (some (.int w.1)) (some (.int w.2.1)) (some (.int w.2.2)) x12 x13) =
      .nx (s14 x0 x1 x2 x3 x4 x5 (some (.lst ((acc ++ ext1 (r, m) w).map encR))) (some (rowN r)) (some (.int m)) (some (.int w.1)) (some (.int w.2.1)) (some (.int w.2.2)) (some (.int w.2.1)) (some (.int w.1))) := by
  have hlt : acc.length < 16000000 := hx (by
    unfold ext1
    rw [List.length_append]
    by_cases h1 : w.1 = endR r
    · have h2 : ¬ w.2.1 = endR r := fun z => hw (h1.trans z.symm)
      rw [if_neg (c := w.2.1 = endR (r, m).1 ∧ w.1 ∉ (r, m).1) (fun z => h2 z.1)]
      split <;> simp
    · rw [if_neg (c := w.1 = endR (r, m).1 ∧ w.2.1 ∉ (r, m).1) (fun z => h1 z.1)]
      split <;> simp)
  have t1 := bPair_turn (x0 := x0) (x1 := x1) (x2 := x2) (x3 := x3) (x4 := x4) (x5 := x5) (x9 := some (.int w.1)) (x10 := some (.int w.2.1)) (acc := acc) (r := r) (m := m) (x := w.2.2) (pl := w.1) (tg := w.2.1) hr hl hlt
  have ha2 : (acc ++ if w.1 = endR r ∧ w.2.1 ∉ r then [(r ++ [w.2.1], m + w.2.2)] else []).length < 16000000 ∨ ¬ (w.2.1 = endR r ∧ w.1 ∉ r) := by
    by_cases h1 : w.1 = endR r
    · exact .inr fun z => hw (h1.trans z.1.symm)
    · exact .inl (by rw [if_neg (fun z => h1 z.1), List.append_nil]; exact hlt)
  have t2 : bPair.run (s14 x0 x1 x2 x3 x4 x5 (some (.lst ((acc ++ if w.1 = endR r ∧ w.2.1 ∉ r then [(r ++ [w.2.1], m + w.2.2)] else []).map encR))) (some (rowN r)) (some (.int m)) (some (.int w.1)) (some (.int w.2.1)) (some (.int w.2.2)) (some (.int w.2.1)) (some (.int w.1))) =
      .nx (s14 x0 x1 x2 x3 x4 x5 (some (.lst ((acc ++ ext1 (r, m) w).map encR))) (some (rowN r)) (some (.int m)) (some (.int w.1)) (some (.int w.2.1)) (some (.int w.2.2)) (some (.int w.2.1)) (some (.int w.1))) := by
    rcases ha2 with ha2 | ha2
    · have t2 := bPair_turn (x0 := x0) (x1 := x1) (x2 := x2) (x3 := x3) (x4 := x4) (x5 := x5) (x9 := some (.int w.1)) (x10 := some (.int w.2.1)) (r := r) (m := m) (x := w.2.2) (pl := w.2.1) (tg := w.1) hr hl ha2
      rw [List.append_assoc] at t2
      exact t2
    · have e : ext1 (r, m) w = if w.1 = endR r ∧ w.2.1 ∉ r then [(r ++ [w.2.1], m + w.2.2)] else [] := by
        unfold ext1
        rw [if_neg (c := w.2.1 = endR (r, m).1 ∧ w.1 ∉ (r, m).1) ha2, List.append_nil]
      rw [e]
      by_cases h1 : w.2.1 = endR r
      · have h2 : w.1 ∈ r := Classical.byContradiction fun z => ha2 ⟨h1, z⟩
        simp [bPair, s14, imm_rowN, ix_endR hr, notIn_row, negOf, h1, h2]
      · have h1' : ¬ ((w.2.1 : Int) = (endR r : Nat)) := by omega
        simp [bPair, s14, imm_rowN, ix_endR hr, negOf, h1, h1']
  refine forS_run (x := .tmp (.lst [.tup [.int w.1, .int w.2.1], .tup [.int w.2.1, .int w.1]])) (by simp [s14]) ?_
  rw [for_lstT rfl]
  rw [forRun_nx (tg2 (by simp [s14]) (by simp [s14])) t1, forRun_nx (tg2 (by simp [s14]) (by simp [s14])) t2]
  rfl
theorem ext1_le {p : Rw} {w : Way} (hw : w.1 ≠ w.2.1) : (ext1 p w).length ≤ 1 := by
  unfold ext1
  rw [List.length_append]
  by_cases h1 : w.1 = endR p.1
  · have h2 : ¬ w.2.1 = endR p.1 := fun z => hw (h1.trans z.symm)
    rw [if_neg (c := w.2.1 = endR p.1 ∧ w.1 ∉ p.1) (fun z => h2 z.1)]
    split <;> simp
  · rw [if_neg (c := w.1 = endR p.1 ∧ w.2.1 ∉ p.1) (fun z => h1 z.1)]
    split <;> simp
theorem ways_rows {r : List Nat} {m : Int} (hr : r ≠ []) (hl : r.length ≤ 1000) : ∀ (ws : List Way) (acc : List Rw) (x9 x10 x11 x12 x13 : Option D), (∀ w ∈ ws, w.1 ≠ w.2.1) → acc.length + (ws.flatMap (ext1 (r, m))).length < 16000000 →
    ∃ y9 y10 y11 y12 y13, forRun (pTup (pCons (pV 9) (pCons (pV 10) (pCons (pV 11) pNil)))) bWays (ws.map encW) (s14 x0 x1 x2 x3 x4 x5 (some (.lst (acc.map encR))) (some (rowN r)) (some (.int m)) x9 x10 x11 x12 x13) =
      .nx (s14 x0 x1 x2 x3 x4 x5 (some (.lst ((acc ++ ws.flatMap (ext1 (r, m))).map encR))) (some (rowN r)) (some (.int m)) y9 y10 y11 y12 y13)
  | [], acc, x9, x10, x11, x12, x13, _, _ => ⟨x9, x10, x11, x12, x13, by rw [List.flatMap_nil, List.append_nil]; rfl⟩
  | w :: ws, acc, x9, x10, x11, x12, x13, hw, ha => by
    rw [List.flatMap_cons, List.length_append] at ha
    obtain ⟨y9, y10, y11, y12, y13, ih⟩ := ways_rows (m := m) hr hl ws (acc ++ ext1 (r, m) w) (some (.int w.1)) (some (.int w.2.1)) (some (.int w.2.2)) (some (.int w.2.1)) (some (.int w.1)) (fun v hv => hw v (List.mem_cons_of_mem _ hv)) (by rw [List.length_append]; omega)
    refine ⟨y9, y10, y11, y12, y13, ?_⟩
    have t := bWays_turn (x0 := x0) (x1 := x1) (x2 := x2) (x3 := x3) (x4 := x4) (x5 := x5) (acc := acc) (r := r) (m := m) (w := w) (x12 := x12) (x13 := x13) hr hl (by omega) (fun _ => by omega) (hw w (List.mem_cons_self ..))
    show forRun _ bWays (D.tup [.int w.1, .int w.2.1, .int w.2.2] :: ws.map encW) _ = _
    rw [forRun_nx (tg3 (by simp [s14]) (by simp [s14]) (by simp [s14])) t, ih, List.flatMap_cons, List.append_assoc]
end
def fil (other : Nat) (lv : List Rw) : List Rw := lv.filter fun p => decide (endR p.1 = other)
section
variable {x0 x2 x5 : Option D} {ws : List Way} {other : Nat}
theorem bRow_turn {F acc : List Rw} {p : Rw} {x9 x10 x11 x12 x13 : Option D} (hr : p.1 ≠ []) (hl : p.1.length ≤ 1000) (hw : ∀ w ∈ ws, w.1 ≠ w.2.1) (hF : F.length < 16000000) (ha : acc.length + (extR ws p).length < 16000000) :
    ∃ y9 y10 y11 y12 y13, bRow.run (s14 x0 (some (.tup (ws.map encW))) x2 (some (.int (other : Int))) (some (.lst (F.map encF))) x5 (some (.lst (acc.map encR))) (some (rowN p.1)) (some (.int p.2)) x9 x10 x11 x12 x13) =
      .nx (s14 x0 (some (.tup (ws.map encW))) x2 (some (.int (other : Int))) (some (.lst ((F ++ fil other [p]).map encF))) x5 (some (.lst ((acc ++ extR ws p).map encR))) (some (rowN p.1)) (some (.int p.2)) y9 y10 y11 y12 y13) := by
  obtain ⟨y9, y10, y11, y12, y13, h⟩ := ways_rows (x0 := x0) (x1 := some (.tup (ws.map encW))) (x2 := x2) (x3 := some (.int (other : Int))) (x4 := some (.lst ((F ++ fil other [p]).map encF))) (x5 := x5) hr hl ws acc x9 x10 x11 x12 x13 hw ha
  refine ⟨y9, y10, y11, y12, y13, ?_⟩
  have hz : (F.map encF).length < sizeLine := by rw [List.length_map, sizeLine_eq]; omega
  refine seq_nx (σ1 := s14 x0 (some (.tup (ws.map encW))) x2 (some (.int (other : Int))) (some (.lst ((F ++ fil other [p]).map encF))) x5 (some (.lst (acc.map encR))) (some (rowN p.1)) (some (.int p.2)) x9 x10 x11 x12 x13) ?_ (forS_run (x := .tmp (.tup (ws.map encW))) (by simp [s14, imms_encW]) (by rw [for_tup (imms_encW ws)]; exact h))
  by_cases h1 : endR p.1 = other
  · have e : (sExpr (cApp 4 (cVar 4) (aCons (cTup (aCons (cVar 8) (aCons (cFn gLen (aCons (cVar 7) aNil)) (aCons (cVar 7) aNil)))) aNil))).run (s14 x0 (some (.tup (ws.map encW))) x2 (some (.int (other : Int))) (some (.lst (F.map encF))) x5 (some (.lst (acc.map encR))) (some (rowN p.1)) (some (.int p.2)) x9 x10 x11 x12 x13) =
        .nx ((s14 x0 (some (.tup (ws.map encW))) x2 (some (.int (other : Int))) (some (.lst (F.map encF))) x5 (some (.lst (acc.map encR))) (some (rowN p.1)) (some (.int p.2)) x9 x10 x11 x12 x13).set 4 (some (.lst (F.map encF ++ [encF p])))) := by
      refine app_run (var_plc rfl rfl) (isK_lst rfl) ?_ (app_lst rfl hz)
      have hg : gLen [rowN p.1] = some (.int p.1.length) := by
        show some (D.int ((p.1.map fun (v : Nat) => (v : Int)).map D.int).length) = _
        rw [List.length_map, List.length_map]
      simp [s14, imm_rowN, hg, encF]
    have ht : (cTst (cBin gEq (cIx (cVar 7) (cNeg (cK (.int 1)))) (cVar 3))).run (s14 x0 (some (.tup (ws.map encW))) x2 (some (.int (other : Int))) (some (.lst (F.map encF))) x5 (some (.lst (acc.map encR))) (some (rowN p.1)) (some (.int p.2)) x9 x10 x11 x12 x13) = .ok true (s14 x0 (some (.tup (ws.map encW))) x2 (some (.int (other : Int))) (some (.lst (F.map encF))) x5 (some (.lst (acc.map encR))) (some (rowN p.1)) (some (.int p.2)) x9 x10 x11 x12 x13) := by
      simp [s14, imm_rowN, ix_endR hr, negOf, h1]
    rw [run_if, ht, bindS_ok, if_pos rfl, e]
    have ef : fil other [p] = [p] := by simp [fil, h1]
    rw [ef, List.map_append]
    rfl
  · have h1' : ¬ ((endR p.1 : Int) = (other : Int)) := by omega
    have ef : fil other [p] = [] := by simp [fil, h1]
    rw [ef, List.append_nil]
    simp [s14, imm_rowN, ix_endR hr, negOf, h1']
theorem rows_loop (hw : ∀ w ∈ ws, w.1 ≠ w.2.1) : ∀ (todo F acc : List Rw) (x7 x8 x9 x10 x11 x12 x13 : Option D), (∀ p ∈ todo, p.1 ≠ [] ∧ p.1.length ≤ 1000) → F.length + todo.length < 16000000 → acc.length + (todo.flatMap (extR ws)).length < 16000000 →
    ∃ y7 y8 y9 y10 y11 y12 y13, forRun (pTup (pCons (pV 7) (pCons (pV 8) pNil))) bRow (todo.map encR) (s14 x0 (some (.tup (ws.map encW))) x2 (some (.int (other : Int))) (some (.lst (F.map encF))) x5 (some (.lst (acc.map encR))) x7 x8 x9 x10 x11 x12 x13) =
      .nx (s14 x0 (some (.tup (ws.map encW))) x2 (some (.int (other : Int))) (some (.lst ((F ++ fil other todo).map encF))) x5 (some (.lst ((acc ++ todo.flatMap (extR ws)).map encR))) y7 y8 y9 y10 y11 y12 y13)
  | [], F, acc, x7, x8, x9, x10, x11, x12, x13, _, _, _ => ⟨x7, x8, x9, x10, x11, x12, x13, by simp [fil]; rfl⟩
  | p :: todo, F, acc, x7, x8, x9, x10, x11, x12, x13, hp, hF, ha => by
    rw [List.flatMap_cons, List.length_append] at ha
    rw [List.length_cons] at hF
    have fl : (fil other [p]).length ≤ 1 := List.length_filter_le _ _
    obtain ⟨h1, h2⟩ := hp p (List.mem_cons_self ..)
    obtain ⟨y9, y10, y11, y12, y13, t⟩ := bRow_turn (x0 := x0) (x2 := x2) (x5 := x5) (ws := ws) (other := other) (F := F) (acc := acc) (x9 := x9) (x10 := x10) (x11 := x11) (x12 := x12) (x13 := x13) h1 h2 hw (by omega) (by omega)
    obtain ⟨z7, z8, z9, z10, z11, z12, z13, ih⟩ := rows_loop hw todo (F ++ fil other [p]) (acc ++ extR ws p) (some (rowN p.1)) (some (.int p.2)) y9 y10 y11 y12 y13 (fun q hq => hp q (List.mem_cons_of_mem _ hq)) (by rw [List.length_append]; omega) (by rw [List.length_append]; omega)
    refine ⟨z7, z8, z9, z10, z11, z12, z13, ?_⟩
    show forRun _ bRow (D.tup [rowN p.1, .int p.2] :: todo.map encR) _ = _
    rw [forRun_nx (tg2 (by simp [s14]) (by simp [s14])) t, ih, List.flatMap_cons, List.append_assoc, List.append_assoc]
    have ef : fil other [p] ++ fil other todo = fil other (p :: todo) := by
      unfold fil
      rw [← List.filter_append]
      rfl
    rw [ef]
end
theorem gather_nil {ws : List Way} {other : Nat} : ∀ t, gather ws other t [] = []
  | 0 => rfl
  | t + 1 => gather_nil t
theorem rw_bRow : (pTup (pCons (pV 7) (pCons (pV 8) pNil))).rw ++ bRow.rw = [7, 8, 4, 9, 10, 11, 12, 13, 6] := rfl
section
variable {x0 x2 : Option D} {ws : List Way} {other one n : Nat}
theorem rows_while (hw : ∀ w ∈ ws, w.1 ≠ w.2.1) (hm : ∀ u v m, Edge ws u v m → v < n) (h0 : one < n) (hn : n ≤ 900) (hs : ∀ k, (lvN ws k [([one], 0)]).length ≤ 2560000) : ∀ (t k : Nat) (F : List Rw) (x6 x7 x8 x9 x10 x11 x12 x13 : Option D), k + t = n → F.length + 2560000 * t < 15360001 →
    ∃ y6 y7 y8 y9 y10 y11 y12 y13, whileRun (cTst (cBin gGtA (cFn gLen (aCons (cVar 5) aNil)) (cK (.int 0)))) bWh (s14 x0 (some (.tup (ws.map encW))) x2 (some (.int (other : Int))) (some (.lst (F.map encF))) (some (.lst ((lvN ws k [([one], 0)]).map encR))) x6 x7 x8 x9 x10 x11 x12 x13) =
      .nx (s14 x0 (some (.tup (ws.map encW))) x2 (some (.int (other : Int))) (some (.lst ((F ++ gather ws other t (lvN ws k [([one], 0)])).map encF))) (some (.lst [])) y6 y7 y8 y9 y10 y11 y12 y13)
  | t, k, F, x6, x7, x8, x9, x10, x11, x12, x13, hk, hF => by
    have hlen := rows_len (ws := ws) k [([one], 0)] 1 (fun p hp => by rw [List.mem_singleton.mp hp]; rfl)
    have hnd := rows_nodup hm h0 k
    have hne : ∀ p ∈ lvN ws k [([one], 0)], p.1 ≠ [] ∧ p.1.length ≤ 1000 := fun p hp => by
      have h1 := hlen p hp
      have h2 := nodup_le (hnd p hp).1 (hnd p hp).2
      exact ⟨fun z => by rw [z] at h1; simp only [List.length_nil] at h1; omega, by omega⟩
    rw [whileRun_step]
    have ht : (cTst (cBin gGtA (cFn gLen (aCons (cVar 5) aNil)) (cK (.int 0)))).run (s14 x0 (some (.tup (ws.map encW))) x2 (some (.int (other : Int))) (some (.lst (F.map encF))) (some (.lst ((lvN ws k [([one], 0)]).map encR))) x6 x7 x8 x9 x10 x11 x12 x13) =
        .ok (decide (0 < (lvN ws k [([one], 0)]).length)) (s14 x0 (some (.tup (ws.map encW))) x2 (some (.int (other : Int))) (some (.lst (F.map encF))) (some (.lst ((lvN ws k [([one], 0)]).map encR))) x6 x7 x8 x9 x10 x11 x12 x13) := by
      simp [s14]
    rw [ht, bindS_ok]
    cases hl : lvN ws k [([one], 0)] with
    | nil =>
      refine ⟨x6, x7, x8, x9, x10, x11, x12, x13, ?_⟩
      rw [gather_nil, List.append_nil, if_neg (by decide)]
      rfl
    | cons p lv =>
      rw [← hl]
      have hpos : 0 < (lvN ws k [([one], 0)]).length := by rw [hl]; exact Nat.succ_pos _
      match t, hk, hF with
      | 0, hk, hF =>
        have hp : p ∈ lvN ws k [([one], 0)] := by rw [hl]; exact List.mem_cons_self ..
        have h1 := hlen p hp
        have h2 := nodup_le (hnd p hp).1 (hnd p hp).2
        omega
      | t + 1, hk, hF =>
        have hB := hs k
        have hB1 := hs (k + 1)
        have hfl : (fil other (lvN ws k [([one], 0)])).length ≤ (lvN ws k [([one], 0)]).length := List.length_filter_le _ _
        rw [if_pos (decide_eq_true hpos)]
        obtain ⟨y7, y8, y9, y10, y11, y12, y13, hr⟩ := rows_loop (x0 := x0) (x2 := x2) (x5 := some (.lst ((lvN ws k [([one], 0)]).map encR))) (ws := ws) (other := other) hw (lvN ws k [([one], 0)]) F [] x7 x8 x9 x10 x11 x12 x13 hne (by omega) (by rw [← lvN_snoc]; simp only [List.length_nil]; omega)
        obtain ⟨z6, z7, z8, z9, z10, z11, z12, z13, ih⟩ := rows_while hw hm h0 hn hs t (k + 1) (F ++ fil other (lvN ws k [([one], 0)])) none y7 y8 y9 y10 y11 y12 y13 (by omega) (by rw [List.length_append]; omega)
        refine ⟨z6, z7, z8, z9, z10, z11, z12, z13, ?_⟩
        have hb : bWh.run (s14 x0 (some (.tup (ws.map encW))) x2 (some (.int (other : Int))) (some (.lst (F.map encF))) (some (.lst ((lvN ws k [([one], 0)]).map encR))) x6 x7 x8 x9 x10 x11 x12 x13) =
            .nx (s14 x0 (some (.tup (ws.map encW))) x2 (some (.int (other : Int))) (some (.lst ((F ++ fil other (lvN ws k [([one], 0)])).map encF))) (some (.lst ((lvN ws (k + 1) [([one], 0)]).map encR))) none y7 y8 y9 y10 y11 y12 y13) := by
          refine seq_nx (σ1 := s14 x0 (some (.tup (ws.map encW))) x2 (some (.int (other : Int))) (some (.lst (F.map encF))) (some (.lst ((lvN ws k [([one], 0)]).map encR))) (some (.lst [])) x7 x8 x9 x10 x11 x12 x13) (by simp [s14]) ?_
          refine seq_nx (σ1 := s14 x0 (some (.tup (ws.map encW))) x2 (some (.int (other : Int))) (some (.lst ((F ++ fil other (lvN ws k [([one], 0)])).map encF))) (some (.lst ((lvN ws k [([one], 0)]).map encR))) (some (.lst ((lvN ws (k + 1) [([one], 0)]).map encR))) y7 y8 y9 y10 y11 y12 y13) (forS_run (x := .plc 5 []) (var_plc rfl rfl) ?_) (by simp [s14])
          rw [for_lstP (ds := (lvN ws k [([one], 0)]).map encR) rfl (imms_encR _) (by rw [rw_bRow]; decide), lvN_snoc]
          exact hr
        rw [hb]
        dsimp only
        rw [ih, List.append_assoc]
        rw [lvN_snoc]
        rfl
end
end A2
end S_K51c
section S_K51d
set_option Elab.async false
set_option linter.all false
set_option maxRecDepth 100000
set_option maxHeartbeats 1000000
open PySem PySem.Spec L2
open PyProof.Rows hiding St
namespace A2
/-! ## how many rows -/
theorem flat_len {α β : Type} {g : α → List β} {c : Nat} : ∀ l : List α, (∀ x ∈ l, (g x).length ≤ c) → (l.flatMap g).length ≤ l.length * c
  | [], _ => by simp
  | x :: l, h => by
    rw [List.flatMap_cons, List.length_append, List.length_cons, Nat.succ_mul]
    have h1 := h x (List.mem_cons_self ..)
    have h2 := flat_len l fun y hy => h y (List.mem_cons_of_mem _ hy)
    omega
theorem rows_few {ws : List Way} {one n : Nat} (hw : ∀ w ∈ ws, w.1 ≠ w.2.1) (few : ws.length ≤ 40) (hm : ∀ u v m, Edge ws u v m → v < n) (h0 : one < n) (hn : n ≤ 5) (k : Nat) : (lvN ws k [([one], 0)]).length ≤ 2560000 := by
  have hext : ∀ p, (extR ws p).length ≤ 40 := fun p => by
    have := flat_len (g := ext1 p) (c := 1) ws fun w h => ext1_le (hw w h)
    unfold extR
    omega
  have step : ∀ k, (lvN ws (k + 1) [([one], 0)]).length ≤ (lvN ws k [([one], 0)]).length * 40 := fun k => by
    rw [lvN_snoc]
    exact flat_len _ fun p _ => hext p
  have h1 : (lvN ws 1 [([one], 0)]).length ≤ (lvN ws 0 [([one], 0)]).length * 40 := step 0
  have h2 : (lvN ws 2 [([one], 0)]).length ≤ (lvN ws 1 [([one], 0)]).length * 40 := step 1
  have h3 : (lvN ws 3 [([one], 0)]).length ≤ (lvN ws 2 [([one], 0)]).length * 40 := step 2
  have h4 : (lvN ws 4 [([one], 0)]).length ≤ (lvN ws 3 [([one], 0)]).length * 40 := step 3
  have e0 : (lvN ws 0 [([one], 0)]).length = 1 := rfl
  by_cases hk : k ≤ 4
  · have : k = 0 ∨ k = 1 ∨ k = 2 ∨ k = 3 ∨ k = 4 := by omega
    rcases this with rfl | rfl | rfl | rfl | rfl <;> omega
  · have hlen := rows_len (ws := ws) k [([one], 0)] 1 (fun p hp => by rw [List.mem_singleton.mp hp]; rfl)
    have hnd := rows_nodup hm h0 k
    cases hl : lvN ws k [([one], 0)] with
    | nil => exact Nat.zero_le _
    | cons p l =>
      have hp : p ∈ lvN ws k [([one], 0)] := by rw [hl]; exact List.mem_cons_self ..
      have h5 := hlen p hp
      have h6 := nodup_le (hnd p hp).1 (hnd p hp).2
      omega
theorem law_rows_eq {n one other : Nat} {film : D} {ws : List Way} (hf : film.imm = true) (W : WaysOk n ws) (h0 : one < n) (hn : n ≤ 5) :
    ∃ outs, F__law_rows.run [film, .tup (ws.map encW), .int (one : Int), .int (other : Int)] = .ok (.lst ((gather ws other n [([one], 0)]).map encF)) outs := by
  have hw : ∀ w ∈ ws, w.1 ≠ w.2.1 := fun w h => by have := (W.each w h).1; omega
  have hm : ∀ u v m, Edge ws u v m → v < n := fun u v m ⟨w, h, e⟩ => by
    obtain ⟨a, b, c, d⟩ := W.each w h
    rcases e with rfl | rfl
    · exact b
    · exact Nat.lt_trans a b
  obtain ⟨y6, y7, y8, y9, y10, y11, y12, y13, h⟩ := rows_while (x0 := some film) (x2 := some (.int (one : Int))) (ws := ws) (other := other) hw hm h0 (by omega) (rows_few hw W.few hm h0 hn) n 0 [] none none none none none none none none (by omega) (by simp only [List.length_nil]; omega)
  refine ⟨_, fn_rt (b := B__law_rows) (m := 14) (d := .lst ((gather ws other n [([one], 0)]).map encF)) (σ := s14 (some film) (some (.tup (ws.map encW))) (some (.int (one : Int))) (some (.int (other : Int))) none (some (.lst [])) y6 y7 y8 y9 y10 y11 y12 y13) ?_⟩
  show B__law_rows.run (s14 (some film) (some (.tup (ws.map encW))) (some (.int (one : Int))) (some (.int (other : Int))) none none none none none none none none none none) = _
  rw [hB_rows]
  refine seq_nx (σ1 := s14 (some film) (some (.tup (ws.map encW))) (some (.int (one : Int))) (some (.int (other : Int))) (some (.lst [])) none none none none none none none none none) (by simp [s14]) ?_
  refine seq_nx (σ1 := s14 (some film) (some (.tup (ws.map encW))) (some (.int (one : Int))) (some (.int (other : Int))) (some (.lst [])) (some (.lst ([([one], 0)].map encR))) none none none none none none none none) (by simp [s14]; rfl) ?_
  refine seq_nx (σ1 := s14 (some film) (some (.tup (ws.map encW))) (some (.int (one : Int))) (some (.int (other : Int))) (some (.lst ((gather ws other n [([one], 0)]).map encF))) (some (.lst [])) y6 y7 y8 y9 y10 y11 y12 y13) ?_ (by simp [s14])
  rw [run_while]
  exact h
/-! ## following, plain -/
section
variable {α : Type}
def lookA : List (Nat × α) → Nat → Option α
  | [], _ => none
  | (k, d) :: r, q => if k = q then some d else lookA r q
def setA : List (Nat × α) → Nat → α → List (Nat × α)
  | [], q, d => [(q, d)]
  | (k, e) :: r, q, d => if k = q then (k, d) :: r else (k, e) :: setA r q d
theorem setA_keys : ∀ (w : List (Nat × α)) (q : Nat) (x : α), ∀ k, k ∈ (setA w q x).map (·.1) ↔ k = q ∨ k ∈ w.map (·.1)
  | [], q, x, k => by simp [setA]
  | (k0, e) :: r, q, x, k => by
    unfold setA
    split
    · rename_i h
      subst h
      simp only [List.map_cons, List.mem_cons]
      constructor
      · exact fun h => .inr h
      · rintro (h | h)
        · exact .inl h
        · exact h
    · simp only [List.map_cons, List.mem_cons, setA_keys r q x k]
      constructor
      · rintro (h | h | h)
        · exact .inr (.inl h)
        · exact .inl h
        · exact .inr (.inr h)
      · rintro (h | h | h)
        · exact .inr (.inl h)
        · exact .inl h
        · exact .inr (.inr h)
theorem setA_nodup : ∀ (w : List (Nat × α)) (q : Nat) (x : α), (w.map (·.1)).Nodup → ((setA w q x).map (·.1)).Nodup
  | [], q, x, _ => by simp [setA]
  | (k0, e) :: r, q, x, h => by
    have h' := List.nodup_cons.mp h
    unfold setA
    split
    · exact List.nodup_cons.mpr h'
    · rename_i hk
      refine List.nodup_cons.mpr ⟨fun z => ?_, setA_nodup r q x h'.2⟩
      rcases (setA_keys r q x k0).mp z with z | z
      · exact hk z
      · exact h'.1 z
theorem setA_new : ∀ (w : List (Nat × α)) (q : Nat) (x : α), (q, x) ∈ setA w q x
  | [], q, x => List.mem_singleton.mpr rfl
  | (k0, e) :: r, q, x => by
    unfold setA
    split
    · rename_i h
      rw [h]
      exact List.mem_cons_self ..
    · exact List.mem_cons_of_mem _ (setA_new r q x)
theorem setA_old : ∀ (w : List (Nat × α)) (q : Nat) (x : α) (v : Nat) (e : α), v ≠ q → (v, e) ∈ w → (v, e) ∈ setA w q x
  | (k0, e0) :: r, q, x, v, e, hv, h => by
    unfold setA
    split
    · rename_i hk
      rcases List.mem_cons.mp h with h | h
      · cases h
        exact absurd hk hv
      · exact List.mem_cons_of_mem _ h
    · rcases List.mem_cons.mp h with h | h
      · rw [h]
        exact List.mem_cons_self ..
      · exact List.mem_cons_of_mem _ (setA_old r q x v e hv h)
theorem setA_from : ∀ (w : List (Nat × α)) (q : Nat) (x : α) (p : Nat × α), p ∈ setA w q x → p = (q, x) ∨ p ∈ w
  | [], q, x, p, h => .inl (List.mem_singleton.mp h)
  | (k0, e0) :: r, q, x, p, h => by
    unfold setA at h
    split at h
    · rename_i hk
      rcases List.mem_cons.mp h with h | h
      · exact .inl (by rw [h, hk])
      · exact .inr (List.mem_cons_of_mem _ h)
    · rcases List.mem_cons.mp h with h | h
      · exact .inr (by rw [h]; exact List.mem_cons_self ..)
      · exact (setA_from r q x p h).imp id (List.mem_cons_of_mem _)
theorem setA_len : ∀ (w : List (Nat × α)) (q : Nat) (x : α), (setA w q x).length ≤ w.length + 1
  | [], q, d => Nat.le_refl _
  | (k, e) :: r, q, d => by
    unfold setA
    split
    · simp
    · have := setA_len r q d
      simp only [List.length_cons]
      omega
theorem lookA_some : ∀ {w : List (Nat × α)} {k : Nat} {d : α}, lookA w k = some d → (k, d) ∈ w
  | (k0, d0) :: r, k, d, h => by
    unfold lookA at h
    split at h
    · rename_i hk
      cases h
      rw [hk]
      exact List.mem_cons_self ..
    · exact List.mem_cons_of_mem _ (lookA_some h)
theorem lookA_mem : ∀ {w : List (Nat × α)} {k : Nat} {d : α}, (w.map (·.1)).Nodup → (k, d) ∈ w → lookA w k = some d
  | (k0, d0) :: r, k, d, hn, h => by
    have hn' := List.nodup_cons.mp hn
    unfold lookA
    rcases List.mem_cons.mp h with h | h
    · cases h; rw [if_pos rfl]
    · have : k0 ≠ k := fun z => hn'.1 (List.mem_map.mpr ⟨(k, d), h, z.symm⟩)
      rw [if_neg this]
      exact lookA_mem hn'.2 h
theorem lookA_none : ∀ {w : List (Nat × α)} {k : Nat}, lookA w k = none → k ∉ w.map (·.1)
  | [], k, _ => by simp
  | (k0, d0) :: r, k, h => by
    unfold lookA at h
    split at h
    · cases h
    · rename_i hk
      rw [List.map_cons, List.mem_cons]
      rintro (z | z)
      · exact hk z.symm
      · exact lookA_none h z
end
abbrev Fol := List (Nat × List Nat)
def ltN (a b : List Nat) : Bool := ltI (a.map fun (v : Nat) => (v : Int)) (b.map fun (v : Nat) => (v : Int))
def minN (old new : List Nat) : List Nat := if ltN new old = true then new else old
def stepR (Fo : Fol) (c : Nat × List Nat) : Fol := setA Fo c.1 (minN ((lookA Fo c.1).getD c.2) c.2)
theorem rI_inj {a b : List Nat} (h : (a.map fun (v : Nat) => (v : Int)) = b.map fun (v : Nat) => (v : Int)) : a = b := (List.map_inj_right (f := fun (v : Nat) => (v : Int)) fun x y e => Int.ofNat_inj.mp e).mp h
theorem ltN_tri {a b : List Nat} (h : a.length = b.length) : ltN a b = true ∨ a = b ∨ ltN b a = true := by
  rcases ltI_tri (x := a.map fun (v : Nat) => (v : Int)) (y := b.map fun (v : Nat) => (v : Int)) (by rw [List.length_map, List.length_map]; exact h) with h | h | h
  · exact .inl h
  · exact .inr (.inl (rI_inj h))
  · exact .inr (.inr h)
theorem ltI_app : ∀ {x y : List Int} {z z' : List Int}, x.length = y.length → ltI x y = true → ltI (x ++ z) (y ++ z') = true
  | [], [], _, _, _, h => by cases h
  | [], _ :: _, _, _, h, _ => by cases h
  | _ :: _, [], _, _, h, _ => by cases h
  | a :: x, b :: y, z, z', hl, h => by
    simp only [List.cons_append, ltI, Bool.or_eq_true, Bool.and_eq_true, decide_eq_true_eq] at h ⊢
    rcases h with h | ⟨h1, h2⟩
    · exact .inl h
    · exact .inr ⟨h1, ltI_app (by simpa using hl) h2⟩
theorem ltN_app {a b : List Nat} {z z' : List Nat} (hl : a.length = b.length) (h : ltN a b = true) : ltN (a ++ z) (b ++ z') = true := by
  unfold ltN
  rw [List.map_append, List.map_append]
  exact ltI_app (by rw [List.length_map, List.length_map]; exact hl) h
def leN (a b : List Nat) : Prop := a = b ∨ ltN a b = true
theorem leN_trans {a b c : List Nat} (h : leN a b) (h' : leN b c) : leN a c := by
  rcases h with rfl | h
  · exact h'
  · rcases h' with rfl | h'
    · exact .inr h
    · exact .inr (ltI_trans h h')
structure FInv (L : Nat) (Fo : Fol) (P : List (Nat × List Nat)) : Prop where
  nod : (Fo.map (·.1)).Nodup
  frm : ∀ c ∈ Fo, c ∈ P
  all : ∀ c ∈ P, ∃ R, (c.1, R) ∈ Fo ∧ leN R c.2
theorem minN_le {a b : List Nat} (h : a.length = b.length) : (minN a b = a ∨ minN a b = b) ∧ leN (minN a b) a ∧ leN (minN a b) b := by
  unfold minN
  split
  · rename_i hl
    exact ⟨.inr rfl, .inr hl, .inl rfl⟩
  · rename_i hl
    refine ⟨.inl rfl, .inl rfl, ?_⟩
    rcases ltN_tri h with h | h | h
    · exact .inr h
    · exact .inl h
    · exact absurd h hl
theorem FInv.step {L : Nat} {Fo : Fol} {P : List (Nat × List Nat)} {c : Nat × List Nat} (I : FInv L Fo P) (hP : ∀ c ∈ P, c.2.length = L) (hc : c.2.length = L) : FInv L (stepR Fo c) (P ++ [c]) := by
  have hold : ∀ R, lookA Fo c.1 = some R → (c.1, R) ∈ P ∧ R.length = L := fun R h => ⟨I.frm _ (lookA_some h), hP _ (I.frm _ (lookA_some h))⟩
  have hg : ((lookA Fo c.1).getD c.2).length = c.2.length := by
    cases h : lookA Fo c.1 with
    | none => rfl
    | some R => exact (hold R h).2.trans hc.symm
  obtain ⟨m1, m2, m3⟩ := minN_le hg
  refine ⟨setA_nodup _ _ _ I.nod, fun d hd => ?_, fun d hd => ?_⟩
  · rcases setA_from _ _ _ d hd with h | h
    · rw [h]
      rcases m1 with m1 | m1
      · rw [m1]
        cases h2 : lookA Fo c.1 with
        | none => exact List.mem_append_right _ (List.mem_singleton.mpr rfl)
        | some R => exact List.mem_append_left _ (hold R h2).1
      · rw [m1]
        exact List.mem_append_right _ (List.mem_singleton.mpr rfl)
    · exact List.mem_append_left _ (I.frm d h)
  · by_cases hk : d.1 = c.1
    · refine ⟨minN ((lookA Fo c.1).getD c.2) c.2, by rw [hk]; exact setA_new _ _ _, ?_⟩
      rcases List.mem_append.mp hd with h | h
      · obtain ⟨R, h1, h2⟩ := I.all d h
        rw [hk] at h1
        rw [lookA_mem I.nod h1] at m2 ⊢
        exact leN_trans m2 h2
      · rw [List.mem_singleton.mp h]
        exact m3
    · rcases List.mem_append.mp hd with h | h
      · obtain ⟨R, h1, h2⟩ := I.all d h
        exact ⟨R, setA_old _ _ _ _ _ hk h1, h2⟩
      · exact absurd (congrArg (·.1) (List.mem_singleton.mp h)) hk
theorem FInv.fold {L : Nat} : ∀ (C : List (Nat × List Nat)) (Fo : Fol) (P : List (Nat × List Nat)), FInv L Fo P → (∀ c ∈ P, c.2.length = L) → (∀ c ∈ C, c.2.length = L) → FInv L (C.foldl stepR Fo) (P ++ C)
  | [], Fo, P, I, _, _ => by rw [List.append_nil]; exact I
  | c :: C, Fo, P, I, hP, hC => by
    have h1 := FInv.fold C (stepR Fo c) (P ++ [c]) (I.step hP (hC c (List.mem_cons_self ..))) (fun d hd => (List.mem_append.mp hd).elim (hP d) fun h => by rw [List.mem_singleton.mp h]; exact hC c (List.mem_cons_self ..)) fun d hd => hC d (List.mem_cons_of_mem _ hd)
    rw [List.append_assoc] at h1
    exact h1
/-! ### the levels of route -/
def tightB (f : List (Option Int)) (b : Int) (p : Nat × Int) : Bool := match at' f p.1 with
  | some e => decide (e + p.2 = b)
  | none => false
def candR (near : List Adj) (f : List (Option Int)) (r : List Nat) : List (Nat × List Nat) :=
  ((near.getD (endR r) []).filter (tightB f ((at' f (endR r)).getD 0))).map fun p => (p.1, r ++ [p.1])
structure LvOk (ws : List Way) (f : List (Option Int)) (one : Nat) (a : Int) (k : Nat) (lv : List (List Nat)) : Prop where
  ne : lv ≠ []
  nod : (lv.map endR).Nodup
  lst : ∀ r ∈ lv, ∃ b, TW ws f one a k r (endR r) b ∧ ∀ r' b', TW ws f one a k r' (endR r) b' → leN r r'
  all : ∀ r u b, TW ws f one a k r u b → ∃ r' ∈ lv, endR r' = u
section
variable {ws : List Way} {f : List (Option Int)} {one n other : Nat} {a : Int} {near : List Adj} {k : Nat} {lv : List (List Nat)}
theorem mem_cand {r : List Nat} {b : Int} {c : Nat × List Nat} (hm : ∀ u, u < n → ∀ v m, (v, m) ∈ near.getD u [] ↔ Edge ws u v m) (hu : endR r < n) (hb : at' f (endR r) = some b) :
    c ∈ candR near f r ↔ ∃ x e, Edge ws (endR r) c.1 x ∧ at' f c.1 = some e ∧ e + x = b ∧ c.2 = r ++ [c.1] := by
  unfold candR
  rw [hb, List.mem_map]
  constructor
  · rintro ⟨p, hp, rfl⟩
    obtain ⟨h1, h2⟩ := List.mem_filter.mp hp
    unfold tightB at h2
    split at h2
    · rename_i e he
      exact ⟨p.2, e, (hm _ hu _ _).mp h1, he, of_decide_eq_true h2, rfl⟩
    · cases h2
  · rintro ⟨x, e, h1, h2, h3, h4⟩
    refine ⟨(c.1, x), List.mem_filter.mpr ⟨(hm _ hu _ _).mpr h1, ?_⟩, ?_⟩
    · unfold tightB
      rw [h2]
      exact decide_eq_true h3
    · rw [← h4]
theorem next_spec (hm : ∀ u, u < n → ∀ v m, (v, m) ∈ near.getD u [] ↔ Edge ws u v m) (hE : ∀ u v m, Edge ws u v m → v < n) (h0 : one < n) (O : LvOk ws f one a k lv) :
    FInv (k + 2) ((lv.flatMap (candR near f)).foldl stepR []) (lv.flatMap (candR near f)) ∧
    (∀ c ∈ (lv.flatMap (candR near f)).foldl stepR [], ∃ e, TW ws f one a (k + 1) c.2 c.1 e ∧ ∀ r' b', TW ws f one a (k + 1) r' c.1 b' → leN c.2 r') ∧
    ∀ r u b, TW ws f one a (k + 1) r u b → u ∈ ((lv.flatMap (candR near f)).foldl stepR []).map (·.1) := by
  have hlt : ∀ {k r u b}, TW ws f one a k r u b → u < n := fun {k r u b} t => by
    cases t with
    | nil _ => exact h0
    | snoc _ h _ _ => exact hE _ _ _ h
  have hC : ∀ c ∈ lv.flatMap (candR near f), ∃ r ∈ lv, ∃ b x e, TW ws f one a k r (endR r) b ∧ Edge ws (endR r) c.1 x ∧ at' f c.1 = some e ∧ e + x = b ∧ c.2 = r ++ [c.1] := fun c hc => by
    obtain ⟨r, hr, hc⟩ := List.mem_flatMap.mp hc
    obtain ⟨b, t, _⟩ := O.lst r hr
    obtain ⟨x, e, h1, h2, h3, h4⟩ := (mem_cand hm (hlt t) t.at_).mp hc
    exact ⟨r, hr, b, x, e, t, h1, h2, h3, h4⟩
  have hL : ∀ c ∈ lv.flatMap (candR near f), c.2.length = k + 2 := fun c hc => by
    obtain ⟨r, hr, b, x, e, t, h1, h2, h3, h4⟩ := hC c hc
    rw [h4, List.length_append, t.len]
    rfl
  have I := FInv.fold (L := k + 2) (lv.flatMap (candR near f)) [] [] ⟨List.nodup_nil, fun c h => (nomatch h), fun c h => nomatch h⟩ (fun c h => nomatch h) hL
  rw [List.nil_append] at I
  have cov : ∀ r u b, TW ws f one a (k + 1) r u b → ∃ c ∈ lv.flatMap (candR near f), c.1 = u ∧ leN c.2 r := fun r u b t => by
    cases t with
    | @snoc _ w u2 b2 _ x2 _ t h1 h2 h3 =>
      obtain ⟨r2, hr2, e2⟩ := O.all _ _ _ t
      obtain ⟨b3, t3, l3⟩ := O.lst r2 hr2
      rw [e2] at t3 l3
      have hb : b3 = b2 := by
        have z1 := t3.at_
        rw [t.at_] at z1
        exact (Option.some.inj z1).symm
      subst hb
      refine ⟨(u, r2 ++ [u]), List.mem_flatMap.mpr ⟨r2, hr2, (mem_cand hm (by rw [e2]; exact hlt t) (by rw [e2]; exact t.at_)).mpr ⟨x2, b, by rw [e2]; exact h1, h2, h3, rfl⟩⟩, rfl, ?_⟩
      rcases l3 w _ t with h | h
      · exact .inl (by rw [h])
      · exact .inr (ltN_app (by rw [t.len, t3.len]) h)
  refine ⟨I, fun c hc => ?_, fun r u b t => ?_⟩
  · obtain ⟨r, hr, b, x, e, t, h1, h2, h3, h4⟩ := hC c (I.frm c hc)
    refine ⟨e, by rw [h4]; exact .snoc t h1 h2 h3, fun r' b' t' => ?_⟩
    obtain ⟨d, hd, e1, e2⟩ := cov r' _ _ t'
    obtain ⟨R, h5, h6⟩ := I.all d hd
    rw [e1] at h5
    have : R = c.2 := by
      have z1 := lookA_mem I.nod h5
      rw [lookA_mem I.nod (show (c.1, c.2) ∈ _ from hc)] at z1
      exact (Option.some.inj z1).symm
    rw [← this]
    exact leN_trans h6 e2
  · obtain ⟨d, hd, e1, _⟩ := cov r u b t
    obtain ⟨R, h5, _⟩ := I.all d hd
    rw [e1] at h5
    exact List.mem_map.mpr ⟨_, h5, rfl⟩
/-- the level behind: by the sorted keys -/
theorem next_ok {ks : List Int} (hm : ∀ u, u < n → ∀ v m, (v, m) ∈ near.getD u [] ↔ Edge ws u v m) (hE : ∀ u v m, Edge ws u v m → v < n) (h0 : one < n) (O : LvOk ws f one a k lv)
    (I : DInv n other (Edge ws) f []) (hno : ∀ r b, ¬ TW ws f one a k r other b) (hks : ks.Perm ((((lv.flatMap (candR near f)).foldl stepR []).map (·.1)).map fun (v : Nat) => (v : Int))) :
    LvOk ws f one a (k + 1) (ks.map fun i => (lookA ((lv.flatMap (candR near f)).foldl stepR []) i.toNat).getD []) := by
  obtain ⟨J, s1, s2⟩ := next_spec hm hE h0 O
  generalize (lv.flatMap (candR near f)).foldl stepR [] = Fo at J s1 s2 hks
  have hin : ∀ i ∈ ks, ∃ c ∈ Fo, i = (c.1 : Int) ∧ lookA Fo i.toNat = some c.2 := fun i hi => by
    obtain ⟨v, hv, rfl⟩ := List.mem_map.mp (hks.mem_iff.mp hi)
    obtain ⟨c, hc, rfl⟩ := List.mem_map.mp hv
    exact ⟨c, hc, rfl, lookA_mem J.nod hc⟩
  have hback : ∀ c ∈ Fo, (c.1 : Int) ∈ ks := fun c hc => hks.mem_iff.mpr (List.mem_map.mpr ⟨c.1, List.mem_map.mpr ⟨c, hc, rfl⟩, rfl⟩)
  have hend : ∀ c ∈ Fo, endR c.2 = c.1 := fun c hc => by
    obtain ⟨e, t, _⟩ := s1 c hc
    exact t.end_
  have mem : ∀ r, r ∈ (ks.map fun i => (lookA Fo i.toNat).getD []) ↔ ∃ c ∈ Fo, r = c.2 := fun r => by
    rw [List.mem_map]
    constructor
    · rintro ⟨i, hi, rfl⟩
      obtain ⟨c, hc, _, e⟩ := hin i hi
      exact ⟨c, hc, by rw [e]; rfl⟩
    · rintro ⟨c, hc, rfl⟩
      exact ⟨c.1, hback c hc, by rw [Int.toNat_natCast, lookA_mem J.nod (show (c.1, c.2) ∈ Fo from hc)]; rfl⟩
  refine ⟨fun z => ?_, ?_, fun r hr => ?_, fun r u b t => ?_⟩
  · -- one step more
    obtain ⟨r, lv', e⟩ := List.exists_cons_of_ne_nil O.ne
    obtain ⟨b, t, _⟩ := O.lst r (by rw [e]; exact List.mem_cons_self ..)
    have hu : endR r ≠ other := fun z => hno r b (z ▸ t)
    obtain ⟨v, x, d, h1, h2, h3⟩ := tight_next I t.at_ hu
    obtain ⟨c, hc, _⟩ := List.mem_map.mp (s2 _ _ _ (.snoc t h1 h2 h3))
    have := (mem c.2).mpr ⟨c, hc, rfl⟩
    rw [z] at this
    cases this
  · have e : (ks.map fun i => (lookA Fo i.toNat).getD []).map endR = ks.map Int.toNat := by
      rw [List.map_map]
      refine List.map_congr_left fun i hi => ?_
      obtain ⟨c, hc, e1, e2⟩ := hin i hi
      show endR ((lookA Fo i.toNat).getD []) = i.toNat
      rw [e2, e1, Int.toNat_natCast]
      exact hend c hc
    rw [e]
    refine ((hks.map Int.toNat).nodup_iff).mpr ?_
    rw [List.map_map]
    have : (Int.toNat ∘ fun (v : Nat) => (v : Int)) = id := funext fun v => Int.toNat_natCast v
    rw [this, List.map_id]
    exact J.nod
  · obtain ⟨c, hc, rfl⟩ := (mem r).mp hr
    obtain ⟨e, t, l⟩ := s1 c hc
    rw [hend c hc]
    exact ⟨e, t, l⟩
  · obtain ⟨c, hc, e⟩ := List.mem_map.mp (s2 _ _ _ t)
    exact ⟨c.2, (mem _).mpr ⟨c, hc, rfl⟩, (hend c hc).trans e⟩
theorem lv_one (h : at' f one = some a) : LvOk ws f one a 0 [[one]] := ⟨by simp, by simp, fun r hr => by
  rw [List.mem_singleton.mp hr]
  refine ⟨a, .nil h, fun r' b' t => ?_⟩
  cases t with
  | nil _ => exact .inl rfl, fun r u b t => by
  cases t with
  | nil _ => exact ⟨_, List.mem_singleton.mpr rfl, rfl⟩⟩
end
end A2
end S_K51d
section S_K51e
set_option Elab.async false
set_option linter.all false
set_option maxRecDepth 100000
set_option maxHeartbeats 1000000
open PySem PySem.Spec L2
open PyProof.Rows hiding St
open PySem.W (alike alikeAll dataLt AlikeAll AllAlike Sortable minD maxD EachIs dataLe)
namespace A2
/-! ## route, by steps -/
def encFo (p : Nat × List Nat) : D × D := (.int p.1, rowN p.2)
def fd' (Fo : Fol) : D := .dct (Fo.map encFo)
theorem lookD_F : ∀ (w : Fol) (q : Nat), lookD (w.map encFo) (.inl (q : Int)) = (lookA w q).map rowN
  | [], q => rfl
  | (k, d) :: r, q => by
    show (if ((k : Nat) : Int) = (q : Int) then some (rowN d) else lookD (r.map encFo) (.inl (q : Int))) = (if k = q then some d else lookA r q).map rowN
    rw [lookD_F r q]
    by_cases h : k = q
    · subst h; simp
    · rw [if_neg h, if_neg (by omega)]
theorem setD_F : ∀ (w : Fol) (q : Nat) (d : List Nat), setD (w.map encFo) (.inl (q : Int)) (rowN d) = (setA w q d).map encFo
  | [], q, d => rfl
  | (k, e) :: r, q, d => by
    show (if ((k : Nat) : Int) = (q : Int) then (D.int k, rowN d) :: r.map encFo else (D.int k, rowN e) :: setD (r.map encFo) (.inl (q : Int)) (rowN d)) = (if k = q then (k, d) :: r else (k, e) :: setA r q d).map encFo
    rw [setD_F r q d]
    by_cases h : k = q
    · subst h; simp [encFo]
    · rw [if_neg h, if_neg (by omega)]; rfl
theorem get2_F {σ : DSt} {w : Fol} {s u : Nat} {d : List Nat} (hs : σ[s]? = some (some (fd' w))) : get2Of (.plc s []) (.tmp (.int (u : Int))) (.tmp (rowN d)) σ = .ok (.tmp (rowN ((lookA w u).getD d))) σ := by
  unfold get2Of
  simp only [get_plc, hs, getP_nil, get_tmp, fd', keyOf]
  rw [lookD_F]
  cases lookA w u with
  | none => rfl
  | some r =>
    simp only [Option.map_some, Option.getD_some, imm_rowN]
    rfl
theorem isK_F {σ : DSt} {w : Fol} {s : Nat} (hs : σ[s]? = some (some (fd' w))) : isK "dict" (.plc s []) σ = true := by
  unfold isK
  simp only [get_plc, hs, getP_nil]
  rfl
theorem store_Fo {σ : DSt} {w : Fol} {s u : Nat} {d : List Nat} (hs : σ[s]? = some (some (fd' w))) (hl : w.length < sizeLine) : storeAt s (.tmp (rowN d)) (.plc s []) (.tmp (.int (u : Int))) σ = some (σ.set s (some (fd' (setA w u d)))) := by
  unfold storeAt
  simp only [get_tmp, hs, getP_nil, fd', storeD, keyOf, if_true, setP_nil, imm_rowN]
  rw [if_pos (by rw [List.length_map]; exact hl), setD_F]
  rfl
theorem min2_rows (a b : List Nat) : gMin2D [rowN a, rowN b] = some (rowN (minN a b)) := by
  have h := best_rows (a.map fun (v : Nat) => (v : Int)) [b.map fun (v : Nat) => (v : Int)]
  have hok : bestOk [rowN a, rowN b] = true := by
    cases e : bestOk [rowN a, rowN b] with
    | true => rfl
    | false =>
      have h' : (if bestOk [rowN a, rowN b] = true then some (minDD (rowN a) [rowN b]) else none) = some (tupI (minI (a.map fun (v : Nat) => (v : Int)) [b.map fun (v : Nat) => (v : Int)])) := h
      rw [e, if_neg Bool.false_ne_true] at h'
      cases h'
  show (if bestOk [rowN a, rowN b] = true then some (if dataLt (toPy (rowN b)) (toPy (rowN a)) = true then rowN b else rowN a) else none) = _
  rw [if_pos hok]
  have e : dataLt (toPy (rowN b)) (toPy (rowN a)) = ltN b a := lt_tupI _ _
  rw [e]
  unfold minN
  split <;> rfl
theorem ix_enc {σ : DSt} {f : List (Option Int)} {u : Nat} (hu : u < f.length) : ixOf (.tmp (.tup (f.map encO))) (.tmp (.int (u : Int))) σ = .ok (.tmp (encO (at' f u))) σ := by
  have hg : L2.atI (f.map encO) (u : Int) = some (encO (at' f u)) := by
    unfold at'
    rw [atI_pos (by omega) (by rw [List.length_map]; omega), Int.toNat_natCast, List.getElem?_map, List.getElem?_eq_getElem hu, List.getD_eq_getElem?_getD, List.getElem?_eq_getElem hu]
    rfl
  unfold ixOf
  simp only [get_tmp, hg, imm_encO, if_true]
def s11 (x0 x1 x2 x3 x4 x5 x6 x7 x8 x9 x10 : Option D) : DSt := [x0, x1, x2, x3, x4, x5, x6, x7, x8, x9, x10]
noncomputable def bT : SC := sIf (cAndT (cTst (cBin gIsNot (cIx (cVar 4) (cVar 9)) (cK .non))) (cTst (cBin gEq (cBin gAdd (cIx (cVar 4) (cVar 9)) (cVar 10)) (cIx (cVar 4) (cIx (cVar 8) (cNeg (cK (.int 1)))))))) (sSetIx 7 (cVar 7) (cVar 9) (cFn gMin2D (aCons (cGet2 (cVar 7) (cVar 9) (cBin gAdd (cVar 8) (cTup (aCons (cVar 9) aNil)))) (aCons (cBin gAdd (cVar 8) (cTup (aCons (cVar 9) aNil))) aNil)))) sNil
noncomputable def bR : SC := sFor (pTup (pCons (pV 9) (pCons (pV 10) pNil))) (cIx (cVar 5) (cIx (cVar 8) (cNeg (cK (.int 1))))) bT
noncomputable def cNext : EC := cComp [9] (pV 9) cYes (cIx (cVar 7) (cVar 9)) (cFn gSortK (aCons (cVar 7) aNil))
noncomputable def bW : SC := sSeq (sSet 7 cDnew) (sSeq (sFor (pV 8) (cVar 6) bR) (sSeq (sIf (cTst (cBin gIn (cVar 3) (cVar 7))) (sRet (cIx (cVar 7) (cVar 3))) sNil) (sSet 6 cNext)))
noncomputable def tW : TC := cTst (cBin gNe (cIx (cIx (cVar 6) (cK (.int 0))) (cNeg (cK (.int 1)))) (cVar 3))
theorem hB_route : B_route = (sSeq (sExpr (cCall F_check_ways [] (aCons (cVar 0) (aCons (cVar 1) aNil))))
  (sSeq (sExpr (cCall F_check_place [] (aCons (cVar 0) (aCons (cVar 2) aNil))))
  (sSeq (sExpr (cCall F_check_place [] (aCons (cVar 0) (aCons (cVar 3) aNil))))
  (sSeq (sSet 4 (cCall F_all_distances [] (aCons (cVar 0) (aCons (cVar 1) (aCons (cVar 3) aNil)))))
  (sSeq (sIf (cTst (cBin gIs (cIx (cVar 4) (cVar 2)) (cK .non))) (sRaise "WayError" (cK (.str "apart"))) sNil)
  (sSeq (sSet 5 (cCall F_neighbors [] (aCons (cVar 0) (aCons (cVar 1) aNil))))
  (sSeq (sSet 6 (cLst (aCons (cTup (aCons (cVar 2) aNil)) aNil)))
  (sSeq (sWhile tW bW)
  (sRet (cIx (cVar 6) (cK (.int 0)))))))))))) := rfl
section
variable {x0 x1 x2 x3 x6 : Option D} {f : List (Option Int)} {near : List Adj}
theorem bT_turn {Fo : Fol} {r : List Nat} {b : Int} {p : Nat × Int} (hr : r ≠ []) (hl : r.length ≤ 1000) (hu : endR r < f.length) (hb : at' f (endR r) = some b) (hp : p.1 < f.length) (hF : Fo.length < 1000000) :
    bT.run (s11 x0 x1 x2 x3 (some (.tup (f.map encO))) (some (.lst (near.map encA))) x6 (some (fd' Fo)) (some (rowN r)) (some (.int p.1)) (some (.int p.2))) =
      .nx (s11 x0 x1 x2 x3 (some (.tup (f.map encO))) (some (.lst (near.map encA))) x6 (some (fd' (if tightB f b p = true then stepR Fo (p.1, r ++ [p.1]) else Fo))) (some (rowN r)) (some (.int p.1)) (some (.int p.2))) := by
  have i1 := fun σ => ix_enc (σ := σ) hp
  have i2 := fun σ => ix_enc (σ := σ) hu
  have ie := imms_encO f
  rw [hb] at i2
  unfold tightB
  cases hv : at' f p.1 with
  | none =>
    rw [hv] at i1
    simp [bT, s11, ie, i1, encO]
  | some e =>
    rw [hv] at i1
    by_cases h : e + p.2 = b
    · have k1 := isK_F (σ := s11 x0 x1 x2 x3 (some (.tup (f.map encO))) (some (.lst (near.map encA))) x6 (some (fd' Fo)) (some (rowN r)) (some (.int p.1)) (some (.int p.2))) (s := 7) rfl
      have g1 := get2_F (σ := s11 x0 x1 x2 x3 (some (.tup (f.map encO))) (some (.lst (near.map encA))) x6 (some (fd' Fo)) (some (rowN r)) (some (.int p.1)) (some (.int p.2))) (s := 7) (u := p.1) (d := r ++ [p.1]) rfl
      have s1 := store_Fo (σ := s11 x0 x1 x2 x3 (some (.tup (f.map encO))) (some (.lst (near.map encA))) x6 (some (fd' Fo)) (some (rowN r)) (some (.int p.1)) (some (.int p.2))) (s := 7) (u := p.1) (d := minN ((lookA Fo p.1).getD (r ++ [p.1])) (r ++ [p.1])) rfl (by have := size_big; omega)
      have iF : (fd' Fo).imm = false := rfl
      simp only [h, decide_true, if_true]
      simp only [s11] at k1 g1 s1
      simp [bT, s11, ie, i1, i2, encO, h, imm_rowN, ix_endR hr, negOf, add_row hl, run3, k1, g1, min2_rows, s1, iF, stepR]
    · simp only [h, decide_false, Bool.false_eq_true, if_false]
      simp [bT, s11, ie, i1, i2, encO, h, imm_rowN, ix_endR hr, negOf]
theorem stepR_len (Fo : Fol) (c) : (stepR Fo c).length ≤ Fo.length + 1 := setA_len _ _ _
theorem adj_loop {r : List Nat} {b : Int} (hr : r ≠ []) (hl : r.length ≤ 1000) (hu : endR r < f.length) (hb : at' f (endR r) = some b) : ∀ (l : Adj) (Fo : Fol) (x9 x10 : Option D), okS x9 → (∀ p ∈ l, p.1 < f.length) → Fo.length + l.length < 1000000 →
    ∃ y9 y10, okS y9 ∧ forRun (pTup (pCons (pV 9) (pCons (pV 10) pNil))) bT (l.map encP) (s11 x0 x1 x2 x3 (some (.tup (f.map encO))) (some (.lst (near.map encA))) x6 (some (fd' Fo)) (some (rowN r)) x9 x10) =
      .nx (s11 x0 x1 x2 x3 (some (.tup (f.map encO))) (some (.lst (near.map encA))) x6 (some (fd' (((l.filter (tightB f b)).map fun p => (p.1, r ++ [p.1])).foldl stepR Fo))) (some (rowN r)) y9 y10)
  | [], Fo, x9, x10, h9, _, _ => ⟨x9, x10, h9, rfl⟩
  | p :: l, Fo, x9, x10, h9, hp, hF => by
    rw [List.length_cons] at hF
    have t := bT_turn (x0 := x0) (x1 := x1) (x2 := x2) (x3 := x3) (x6 := x6) (near := near) (Fo := Fo) hr hl hu hb (hp p (List.mem_cons_self ..)) (by omega)
    have hlen : (if tightB f b p = true then stepR Fo (p.1, r ++ [p.1]) else Fo).length ≤ Fo.length + 1 := by
      split
      · exact stepR_len _ _
      · omega
    obtain ⟨y9, y10, o9, ih⟩ := adj_loop hr hl hu hb l (if tightB f b p = true then stepR Fo (p.1, r ++ [p.1]) else Fo) (some (.int p.1)) (some (.int p.2)) (fun d e => by cases e; rfl) (fun q hq => hp q (List.mem_cons_of_mem _ hq)) (by omega)
    refine ⟨y9, y10, o9, ?_⟩
    show forRun _ bT (D.tup [.int p.1, .int p.2] :: l.map encP) _ = _
    rw [forRun_nx (tg2 (by simp [s11]) (by simp [s11])) t, ih, List.filter_cons]
    cases tightB f b p <;> rfl
theorem rw_bT : (pTup (pCons (pV 9) (pCons (pV 10) pNil))).rw ++ bT.rw = [9, 10, 7] := rfl
theorem for_near {σ : DSt} {p : PC} {b : SC} {u : Nat} (hs : σ[5]? = some (some (.lst (near.map encA)))) (hu : u < near.length) (hl : 5 ∉ p.rw ++ b.rw) : forOf p b (.plc 5 [.ix u]) σ = forRun p b ((near.getD u []).map encP) σ := by
  have hg : (near.map encA)[u]? = some (encA (near.getD u [])) := by
    rw [List.getElem?_map, List.getElem?_eq_getElem hu, List.getD_eq_getElem?_getD, List.getElem?_eq_getElem hu]
    rfl
  unfold forOf
  simp only [get_plc, hs, getP_ix, hg, getP_nil, encA, itemsOf]
  rw [if_pos (imms_adj _)]
  exact if_pos (decide_eq_true hl)
theorem bR_turn {Fo : Fol} {r : List Nat} {b : Int} {x9 x10 : Option D} (hr : r ≠ []) (hl : r.length ≤ 1000) (hu : endR r < f.length) (hn : near.length = f.length) (hb : at' f (endR r) = some b) (h9 : okS x9) (hp : ∀ p ∈ near.getD (endR r) [], p.1 < f.length) (hF : Fo.length + (near.getD (endR r) []).length < 1000000) :
    ∃ y9 y10, okS y9 ∧ bR.run (s11 x0 x1 x2 x3 (some (.tup (f.map encO))) (some (.lst (near.map encA))) x6 (some (fd' Fo)) (some (rowN r)) x9 x10) =
      .nx (s11 x0 x1 x2 x3 (some (.tup (f.map encO))) (some (.lst (near.map encA))) x6 (some (fd' ((candR near f r).foldl stepR Fo))) (some (rowN r)) y9 y10) := by
  obtain ⟨y9, y10, o9, h⟩ := adj_loop (x0 := x0) (x1 := x1) (x2 := x2) (x3 := x3) (x6 := x6) (near := near) hr hl hu hb (near.getD (endR r) []) Fo x9 x10 h9 hp hF
  refine ⟨y9, y10, o9, ?_⟩
  refine forS_run (x := .plc 5 [.ix (endR r)]) ?_ ?_
  · have i1 := ix_near (σ := s11 x0 x1 x2 x3 (some (.tup (f.map encO))) (some (.lst (near.map encA))) x6 (some (fd' Fo)) (some (rowN r)) x9 x10) (s := 5) (u := endR r) (near := near) rfl (by omega)
    simp only [s11] at i1
    simp [s11, imm_rowN, ix_endR hr, negOf, i1]
  · rw [for_near rfl (by omega) (by rw [rw_bT]; decide), h]
    unfold candR
    rw [hb]
    rfl
theorem level_loop (hn : near.length = f.length) (hs : ∀ u, (near.getD u []).length ≤ 40) (hp : ∀ u, u < f.length → ∀ p ∈ near.getD u [], p.1 < f.length) : ∀ (todo : List (List Nat)) (Fo : Fol) (x8 x9 x10 : Option D), okS x9 → (∀ r ∈ todo, r ≠ [] ∧ r.length ≤ 1000 ∧ endR r < f.length ∧ ∃ b, at' f (endR r) = some b) → Fo.length + 40 * todo.length < 1000000 →
    ∃ y8 y9 y10, okS y9 ∧ forRun (pV 8) bR (todo.map rowN) (s11 x0 x1 x2 x3 (some (.tup (f.map encO))) (some (.lst (near.map encA))) x6 (some (fd' Fo)) x8 x9 x10) =
      .nx (s11 x0 x1 x2 x3 (some (.tup (f.map encO))) (some (.lst (near.map encA))) x6 (some (fd' ((todo.flatMap (candR near f)).foldl stepR Fo))) y8 y9 y10)
  | [], Fo, x8, x9, x10, h9, _, _ => ⟨x8, x9, x10, h9, rfl⟩
  | r :: todo, Fo, x8, x9, x10, h9, hr, hF => by
    rw [List.length_cons] at hF
    obtain ⟨r1, r2, r3, b, r4⟩ := hr r (List.mem_cons_self ..)
    have hsr := hs (endR r)
    obtain ⟨y9, y10, o9, t⟩ := bR_turn (x0 := x0) (x1 := x1) (x2 := x2) (x3 := x3) (x6 := x6) (Fo := Fo) (x9 := x9) (x10 := x10) r1 r2 r3 hn r4 h9 (hp _ r3) (by omega)
    have hfl : ∀ (C : List (Nat × List Nat)) (Fo : Fol), (C.foldl stepR Fo).length ≤ Fo.length + C.length := by
      intro C
      induction C with
      | nil => intro Fo; exact Nat.le_refl _
      | cons c C ih =>
        intro Fo
        rw [List.foldl_cons, List.length_cons]
        have := ih (stepR Fo c)
        have := stepR_len Fo c
        omega
    have hcl : (candR near f r).length ≤ 40 := by
      unfold candR
      rw [List.length_map]
      exact Nat.le_trans (List.length_filter_le _ _) hsr
    have := hfl (candR near f r) Fo
    obtain ⟨z8, z9, z10, o9', ih⟩ := level_loop hn hs hp todo ((candR near f r).foldl stepR Fo) (some (rowN r)) y9 y10 o9 (fun q hq => hr q (List.mem_cons_of_mem _ hq)) (by omega)
    refine ⟨z8, z9, z10, o9', ?_⟩
    rw [List.map_cons, forRun_nx (σ1 := s11 x0 x1 x2 x3 (some (.tup (f.map encO))) (some (.lst (near.map encA))) x6 (some (fd' Fo)) (some (rowN r)) x9 x10) (by simp [s11]) t, ih, List.flatMap_cons, List.foldl_append]
end
end A2
end S_K51e
section S_K51f
set_option Elab.async false
set_option linter.all false
set_option maxRecDepth 100000
set_option maxHeartbeats 1000000
open PySem PySem.Spec L2
open PyProof.Rows hiding St
namespace A2
def srtK (Fo : Fol) : List Int := ((Fo.map (·.1)).map fun (v : Nat) => (v : Int)).mergeSort fun a b => decide (a ≤ b)
def nextR (Fo : Fol) : List (List Nat) := (srtK Fo).map fun i => (lookA Fo i.toNat).getD []
theorem intKeys_F : ∀ Fo : Fol, intKeys (Fo.map encFo) = some ((Fo.map (·.1)).map fun (v : Nat) => (v : Int))
  | [] => rfl
  | p :: Fo => by
    show (intKeys (Fo.map encFo)).map ((p.1 : Int) :: ·) = _
    rw [intKeys_F Fo]
    rfl
theorem sortK_F {Fo : Fol} (h : Fo.length < 64) : gSortK [fd' Fo] = some (.lst ((srtK Fo).map .int)) := by
  unfold gSortK fd'
  dsimp only
  rw [intKeys_F]
  dsimp only
  rw [if_pos (by rw [List.length_map, List.length_map]; exact h)]
  rfl
def fF (Fo : Fol) (d : D) : D := match d with
  | .int i => rowN ((lookA Fo i.toNat).getD [])
  | _ => .non
theorem okS_own {x0 x1 x2 x3 x4 x5 x6 x7 x8 x9 x10 : Option D} (h : okS x9) : ownOk (s11 x0 x1 x2 x3 x4 x5 x6 x7 x8 x9 x10) [9] = true := by
  cases x9 with
  | none => rfl
  | some d =>
    have := h d rfl
    simp [ownOk, s11, this]
theorem next_run {x0 x1 x2 x3 x4 x5 x6 x8 x9 x10 : Option D} {Fo : Fol} (h9 : okS x9) (hl : Fo.length < 64) (hnd : (Fo.map (·.1)).Nodup) :
    cNext.run (s11 x0 x1 x2 x3 x4 x5 x6 (some (fd' Fo)) x8 x9 x10) = .ok (.tmp (.lst ((nextR Fo).map rowN))) (s11 x0 x1 x2 x3 x4 x5 x6 (some (fd' Fo)) x8 x9 x10) := by
  have hk : (srtK Fo).length = Fo.length := by unfold srtK; rw [List.length_mergeSort, List.length_map, List.length_map]
  have hmem : ∀ i ∈ srtK Fo, ∃ c ∈ Fo, i = (c.1 : Int) := fun i hi => by
    obtain ⟨v, hv, rfl⟩ := List.mem_map.mp ((List.mergeSort_perm ..).mem_iff.mp hi)
    obtain ⟨c, hc, rfl⟩ := List.mem_map.mp hv
    exact ⟨c, hc, rfl⟩
  have hc : compRun (pV 9) cYes (cIx (cVar 7) (cVar 9)) [9] ((srtK Fo).map D.int) [] (s11 x0 x1 x2 x3 x4 x5 x6 (some (fd' Fo)) x8 none x10) = .ok ([] ++ ((srtK Fo).map D.int).map (fF Fo)) (s11 x0 x1 x2 x3 x4 x5 x6 (some (fd' Fo)) x8 none x10) :=
    compRun_pure fun d hd => by
      obtain ⟨i, hi, rfl⟩ := List.mem_map.mp hd
      obtain ⟨c, hc, rfl⟩ := hmem i hi
      refine ⟨s11 x0 x1 x2 x3 x4 x5 x6 (some (fd' Fo)) x8 (some (.int c.1)) x10, s11 x0 x1 x2 x3 x4 x5 x6 (some (fd' Fo)) x8 (some (.int c.1)) x10, by simp [s11], ?_, rfl⟩
      have hk : lookD (Fo.map encFo) (.inl (c.1 : Int)) = some (rowN c.2) := by rw [lookD_F, lookA_mem hnd (show (c.1, c.2) ∈ Fo from hc)]; rfl
      have hi : ixOf (.plc 7 []) (.tmp (.int (c.1 : Int))) (s11 x0 x1 x2 x3 x4 x5 x6 (some (fd' Fo)) x8 (some (.int c.1)) x10) = .ok (.tmp (rowN c.2)) (s11 x0 x1 x2 x3 x4 x5 x6 (some (fd' Fo)) x8 (some (.int c.1)) x10) := by
        unfold ixOf
        simp only [get_plc, get_tmp, s11, List.getElem?_cons_succ, List.getElem?_cons_zero, getP_nil, fd', keyOf, hk]
        rw [itemOf_eq, if_pos (imm_rowN _)]
      have hf : fF Fo (.int c.1) = rowN c.2 := by
        show rowN ((lookA Fo (c.1 : Int).toNat).getD []) = _
        rw [Int.toNat_natCast, lookA_mem hnd (show (c.1, c.2) ∈ Fo from hc)]
        rfl
      rw [hf]
      have iF : (fd' Fo).imm = false := rfl
      simp only [s11] at hi
      simp [s11, hi, iF]
  have e1 : ((srtK Fo).map D.int).map (fF Fo) = (nextR Fo).map rowN := by
    unfold nextR
    rw [List.map_map, List.map_map]
    rfl
  rw [List.nil_append, e1] at hc
  have hs : (cFn gSortK (aCons (cVar 7) aNil)).run (s11 x0 x1 x2 x3 x4 x5 x6 (some (fd' Fo)) x8 x9 x10) = .ok (.tmp (.lst ((srtK Fo).map .int))) (s11 x0 x1 x2 x3 x4 x5 x6 (some (fd' Fo)) x8 x9 x10) := by
    have iF : (fd' Fo).imm = false := rfl
    simp [s11, iF, sortK_F hl]
  unfold cNext
  rw [run_comp, hs, bind_ok, compOf_lst rfl (imms_ints _) rfl]
  rw [compEnd_eq (by rw [List.length_map]; omega) (okS_own h9) (by rfl) (by rfl) hc]
  rfl
theorem gIn_F {Fo : Fol} {q : Nat} : gIn (.int (q : Int)) (fd' Fo) = some (.bl (lookA Fo q).isSome) := by
  unfold gIn inD fd'
  simp only [keyOf, Option.map_some, lookD_F]
  cases lookA Fo q <;> rfl
section
variable {ws : List Way} {f : List (Option Int)} {one n other : Nat} {a : Int} {near : List Adj} {x0 x1 x2 : Option D}
theorem route_while (hm : ∀ u, u < n → ∀ v m, (v, m) ∈ near.getD u [] ↔ Edge ws u v m) (hE : ∀ u v m, Edge ws u v m → v < n ∧ 1 ≤ m) (h0 : one < n) (hn : n ≤ 5) (I : DInv n other (Edge ws) f []) (hnl : near.length = n) (hs : ∀ u, (near.getD u []).length ≤ 40) (h0a : ∀ k r u b, TW ws f one a k r u b → 0 ≤ b) :
    ∀ (t k : Nat) (lv : List (List Nat)) (x7 x8 x9 x10 : Option D), okS x9 → LvOk ws f one a k lv → (∀ j, j ≤ k → ∀ r b, ¬ TW ws f one a j r other b) → a < k + t →
    ∃ K R b σ, whileRun tW bW (s11 x0 x1 x2 (some (.int (other : Int))) (some (.tup (f.map encO))) (some (.lst (near.map encA))) (some (.lst (lv.map rowN))) x7 x8 x9 x10) = .rt (rowN R) σ ∧
      TW ws f one a K R other b ∧ (∀ j, j < K → ∀ r b, ¬ TW ws f one a j r other b) ∧ ∀ r b, TW ws f one a K r other b → leN R r
  | t, k, lv, x7, x8, x9, x10, h9, O, hno, hk => by
    have hlt : ∀ {k r u b}, TW ws f one a k r u b → u < n := fun {k r u b} t => by
      cases t with
      | nil _ => exact h0
      | snoc _ h _ _ => exact (hE _ _ _ h).1
    obtain ⟨r0, lv0, elv⟩ := List.exists_cons_of_ne_nil O.ne
    obtain ⟨b0, t0, _⟩ := O.lst r0 (by rw [elv]; exact List.mem_cons_self ..)
    have hr0 : r0 ≠ [] := fun z => by have := t0.len; rw [z] at this; simp at this
    have hne : endR r0 ≠ other := fun z => hno k (Nat.le_refl _) r0 b0 (z ▸ t0)
    have hkb := t0.step hE
    have hb0 := h0a _ _ _ _ t0
    have hrows : ∀ r ∈ lv, r ≠ [] ∧ r.length ≤ 1000 ∧ endR r < f.length ∧ ∃ b, at' f (endR r) = some b := fun r hr => by
      obtain ⟨b, t, _⟩ := O.lst r hr
      have hl := t.len
      have hnd : r.Nodup ∧ ∀ v ∈ r, v < n := by
        have := rows_nodup (ws := ws) (fun u v m e => (hE u v m e).1) h0 k _ (t.found hE)
        exact this
      have := nodup_le hnd.1 hnd.2
      exact ⟨fun z => by rw [z] at hl; simp at hl, by omega, by rw [I.len]; exact hlt t, b, t.at_⟩
    have hlen : lv.length ≤ n := by
      have := nodup_le O.nod fun v hv => by
        obtain ⟨r, hr, rfl⟩ := List.mem_map.mp hv
        obtain ⟨b, t, _⟩ := O.lst r hr
        exact hlt t
      rw [List.length_map] at this
      exact this
    have hpn : ∀ u, u < f.length → ∀ p ∈ near.getD u [], p.1 < f.length := fun u hu p hp => by
      rw [I.len] at hu ⊢
      exact (hE _ _ _ ((hm u hu p.1 p.2).mp hp)).1
    rw [whileRun_step]
    have ht : tW.run (s11 x0 x1 x2 (some (.int (other : Int))) (some (.tup (f.map encO))) (some (.lst (near.map encA))) (some (.lst (lv.map rowN))) x7 x8 x9 x10) = .ok true (s11 x0 x1 x2 (some (.int (other : Int))) (some (.tup (f.map encO))) (some (.lst (near.map encA))) (some (.lst (lv.map rowN))) x7 x8 x9 x10) := by
      rw [elv]
      have i1 : ixOf (.plc 6 []) (.tmp (.int 0)) (s11 x0 x1 x2 (some (.int (other : Int))) (some (.tup (f.map encO))) (some (.lst (near.map encA))) (some (.lst ((r0 :: lv0).map rowN))) x7 x8 x9 x10) = .ok (.tmp (rowN r0)) (s11 x0 x1 x2 (some (.int (other : Int))) (some (.tup (f.map encO))) (some (.lst (near.map encA))) (some (.lst ((r0 :: lv0).map rowN))) x7 x8 x9 x10) := by
        unfold ixOf
        simp only [get_plc, get_tmp, s11, List.getElem?_cons_succ, List.getElem?_cons_zero, getP_nil]
        rw [ixN_nat (by omega) (by rw [List.map_cons, List.length_cons]; omega)]
        show itemOf (.plc 6 []) (.ix 0) (rowN r0) _ = _
        rw [itemOf_eq, if_pos (imm_rowN _)]
      simp only [s11, List.map_cons] at i1
      have hne' : ¬ ((endR r0 : Int) = (other : Int)) := by omega
      simp [tW, s11, i1, ix_endR hr0, negOf, hne']
    rw [ht, bindS_ok, if_pos rfl]
    obtain ⟨J, s1, s2⟩ := next_spec hm (fun u v m e => (hE u v m e).1) h0 O
    obtain ⟨y8, y9, y10, o9, hL⟩ := level_loop (x0 := x0) (x1 := x1) (x2 := x2) (x3 := some (.int (other : Int))) (x6 := some (.lst (lv.map rowN))) (by rw [hnl, I.len]) hs hpn lv [] x8 x9 x10 h9 hrows (by simp only [List.length_nil]; omega)
    generalize hFo : (lv.flatMap (candR near f)).foldl stepR [] = Fo at J s1 s2 hL
    have hFl : Fo.length ≤ n := by
      have := nodup_le J.nod fun v hv => by
        obtain ⟨c, hc, rfl⟩ := List.mem_map.mp hv
        obtain ⟨e, t, _⟩ := s1 c hc
        exact hlt t
      rw [List.length_map] at this
      exact this
    have h7 : (sSet 7 cDnew).run (s11 x0 x1 x2 (some (.int (other : Int))) (some (.tup (f.map encO))) (some (.lst (near.map encA))) (some (.lst (lv.map rowN))) x7 x8 x9 x10) = .nx (s11 x0 x1 x2 (some (.int (other : Int))) (some (.tup (f.map encO))) (some (.lst (near.map encA))) (some (.lst (lv.map rowN))) (some (fd' [])) x8 x9 x10) := by
      simp [s11, cDnew]
      rfl
    have h8 : (sFor (pV 8) (cVar 6) bR).run (s11 x0 x1 x2 (some (.int (other : Int))) (some (.tup (f.map encO))) (some (.lst (near.map encA))) (some (.lst (lv.map rowN))) (some (fd' [])) x8 x9 x10) = .nx (s11 x0 x1 x2 (some (.int (other : Int))) (some (.tup (f.map encO))) (some (.lst (near.map encA))) (some (.lst (lv.map rowN))) (some (fd' Fo)) y8 y9 y10) := by
      refine forS_run (x := .plc 6 []) (var_plc rfl rfl) ?_
      rw [for_lstP (ds := lv.map rowN) rfl (imms_of fun d hd => by obtain ⟨r, _, rfl⟩ := List.mem_map.mp hd; exact imm_rowN r) (by rw [show (pV 8).rw ++ bR.rw = [8, 9, 10, 7] from rfl]; decide)]
      exact hL
    have iF : (fd' Fo).imm = false := rfl
    cases hlo : lookA Fo other with
    | some R =>
      obtain ⟨e, t, l⟩ := s1 _ (lookA_some hlo)
      have hb : bW.run (s11 x0 x1 x2 (some (.int (other : Int))) (some (.tup (f.map encO))) (some (.lst (near.map encA))) (some (.lst (lv.map rowN))) x7 x8 x9 x10) = .rt (rowN R) (s11 x0 x1 x2 (some (.int (other : Int))) (some (.tup (f.map encO))) (some (.lst (near.map encA))) (some (.lst (lv.map rowN))) (some (fd' Fo)) y8 y9 y10) := by
        refine seq_nx h7 (seq_nx h8 (seq_rt ?_))
        have g := gIn_F (Fo := Fo) (q := other)
        rw [hlo] at g
        have hi : ixOf (.plc 7 []) (.tmp (.int (other : Int))) (s11 x0 x1 x2 (some (.int (other : Int))) (some (.tup (f.map encO))) (some (.lst (near.map encA))) (some (.lst (lv.map rowN))) (some (fd' Fo)) y8 y9 y10) = .ok (.tmp (rowN R)) (s11 x0 x1 x2 (some (.int (other : Int))) (some (.tup (f.map encO))) (some (.lst (near.map encA))) (some (.lst (lv.map rowN))) (some (fd' Fo)) y8 y9 y10) := by
          have hk : lookD (Fo.map encFo) (.inl (other : Int)) = some (rowN R) := by rw [lookD_F, hlo]; rfl
          unfold ixOf
          simp only [get_plc, get_tmp, s11, List.getElem?_cons_succ, List.getElem?_cons_zero, getP_nil, fd', keyOf, hk]
          rw [itemOf_eq, if_pos (imm_rowN _)]
        simp only [s11] at hi
        simp [s11, iF, g, hi]
      refine ⟨k + 1, R, e, _, by rw [hb], t, fun j hj => hno j (by omega), fun r b t' => l r b t'⟩
    | none =>
      match t with
      | 0 => omega
      | t + 1 =>
        have hno' : ∀ j, j ≤ k + 1 → ∀ r b, ¬ TW ws f one a j r other b := fun j hj r b t' => by
          by_cases h : j ≤ k
          · exact hno j h r b t'
          · have : j = k + 1 := by omega
            subst this
            exact lookA_none hlo (s2 _ _ _ t')
        have hks : (srtK Fo).Perm ((Fo.map (·.1)).map fun (v : Nat) => (v : Int)) := List.mergeSort_perm ..
        have O' := next_ok (ks := srtK Fo) hm (fun u v m e => (hE u v m e).1) h0 O I (hno k (Nat.le_refl _)) (by rw [hFo]; exact hks)
        rw [hFo] at O'
        obtain ⟨K, R, b, σ, ih, w1, w2, w3⟩ := route_while hm hE h0 hn I hnl hs h0a t (k + 1) (nextR Fo) (some (fd' Fo)) y8 y9 y10 o9 O' hno' (by push_cast at hk ⊢; omega)
        refine ⟨K, R, b, σ, ?_, w1, w2, w3⟩
        have hb : bW.run (s11 x0 x1 x2 (some (.int (other : Int))) (some (.tup (f.map encO))) (some (.lst (near.map encA))) (some (.lst (lv.map rowN))) x7 x8 x9 x10) = .nx (s11 x0 x1 x2 (some (.int (other : Int))) (some (.tup (f.map encO))) (some (.lst (near.map encA))) (some (.lst ((nextR Fo).map rowN))) (some (fd' Fo)) y8 y9 y10) := by
          refine seq_nx h7 (seq_nx h8 (seq_nx (σ1 := s11 x0 x1 x2 (some (.int (other : Int))) (some (.tup (f.map encO))) (some (.lst (near.map encA))) (some (.lst (lv.map rowN))) (some (fd' Fo)) y8 y9 y10) ?_ ?_))
          · have g := gIn_F (Fo := Fo) (q := other)
            rw [hlo] at g
            simp [s11, iF, g]
          · exact (set_run (next_run o9 (by omega) J.nod) (by simp [s11])).trans rfl
        rw [hb]
        exact ih
end
end A2
end S_K51f
section S_K51g
set_option Elab.async false
set_option linter.all false
set_option maxRecDepth 100000
set_option maxHeartbeats 1000000
open PySem PySem.Spec L2
open PyProof.Rows hiding St
namespace A2
theorem lookup_err {c : Str} : (wayErr c).cls = "WayError" := rfl
/-! ## what route tells -/
theorem ix_hd {σ : DSt} {s : Nat} {r : List Nat} {lv : List (List Nat)} (hs : σ[s]? = some (some (.lst ((r :: lv).map rowN)))) : ixOf (.plc s []) (.tmp (.int 0)) σ = .ok (.tmp (rowN r)) σ := by
  unfold ixOf
  simp only [get_plc, get_tmp, hs, getP_nil]
  rw [ixN_nat (by omega) (by rw [List.map_cons, List.length_cons]; omega)]
  show itemOf (.plc s []) (.ix 0) (rowN r) _ = _
  rw [itemOf_eq, if_pos (imm_rowN _)]
section
variable {n one other : Nat} {ps rest : List D} {ws : List Way}
theorem edge_ok (W : WaysOk n ws) : ∀ u v m, Edge ws u v m → v < n ∧ 1 ≤ m := fun u v m ⟨w, hw, h⟩ => by
  obtain ⟨a, b, c, d⟩ := W.each w hw
  rcases h with rfl | rfl
  · exact ⟨b, c⟩
  · exact ⟨Nat.lt_trans a b, c⟩
theorem rw_cwN : F_check_ways.rw = [] := rfl
theorem rw_cpN : F_check_place.rw = [] := rfl
theorem rw_adN : F_all_distances.rw = [] := rfl
theorem route_eq (F : FilmOk n ps rest) (hn : n ≤ 5) (W : WaysOk n ws) (h1 : one < n) (h2 : other < n) : ∃ f, DInv n other (Edge ws) f [] ∧
    (at' f one = none → F_route.run [filmD ps rest, .tup (ws.map encW), .int (one : Int), .int (other : Int)] = .err (wayErr "apart")) ∧
    ∀ a, at' f one = some a → ∃ K R outs, F_route.run [filmD ps rest, .tup (ws.map encW), .int (one : Int), .int (other : Int)] = .ok (rowN R) outs ∧ TW ws f one a K R other 0 ∧ (∀ j, j < K → ∀ r b, ¬ TW ws f one a j r other b) ∧ ∀ r b, TW ws f one a K r other b → leN R r := by
  have hi := film_imm F
  obtain ⟨o1, r1⟩ := check_ways_eq F W
  have r2 := check_place_eq (p := one) F
  have r3 := check_place_eq (p := other) F
  rw [if_pos ⟨by omega, by omega⟩] at r2 r3
  obtain ⟨f, o4, r4, I⟩ := all_distances_eq F (by omega) W h2
  obtain ⟨near, o5, r5, nl, ns, nm⟩ := neighbors_eq F (by omega) (fun w h => ⟨(W.each w h).1, (W.each w h).2.1⟩) W.few
  have c1 := fun σ => callN2 (σ := σ) rfl rw_cwN r1
  have c2 := fun σ => callN2 (σ := σ) rfl rw_cpN r2
  have c3 := fun σ => callN2 (σ := σ) rfl rw_cpN r3
  have c4 := fun σ => callN3 (σ := σ) rfl rw_adN r4
  have c5 := fun σ => call_nb (σ := σ) r5
  have ie := imms_encO f
  have hl : one < f.length := by rw [I.len]; exact h1
  have hE := edge_ok W
  have f0 : at' f other = some 0 := by
    rcases I.so with h | h
    · exact h
    · cases h
  have e0 : B_route.run (s11 (some (filmD ps rest)) (some (.tup (ws.map encW))) (some (.int (one : Int))) (some (.int (other : Int))) none none none none none none none) =
      (sSeq (sIf (cTst (cBin gIs (cIx (cVar 4) (cVar 2)) (cK .non))) (sRaise "WayError" (cK (.str "apart"))) sNil)
      (sSeq (sSet 5 (cCall F_neighbors [] (aCons (cVar 0) (aCons (cVar 1) aNil))))
      (sSeq (sSet 6 (cLst (aCons (cTup (aCons (cVar 2) aNil)) aNil)))
      (sSeq (sWhile tW bW)
      (sRet (cIx (cVar 6) (cK (.int 0)))))))).run (s11 (some (filmD ps rest)) (some (.tup (ws.map encW))) (some (.int (one : Int))) (some (.int (other : Int))) (some (.tup (f.map encO))) none none none none none none) := by
    rw [hB_route]
    refine seq_nx (σ1 := s11 (some (filmD ps rest)) (some (.tup (ws.map encW))) (some (.int (one : Int))) (some (.int (other : Int))) none none none none none none none) (by simp [s11, hi, c1]) ?_
    refine seq_nx (σ1 := s11 (some (filmD ps rest)) (some (.tup (ws.map encW))) (some (.int (one : Int))) (some (.int (other : Int))) none none none none none none none) (by simp [s11, hi, c2]) ?_
    refine seq_nx (σ1 := s11 (some (filmD ps rest)) (some (.tup (ws.map encW))) (some (.int (one : Int))) (some (.int (other : Int))) none none none none none none none) (by simp [s11, hi, c3]) ?_
    exact seq_nx (σ1 := s11 (some (filmD ps rest)) (some (.tup (ws.map encW))) (some (.int (one : Int))) (some (.int (other : Int))) (some (.tup (f.map encO))) none none none none none none) (by simp [s11, hi, c4]) rfl
  refine ⟨f, I, fun hn0 => ?_, fun a ha => ?_⟩
  · refine fn_er (n := 4) (m := 11) (b := B_route) (ds := [filmD ps rest, .tup (ws.map encW), .int (one : Int), .int (other : Int)]) (σ := s11 (some (filmD ps rest)) (some (.tup (ws.map encW))) (some (.int (one : Int))) (some (.int (other : Int))) (some (.tup (f.map encO))) none none none none none none) ?_
    refine e0.trans (seq_er ?_)
    have x1 := fun σ => ix_enc (σ := σ) hl
    rw [hn0] at x1
    simp [s11, ie, x1, encO, raiseOf, wayErr]
  · have hap : (sIf (cTst (cBin gIs (cIx (cVar 4) (cVar 2)) (cK .non))) (sRaise "WayError" (cK (.str "apart"))) sNil).run (s11 (some (filmD ps rest)) (some (.tup (ws.map encW))) (some (.int (one : Int))) (some (.int (other : Int))) (some (.tup (f.map encO))) none none none none none none) = .nx (s11 (some (filmD ps rest)) (some (.tup (ws.map encW))) (some (.int (one : Int))) (some (.int (other : Int))) (some (.tup (f.map encO))) none none none none none none) := by
      have x1 := fun σ => ix_enc (σ := σ) hl
      rw [ha] at x1
      simp [s11, ie, x1, encO]
    have hnb : (sSet 5 (cCall F_neighbors [] (aCons (cVar 0) (aCons (cVar 1) aNil)))).run (s11 (some (filmD ps rest)) (some (.tup (ws.map encW))) (some (.int (one : Int))) (some (.int (other : Int))) (some (.tup (f.map encO))) none none none none none none) = .nx (s11 (some (filmD ps rest)) (some (.tup (ws.map encW))) (some (.int (one : Int))) (some (.int (other : Int))) (some (.tup (f.map encO))) (some (.lst (near.map encA))) none none none none none) := by
      simp [s11, hi, c5]
    have hlv : (sSet 6 (cLst (aCons (cTup (aCons (cVar 2) aNil)) aNil))).run (s11 (some (filmD ps rest)) (some (.tup (ws.map encW))) (some (.int (one : Int))) (some (.int (other : Int))) (some (.tup (f.map encO))) (some (.lst (near.map encA))) none none none none none) = .nx (s11 (some (filmD ps rest)) (some (.tup (ws.map encW))) (some (.int (one : Int))) (some (.int (other : Int))) (some (.tup (f.map encO))) (some (.lst (near.map encA))) (some (.lst ([[one]].map rowN))) none none none none) := by
      simp [s11]
      rfl
    have key : ∀ {R : List Nat} {σ : DSt}, (sSeq (sWhile tW bW) (sRet (cIx (cVar 6) (cK (.int 0))))).run (s11 (some (filmD ps rest)) (some (.tup (ws.map encW))) (some (.int (one : Int))) (some (.int (other : Int))) (some (.tup (f.map encO))) (some (.lst (near.map encA))) (some (.lst ([[one]].map rowN))) none none none none) = .rt (rowN R) σ →
        ∃ outs, F_route.run [filmD ps rest, .tup (ws.map encW), .int (one : Int), .int (other : Int)] = .ok (rowN R) outs := fun {R σ} h =>
      ⟨_, fn_rt (n := 4) (m := 11) (b := B_route) (ds := [filmD ps rest, .tup (ws.map encW), .int (one : Int), .int (other : Int)]) (σ := σ) (e0.trans (seq_nx hap (seq_nx hnb (seq_nx hlv h))))⟩
    by_cases he : one = other
    · subst he
      have ht : tW.run (s11 (some (filmD ps rest)) (some (.tup (ws.map encW))) (some (.int (one : Int))) (some (.int (one : Int))) (some (.tup (f.map encO))) (some (.lst (near.map encA))) (some (.lst ([[one]].map rowN))) none none none none) = .ok false (s11 (some (filmD ps rest)) (some (.tup (ws.map encW))) (some (.int (one : Int))) (some (.int (one : Int))) (some (.tup (f.map encO))) (some (.lst (near.map encA))) (some (.lst ([[one]].map rowN))) none none none none) := by
        have i1 := ix_hd (σ := s11 (some (filmD ps rest)) (some (.tup (ws.map encW))) (some (.int (one : Int))) (some (.int (one : Int))) (some (.tup (f.map encO))) (some (.lst (near.map encA))) (some (.lst ([[one]].map rowN))) none none none none) (s := 6) (r := [one]) (lv := []) rfl
        have i2 := fun σ => ix_endR (σ := σ) (r := [one]) (by simp)
        have e1 : endR [one] = one := rfl
        rw [e1] at i2
        simp only [s11, List.map_cons, List.map_nil] at i1
        simp [tW, s11, i1, i2, negOf]
      have hw : (sSeq (sWhile tW bW) (sRet (cIx (cVar 6) (cK (.int 0))))).run (s11 (some (filmD ps rest)) (some (.tup (ws.map encW))) (some (.int (one : Int))) (some (.int (one : Int))) (some (.tup (f.map encO))) (some (.lst (near.map encA))) (some (.lst ([[one]].map rowN))) none none none none) = .rt (rowN [one]) (s11 (some (filmD ps rest)) (some (.tup (ws.map encW))) (some (.int (one : Int))) (some (.int (one : Int))) (some (.tup (f.map encO))) (some (.lst (near.map encA))) (some (.lst ([[one]].map rowN))) none none none none) := by
        refine seq_nx (σ1 := s11 (some (filmD ps rest)) (some (.tup (ws.map encW))) (some (.int (one : Int))) (some (.int (one : Int))) (some (.tup (f.map encO))) (some (.lst (near.map encA))) (some (.lst ([[one]].map rowN))) none none none none) ?_ ?_
        · rw [run_while, whileRun_step, ht, bindS_ok, if_neg Bool.false_ne_true]
        · have i1 := ix_hd (σ := s11 (some (filmD ps rest)) (some (.tup (ws.map encW))) (some (.int (one : Int))) (some (.int (one : Int))) (some (.tup (f.map encO))) (some (.lst (near.map encA))) (some (.lst ([[one]].map rowN))) none none none none) (s := 6) (r := [one]) (lv := []) rfl
          simp only [s11, List.map_cons, List.map_nil] at i1
          simp [s11, i1]
      obtain ⟨outs, hr⟩ := key hw
      rw [ha] at f0
      cases f0
      exact ⟨0, [one], outs, hr, .nil ha, fun j hj => by omega, fun r b t => by cases t; exact .inl rfl⟩
    · obtain ⟨K, R, b, σ, hw, w1, w2, w3⟩ := route_while (x0 := some (filmD ps rest)) (x1 := some (.tup (ws.map encW))) (x2 := some (.int (one : Int))) nm hE h1 hn I nl ns (fun k r u b t => I.n0 _ _ t.at_) (a.toNat + 1) 0 [[one]] none none none none (fun d e => nomatch e) (lv_one ha) (fun j hj r b t => by
        have : j = 0 := by omega
        subst this
        cases t
        exact he rfl) (by omega)
      obtain ⟨outs, hr⟩ := key (R := R) (σ := σ) (seq_rt (by rw [run_while]; exact hw))
      have := w1.at_
      rw [f0] at this
      cases this
      exact ⟨K, R, outs, hr, w1, w2, w3⟩
/-- the row that route tells is the least of all that are found -/
theorem least_row {f : List (Option Int)} {a : Int} {K : Nat} {R : List Nat} (I : DInv n other (Edge ws) f []) (W : WaysOk n ws) (h1 : one < n) (ha : at' f one = some a) (t : TW ws f one a K R other 0) (hK : ∀ j, j < K → ∀ r b, ¬ TW ws f one a j r other b) (hR : ∀ r b, TW ws f one a K r other b → leN R r) :
    gMinL [.lst ((gather ws other n [([one], 0)]).map encF)] = some (encF (R, a)) ∧ gather ws other n [([one], 0)] ≠ [] := by
  have hE := edge_ok W
  have hf := t.found hE
  rw [Int.sub_zero] at hf
  have hnd := rows_nodup (fun u v m e => (hE u v m e).1) h1 K _ hf
  have hle := nodup_le hnd.1 hnd.2
  have hlen := t.len
  have hin : (R, a) ∈ gather ws other n [([one], 0)] := mem_gather.mpr ⟨K, by dsimp only at hle; omega, hf, t.end_⟩
  refine ⟨best_encF hin fun y hy => ?_, fun z => by rw [z] at hin; cases hin⟩
  obtain ⟨k, hk, hy, he⟩ := mem_gather.mp hy
  obtain ⟨b, e1, e2, e3⟩ := rows_ge I ha k y hy
  rw [he, t.at_] at e1
  cases e1
  rw [he] at e3
  unfold flatF
  by_cases hm : a = y.2 + 0
  · obtain ⟨k', t'⟩ := e3 hm
    have hl' := t'.len
    have hkk : K ≤ k' := by
      cases Nat.lt_or_ge k' K with
      | inl h => exact absurd t' (hK k' h _ _)
      | inr h => exact h
    by_cases hkk' : K = k'
    · subst hkk'
      rcases hR _ _ t' with h | h
      · left
        rw [Int.add_zero] at hm
        exact Prod.ext h.symm hm.symm
      · right
        have h' : ltI (R.map fun (v : Nat) => (v : Int)) (y.1.map fun (v : Nat) => (v : Int)) = true := h
        simp only [ltI, Bool.or_eq_true, Bool.and_eq_true, decide_eq_true_eq]
        exact .inr ⟨by omega, .inr ⟨by omega, h'⟩⟩
    · right
      simp only [ltI, Bool.or_eq_true, Bool.and_eq_true, decide_eq_true_eq]
      exact .inr ⟨by omega, .inl (by omega)⟩
  · right
    simp only [ltI, Bool.or_eq_true, Bool.and_eq_true, decide_eq_true_eq]
    exact .inl (by omega)
theorem no_row {f : List (Option Int)} (I : DInv n other (Edge ws) f []) (ha : at' f one = none) : gather ws other n [([one], 0)] = [] := by
  cases h : gather ws other n [([one], 0)] with
  | nil => rfl
  | cons y l =>
    have hy : y ∈ gather ws other n [([one], 0)] := by rw [h]; exact List.mem_cons_self ..
    obtain ⟨k, _, hy, he⟩ := mem_gather.mp hy
    have := rows_none I ha k y hy
    rw [he] at this
    rcases I.so with h | h
    · rw [h] at this; cases this
    · cases h
/-! ## wrong places -/
theorem dist_bad (F : FilmOk n ps rest) (W : WaysOk n ws) {p : Int} (hp : ¬ (0 ≤ p ∧ p < n)) : F_distances.run [filmD ps rest, .tup (ws.map encW), .int p] = .err (wayErr "unknown") := by
  have hi := film_imm F
  obtain ⟨o1, r1⟩ := check_ways_eq F W
  have r2 := check_place_eq (p := p) F
  rw [if_neg hp] at r2
  have c1 := fun σ => callN2 (σ := σ) rfl rw_cwN r1
  have c2 := fun σ => callE2 (σ := σ) rfl rw_cpN r2
  refine fn_er (n := 3) (m := 3) (b := B_distances) (ds := [filmD ps rest, .tup (ws.map encW), .int p]) (σ := [some (filmD ps rest), some (.tup (ws.map encW)), some (.int p)]) ?_
  show B_distances.run [some (filmD ps rest), some (.tup (ws.map encW)), some (.int p)] = _
  simp [B_distances, hi, c1, c2, wayErr]
theorem route_bad1 (F : FilmOk n ps rest) (W : WaysOk n ws) {p : Int} {q : D} (hq : q.imm = true) (hp : ¬ (0 ≤ p ∧ p < n)) : F_route.run [filmD ps rest, .tup (ws.map encW), .int p, q] = .err (wayErr "unknown") := by
  have hi := film_imm F
  obtain ⟨o1, r1⟩ := check_ways_eq F W
  have r2 := check_place_eq (p := p) F
  rw [if_neg hp] at r2
  have c1 := fun σ => callN2 (σ := σ) rfl rw_cwN r1
  have c2 := fun σ => callE2 (σ := σ) rfl rw_cpN r2
  refine fn_er (n := 4) (m := 11) (b := B_route) (ds := [filmD ps rest, .tup (ws.map encW), .int p, q]) (σ := s11 (some (filmD ps rest)) (some (.tup (ws.map encW))) (some (.int p)) (some q) none none none none none none none) ?_
  show B_route.run (s11 (some (filmD ps rest)) (some (.tup (ws.map encW))) (some (.int p)) (some q) none none none none none none none) = _
  rw [hB_route]
  refine seq_nx (σ1 := s11 (some (filmD ps rest)) (some (.tup (ws.map encW))) (some (.int p)) (some q) none none none none none none none) (by simp [s11, hi, c1]) (seq_er ?_)
  simp [s11, hi, c2, wayErr]
theorem route_bad2 (F : FilmOk n ps rest) (W : WaysOk n ws) {p : Int} {q : Nat} (hq : q < n) (hp : ¬ (0 ≤ p ∧ p < n)) : F_route.run [filmD ps rest, .tup (ws.map encW), .int (q : Int), .int p] = .err (wayErr "unknown") := by
  have hi := film_imm F
  obtain ⟨o1, r1⟩ := check_ways_eq F W
  have r2 := check_place_eq (p := p) F
  have r3 := check_place_eq (p := q) F
  rw [if_neg hp] at r2
  rw [if_pos ⟨by omega, by omega⟩] at r3
  have c1 := fun σ => callN2 (σ := σ) rfl rw_cwN r1
  have c2 := fun σ => callE2 (σ := σ) rfl rw_cpN r2
  have c3 := fun σ => callN2 (σ := σ) rfl rw_cpN r3
  refine fn_er (n := 4) (m := 11) (b := B_route) (ds := [filmD ps rest, .tup (ws.map encW), .int (q : Int), .int p]) (σ := s11 (some (filmD ps rest)) (some (.tup (ws.map encW))) (some (.int (q : Int))) (some (.int p)) none none none none none none none) ?_
  show B_route.run (s11 (some (filmD ps rest)) (some (.tup (ws.map encW))) (some (.int (q : Int))) (some (.int p)) none none none none none none none) = _
  rw [hB_route]
  refine seq_nx (σ1 := s11 (some (filmD ps rest)) (some (.tup (ws.map encW))) (some (.int (q : Int))) (some (.int p)) none none none none none none none) (by simp [s11, hi, c1]) ?_
  refine seq_nx (σ1 := s11 (some (filmD ps rest)) (some (.tup (ws.map encW))) (some (.int (q : Int))) (some (.int p)) none none none none none none none) (by simp [s11, hi, c3]) (seq_er ?_)
  simp [s11, hi, c2, wayErr]
theorem dist_ok (F : FilmOk n ps rest) (hn : n ≤ 5) (W : WaysOk n ws) {p : Nat} (hp : p < n) : ∃ outs, F_distances.run [filmD ps rest, .tup (ws.map encW), .int (p : Int)] = .ok (.tup ((iterF ws n (row0 n p)).map encO)) outs := by
  have hi := film_imm F
  obtain ⟨o1, r1⟩ := check_ways_eq F W
  have r2 := check_place_eq (p := p) F
  rw [if_pos ⟨by omega, by omega⟩] at r2
  obtain ⟨f, o4, r4, I⟩ := all_distances_eq F (by omega) W hp
  rw [bf_eq I hp (edge_ok W)]
  have c1 := fun σ => callN2 (σ := σ) rfl rw_cwN r1
  have c2 := fun σ => callN2 (σ := σ) rfl rw_cpN r2
  have c4 := fun σ => callN3 (σ := σ) rfl rw_adN r4
  refine ⟨_, fn_rt (n := 3) (m := 3) (b := B_distances) (ds := [filmD ps rest, .tup (ws.map encW), .int (p : Int)]) (σ := [some (filmD ps rest), some (.tup (ws.map encW)), some (.int (p : Int))]) ?_⟩
  show B_distances.run [some (filmD ps rest), some (.tup (ws.map encW)), some (.int (p : Int))] = _
  simp [B_distances, hi, c1, c2, c4]
end
end A2
end S_K51g
section S_K51h
set_option Elab.async false
set_option linter.all false
set_option maxRecDepth 100000
set_option maxHeartbeats 1000000
open PySem PySem.Spec L2
open PyProof.Rows hiding St
namespace A2
/-! ## check_ways, of any rows of three numbers -/
abbrev Z3 := Int × Int × Int
def rowZ (z : Z3) : List Int := [z.1, z.2.1, z.2.2]
def encZ (z : Z3) : D := .tup [.int z.1, .int z.2.1, .int z.2.2]
def befOk : Option Z3 → Z3 → Bool
  | none, _ => true
  | some b, z => ltI (rowZ b) (rowZ z)
def chk (n : Int) : Option Z3 → List Z3 → Option String
  | _, [] => none
  | b, z :: zs => if ¬ (0 ≤ z.1 ∧ z.1 < n) ∨ ¬ (0 ≤ z.2.1 ∧ z.2.1 < n) then some "place" else if ¬ z.1 < z.2.1 ∨ befOk b z = false then some "order" else if ¬ (1 ≤ z.2.2 ∧ z.2.2 ≤ 240) then some "minutes" else chk n (some z) zs
def encB : Option Z3 → D
  | none => .non
  | some z => encZ z
theorem imms_encZ (l : List Z3) : D.imms (l.map encZ) = true := imms_of fun d hd => by
  obtain ⟨z, _, rfl⟩ := List.mem_map.mp hd
  rfl
def stepC (n : Int) (b : Option Z3) (z : Z3) : Option String := if ¬ (0 ≤ z.1 ∧ z.1 < n) ∨ ¬ (0 ≤ z.2.1 ∧ z.2.1 < n) then some "place" else if ¬ z.1 < z.2.1 ∨ befOk b z = false then some "order" else if ¬ (1 ≤ z.2.2 ∧ z.2.2 ≤ 240) then some "minutes" else none
theorem cz_turn {film ways : D} {n : Int} {z : Z3} {b : Option Z3} {x5 x6 x7 : Option D} :
    Bcw.run [some film, some ways, some (.int n), some (encB b), some (encZ z), x5, x6, x7] = match stepC n b z with
      | none => .nx [some film, some ways, some (.int n), some (encZ z), some (encZ z), some (.int z.1), some (.int z.2.1), some (.int z.2.2)]
      | some c => .er (wayErr (Str.ofString c)) [some film, some ways, some (.int n), some (encB b), some (encZ z), some (.int z.1), some (.int z.2.1), some (.int z.2.2)] := by
  obtain ⟨z1, z2, z3⟩ := z
  have hb : (encB b).imm = true := by cases b <;> rfl
  unfold stepC
  dsimp only
  by_cases h1 : 0 ≤ z1
  · by_cases h2 : z1 < n
    · by_cases h3 : 0 ≤ z2
      · by_cases h4 : z2 < n
        · by_cases h5 : z1 < z2
          · cases b with
            | none =>
              by_cases h6 : 1 ≤ z3
              · by_cases h7 : z3 ≤ 240
                · simp [Bcw, encZ, encB, befOk, h1, h2, h3, h4, h5, h6, h7]
                · simp [Bcw, encZ, encB, befOk, h1, h2, h3, h4, h5, h6, h7, raiseOf, wayErr]
              · simp [Bcw, encZ, encB, befOk, h1, h2, h3, h4, h5, h6, raiseOf, wayErr]
            | some v =>
              have hl : gLtA (.tup [.int v.1, .int v.2.1, .int v.2.2]) (.tup [.int z1, .int z2, .int z3]) = some (.bl (ltI (rowZ v) (rowZ (z1, z2, z3)))) := gLtA_tupI (rowZ v) (rowZ (z1, z2, z3))
              cases hc : ltI (rowZ v) (rowZ (z1, z2, z3)) with
              | true =>
                rw [hc] at hl
                by_cases h6 : 1 ≤ z3
                · by_cases h7 : z3 ≤ 240
                  · simp [Bcw, encZ, encB, befOk, h1, h2, h3, h4, h5, h6, h7, hc, hl]
                  · simp [Bcw, encZ, encB, befOk, h1, h2, h3, h4, h5, h6, h7, hc, hl, raiseOf, wayErr]
                · simp [Bcw, encZ, encB, befOk, h1, h2, h3, h4, h5, h6, hc, hl, raiseOf, wayErr]
              | false =>
                rw [hc] at hl
                simp [Bcw, encZ, encB, befOk, h1, h2, h3, h4, h5, hc, hl, raiseOf, wayErr]
          · simp [Bcw, encZ, hb, h1, h2, h3, h4, h5, raiseOf, wayErr]
        · simp [Bcw, encZ, hb, h1, h2, h3, h4, raiseOf, wayErr]
      · simp [Bcw, encZ, hb, h1, h2, h3, raiseOf, wayErr]
    · simp [Bcw, encZ, hb, h1, h2, raiseOf, wayErr]
  · simp [Bcw, encZ, hb, h1, raiseOf, wayErr]
theorem chk_cons (n : Int) (b : Option Z3) (z : Z3) (zs : List Z3) : chk n b (z :: zs) = match stepC n b z with
    | none => chk n (some z) zs
    | some c => some c := by
  rw [chk]
  unfold stepC
  split
  · rfl
  · split
    · rfl
    · split
      · rfl
      · rfl
theorem cz_loop {film ways : D} {n : Int} : ∀ (zs : List Z3) (b : Option Z3) (x4 x5 x6 x7 : Option D),
    match chk n b zs with
    | none => ∃ σ, forRun (pV 4) Bcw (zs.map encZ) [some film, some ways, some (.int n), some (encB b), x4, x5, x6, x7] = .nx σ
    | some c => ∃ σ, forRun (pV 4) Bcw (zs.map encZ) [some film, some ways, some (.int n), some (encB b), x4, x5, x6, x7] = .er (wayErr (Str.ofString c)) σ
  | [], b, x4, x5, x6, x7 => ⟨_, rfl⟩
  | z :: zs, b, x4, x5, x6, x7 => by
    have t := cz_turn (film := film) (ways := ways) (n := n) (z := z) (b := b) (x5 := x5) (x6 := x6) (x7 := x7)
    have hp : (pV 4).run (encZ z) [some film, some ways, some (.int n), some (encB b), x4, x5, x6, x7] = some [some film, some ways, some (.int n), some (encB b), some (encZ z), x5, x6, x7] := by simp
    rw [chk_cons, List.map_cons, forRun_cons, hp]
    dsimp only
    rw [t]
    cases stepC n b z with
    | none => exact cz_loop zs (some z) (some (encZ z)) (some (.int z.1)) (some (.int z.2.1)) (some (.int z.2.2))
    | some c => exact ⟨_, rfl⟩
theorem check_any {n : Nat} {ps rest : List D} {zs : List Z3} (F : FilmOk n ps rest) :
    (40 < zs.length → F_check_ways.run [filmD ps rest, .tup (zs.map encZ)] = .err (wayErr "many")) ∧
    (zs.length ≤ 40 → match chk n none zs with
      | none => ∃ outs, F_check_ways.run [filmD ps rest, .tup (zs.map encZ)] = .ok .non outs
      | some c => F_check_ways.run [filmD ps rest, .tup (zs.map encZ)] = .err (wayErr (Str.ofString c))) := by
  have iz := imms_encZ zs
  have hi := film_imm F
  have hB : B_check_ways = (sSeq (sIf (cTst (cBin gGtA (cFn gLen (aCons (cVar 1) aNil)) (cK (.int 40)))) (sRaise "WayError" (cK (.str "many"))) sNil)
    (sSeq (sSet 2 (cFn gLen (aCons (cIx (cVar 0) (cK (.int 0))) aNil)))
    (sSeq (sSet 3 (cK .non)) (sFor (pV 4) (cVar 1) Bcw)))) := rfl
  constructor
  · intro h
    refine fn_er (n := 2) (m := 8) (b := B_check_ways) (ds := [filmD ps rest, .tup (zs.map encZ)]) (σ := [some (filmD ps rest), some (.tup (zs.map encZ)), none, none, none, none, none, none]) ?_
    show B_check_ways.run [some (filmD ps rest), some (.tup (zs.map encZ)), none, none, none, none, none, none] = _
    rw [hB]
    refine seq_er ?_
    have h' : (40 : Int) < (zs.length : Int) := by omega
    simp [iz, h', raiseOf, wayErr]
  · intro h
    have h' : ¬ (40 : Int) < (zs.length : Int) := by omega
    have key : B_check_ways.run [some (filmD ps rest), some (.tup (zs.map encZ)), none, none, none, none, none, none] = forRun (pV 4) Bcw (zs.map encZ) [some (filmD ps rest), some (.tup (zs.map encZ)), some (.int n), some (encB none), none, none, none, none] := by
      rw [hB]
      refine seq_nx (σ1 := [some (filmD ps rest), some (.tup (zs.map encZ)), none, none, none, none, none, none]) (by simp [iz, h']) ?_
      refine seq_nx (σ1 := [some (filmD ps rest), some (.tup (zs.map encZ)), some (.int n), none, none, none, none, none]) (by simp [filmD, F.i1, F.i2, F.len, ixOf]) ?_
      refine seq_nx (σ1 := [some (filmD ps rest), some (.tup (zs.map encZ)), some (.int n), some .non, none, none, none, none]) (by simp) ?_
      exact forS_run (x := .tmp (.tup (zs.map encZ))) (by simp [iz]) (for_tup iz)
    have l := cz_loop (film := filmD ps rest) (ways := .tup (zs.map encZ)) (n := n) zs none none none none none
    cases hc : chk n none zs with
    | none =>
      rw [hc] at l
      obtain ⟨σ, l⟩ := l
      have : (fnOf 2 8 B_check_ways).run [filmD ps rest, .tup (zs.map encZ)] = .ok .non (outsOf 2 B_check_ways.asg σ) := by
        show fnRun 2 8 B_check_ways [filmD ps rest, .tup (zs.map encZ)] = _
        unfold fnRun
        have e : B_check_ways.run ([filmD ps rest, .tup (zs.map encZ)].map some ++ List.replicate (8 - 2) none) = .nx σ := key.trans l
        rw [e]
      exact ⟨_, this⟩
    | some c =>
      rw [hc] at l
      obtain ⟨σ, l⟩ := l
      exact fn_er (n := 2) (m := 8) (b := B_check_ways) (ds := [filmD ps rest, .tup (zs.map encZ)]) (σ := σ) (key.trans l)
theorem dist_any {n : Nat} {ps rest : List D} {zs : List Z3} {c : Str} {q : D} (hq : q.imm = true) (F : FilmOk n ps rest) (h : F_check_ways.run [filmD ps rest, .tup (zs.map encZ)] = .err (wayErr c)) : F_distances.run [filmD ps rest, .tup (zs.map encZ), q] = .err (wayErr c) := by
  have hi := film_imm F
  have iz := imms_encZ zs
  have c1 := fun σ => callE2 (σ := σ) rfl rw_cwN h
  refine fn_er (n := 3) (m := 3) (b := B_distances) (ds := [filmD ps rest, .tup (zs.map encZ), q]) (σ := [some (filmD ps rest), some (.tup (zs.map encZ)), some q]) ?_
  show B_distances.run [some (filmD ps rest), some (.tup (zs.map encZ)), some q] = _
  simp [B_distances, hi, iz, c1]
/-! ## what is asked -/
theorem askE {nm : Str} {c : EC} {σ : DSt} {k : Str} (hn : nm = "WayError") (h : c.run σ = .err (wayErr k) σ) : (cAsk nm c).run σ = .ok (.tmp (.str k)) σ := by
  show askK nm (c.run σ) = _
  rw [h, hn]
  rfl
theorem askO {nm : Str} {c : EC} {σ : DSt} {d : D} (h : c.run σ = .ok (.tmp d) σ) : (cAsk nm c).run σ = .ok (.tmp d) σ := by
  show askK nm (c.run σ) = _
  rw [h]
  rfl
theorem gNe_tup {ds : List D} (h : okEq (.tup ds) = true) : gNe (.tup ds) (.tup ds) = some (.bl false) := by
  have e : eqD (.tup ds) (.tup ds) = some true := by
    unfold eqD
    dsimp only
    rw [if_pos ⟨h, h⟩, SeqAt.eqv_refl _ (okEq_lay h)]
  unfold gNe
  rw [e]
  rfl
theorem okEq_row (r : List Nat) : okEq (rowN r) = true := by
  have h1 := lay_ints (r.map fun (v : Nat) => (v : Int))
  have h4 := depth_intsA (r.map fun (v : Nat) => (v : Int))
  have e0 : toPy (rowN r) = .tuple (toPys ((r.map fun (v : Nat) => (v : Int)).map .int)) := rfl
  unfold okEq SeqAt.shaped
  rw [e0]
  have c : (PyData.tuple (toPys ((r.map fun (v : Nat) => (v : Int)).map .int))).canLay0 = true := by
    simpa [PyData.canLay0] using h1
  have dp : (PyData.tuple (toPys ((r.map fun (v : Nat) => (v : Int)).map .int))).depth ≤ 64 := by
    simp only [PyData.depth, h4]
    omega
  rw [c, decide_eq_true dp]
  rfl
theorem lay_encO : ∀ f : List (Option Int), PyData.canLayAll0 (toPys (f.map encO)) = true
  | [] => rfl
  | x :: f => by
    show ((toPy (encO x)).canLay0 && PyData.canLayAll0 (toPys (f.map encO))) = true
    rw [lay_encO f]
    cases x <;> rfl
theorem depth_encO : ∀ f : List (Option Int), PyData.depthAll (toPys (f.map encO)) = 0
  | [] => rfl
  | x :: f => by
    show max (toPy (encO x)).depth (PyData.depthAll (toPys (f.map encO))) = 0
    rw [depth_encO f]
    cases x <;> rfl
theorem okEq_found (f : List (Option Int)) : okEq (.tup (f.map encO)) = true := by
  have e0 : toPy (.tup (f.map encO)) = .tuple (toPys (f.map encO)) := rfl
  unfold okEq SeqAt.shaped
  rw [e0]
  have c : (PyData.tuple (toPys (f.map encO))).canLay0 = true := by
    simpa [PyData.canLay0] using lay_encO f
  have dp : (PyData.tuple (toPys (f.map encO))).depth ≤ 64 := by
    simp only [PyData.depth, depth_encO f]
    omega
  rw [c, decide_eq_true dp]
  rfl
theorem gNe_str (x y : Str) : gNe (.str x) (.str y) = some (.bl (!decide (x = y))) := rfl
theorem gNe_non : gNe .non .non = some (.bl false) := rfl
end A2
end S_K51h
section S_K51i
set_option Elab.async false
set_option linter.all false
set_option maxRecDepth 100000
set_option maxHeartbeats 1000000
open PySem PySem.Spec L2
open PyProof.Rows hiding St
namespace A2
/-! ## the law -/
theorem law_begin_lst {ns : List Int} (h : ns.length ≤ 63) : ∃ d outs, F__law_begin.run [.lst (ns.map .int)] = .ok d outs ∧ IsSt d := by
  obtain ⟨seed, y2, hl, a, b⟩ := begin_loop ns 1 none (some (.lst (ns.map .int))) (by omega) (by omega)
  have ii := imms_ints ns
  have h1 : (sSet 1 (cK (.int 1))).run [some (.lst (ns.map .int)), none, none] = .nx [some (.lst (ns.map .int)), some (.int 1), none] := by simp
  have h2 : (sFor (pV 2) (cVar 0) (sSet 1 (cBin gMod (cBin gAdd (cBin gAdd (cBin gMulA (cVar 1) (cK (.int 69621))) (cBin gMod (cFn gInt (aCons (cVar 2) aNil)) (cK (.int 2147483629)))) (cK (.int 7))) (cK (.int 2147483647))))).run [some (.lst (ns.map .int)), some (.int 1), none] = .nx [some (.lst (ns.map .int)), some (.int seed), y2] := by
    rw [← hl]
    exact forS_run (x := .plc 0 []) (var_plc rfl rfl) (for_lstP rfl ii (by decide))
  have h3 : (sRet (cLst (aCons (cFn gList (aCons (cVar 0) aNil)) (aCons (cK (.int 0)) (aCons (cK (.int 0)) (aCons (cVar 1) aNil)))))).run [some (.lst (ns.map .int)), some (.int seed), y2] = .rt (stm ns 0 0 seed) [some (.lst (ns.map .int)), some (.int seed), y2] := by
    simp [ii, gList, stm]
  have h := seq_nx h1 (seq_nx h2 h3)
  exact ⟨stm ns 0 0 seed, _, fn_rt (n := 1) (m := 3) (b := B__law_begin) (ds := [.lst (ns.map .int)]) h, ns, 0, 0, seed, rfl, by omega, a, b⟩
theorem var_imm {σ : DSt} {s : Nat} {d : D} (hs : σ[s]? = some (some d)) (hi : d.imm = true) : (cVar s).run σ = .ok (.tmp d) σ := by
  rw [run_var, hs]
  dsimp only
  rw [if_pos hi]
theorem if_t {t : TC} {a b : SC} {σ σ1 : DSt} (h : t.run σ = .ok true σ1) : (sIf t a b).run σ = a.run σ1 := by
  rw [run_if, h, bindS_ok, if_pos rfl]
theorem if_f {t : TC} {a b : SC} {σ σ1 : DSt} (h : t.run σ = .ok false σ1) : (sIf t a b).run σ = b.run σ1 := by
  rw [run_if, h, bindS_ok, if_neg (by decide)]
theorem tst_run {c : EC} {σ σ1 : DSt} {k : Bool} (h : c.run σ = .ok (.tmp (.bl k)) σ1) : (cTst c).run σ = .ok k σ1 := by
  rw [run_tst, h, bind_ok, tst_bl]
theorem ne_f {a b : EC} {σ : DSt} {x : D} (ha : a.run σ = .ok (.tmp x) σ) (hb : b.run σ = .ok (.tmp x) σ) (hx : gNe x x = some (.bl false)) : (cTst (cBin gNe a b)).run σ = .ok false σ := tst_run (bin_run ha hb hx)
def s17 (x0 x1 x2 x3 x4 x5 x6 x7 x8 x9 x10 x11 x12 x13 x14 x15 x16 : Option D) : DSt := [x0, x1, x2, x3, x4, x5, x6, x7, x8, x9, x10, x11, x12, x13, x14, x15, x16]
/-! ### distances of all places -/
noncomputable def Bfar : SC := sIf (cTst (cBin gNe (cAsk "WayError" (cCall F_distances [] (aCons (cVar 2) (aCons (cVar 3) (aCons (cVar 6) aNil))))) (cFn gTuple (aCons (cIx (cVar 5) (cVar 6)) aNil)))) (sRet (cK (.bl false))) sNil
section
variable {x0 x1 x4 x7 x8 x9 x10 x11 x12 x13 x14 x15 x16 : Option D} {n : Nat} {ps rest : List D} {ws : List Way}
theorem call3 {f : FnC} {a b c : EC} {σ : DSt} {x y z d : D} {outs : DSt} (hn : f.n = 3) (hrw : f.rw = []) (ha : a.run σ = .ok (.tmp x) σ) (hb : b.run σ = .ok (.tmp y) σ) (hc : c.run σ = .ok (.tmp z) σ) (hr : f.run [x, y, z] = .ok d outs) : (cCall f [] (aCons a (aCons b (aCons c aNil)))).run σ = .ok (.tmp d) σ := by
  rw [run_call, consA_run ha (consA_run hb (consA_run hc run_nilA)), bind_ok]
  exact call_pure hrw rfl hn.symm List.Pairwise.nil hr
theorem call3e {f : FnC} {a b c : EC} {σ : DSt} {x y z : D} {e : Exc} (hn : f.n = 3) (hrw : f.rw = []) (ha : a.run σ = .ok (.tmp x) σ) (hb : b.run σ = .ok (.tmp y) σ) (hc : c.run σ = .ok (.tmp z) σ) (hr : f.run [x, y, z] = .err e) : (cCall f [] (aCons a (aCons b (aCons c aNil)))).run σ = .err e σ := by
  rw [run_call, consA_run ha (consA_run hb (consA_run hc run_nilA)), bind_ok]
  exact call_pure_err hrw rfl hn.symm List.Pairwise.nil hr
theorem call2 {f : FnC} {a b : EC} {σ : DSt} {x y d : D} {outs : DSt} (hn : f.n = 2) (hrw : f.rw = []) (ha : a.run σ = .ok (.tmp x) σ) (hb : b.run σ = .ok (.tmp y) σ) (hr : f.run [x, y] = .ok d outs) : (cCall f [] (aCons a (aCons b aNil))).run σ = .ok (.tmp d) σ := by
  rw [run_call, consA_run ha (consA_run hb run_nilA), bind_ok]
  exact call_pure hrw rfl hn.symm List.Pairwise.nil hr
theorem call2e {f : FnC} {a b : EC} {σ : DSt} {x y : D} {e : Exc} (hn : f.n = 2) (hrw : f.rw = []) (ha : a.run σ = .ok (.tmp x) σ) (hb : b.run σ = .ok (.tmp y) σ) (hr : f.run [x, y] = .err e) : (cCall f [] (aCons a (aCons b aNil))).run σ = .err e σ := by
  rw [run_call, consA_run ha (consA_run hb run_nilA), bind_ok]
  exact call_pure_err hrw rfl hn.symm List.Pairwise.nil hr
theorem call4 {f : FnC} {a b c g : EC} {σ : DSt} {x y z w d : D} {outs : DSt} (hn : f.n = 4) (hrw : f.rw = []) (ha : a.run σ = .ok (.tmp x) σ) (hb : b.run σ = .ok (.tmp y) σ) (hc : c.run σ = .ok (.tmp z) σ) (hg : g.run σ = .ok (.tmp w) σ) (hr : f.run [x, y, z, w] = .ok d outs) : (cCall f [] (aCons a (aCons b (aCons c (aCons g aNil))))).run σ = .ok (.tmp d) σ := by
  rw [run_call, consA_run ha (consA_run hb (consA_run hc (consA_run hg run_nilA))), bind_ok]
  exact call_pure hrw rfl hn.symm List.Pairwise.nil hr
theorem call4e {f : FnC} {a b c g : EC} {σ : DSt} {x y z w : D} {e : Exc} (hn : f.n = 4) (hrw : f.rw = []) (ha : a.run σ = .ok (.tmp x) σ) (hb : b.run σ = .ok (.tmp y) σ) (hc : c.run σ = .ok (.tmp z) σ) (hg : g.run σ = .ok (.tmp w) σ) (hr : f.run [x, y, z, w] = .err e) : (cCall f [] (aCons a (aCons b (aCons c (aCons g aNil))))).run σ = .err e σ := by
  rw [run_call, consA_run ha (consA_run hb (consA_run hc (consA_run hg run_nilA))), bind_ok]
  exact call_pure_err hrw rfl hn.symm List.Pairwise.nil hr
theorem far_loop (F : FilmOk n ps rest) (hn : n ≤ 5) (W : WaysOk n ws) {rows : List (List (Option Int))} (rl : rows.length = n) (rg : ∀ p, p < n → rows.getD p [] = iterF ws n (row0 n p)) : ∀ (t k : Nat) (x6 : Option D), k + t ≤ n →
    ∃ y6, forRun (pV 6) Bfar (rangeD (k : Int) t) (s17 x0 x1 (some (filmD ps rest)) (some (.tup (ws.map encW))) x4 (some (farD rows)) x6 x7 x8 x9 x10 x11 x12 x13 x14 x15 x16) = .nx (s17 x0 x1 (some (filmD ps rest)) (some (.tup (ws.map encW))) x4 (some (farD rows)) y6 x7 x8 x9 x10 x11 x12 x13 x14 x15 x16)
  | 0, k, x6, _ => ⟨x6, rfl⟩
  | t + 1, k, x6, hk => by
    obtain ⟨y6, ih⟩ := far_loop F hn W rl rg t (k + 1) (some (.int (k : Int))) (by omega)
    refine ⟨y6, ?_⟩
    obtain ⟨o, hd⟩ := dist_ok F hn W (p := k) (by omega)
    have hw : (D.tup (ws.map encW)).imm = true := imms_encW ws
    have hB : Bfar.run (s17 x0 x1 (some (filmD ps rest)) (some (.tup (ws.map encW))) x4 (some (farD rows)) (some (.int (k : Int))) x7 x8 x9 x10 x11 x12 x13 x14 x15 x16) = .nx (s17 x0 x1 (some (filmD ps rest)) (some (.tup (ws.map encW))) x4 (some (farD rows)) (some (.int (k : Int))) x7 x8 x9 x10 x11 x12 x13 x14 x15 x16) := by
      refine (if_f (ne_f (x := .tup ((iterF ws n (row0 n k)).map encO)) (askO (call3 rfl rfl (var_imm rfl (film_imm F)) (var_imm rfl hw) (var_imm rfl rfl) hd)) ?_ (gNe_tup (okEq_found _)))).trans rfl
      have i1 := ix_row (σ := s17 x0 x1 (some (filmD ps rest)) (some (.tup (ws.map encW))) x4 (some (farD rows)) (some (.int (k : Int))) x7 x8 x9 x10 x11 x12 x13 x14 x15 x16) (rows := rows) (k := k) (s := 5) rfl (by omega)
      have g1 := rows_get (rows := rows) (k := k) (by omega)
      rw [rg k (by omega)] at g1
      simp only [s17, farD] at i1
      simp [s17, i1, farD, g1, tuple_F]
    rw [show rangeD (k : Int) (t + 1) = .int (k : Int) :: rangeD ((k + 1 : Nat) : Int) t from rfl, forRun_nx (σ1 := s17 x0 x1 (some (filmD ps rest)) (some (.tup (ws.map encW))) x4 (some (farD rows)) (some (.int (k : Int))) x7 x8 x9 x10 x11 x12 x13 x14 x15 x16) (by simp [s17]) hB]
    exact ih
/-! ### wrong places -/
noncomputable def Bwr : SC := sSeq (sIf (cOrT (cTst (cBin gNe (cAsk "WayError" (cCall F_distances [] (aCons (cVar 2) (aCons (cVar 3) (aCons (cVar 10) aNil))))) (cK (.str "unknown")))) (cTst (cBin gNe (cAsk "WayError" (cCall F_route [] (aCons (cVar 2) (aCons (cVar 3) (aCons (cVar 10) (aCons (cVar 7) aNil)))))) (cK (.str "unknown"))))) (sRet (cK (.bl false))) sNil)
  (sIf (cTst (cBin gNe (cAsk "WayError" (cCall F_route [] (aCons (cVar 2) (aCons (cVar 3) (aCons (cVar 7) (aCons (cVar 10) aNil)))))) (cK (.str "unknown")))) (sRet (cK (.bl false))) sNil)
theorem gNe_unk : gNe (.str (Str.ofString "unknown")) (.str (Str.ofString "unknown")) = some (.bl false) := by rw [gNe_str]; simp
theorem or_f {a b : TC} {σ : DSt} (ha : a.run σ = .ok false σ) (hb : b.run σ = .ok false σ) : (cOrT a b).run σ = .ok false σ := by
  rw [run_orT, ha, bind_ok, if_neg (by decide), hb]
theorem wr_turn {x5 x6 : Option D} {p : Int} {one : Nat} (F : FilmOk n ps rest) (W : WaysOk n ws) (h1 : one < n) (hp : ¬ (0 ≤ p ∧ p < n)) :
    Bwr.run (s17 x0 x1 (some (filmD ps rest)) (some (.tup (ws.map encW))) x4 x5 x6 (some (.int (one : Int))) x8 x9 (some (.int p)) x11 x12 x13 x14 x15 x16) = .nx (s17 x0 x1 (some (filmD ps rest)) (some (.tup (ws.map encW))) x4 x5 x6 (some (.int (one : Int))) x8 x9 (some (.int p)) x11 x12 x13 x14 x15 x16) := by
  have hf := film_imm F
  have hw : (D.tup (ws.map encW)).imm = true := imms_encW ws
  refine seq_nx ((if_f (or_f (ne_f (x := .str "unknown") ?_ rfl gNe_unk) (ne_f (x := .str "unknown") ?_ rfl gNe_unk))).trans rfl) ((if_f (ne_f (x := .str "unknown") ?_ rfl gNe_unk)).trans rfl)
  · exact askE rfl (call3e rfl rfl (var_imm rfl hf) (var_imm rfl hw) (var_imm rfl rfl) (dist_bad F W hp))
  · exact askE rfl (call4e rfl rfl (var_imm rfl hf) (var_imm rfl hw) (var_imm rfl rfl) (var_imm rfl rfl) (route_bad1 F W rfl hp))
  · exact askE rfl (call4e rfl rfl (var_imm rfl hf) (var_imm rfl hw) (var_imm rfl rfl) (var_imm rfl rfl) (route_bad2 F W h1 hp))
/-! ### wrong ways -/
def codeD : Option String → D
  | none => .non
  | some c => .str (Str.ofString c)
def encC (p : List Z3 × Option String) : D := .tup [.tup (p.1.map encZ), codeD p.2]
def GoodC (p : List Z3 × Option String) : Prop := (40 < p.1.length ∧ p.2 = some "many") ∨ (p.1.length ≤ 40 ∧ chk 3 none p.1 = p.2)
instance (p) : Decidable (GoodC p) := inferInstanceAs (Decidable (_ ∨ _))
noncomputable def Bcs : SC := sSeq (sIf (cTst (cBin gNe (cAsk "WayError" (cCall F_check_ways [] (aCons (cVar 12) (aCons (cVar 14) aNil)))) (cVar 15))) (sRet (cK (.bl false))) sNil)
  (sIf (cAndT (cTst (cBin gIsNot (cVar 15) (cK .non))) (cTst (cBin gNe (cAsk "WayError" (cCall F_distances [] (aCons (cVar 12) (aCons (cVar 14) (aCons (cK (.int 9)) aNil))))) (cVar 15)))) (sRet (cK (.bl false))) sNil)
theorem cs_err {c : String} {x2 x3 x5 x6 : Option D} {zs : List Z3} (F : FilmOk 3 ps rest) (h : F_check_ways.run [filmD ps rest, .tup (zs.map encZ)] = .err (wayErr (Str.ofString c))) :
    Bcs.run (s17 x0 x1 x2 x3 x4 x5 x6 x7 x8 x9 x10 x11 (some (filmD ps rest)) x13 (some (.tup (zs.map encZ))) (some (codeD (some c))) x16) = .nx (s17 x0 x1 x2 x3 x4 x5 x6 x7 x8 x9 x10 x11 (some (filmD ps rest)) x13 (some (.tup (zs.map encZ))) (some (codeD (some c))) x16) := by
  have hf := film_imm F
  have hz : (D.tup (zs.map encZ)).imm = true := imms_encZ zs
  have hs : gNe (.str (Str.ofString c)) (.str (Str.ofString c)) = some (.bl false) := by rw [gNe_str]; simp
  refine seq_nx ((if_f (ne_f (x := .str (Str.ofString c)) (askE rfl (call2e rfl rfl (var_imm rfl hf) (var_imm rfl hz) h)) (var_imm rfl rfl) hs)).trans rfl) ((if_f ?_).trans rfl)
  have e1 : (cTst (cBin gIsNot (cVar 15) (cK .non))).run (s17 x0 x1 x2 x3 x4 x5 x6 x7 x8 x9 x10 x11 (some (filmD ps rest)) x13 (some (.tup (zs.map encZ))) (some (codeD (some c))) x16) = .ok true (s17 x0 x1 x2 x3 x4 x5 x6 x7 x8 x9 x10 x11 (some (filmD ps rest)) x13 (some (.tup (zs.map encZ))) (some (codeD (some c))) x16) := rfl
  rw [run_andT, e1, bind_ok, if_pos rfl]
  exact ne_f (x := .str (Str.ofString c)) (askE rfl (call3e rfl rfl (var_imm rfl hf) (var_imm rfl hz) rfl (dist_any rfl F h))) (var_imm rfl rfl) hs
theorem cs_turn {x2 x3 x5 x6 : Option D} {p : List Z3 × Option String} (F : FilmOk 3 ps rest) (hp : GoodC p) :
    Bcs.run (s17 x0 x1 x2 x3 x4 x5 x6 x7 x8 x9 x10 x11 (some (filmD ps rest)) x13 (some (.tup (p.1.map encZ))) (some (codeD p.2)) x16) = .nx (s17 x0 x1 x2 x3 x4 x5 x6 x7 x8 x9 x10 x11 (some (filmD ps rest)) x13 (some (.tup (p.1.map encZ))) (some (codeD p.2)) x16) := by
  obtain ⟨c1, c2⟩ := check_any (zs := p.1) F
  rcases hp with ⟨h1, h2⟩ | ⟨h1, h2⟩
  · rw [h2]
    exact cs_err F (c1 h1)
  · have c2 := c2 h1
    rw [show ((3 : Nat) : Int) = 3 from rfl, h2] at c2
    cases hc : p.2 with
    | some c =>
      rw [hc] at c2
      exact cs_err F c2
    | none =>
      rw [hc] at c2
      obtain ⟨o, c2⟩ := c2
      have hf := film_imm F
      have hz : (D.tup (p.1.map encZ)).imm = true := imms_encZ p.1
      refine seq_nx ((if_f (ne_f (x := .non) (askO (call2 rfl rfl (var_imm rfl hf) (var_imm rfl hz) c2)) (var_imm rfl rfl) gNe_non)).trans rfl) rfl
theorem cs_loop {x2 x3 x5 x6 : Option D} (F : FilmOk 3 ps rest) : ∀ (cs : List (List Z3 × Option String)) (x14 x15 : Option D), (∀ p ∈ cs, GoodC p) →
    ∃ y14 y15, forRun (pTup (pCons (pV 14) (pCons (pV 15) pNil))) Bcs (cs.map encC) (s17 x0 x1 x2 x3 x4 x5 x6 x7 x8 x9 x10 x11 (some (filmD ps rest)) x13 x14 x15 x16) = .nx (s17 x0 x1 x2 x3 x4 x5 x6 x7 x8 x9 x10 x11 (some (filmD ps rest)) x13 y14 y15 x16)
  | [], x14, x15, _ => ⟨x14, x15, rfl⟩
  | p :: cs, x14, x15, h => by
    obtain ⟨y14, y15, ih⟩ := cs_loop F cs (some (.tup (p.1.map encZ))) (some (codeD p.2)) fun q hq => h q (List.mem_cons_of_mem _ hq)
    refine ⟨y14, y15, ?_⟩
    show forRun _ Bcs (D.tup [.tup (p.1.map encZ), codeD p.2] :: cs.map encC) _ = _
    rw [forRun_nx (tg2 (by simp [s17]) (by simp [s17])) (cs_turn F (h p (List.mem_cons_self ..)))]
    exact ih
end
end A2
end S_K51i
section S_K51j
set_option Elab.async false
set_option linter.all false
set_option maxRecDepth 100000
set_option maxHeartbeats 1000000
open PySem PySem.Spec L2
open PyProof.Rows hiding St
namespace A2
def goodZ : List Z3 := [(0, 1, 5), (0, 2, 1), (1, 2, 240)]
def rgZ (m : Nat) : List Z3 := (List.range m).map fun (k : Nat) => (0, 1, 1 + (k : Int))
def casesZ : List (List Z3 × Option String) := [(goodZ, none), ([(0, 1, 5), (0, 1, 6)], none), ([(0, 1, 5), (0, 1, 5)], some "order"), (goodZ.reverse, some "order"), ([(1, 0, 5)], some "order"), ([(1, 1, 5)], some "order"),
  ([(0, 3, 5)], some "place"), ([(-1, 0, 5)], some "place"), ([(0, 1, 0)], some "minutes"), ([(0, 1, 241)], some "minutes"), (rgZ 40, none), (rgZ 41, some "many"), (goodZ ++ [(3, 9, 0)], some "place"), ([(0, 1, 0), (0, 9, 1)], some "minutes")]
theorem cases_good : ∀ p ∈ casesZ, GoodC p := by decide +kernel
theorem entry {e : EC} {zs : List Z3} {code : Option String} {σ : DSt} (h : e.run σ = .ok (.tmp (.tup (zs.map encZ))) σ) : (cTup (aCons e (aCons (cK (codeD code)) aNil))).run σ = .ok (.tmp (encC (zs, code))) σ :=
  tup_run (ds := [.tup (zs.map encZ), codeD code]) (consA_run h (consA_run run_K run_nilA)) rfl (by simp)
section
variable {x0 x1 x2 x3 x4 x5 x6 x7 x8 x9 x10 x11 x12 x14 x15 : Option D}
theorem rg_run {m : Nat} (hm : m ≤ 1000) {x13 : Option D} : (cFn gTuple (aCons (cCompR rng1 [16] (pV 16) cYes (cTup (aCons (cK (.int 0)) (aCons (cK (.int 1)) (aCons (cBin gAdd (cK (.int 1)) (cVar 16)) aNil)))) (aCons (cK (.int (m : Int))) aNil)) aNil)).run (s17 x0 x1 x2 x3 x4 x5 x6 x7 x8 x9 x10 x11 x12 x13 x14 x15 none) =
    .ok (.tmp (.tup ((rgZ m).map encZ))) (s17 x0 x1 x2 x3 x4 x5 x6 x7 x8 x9 x10 x11 x12 x13 x14 x15 none) := by
  let f : D → D := fun d => match d with
    | .int i => .tup [.int 0, .int 1, .int (1 + i)]
    | _ => .non
  have hc : compRun (pV 16) cYes (cTup (aCons (cK (.int 0)) (aCons (cK (.int 1)) (aCons (cBin gAdd (cK (.int 1)) (cVar 16)) aNil)))) [16] (rangeD 0 m) [] (s17 x0 x1 x2 x3 x4 x5 x6 x7 x8 x9 x10 x11 x12 x13 x14 x15 none) = .ok ([] ++ (rangeD 0 m).map f) (s17 x0 x1 x2 x3 x4 x5 x6 x7 x8 x9 x10 x11 x12 x13 x14 x15 none) :=
    compRun_pure fun d hd => by
      rw [show ((0 : Int)) = ((0 : Nat) : Int) from rfl, rangeD_map] at hd
      obtain ⟨i, _, rfl⟩ := List.mem_map.mp hd
      exact ⟨s17 x0 x1 x2 x3 x4 x5 x6 x7 x8 x9 x10 x11 x12 x13 x14 x15 (some (.int (i : Int))), s17 x0 x1 x2 x3 x4 x5 x6 x7 x8 x9 x10 x11 x12 x13 x14 x15 (some (.int (i : Int))), by simp [s17], by simp [s17, f], rfl⟩
  have e1 : (rangeD 0 m).map f = (rgZ m).map encZ := by
    rw [show ((0 : Int)) = ((0 : Nat) : Int) from rfl, rangeD_map]
    unfold rgZ
    rw [List.range_eq_range', List.map_map, List.map_map]
    rfl
  rw [List.nil_append, e1] at hc
  have hl : (rangeD 0 m).length ≤ 1000 := by rw [rangeD_len]; exact hm
  refine fn1_run (x := .lst ((rgZ m).map encZ)) ?_ (gTuple_lst (imms_encZ _))
  rw [compRg (rng1_eq hm) run_K, compEnd_eq hl rfl (by rfl) (by rfl) hc]
  rfl
noncomputable def cCases : EC := (cLst (aCons (cTup (aCons (cVar 13) (aCons (cK .non) aNil))) (aCons (cTup (aCons (cTup (aCons (cTup (aCons (cK (.int 0)) (aCons (cK (.int 1)) (aCons (cK (.int 5)) aNil)))) (aCons (cTup (aCons (cK (.int 0)) (aCons (cK (.int 1)) (aCons (cK (.int 6)) aNil)))) aNil))) (aCons (cK .non) aNil))) (aCons (cTup (aCons (cBin gMulA (cTup (aCons (cTup (aCons (cK (.int 0)) (aCons (cK (.int 1)) (aCons (cK (.int 5)) aNil)))) aNil)) (cK (.int 2))) (aCons (cK (.str "order")) aNil))) (aCons (cTup (aCons (cRev (cVar 13)) (aCons (cK (.str "order")) aNil))) (aCons (cTup (aCons (cTup (aCons (cTup (aCons (cK (.int 1)) (aCons (cK (.int 0)) (aCons (cK (.int 5)) aNil)))) aNil)) (aCons (cK (.str "order")) aNil))) (aCons (cTup (aCons (cTup (aCons (cTup (aCons (cK (.int 1)) (aCons (cK (.int 1)) (aCons (cK (.int 5)) aNil)))) aNil)) (aCons (cK (.str "order")) aNil))) (aCons (cTup (aCons (cTup (aCons (cTup (aCons (cK (.int 0)) (aCons (cK (.int 3)) (aCons (cK (.int 5)) aNil)))) aNil)) (aCons (cK (.str "place")) aNil))) (aCons (cTup (aCons (cTup (aCons (cTup (aCons (cNeg (cK (.int 1))) (aCons (cK (.int 0)) (aCons (cK (.int 5)) aNil)))) aNil)) (aCons (cK (.str "place")) aNil))) (aCons (cTup (aCons (cTup (aCons (cTup (aCons (cK (.int 0)) (aCons (cK (.int 1)) (aCons (cK (.int 0)) aNil)))) aNil)) (aCons (cK (.str "minutes")) aNil))) (aCons (cTup (aCons (cTup (aCons (cTup (aCons (cK (.int 0)) (aCons (cK (.int 1)) (aCons (cK (.int 241)) aNil)))) aNil)) (aCons (cK (.str "minutes")) aNil))) (aCons (cTup (aCons (cFn gTuple (aCons (cCompR rng1 [16] (pV 16) cYes (cTup (aCons (cK (.int 0)) (aCons (cK (.int 1)) (aCons (cBin gAdd (cK (.int 1)) (cVar 16)) aNil)))) (aCons (cK (.int 40)) aNil)) aNil)) (aCons (cK .non) aNil))) (aCons (cTup (aCons (cFn gTuple (aCons (cCompR rng1 [16] (pV 16) cYes (cTup (aCons (cK (.int 0)) (aCons (cK (.int 1)) (aCons (cBin gAdd (cK (.int 1)) (cVar 16)) aNil)))) (aCons (cK (.int 41)) aNil)) aNil)) (aCons (cK (.str "many")) aNil))) (aCons (cTup (aCons (cBin gAdd (cVar 13) (cTup (aCons (cTup (aCons (cK (.int 3)) (aCons (cK (.int 9)) (aCons (cK (.int 0)) aNil)))) aNil))) (aCons (cK (.str "place")) aNil))) (aCons (cTup (aCons (cTup (aCons (cTup (aCons (cK (.int 0)) (aCons (cK (.int 1)) (aCons (cK (.int 0)) aNil)))) (aCons (cTup (aCons (cK (.int 0)) (aCons (cK (.int 9)) (aCons (cK (.int 1)) aNil)))) aNil))) (aCons (cK (.str "minutes")) aNil))) aNil)))))))))))))))
theorem mul2 : gMulA (.tup [encZ (0, 1, 5)]) (.int 2) = some (.tup [encZ (0, 1, 5), encZ (0, 1, 5)]) := by
  have := size2
  simp [gMulA, gMul, encZ, repD]
theorem run_rev {c : EC} {σ : DSt} : (cRev c).run σ = (c.run σ).bind revOf := rfl
theorem cases_run : cCases.run (s17 x0 x1 x2 x3 x4 x5 x6 x7 x8 x9 x10 x11 x12 (some (.tup (goodZ.map encZ))) x14 x15 none) = .ok (.tmp (.lst (casesZ.map encC))) (s17 x0 x1 x2 x3 x4 x5 x6 x7 x8 x9 x10 x11 x12 (some (.tup (goodZ.map encZ))) x14 x15 none) := by
  have hg : (D.tup (goodZ.map encZ)).imm = true := rfl
  have v13 : (cVar 13).run (s17 x0 x1 x2 x3 x4 x5 x6 x7 x8 x9 x10 x11 x12 (some (.tup (goodZ.map encZ))) x14 x15 none) = .ok (.tmp (.tup (goodZ.map encZ))) (s17 x0 x1 x2 x3 x4 x5 x6 x7 x8 x9 x10 x11 x12 (some (.tup (goodZ.map encZ))) x14 x15 none) := var_imm rfl hg
  refine lst_run (xs := (casesZ.map encC).map RV.tmp) (ds := casesZ.map encC) ?_ rfl (by decide)
  refine consA_run (entry (code := none) (zs := goodZ) v13) ?_
  refine consA_run (entry (code := none) (zs := [(0, 1, 5), (0, 1, 6)]) (by simp [encZ])) ?_
  refine consA_run (entry (code := some "order") (zs := [(0, 1, 5), (0, 1, 5)]) (bin_run (x := .tup [encZ (0, 1, 5)]) (y := .int 2) (by simp [encZ]) run_K mul2)) ?_
  refine consA_run (entry (code := some "order") (zs := goodZ.reverse) (by rw [run_rev, v13]; rfl)) ?_
  refine consA_run (entry (code := some "order") (zs := [(1, 0, 5)]) (by simp [encZ])) ?_
  refine consA_run (entry (code := some "order") (zs := [(1, 1, 5)]) (by simp [encZ])) ?_
  refine consA_run (entry (code := some "place") (zs := [(0, 3, 5)]) (by simp [encZ])) ?_
  refine consA_run (entry (code := some "place") (zs := [(-1, 0, 5)]) (by simp [encZ, negOf])) ?_
  refine consA_run (entry (code := some "minutes") (zs := [(0, 1, 0)]) (by simp [encZ])) ?_
  refine consA_run (entry (code := some "minutes") (zs := [(0, 1, 241)]) (by simp [encZ])) ?_
  refine consA_run (entry (code := none) (zs := rgZ 40) (rg_run (m := 40) (by omega))) ?_
  refine consA_run (entry (code := some "many") (zs := rgZ 41) (rg_run (m := 41) (by omega))) ?_
  refine consA_run (entry (code := some "place") (zs := goodZ ++ [(3, 9, 0)]) (bin_run (x := .tup (goodZ.map encZ)) (y := .tup [encZ (3, 9, 0)]) v13 (by simp [encZ]) (by have := size_big; simp [gAdd, goodZ, encZ]))) ?_
  refine consA_run (entry (code := some "minutes") (zs := [(0, 1, 0), (0, 9, 1)]) (by simp [encZ])) ?_
  rfl
end
theorem imms_cases : D.imms (casesZ.map encC) = true := imms_of fun d hd => by
  obtain ⟨p, _, rfl⟩ := List.mem_map.mp hd
  show (D.imms (p.1.map encZ) && ((codeD p.2).imm && true)) = true
  rw [imms_encZ]
  cases p.2 <;> rfl
theorem hB_law : B_law = (sSeq (sSet 1 (cCall F__law_begin [] (aCons (cVar 0) aNil)))
  (sSeq (sAsg (pTup (pCons (pV 2) (pCons (pV 3) pNil))) (cCall F__law_map [1] (aCons (cVar 1) aNil)))
  (sSeq (sSet 4 (cFn gLen (aCons (cIx (cVar 2) (cK (.int 0))) aNil)))
  (sSeq (sSet 5 (cCall F__law_far [] (aCons (cVar 2) (aCons (cVar 3) aNil))))
  (sSeq (sIf (cTst (cBin gIsNot (cAsk "WayError" (cCall F_check_ways [] (aCons (cVar 2) (aCons (cVar 3) aNil)))) (cK .non))) (sRet (cK (.bl false))) sNil)
  (sSeq (sForR rng1 (pV 6) (aCons (cVar 4) aNil) Bfar)
  (sSeq (sSet 7 (cCall F__law_take [1] (aCons (cVar 1) (aCons (cVar 4) aNil))))
  (sSeq (sSet 8 (cCall F__law_take [1] (aCons (cVar 1) (aCons (cVar 4) aNil))))
  (sSeq (sSet 9 (cCall F__law_rows [] (aCons (cVar 2) (aCons (cVar 3) (aCons (cVar 7) (aCons (cVar 8) aNil))))))
  (sSeq (sIf (cTst (cBin gNe (cAsk "WayError" (cCall F_route [] (aCons (cVar 2) (aCons (cVar 3) (aCons (cVar 7) (aCons (cVar 8) aNil)))))) (cIfE (cTst (cBin gGtA (cFn gLen (aCons (cVar 9) aNil)) (cK (.int 0)))) (cIx (cFn gMinL (aCons (cVar 9) aNil)) (cK (.int 2))) (cK (.str "apart"))))) (sRet (cK (.bl false))) sNil)
  (sSeq (sFor (pV 10) (cTup (aCons (cNeg (cK (.int 1))) (aCons (cVar 4) aNil))) Bwr)
  (sSeq (sSet 11 (cTup (aCons (cTup (aCons (cK (.str "x")) (aCons (cK (.bl false)) aNil))) (aCons (cTup (aCons (cK (.str "y")) (aCons (cK (.bl false)) aNil))) (aCons (cTup (aCons (cK (.str "z")) (aCons (cK (.bl false)) aNil))) aNil)))))
  (sSeq (sSet 12 (cTup (aCons (cVar 11) (aCons (cIx (cVar 2) (cK (.int 1))) (aCons (cIx (cVar 2) (cK (.int 2))) (aCons (cIx (cVar 2) (cK (.int 3))) (aCons (cIx (cVar 2) (cK (.int 4))) aNil)))))))
  (sSeq (sSet 13 (cTup (aCons (cTup (aCons (cK (.int 0)) (aCons (cK (.int 1)) (aCons (cK (.int 5)) aNil)))) (aCons (cTup (aCons (cK (.int 0)) (aCons (cK (.int 2)) (aCons (cK (.int 1)) aNil)))) (aCons (cTup (aCons (cK (.int 1)) (aCons (cK (.int 2)) (aCons (cK (.int 240)) aNil)))) aNil)))))
  (sSeq (sFor (pTup (pCons (pV 14) (pCons (pV 15) pNil))) cCases Bcs)
  (sRet (cK (.bl true)))))))))))))))))) := rfl
def ps3 : List D := [.tup [.str "x", .bl false], .tup [.str "y", .bl false], .tup [.str "z", .bl false]]
theorem law_run {sD d0 : D} (i0 : IsSt d0) (hb : (cCall F__law_begin [] (aCons (cVar 0) aNil)).run (s17 (some sD) none none none none none none none none none none none none none none none none) = .ok (.tmp d0) (s17 (some sD) none none none none none none none none none none none none none none none none)) :
    ∃ σ, B_law.run (s17 (some sD) none none none none none none none none none none none none none none none none) = .rt (.bl true) σ := by
  obtain ⟨n, ps, rest, ws, d1, i1, n1, n5, F, R, W, hmap⟩ := law_map_eq i0
  obtain ⟨as, es, os, rfl, ra1, ra2, re1, re2, hes⟩ := R
  obtain ⟨o2, hfar⟩ := law_far_eq F (by omega) W
  generalize hrows : ((List.range n).map fun k => iterF ws n (row0 n k)) = rows at hfar
  have rl : rows.length = n := by rw [← hrows]; simp
  have rg : ∀ p, p < n → rows.getD p [] = iterF ws n (row0 n p) := fun p hp => by
    rw [← hrows, List.getD_eq_getElem?_getD, List.getElem?_map, List.getElem?_range hp]
    rfl
  have hf := film_imm F
  have hw : (D.tup (ws.map encW)).imm = true := imms_encW ws
  obtain ⟨o1, hck⟩ := check_ways_eq F W
  obtain ⟨r, d2, i2, r0, r1, hT⟩ := take_run i1 (m := n) (by omega) (by omega)
  obtain ⟨q, d3, i3, q0, q1, hT2⟩ := take_run i2 (m := n) (by omega) (by omega)
  obtain ⟨one, rfl⟩ : ∃ one : Nat, r = (one : Int) := ⟨r.toNat, by omega⟩
  obtain ⟨other, rfl⟩ : ∃ other : Nat, q = (other : Int) := ⟨q.toNat, by omega⟩
  have h1 : one < n := by omega
  have h2 : other < n := by omega
  obtain ⟨o3, hro⟩ := law_rows_eq (film := filmD ps [.tup as, .tup es, .tup os, .tup [.int 10, .int 20, .int 30]]) (other := other) hf W h1 n5
  obtain ⟨f, I, hno, hso⟩ := route_eq F n5 W h1 h2
  let fd : Option D := some (filmD ps [.tup as, .tup es, .tup os, .tup [.int 10, .int 20, .int 30]])
  let wd : Option D := some (.tup (ws.map encW))
  let nD : Option D := some (.int (n : Int))
  let G : List Rw := gather ws other n [([one], 0)]
  have s1 := set_run (i := 1) hb (show 1 < 17 by decide)
  have c2 : (cCall F__law_map [1] (aCons (cVar 1) aNil)).run (s17 (some sD) (some d0) none none none none none none none none none none none none none none none) = .ok (.tmp (.tup [filmD ps [.tup as, .tup es, .tup os, .tup [.int 10, .int 20, .int 30]], .tup (ws.map encW)])) (s17 (some sD) (some d1) none none none none none none none none none none none none none none none) := by
    rw [run_call, run_consA, var_plc (d := d0) rfl i0.imm, bind_ok, run_nilA, bind_ok, stab_nil, if_pos rfl, bind_ok]
    exact call_lent (f := F__law_map) (ds := []) rfl rfl rfl hmap
  have s2 : (sAsg (pTup (pCons (pV 2) (pCons (pV 3) pNil))) (cCall F__law_map [1] (aCons (cVar 1) aNil))).run (s17 (some sD) (some d0) none none none none none none none none none none none none none none none) = .nx (s17 (some sD) (some d1) fd wd none none none none none none none none none none none none none) := by
    rw [run_asg, c2, bindS_ok, asgOf_tmp]
    rfl
  have c3 : (cFn gLen (aCons (cIx (cVar 2) (cK (.int 0))) aNil)).run (s17 (some sD) (some d1) fd wd none none none none none none none none none none none none none) = .ok (.tmp (.int (n : Int))) (s17 (some sD) (some d1) fd wd none none none none none none none none none none none none none) := by
    refine fn1_run (x := .tup ps) ?_ (by rw [gLen_tup, F.len])
    rw [run_ix, var_imm (s := 2) rfl hf, bind_ok, run_K, bind_ok, stab_tmp, if_pos rfl]
    exact ix_tup (by omega) rfl F.i1
  have s3 := set_run (i := 4) c3 (show 4 < 17 by decide)
  have s4 := set_run (i := 5) (call2 (f := F__law_far) (σ := s17 (some sD) (some d1) fd wd nD none none none none none none none none none none none none) rfl rfl (var_imm (s := 2) rfl hf) (var_imm (s := 3) rfl hw) hfar) (show 5 < 17 by decide)
  have s5 : (sIf (cTst (cBin gIsNot (cAsk "WayError" (cCall F_check_ways [] (aCons (cVar 2) (aCons (cVar 3) aNil)))) (cK .non))) (sRet (cK (.bl false))) sNil).run (s17 (some sD) (some d1) fd wd nD (some (farD rows)) none none none none none none none none none none none) = .nx (s17 (some sD) (some d1) fd wd nD (some (farD rows)) none none none none none none none none none none none) :=
    (if_f (tst_run (bin_run (askO (call2 rfl rfl (var_imm rfl hf) (var_imm rfl hw) hck)) run_K (gIsNot_non.trans rfl)))).trans rfl
  obtain ⟨y6, h6⟩ := far_loop (x0 := some sD) (x1 := some d1) (x4 := nD) (x7 := none) (x8 := none) (x9 := none) (x10 := none) (x11 := none) (x12 := none) (x13 := none) (x14 := none) (x15 := none) (x16 := none) F n5 W rl rg n 0 none (by omega)
  have s6 := (forR1 (p := pV 6) (b := Bfar) (σ := s17 (some sD) (some d1) fd wd nD (some (farD rows)) none none none none none none none none none none none) (n := n) (s := 4) (by omega) rfl).trans h6
  have s7 := set_run (i := 7) (hT (s17 (some sD) (some d1) fd wd nD (some (farD rows)) y6 none none none none none none none none none none) 1 (cVar 4) rfl (var_imm rfl rfl)) (show 7 < 17 by decide)
  have s8 := set_run (i := 8) (hT2 (s17 (some sD) (some d2) fd wd nD (some (farD rows)) y6 (some (.int (one : Int))) none none none none none none none none none) 1 (cVar 4) rfl (var_imm rfl rfl)) (show 8 < 17 by decide)
  have s9 := set_run (i := 9) (call4 (f := F__law_rows) (σ := s17 (some sD) (some d3) fd wd nD (some (farD rows)) y6 (some (.int (one : Int))) (some (.int (other : Int))) none none none none none none none none) rfl rfl (var_imm (s := 2) rfl hf) (var_imm (s := 3) rfl hw) (var_imm (s := 7) rfl rfl) (var_imm (s := 8) rfl rfl) hro) (show 9 < 17 by decide)
  have s10 : (sIf (cTst (cBin gNe (cAsk "WayError" (cCall F_route [] (aCons (cVar 2) (aCons (cVar 3) (aCons (cVar 7) (aCons (cVar 8) aNil)))))) (cIfE (cTst (cBin gGtA (cFn gLen (aCons (cVar 9) aNil)) (cK (.int 0)))) (cIx (cFn gMinL (aCons (cVar 9) aNil)) (cK (.int 2))) (cK (.str "apart"))))) (sRet (cK (.bl false))) sNil).run (s17 (some sD) (some d3) fd wd nD (some (farD rows)) y6 (some (.int (one : Int))) (some (.int (other : Int))) (some (.lst (G.map encF))) none none none none none none none) =
      .nx (s17 (some sD) (some d3) fd wd nD (some (farD rows)) y6 (some (.int (one : Int))) (some (.int (other : Int))) (some (.lst (G.map encF))) none none none none none none none) := by
    have ht : (cTst (cBin gGtA (cFn gLen (aCons (cVar 9) aNil)) (cK (.int 0)))).run (s17 (some sD) (some d3) fd wd nD (some (farD rows)) y6 (some (.int (one : Int))) (some (.int (other : Int))) (some (.lst (G.map encF))) none none none none none none none) = .ok (decide (0 < G.length)) (s17 (some sD) (some d3) fd wd nD (some (farD rows)) y6 (some (.int (one : Int))) (some (.int (other : Int))) (some (.lst (G.map encF))) none none none none none none none) := by
      simp [s17]
    cases ha : at' f one with
    | none =>
      have hG : G = [] := no_row I ha
      have he := hno ha
      refine (if_f (ne_f (x := .str "apart") (askE rfl (call4e rfl rfl (var_imm rfl hf) (var_imm rfl hw) (var_imm rfl rfl) (var_imm rfl rfl) he)) ?_ (by rw [gNe_str]; simp))).trans rfl
      rw [run_ifE, ht, bind_ok, hG]
      rfl
    | some a =>
      obtain ⟨K, Rw, o4, hr, w1, w2, w3⟩ := hso a ha
      obtain ⟨hmin, hne⟩ := least_row I W h1 ha w1 w2 w3
      refine (if_f (ne_f (x := rowN Rw) (askO (call4 rfl rfl (var_imm rfl hf) (var_imm rfl hw) (var_imm rfl rfl) (var_imm rfl rfl) hr)) ?_ (gNe_tup (okEq_row Rw)))).trans rfl
      have hpos : 0 < G.length := List.length_pos_iff.mpr hne
      rw [run_ifE, ht, bind_ok, if_pos (decide_eq_true hpos), run_ix, fnL_run (s := 9) (ds := G.map encF) rfl hmin, bind_ok, run_K, bind_ok, stab_tmp, if_pos rfl]
      exact ix_tup (by omega) rfl (imm_rowN Rw)
  have t1 := wr_turn (x0 := some sD) (x1 := some d3) (x4 := nD) (x5 := some (farD rows)) (x6 := y6) (x8 := some (.int (other : Int))) (x9 := some (.lst (G.map encF))) (x11 := none) (x12 := none) (x13 := none) (x14 := none) (x15 := none) (x16 := none) (p := -1) F W h1 (by omega)
  have t2 := wr_turn (x0 := some sD) (x1 := some d3) (x4 := nD) (x5 := some (farD rows)) (x6 := y6) (x8 := some (.int (other : Int))) (x9 := some (.lst (G.map encF))) (x11 := none) (x12 := none) (x13 := none) (x14 := none) (x15 := none) (x16 := none) (p := (n : Int)) F W h1 (by omega)
  have s11 : (sFor (pV 10) (cTup (aCons (cNeg (cK (.int 1))) (aCons (cVar 4) aNil))) Bwr).run (s17 (some sD) (some d3) fd wd nD (some (farD rows)) y6 (some (.int (one : Int))) (some (.int (other : Int))) (some (.lst (G.map encF))) none none none none none none none) =
      .nx (s17 (some sD) (some d3) fd wd nD (some (farD rows)) y6 (some (.int (one : Int))) (some (.int (other : Int))) (some (.lst (G.map encF))) (some (.int (n : Int))) none none none none none none) := by
    refine forS_run (x := .tmp (.tup [.int (-1), .int (n : Int)])) (by simp [s17, nD, negOf]) ?_
    rw [for_tup rfl, forRun_nx (σ1 := s17 (some sD) (some d3) fd wd nD (some (farD rows)) y6 (some (.int (one : Int))) (some (.int (other : Int))) (some (.lst (G.map encF))) (some (.int (-1))) none none none none none none) (by simp [s17, fd, wd]) t1,
      forRun_nx (σ1 := s17 (some sD) (some d3) fd wd nD (some (farD rows)) y6 (some (.int (one : Int))) (some (.int (other : Int))) (some (.lst (G.map encF))) (some (.int (n : Int))) none none none none none none) (by simp [s17, fd, wd]) t2]
    rfl
  have F3 : FilmOk 3 ps3 [.tup as, .tup es, .tup os, .tup [.int 10, .int 20, .int 30]] := ⟨rfl, F.i2, rfl⟩
  have hi : D.imms as = true ∧ D.imms es = true ∧ D.imms os = true := by
    have := F.i2
    simp only [imms_cons, imm_tup, Bool.and_eq_true] at this
    exact ⟨this.1, this.2.1, this.2.2.1⟩
  have s12 : (sSet 11 (cTup (aCons (cTup (aCons (cK (.str "x")) (aCons (cK (.bl false)) aNil))) (aCons (cTup (aCons (cK (.str "y")) (aCons (cK (.bl false)) aNil))) (aCons (cTup (aCons (cK (.str "z")) (aCons (cK (.bl false)) aNil))) aNil))))).run (s17 (some sD) (some d3) fd wd nD (some (farD rows)) y6 (some (.int (one : Int))) (some (.int (other : Int))) (some (.lst (G.map encF))) (some (.int (n : Int))) none none none none none none) =
      .nx (s17 (some sD) (some d3) fd wd nD (some (farD rows)) y6 (some (.int (one : Int))) (some (.int (other : Int))) (some (.lst (G.map encF))) (some (.int (n : Int))) (some (.tup ps3)) none none none none none) := by
    simp [s17, ps3]
  have ixk : ∀ (k : Nat) (d : D) (σ : DSt), (D.tup ps :: [.tup as, .tup es, .tup os, .tup [.int 10, .int 20, .int 30]])[k]? = some d → d.imm = true → σ[2]? = some fd → (cIx (cVar 2) (cK (.int (k : Int)))).run σ = .ok (.tmp d) σ := fun k d σ hk hd hs => by
    rw [run_ix, var_imm (s := 2) hs hf, bind_ok, run_K, bind_ok, stab_tmp, if_pos rfl]
    exact ix_tup (by omega) (by rw [Int.toNat_natCast]; exact hk) hd
  have s13 := set_run (i := 12) (tup_run (σ := s17 (some sD) (some d3) fd wd nD (some (farD rows)) y6 (some (.int (one : Int))) (some (.int (other : Int))) (some (.lst (G.map encF))) (some (.int (n : Int))) (some (.tup ps3)) none none none none none) (ds := [.tup ps3, .tup as, .tup es, .tup os, .tup [.int 10, .int 20, .int 30]])
    (consA_run (var_imm (s := 11) rfl rfl) (consA_run (ixk 1 _ _ rfl hi.1 rfl) (consA_run (ixk 2 _ _ rfl hi.2.1 rfl) (consA_run (ixk 3 _ _ rfl hi.2.2 rfl) (consA_run (ixk 4 _ _ rfl rfl rfl) run_nilA))))) rfl (by simp)) (show 12 < 17 by decide)
  have s14 : (sSet 13 (cTup (aCons (cTup (aCons (cK (.int 0)) (aCons (cK (.int 1)) (aCons (cK (.int 5)) aNil)))) (aCons (cTup (aCons (cK (.int 0)) (aCons (cK (.int 2)) (aCons (cK (.int 1)) aNil)))) (aCons (cTup (aCons (cK (.int 1)) (aCons (cK (.int 2)) (aCons (cK (.int 240)) aNil)))) aNil))))).run (s17 (some sD) (some d3) fd wd nD (some (farD rows)) y6 (some (.int (one : Int))) (some (.int (other : Int))) (some (.lst (G.map encF))) (some (.int (n : Int))) (some (.tup ps3)) (some (filmD ps3 [.tup as, .tup es, .tup os, .tup [.int 10, .int 20, .int 30]])) none none none none) =
      .nx (s17 (some sD) (some d3) fd wd nD (some (farD rows)) y6 (some (.int (one : Int))) (some (.int (other : Int))) (some (.lst (G.map encF))) (some (.int (n : Int))) (some (.tup ps3)) (some (filmD ps3 [.tup as, .tup es, .tup os, .tup [.int 10, .int 20, .int 30]])) (some (.tup (goodZ.map encZ))) none none none) := by
    simp [s17, goodZ, encZ]
  obtain ⟨y14, y15, hL⟩ := cs_loop (x0 := some sD) (x1 := some d3) (x2 := fd) (x3 := wd) (x4 := nD) (x5 := some (farD rows)) (x6 := y6) (x7 := some (.int (one : Int))) (x8 := some (.int (other : Int))) (x9 := some (.lst (G.map encF))) (x10 := some (.int (n : Int))) (x11 := some (.tup ps3)) (x13 := some (.tup (goodZ.map encZ))) (x16 := none) F3 casesZ none none cases_good
  have s15 : (sFor (pTup (pCons (pV 14) (pCons (pV 15) pNil))) cCases Bcs).run (s17 (some sD) (some d3) fd wd nD (some (farD rows)) y6 (some (.int (one : Int))) (some (.int (other : Int))) (some (.lst (G.map encF))) (some (.int (n : Int))) (some (.tup ps3)) (some (filmD ps3 [.tup as, .tup es, .tup os, .tup [.int 10, .int 20, .int 30]])) (some (.tup (goodZ.map encZ))) none none none) =
      .nx (s17 (some sD) (some d3) fd wd nD (some (farD rows)) y6 (some (.int (one : Int))) (some (.int (other : Int))) (some (.lst (G.map encF))) (some (.int (n : Int))) (some (.tup ps3)) (some (filmD ps3 [.tup as, .tup es, .tup os, .tup [.int 10, .int 20, .int 30]])) (some (.tup (goodZ.map encZ))) y14 y15 none) := by
    refine forS_run (x := .tmp (.lst (casesZ.map encC))) cases_run ?_
    rw [for_lstT imms_cases]
    exact hL
  have hh := seq_nx s1 (seq_nx s2 (seq_nx s3 (seq_nx s4 (seq_nx s5 (seq_nx s6 (seq_nx s7 (seq_nx s8 (seq_nx s9 (seq_nx s10 (seq_nx s11 (seq_nx s12 (seq_nx s13 (seq_nx s14 (seq_nx s15 (show (sRet (cK (.bl true))).run _ = .rt (.bl true) _ from rfl)))))))))))))))
  rw [hB_law]
  exact ⟨_, hh⟩
theorem main_law (ns : List Int) (h : ns.length ≤ 63) : (∃ outs, F_law.run [.flst (ns.map .int)] = .ok (.bl true) outs) ∧ ∃ outs, F_law.run [.lst (ns.map .int)] = .ok (.bl true) outs := by
  have ii := imms_ints ns
  constructor
  · obtain ⟨d0, o0, hb, i0⟩ := law_begin_eq h
    obtain ⟨σ, hr⟩ := law_run (sD := .flst (ns.map .int)) i0 (by
      rw [run_call, consA_run (var_imm (d := .flst (ns.map .int)) rfl ii) run_nilA, bind_ok]
      exact callN1 rfl rfl hb)
    exact ⟨_, fn_rt (n := 1) (m := 17) (b := B_law) (ds := [.flst (ns.map .int)]) hr⟩
  · obtain ⟨d0, o0, hb, i0⟩ := law_begin_lst h
    obtain ⟨σ, hr⟩ := law_run (sD := .lst (ns.map .int)) i0 (by
      rw [run_call, run_consA, var_plc (d := .lst (ns.map .int)) rfl rfl, bind_ok, run_nilA, bind_ok, stab_nil, if_pos rfl, bind_ok]
      exact call_pure (f := F__law_begin) (ds := [.lst (ns.map .int)]) rfl (by simp [s17]) rfl (by simp [places]) hb)
    exact ⟨_, fn_rt (n := 1) (m := 17) (b := B_law) (ds := [.lst (ns.map .int)]) hr⟩
end A2
end S_K51j
set_option Elab.async false
set_option linter.all false
set_option maxRecDepth 100000
set_option maxHeartbeats 0
open PySem PySem.Spec L2
open PyProof.Rows hiding St
namespace A2
abbrev hR : PySem.W.OpenRow := PySem.W.OpenLaw.row PySem.Challenge.rw_callsheets_k51_ways_and_distances
def hNames : List PySem.Str := ["CallError", "WayError", "MOST_WAYS", "MOST_MINUTES", "check_ways", "check_place", "neighbors", "all_distances", "distances", "route", "_law_begin", "_law_take", "_law_map", "_law_some", "_law_far", "_law_asked", "_law_rows"]
theorem hRun (w : World) : HandSHeadRun.RunEq hR (PySem.W.view hR.prog [20]) hD.hookT hD.obTT 3000 hNames w := by
  intro os
  kernel_rfl
theorem hEnd {w : World} {mg : Str → Option Value} {fa : Addr} {h : Heap} (Y : hD.hookT.says w h) (G : h.Ns mainGlobals mg) (hmg : mg ("law" : Str) = some (.ref fa)) :
    ∃ (K : PySem.W.Frag) (fd : FuncData) (sp : Sp) (c P : Addr), K.In h ∧ PySem.W.tabIn K "law" = some (c, P) ∧ K.lookup P = none ∧ (∀ (s : Shared) (u : Value), BindsTo s fd ⟨[u], []⟩ [("script", u)]) ∧
      (∀ (H : Hp) (a : Addr) (ns : List Int), ns.length ≤ 63 → H P = some (.tbl #[]) → SqL K H a (ns.map V.int) → sp [.ref a] H (fun v _ => v = .bl true) fun _ _ _ => False) ∧
      ∀ base : Heap, K.In base → base.Ns mainGlobals mg → LamX.TabB base mg c P → FnOk PySem.Challenge.pw_callsheets_k51_ways_and_distances w K mg base (L2.CX PySem.Challenge.pw_callsheets_k51_ways_and_distances w) 7 fa fd ["script"] sp := by
  obtain ⟨K, KX, c⟩ := Y
  have c : hD.ob K = hD.val := c
  have b := HeadD.bxOk c
  change hBx K = true at b
  unfold hBx at b
  have hl := (Bool.and_eq_true_iff.mp b).1
  have hb2 := (Bool.and_eq_true_iff.mp (Bool.and_eq_true_iff.mp b).2).1
  obtain ⟨c0, P, ht, hcd, hP⟩ := lamB_ok hb2
  obtain ⟨f, fd, F, m⟩ := top_law KX G c
  have e := hmg.symm.trans m
  cases e
  have hT : tabsOf K = [P] := by
    show (match PySem.W.tabIn K "law" with | some (_, P) => [P] | none => []) = [P]
    rw [ht]
  refine ⟨K, fd, spF ⟨K, mg, tabsOf K⟩ F_law, c0, P, KX, ht, hP, fun s u => ?_, fun H a ns hn hE hS => ?_, fun base KB GB TB => ?_⟩
  · obtain ⟨_, _, _, _, _, _, _, _, _, rfl, _, _⟩ := F.ex
    exact .of_eq rfl
  · obtain ⟨⟨o1, hr⟩, ⟨o2, hr2⟩⟩ := main_law ns hn
    exact law_spT (G := ⟨K, mg, tabsOf K⟩) (fun o e => noList_ok hl e) hS hT hE rfl hr hr2
  · exact fnAt_one (ok_law (txt_of KX G c (tabAt_of KX G ht TB))) F m
end A2
open PySem PySem.W PySem.Calls PyProof.Rows
theorem PySem.Challenge.cw_callsheets_k51_ways_and_distances_holds : PySem.Challenge.rw_callsheets_k51_ways_and_distances.Holds := by
  w_on; o_law
  refine HandSHeadRun.head_any (r := OpenLaw.row PySem.Challenge.rw_callsheets_k51_ways_and_distances) (q := view (OpenLaw.row PySem.Challenge.rw_callsheets_k51_ways_and_distances).prog [20]) (H := A2.hD.hookT) (ob := A2.hD.obTT) (M := 3000) (loose := A2.hNames) (d := HandSHeadRun.topDef (OpenLaw.row PySem.Challenge.rw_callsheets_k51_ways_and_distances).prog 20) (kwd := []) (A2.HeadD.obT_eq A2.hD)
    (by kernel_rfl) (fun s => by kernel_rfl) A2.hRun (by kernel_rfl) (by kernel_rfl) (by kernel_rfl) (by rfl) (by first | assumption | decide +kernel) (by decide +kernel) ⟨rfl, rfl, rfl, rfl, rfl, by decide +kernel⟩ ?hw ?hc
  case hw => w_witness2
  case hc =>
    refine A2.walk_ofT (l := PySem.Challenge.rw_callsheets_k51_ways_and_distances) (n := 63) (k := 7) (x := "script") rfl (by decide) (by kernel_rfl) ⟨rfl, by decide, by decide⟩ (by kernel_rfl) ?F
    intro w mg fa h Y G hmg0
    have hmg : mg ("law" : PySem.Str) = some (.ref fa) := by
      have e : (HandSHeadRun.topDef (OpenLaw.row PySem.Challenge.rw_callsheets_k51_ways_and_distances).prog 20).name = ("law" : PySem.Str) := by kernel_rfl
      rw [← e]
      exact hmg0
    exact A2.hEnd Y G hmg
