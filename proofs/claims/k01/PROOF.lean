import PyProof.Rows.All
import Wide.All
import OpenK.AllK
import Wide.FinOn
import HandS.ForMost
import HandS.ForExc
import HandS.Flow
import HandS.TupAny
import HandS.TupMul
import HandS.Deep
import HandS.Style
import HandS.Codes
import HandS.IsInst
import HandS.SetFor
import HandS.Iter
import HandS.TryOnly
import HandS.ExcOwn
import HandS.WordsExc
import HandS.WrittenGet
import PyProof.ExcBaseAll.ValueError
import KE.GoesComp
import KE.GoesRaise
import HandS.ReplaceLit
import PySem.Challenge.RW_mergeandmove_k01_whole_marks
set_option Elab.async false
set_option linter.all false
set_option maxRecDepth 100000
set_option maxHeartbeats 4000000
/-! VL: values with owners, over the hand layer. -/
namespace VL
open PySem PySem.Spec L2
open PyProof.Rows hiding St

/-- data; a list, an instance, a dict bears whether it is owned (true: it may be changed by who holds it) -/
inductive D where
  | non | bl (b : Bool) | int (i : Int) | str (s : Str)
  | tup (xs : List D)
  | lst (o : Bool) (xs : List D)
  | ins (o : Bool) (c : Str) (ns : List Str) (xs : List D)
  | dic (o : Bool) (ks : List Key) (xs : List D)
  | scr (ns : List Int)

instance : Inhabited D := ⟨.non⟩

/-- what the text's top has left: its written part, what its names hold -/
structure G where
  K : PySem.W.Frag
  f : Str → Option Value
instance : CoeFun G (fun _ => Str → Option Value) := ⟨G.f⟩
abbrev _root_.L2.Cx.gg (X : Cx) : G := ⟨X.K, X.mg⟩
section
variable (mg : G)

mutual
/-- value v stands for data d; fp: the addresses of what is owned in it; what is not owned lies outside W -/
def R (H : Hp) (W : Addr → Prop) : D → List Addr → V → Prop
  | .non, fp, v => fp = [] ∧ v = .non
  | .bl b, fp, v => fp = [] ∧ v = .bl b
  | .int i, fp, v => fp = [] ∧ v = .int i
  | .str s, fp, v => fp = [] ∧ v = .str s
  | .tup xs, fp, v => ∃ a vs, v = .ref a ∧ (H a = some (.tup vs) ∧ ¬ W a) ∧ Rs H W xs fp vs
  | .lst true xs, fp, v => ∃ a vs f1, v = .ref a ∧ fp = a :: f1 ∧ H a = some (.lst vs) ∧ Rs H W xs f1 vs
  | .lst false xs, fp, v => fp = [] ∧ ∃ a vs, v = .ref a ∧ (H a = some (.lst vs) ∧ ¬ W a) ∧ Rs H W xs [] vs
  | .ins true c ns xs, fp, v => ∃ a C dx fs f1, v = .ref a ∧ fp = a :: f1 ∧ mg c = some (.ref C) ∧ H a = some (.ins C dx fs) ∧ fs.map (·.1) = ns ∧ Rs H W xs f1 (fs.map (·.2))
  | .ins false c ns xs, fp, v => fp = [] ∧ ∃ a C dx fs, v = .ref a ∧ mg c = some (.ref C) ∧ (H a = some (.ins C dx fs) ∧ ¬ W a) ∧ fs.map (·.1) = ns ∧ Rs H W xs [] (fs.map (·.2))
  | .dic true ks xs, fp, v => ∃ a kvs f1, v = .ref a ∧ fp = a :: f1 ∧ H a = some (.dK kvs) ∧ kvs.map (·.1) = ks ∧ Rs H W xs f1 (kvs.map (·.2))
  | .dic false ks xs, fp, v => fp = [] ∧ ∃ a kvs, v = .ref a ∧ (H a = some (.dK kvs) ∧ ¬ W a) ∧ kvs.map (·.1) = ks ∧ Rs H W xs [] (kvs.map (·.2))
  | .scr ns, fp, v => fp = [] ∧ ∃ a, v = .ref a ∧ ((∃ o, H a = some (.frz o (.lst (ns.map V.int))) ∧ ¬ W a) ∨ ∃ (o : Obj) (its : Array Value) (n : Nat), mg.K.lookup a = some o ∧ o.cls = .type "list" ∧ o.dict = none ∧ o.data = .seq its n ∧ its.size ≤ sizeLine ∧ Vals (ns.map V.int) its.toList)
def Rs (H : Hp) (W : Addr → Prop) : List D → List Addr → List V → Prop
  | [], fp, vs => fp = [] ∧ vs = []
  | d :: ds, fp, vs => ∃ f1 f2 v us, fp = f1 ++ f2 ∧ vs = v :: us ∧ R H W d f1 v ∧ Rs H W ds f2 us
end
end

mutual
/-- nothing of it is owned any more -/
def D.fz : D → D
  | .non => .non | .bl b => .bl b | .int i => .int i | .str s => .str s
  | .tup xs => .tup (fzs xs)
  | .lst _ xs => .lst false (fzs xs)
  | .ins _ c ns xs => .ins false c ns (fzs xs)
  | .dic _ ks xs => .dic false ks (fzs xs)
  | .scr ns => .scr ns
def fzs : List D → List D
  | [] => []
  | d :: ds => d.fz :: fzs ds
end
theorem fzs_map : ∀ ds : List D, fzs ds = ds.map D.fz
  | [] => rfl
  | d :: ds => by rw [fzs, fzs_map ds, List.map_cons]

mutual
/-- nothing in it can be changed: scalars, and tuples of such -/
def D.im : D → Bool
  | .non => true | .bl _ => true | .int _ => true | .str _ => true
  | .tup xs => ims xs
  | .lst _ _ => false
  | .ins _ _ _ _ => false
  | .dic _ _ _ => false
  | .scr _ => true
def ims : List D → Bool
  | [] => true
  | d :: ds => d.im && ims ds
end
theorem ims_all : ∀ ds : List D, ims ds = ds.all D.im
  | [] => rfl
  | d :: ds => by rw [ims, ims_all ds, List.all_cons]
mutual
theorem D.fz_im : ∀ d : D, d.im = true → d.fz = d
  | .non, _ => rfl | .bl _, _ => rfl | .int _, _ => rfl | .str _, _ => rfl
  | .tup xs, h => by rw [D.fz, fzs_im xs (by rwa [D.im] at h)]
  | .lst _ _, h => by simp [D.im] at h
  | .ins _ _ _ _, h => by simp [D.im] at h
  | .dic _ _ _, h => by simp [D.im] at h
  | .scr _, _ => rfl
theorem fzs_im : ∀ ds : List D, ims ds = true → fzs ds = ds
  | [], _ => rfl
  | d :: ds, h => by
    rw [ims, Bool.and_eq_true] at h
    rw [fzs, D.fz_im d h.1, fzs_im ds h.2]
end

/-! ### how the relation goes on -/
section
variable {mg : G} {H H' : Hp} {W W' : Addr → Prop}
theorem rd_some {a : Addr} {u : HO} (h : Rd H a u) : H a ≠ none := by
  rcases h with h | ⟨o, h⟩ <;> rw [h] <;> simp
theorem rd_to {a : Addr} {u : HO} (h : Rd H a u) (k : ∀ x, H a = Option.some x → H' a = Option.some x) : Rd H' a u := by
  rcases h with h | ⟨o, h⟩
  · exact .inl (k _ h)
  · exact .inr ⟨o, k _ h⟩
mutual
theorem R.mono : ∀ (d : D) (fp : List Addr) (v : V), R mg H W d fp v → (∀ b x, H b = some x → (¬ W b ∨ b ∈ fp) → H' b = some x) → (∀ b, ¬ W b → H b ≠ none → ¬ W' b) → R mg H' W' d fp v
  | .non, _, _, h, _, _ => h
  | .bl _, _, _, h, _, _ => h
  | .int _, _, _, h, _, _ => h
  | .str _, _, _, h, _, _ => h
  | .tup xs, fp, v, h, k, kw => by
    simp only [R] at h ⊢
    obtain ⟨a, vs, e, ⟨h1, h2⟩, h3⟩ := h
    exact ⟨a, vs, e, ⟨k _ _ h1 (.inl h2), kw _ h2 (by rw [h1]; simp)⟩, Rs.mono xs fp vs h3 k kw⟩
  | .lst true xs, fp, v, h, k, kw => by
    simp only [R] at h ⊢
    obtain ⟨a, vs, f1, e, e1, h1, h2⟩ := h
    subst e1
    exact ⟨a, vs, f1, e, rfl, k _ _ h1 (.inr List.mem_cons_self), Rs.mono xs f1 vs h2 (fun b x q z => k b x q (z.imp id (List.mem_cons_of_mem _))) kw⟩
  | .lst false xs, fp, v, h, k, kw => by
    simp only [R] at h ⊢
    obtain ⟨e1, a, vs, e, ⟨h1, h2⟩, h3⟩ := h
    subst e1
    exact ⟨rfl, a, vs, e, ⟨k _ _ h1 (.inl h2), kw _ h2 (by rw [h1]; simp)⟩, Rs.mono xs [] vs h3 k kw⟩
  | .ins true c ns xs, fp, v, h, k, kw => by
    simp only [R] at h ⊢
    obtain ⟨a, C, dx, fs, f1, e, e1, hc, h1, hn, h2⟩ := h
    subst e1
    exact ⟨a, C, dx, fs, f1, e, rfl, hc, k _ _ h1 (.inr List.mem_cons_self), hn, Rs.mono xs f1 _ h2 (fun b x q z => k b x q (z.imp id (List.mem_cons_of_mem _))) kw⟩
  | .ins false c ns xs, fp, v, h, k, kw => by
    simp only [R] at h ⊢
    obtain ⟨e1, a, C, dx, fs, e, hc, ⟨h1, h2⟩, hn, h3⟩ := h
    subst e1
    exact ⟨rfl, a, C, dx, fs, e, hc, ⟨k _ _ h1 (.inl h2), kw _ h2 (by rw [h1]; simp)⟩, hn, Rs.mono xs [] _ h3 k kw⟩
  | .dic true ks xs, fp, v, h, k, kw => by
    simp only [R] at h ⊢
    obtain ⟨a, kvs, f1, e, e1, h1, hn, h2⟩ := h
    subst e1
    exact ⟨a, kvs, f1, e, rfl, k _ _ h1 (.inr List.mem_cons_self), hn, Rs.mono xs f1 _ h2 (fun b x q z => k b x q (z.imp id (List.mem_cons_of_mem _))) kw⟩
  | .dic false ks xs, fp, v, h, k, kw => by
    simp only [R] at h ⊢
    obtain ⟨e1, a, kvs, e, ⟨h1, h2⟩, hn, h3⟩ := h
    subst e1
    exact ⟨rfl, a, kvs, e, ⟨k _ _ h1 (.inl h2), kw _ h2 (by rw [h1]; simp)⟩, hn, Rs.mono xs [] _ h3 k kw⟩
  | .scr ns, fp, v, h, k, kw => by
    simp only [R] at h ⊢
    obtain ⟨e1, a, e, ⟨o, h1, h2⟩ | h⟩ := h
    · exact ⟨e1, a, e, .inl ⟨o, k _ _ h1 (.inl h2), kw _ h2 (by rw [h1]; simp)⟩⟩
    · exact ⟨e1, a, e, .inr h⟩
theorem Rs.mono : ∀ (ds : List D) (fp : List Addr) (vs : List V), Rs mg H W ds fp vs → (∀ b x, H b = some x → (¬ W b ∨ b ∈ fp) → H' b = some x) → (∀ b, ¬ W b → H b ≠ none → ¬ W' b) → Rs mg H' W' ds fp vs
  | [], _, _, h, _, _ => h
  | d :: ds, fp, vs, h, k, kw => by
    simp only [Rs] at h ⊢
    obtain ⟨f1, f2, v, us, e, e1, h1, h2⟩ := h
    subst e
    exact ⟨f1, f2, v, us, rfl, e1, R.mono d f1 v h1 (fun b x q z => k b x q (z.imp id (List.mem_append_left _))) kw, Rs.mono ds f2 us h2 (fun b x q z => k b x q (z.imp id (List.mem_append_right _))) kw⟩
end
mutual
/-- what is owned is owned no more -/
theorem R.freeze : ∀ (d : D) (fp : List Addr) (v : V), R mg H W d fp v → (∀ b, W' b → W b) → (∀ b ∈ fp, ¬ W' b) → R mg H W' d.fz [] v
  | .non, _, _, h, _, _ => ⟨rfl, h.2⟩
  | .bl _, _, _, h, _, _ => ⟨rfl, h.2⟩
  | .int _, _, _, h, _, _ => ⟨rfl, h.2⟩
  | .str _, _, _, h, _, _ => ⟨rfl, h.2⟩
  | .tup xs, fp, v, h, k, kw => by
    simp only [R, D.fz] at h ⊢
    obtain ⟨a, vs, e, ⟨h1, h2⟩, h3⟩ := h
    exact ⟨a, vs, e, ⟨h1, fun z => h2 (k _ z)⟩, Rs.freeze xs fp vs h3 k kw⟩
  | .lst true xs, fp, v, h, k, kw => by
    simp only [R, D.fz] at h ⊢
    obtain ⟨a, vs, f1, e, e1, h1, h2⟩ := h
    subst e1
    exact ⟨trivial, a, vs, e, ⟨h1, kw _ List.mem_cons_self⟩, Rs.freeze xs f1 vs h2 k fun b z => kw b (List.mem_cons_of_mem _ z)⟩
  | .lst false xs, fp, v, h, k, kw => by
    simp only [R, D.fz] at h ⊢
    obtain ⟨e1, a, vs, e, ⟨h1, h2⟩, h3⟩ := h
    exact ⟨trivial, a, vs, e, ⟨h1, fun z => h2 (k _ z)⟩, Rs.freeze xs [] vs h3 k fun b z => absurd z (by simp)⟩
  | .ins true c ns xs, fp, v, h, k, kw => by
    simp only [R, D.fz] at h ⊢
    obtain ⟨a, C, dx, fs, f1, e, e1, hc, h1, hn, h2⟩ := h
    subst e1
    exact ⟨trivial, a, C, dx, fs, e, hc, ⟨h1, kw _ List.mem_cons_self⟩, hn, Rs.freeze xs f1 _ h2 k fun b z => kw b (List.mem_cons_of_mem _ z)⟩
  | .ins false c ns xs, fp, v, h, k, kw => by
    simp only [R, D.fz] at h ⊢
    obtain ⟨e1, a, C, dx, fs, e, hc, ⟨h1, h2⟩, hn, h3⟩ := h
    exact ⟨trivial, a, C, dx, fs, e, hc, ⟨h1, fun z => h2 (k _ z)⟩, hn, Rs.freeze xs [] _ h3 k fun b z => absurd z (by simp)⟩
  | .dic true ks xs, fp, v, h, k, kw => by
    simp only [R, D.fz] at h ⊢
    obtain ⟨a, kvs, f1, e, e1, h1, hn, h2⟩ := h
    subst e1
    exact ⟨trivial, a, kvs, e, ⟨h1, kw _ List.mem_cons_self⟩, hn, Rs.freeze xs f1 _ h2 k fun b z => kw b (List.mem_cons_of_mem _ z)⟩
  | .dic false ks xs, fp, v, h, k, kw => by
    simp only [R, D.fz] at h ⊢
    obtain ⟨e1, a, kvs, e, ⟨h1, h2⟩, hn, h3⟩ := h
    exact ⟨trivial, a, kvs, e, ⟨h1, fun z => h2 (k _ z)⟩, hn, Rs.freeze xs [] _ h3 k fun b z => absurd z (by simp)⟩
  | .scr ns, fp, v, h, k, kw => by
    simp only [R, D.fz] at h ⊢
    obtain ⟨e1, a, e, ⟨o, h1, h2⟩ | h⟩ := h
    · exact ⟨trivial, a, e, .inl ⟨o, h1, fun z => h2 (k _ z)⟩⟩
    · exact ⟨trivial, a, e, .inr h⟩
theorem Rs.freeze : ∀ (ds : List D) (fp : List Addr) (vs : List V), Rs mg H W ds fp vs → (∀ b, W' b → W b) → (∀ b ∈ fp, ¬ W' b) → Rs mg H W' (fzs ds) [] vs
  | [], _, _, h, _, _ => ⟨rfl, h.2⟩
  | d :: ds, fp, vs, h, k, kw => by
    simp only [Rs, fzs] at h ⊢
    obtain ⟨f1, f2, v, us, e, e1, h1, h2⟩ := h
    subst e
    exact ⟨[], [], v, us, rfl, e1, R.freeze d f1 v h1 k fun b z => kw b (List.mem_append_left _ z), Rs.freeze ds f2 us h2 k fun b z => kw b (List.mem_append_right _ z)⟩
end
mutual
/-- what cannot be changed stands whatever W is, if W' has only what can be changed -/
theorem R.imTo : ∀ (d : D) (fp : List Addr) (v : V), R mg H W d fp v → d.im = true → (∀ b, W' b → Mut (H b)) → fp = [] ∧ R mg H W' d [] v
  | .non, _, _, h, _, _ => ⟨h.1, rfl, h.2⟩
  | .bl _, _, _, h, _, _ => ⟨h.1, rfl, h.2⟩
  | .int _, _, _, h, _, _ => ⟨h.1, rfl, h.2⟩
  | .str _, _, _, h, _, _ => ⟨h.1, rfl, h.2⟩
  | .tup xs, fp, v, h, i, kw => by
    simp only [R, D.im] at h i ⊢
    obtain ⟨a, vs, e, ⟨h1, h2⟩, h3⟩ := h
    obtain ⟨q1, q2⟩ := Rs.imTo xs fp vs h3 i kw
    refine ⟨q1, a, vs, e, ⟨h1, fun z => ?_⟩, q2⟩
    have m := kw a z
    rw [h1] at m; exact m
  | .lst _ _, _, _, _, i, _ => by simp [D.im] at i
  | .ins _ _ _ _, _, _, _, i, _ => by simp [D.im] at i
  | .dic _ _ _, _, _, _, i, _ => by simp [D.im] at i
  | .scr ns, fp, v, h, i, kw => by
    simp only [R] at h ⊢
    obtain ⟨e1, a, e, ⟨o, h1, h2⟩ | h⟩ := h
    · refine ⟨e1, trivial, a, e, .inl ⟨o, h1, fun z => ?_⟩⟩
      have m := kw a z
      rw [h1] at m; exact m
    · exact ⟨e1, trivial, a, e, .inr h⟩
theorem Rs.imTo : ∀ (ds : List D) (fp : List Addr) (vs : List V), Rs mg H W ds fp vs → ims ds = true → (∀ b, W' b → Mut (H b)) → fp = [] ∧ Rs mg H W' ds [] vs
  | [], _, _, h, _, _ => ⟨h.1, rfl, h.2⟩
  | d :: ds, fp, vs, h, i, kw => by
    simp only [Rs, ims, Bool.and_eq_true] at h i ⊢
    obtain ⟨f1, f2, v, us, e, e1, h1, h2⟩ := h
    obtain ⟨q1, q2⟩ := R.imTo d f1 v h1 i.1 kw
    obtain ⟨q3, q4⟩ := Rs.imTo ds f2 us h2 i.2 kw
    subst q1 q3 e
    exact ⟨rfl, [], [], v, us, rfl, e1, q2, q4⟩
end
mutual
theorem R.mut : ∀ (d : D) (fp : List Addr) (v : V), R mg H W d fp v → ∀ b ∈ fp, Mut (H b)
  | .non, _, _, h => by rw [h.1]; simp
  | .bl _, _, _, h => by rw [h.1]; simp
  | .int _, _, _, h => by rw [h.1]; simp
  | .str _, _, _, h => by rw [h.1]; simp
  | .tup xs, fp, v, h => by
    simp only [R] at h
    obtain ⟨a, vs, e, _, h3⟩ := h
    exact Rs.mut xs fp vs h3
  | .lst true xs, fp, v, h => by
    simp only [R] at h
    obtain ⟨a, vs, f1, e, e1, h1, h2⟩ := h
    subst e1
    intro b hb
    rcases List.mem_cons.mp hb with rfl | hb
    · rw [h1]; trivial
    · exact Rs.mut xs f1 vs h2 b hb
  | .lst false xs, fp, v, h => by simp only [R] at h; rw [h.1]; simp
  | .ins true c ns xs, fp, v, h => by
    simp only [R] at h
    obtain ⟨a, C, dx, fs, f1, e, e1, hc, h1, hn, h2⟩ := h
    subst e1
    intro b hb
    rcases List.mem_cons.mp hb with rfl | hb
    · rw [h1]; trivial
    · exact Rs.mut xs f1 _ h2 b hb
  | .ins false c ns xs, fp, v, h => by simp only [R] at h; rw [h.1]; simp
  | .dic true ks xs, fp, v, h => by
    simp only [R] at h
    obtain ⟨a, kvs, f1, e, e1, h1, hn, h2⟩ := h
    subst e1
    intro b hb
    rcases List.mem_cons.mp hb with rfl | hb
    · rw [h1]; trivial
    · exact Rs.mut xs f1 _ h2 b hb
  | .dic false ks xs, fp, v, h => by simp only [R] at h; rw [h.1]; simp
  | .scr ns, fp, v, h => by simp only [R] at h; rw [h.1]; simp
theorem Rs.mut : ∀ (ds : List D) (fp : List Addr) (vs : List V), Rs mg H W ds fp vs → ∀ b ∈ fp, Mut (H b)
  | [], _, _, h => by rw [h.1]; simp
  | d :: ds, fp, vs, h => by
    simp only [Rs] at h
    obtain ⟨f1, f2, v, us, e, e1, h1, h2⟩ := h
    subst e
    intro b hb
    rcases List.mem_append.mp hb with hb | hb
    · exact R.mut d f1 v h1 b hb
    · exact Rs.mut ds f2 us h2 b hb
end
theorem mut_some {o : Option HO} (h : Mut o) : o ≠ none := by
  intro e; subst e; exact h
theorem Rs.app : ∀ (as bs : List D) (fp : List Addr) (vs : List V), Rs mg H W (as ++ bs) fp vs ↔ ∃ f1 f2 v1 v2, fp = f1 ++ f2 ∧ vs = v1 ++ v2 ∧ Rs mg H W as f1 v1 ∧ Rs mg H W bs f2 v2
  | [], bs, fp, vs => by
    constructor
    · intro h; exact ⟨[], fp, [], vs, rfl, rfl, ⟨rfl, rfl⟩, h⟩
    · rintro ⟨f1, f2, v1, v2, rfl, rfl, h1, h2⟩
      obtain ⟨rfl, rfl⟩ := h1
      exact h2
  | a :: as, bs, fp, vs => by
    simp only [List.cons_append, Rs, Rs.app as bs]
    constructor
    · rintro ⟨f1, f2, v, us, rfl, rfl, h1, g1, g2, v1, v2, rfl, rfl, h2, h3⟩
      exact ⟨f1 ++ g1, g2, v :: v1, v2, by rw [List.append_assoc], rfl, ⟨f1, g1, v, v1, rfl, rfl, h1, h2⟩, h3⟩
    · rintro ⟨f1, f2, v1, v2, rfl, rfl, ⟨g1, g2, v, us, rfl, rfl, h1, h2⟩, h3⟩
      exact ⟨g1, g2 ++ f2, v, us ++ v2, by rw [List.append_assoc], rfl, h1, g2, f2, us, v2, rfl, rfl, h2, h3⟩
theorem Rs.one {d : D} {fp : List Addr} {v : V} (h : R mg H W d fp v) : Rs mg H W [d] fp [v] := ⟨fp, [], v, [], by simp, rfl, h, rfl, rfl⟩
theorem Rs.len : ∀ {ds : List D} {fp : List Addr} {vs : List V}, Rs mg H W ds fp vs → ds.length = vs.length
  | [], _, _, h => by rw [h.2]; rfl
  | d :: ds, fp, vs, h => by
    obtain ⟨f1, f2, v, us, e, e1, h1, h2⟩ := h
    subst e1
    rw [List.length_cons, List.length_cons, Rs.len h2]
end

end VL


set_option Elab.async false
set_option linter.all false
set_option maxRecDepth 100000
set_option maxHeartbeats 4000000
namespace VL
open PySem PySem.Spec L2
open PyProof.Rows hiding St

abbrev Env := List (Option D)
/-- an exception: its class's name, its fields -/
structure Ex where
  cls : Str
  ns : List Str := []
  xs : List D := []
inductive Res (α : Type) where
  | ok (a : α) (e : Env)
  | exc (x : Ex) (e : Env)
  | bad
abbrev M (α : Type) := Env → Res α
def M.pure {α : Type} (a : α) : M α := fun e => .ok a e
def M.bind {α β : Type} (m : M α) (f : α → M β) : M β := fun e => match m e with
  | .ok a e' => f a e'
  | .exc x e' => .exc x e'
  | .bad => .bad
def M.bad {α : Type} : M α := fun _ => .bad
def M.raise {α : Type} (x : Ex) : M α := fun e => .exc x e
def M.ofO {α : Type} : Option α → M α
  | some a => M.pure a
  | none => M.bad
def M.map {α β : Type} (f : α → β) (m : M α) : M β := M.bind m fun a => M.pure (f a)
instance : Monad M where
  pure := M.pure
  bind := M.bind

section
variable (mg : G)
/-- the slots -/
def EnvR (H : Hp) (W : Addr → Prop) : Env → List Addr → St → Prop
  | [], fp, σ => fp = [] ∧ σ = []
  | none :: es, fp, σ => ∃ x τ, σ = x :: τ ∧ EnvR H W es fp τ
  | some d :: es, fp, σ => ∃ f1 f2 v τ, fp = f1 ++ f2 ∧ σ = some v :: τ ∧ R mg H W d f1 v ∧ EnvR H W es f2 τ
abbrev Wx (W0 : Addr → Prop) (fe fd : List Addr) : Addr → Prop := fun b => W0 b ∨ b ∈ fe ∨ b ∈ fd
/-- a state: the slots, and some values at hand -/
structure Top (W0 : Addr → Prop) (env : Env) (fe : List Addr) (σ : St) (ds : List D) (fd : List Addr) (vs : List V) (H : Hp) : Prop where
  e : EnvR mg H (Wx W0 fe fd) env fe σ
  t : Rs mg H (Wx W0 fe fd) ds fd vs
  nd : (fe ++ fd).Nodup
  w0 : ∀ b, W0 b → Mut (H b)
  ap : ∀ b ∈ fe ++ fd, ¬ W0 b
end
/-- all but fe is kept -/
def Fr (fe : List Addr) (H H' : Hp) : Prop := ∀ b x, H b = some x → b ∉ fe → H' b = some x
def Nw (H : Hp) (fe l : List Addr) : Prop := ∀ b ∈ l, b ∈ fe ∨ H b = none

section
variable {mg : G} {H H' H1 H2 : Hp} {W W' W0 : Addr → Prop} {env env' : Env} {fe fe' fe1 fe2 fd fd' fp : List Addr} {σ σ' : St} {ds ds' : List D} {vs vs' : List V}
theorem EnvR.mono : ∀ {env : Env} {fp : List Addr} {σ : St}, EnvR mg H W env fp σ → (∀ b x, H b = some x → (¬ W b ∨ b ∈ fp) → H' b = some x) → (∀ b, ¬ W b → H b ≠ none → ¬ W' b) → EnvR mg H' W' env fp σ
  | [], _, _, h, _, _ => h
  | none :: es, fp, σ, h, k, kw => by
    simp only [EnvR] at h ⊢
    obtain ⟨x, τ, e, h⟩ := h
    exact ⟨x, τ, e, h.mono k kw⟩
  | some d :: es, fp, σ, h, k, kw => by
    simp only [EnvR] at h ⊢
    obtain ⟨f1, f2, v, τ, e, e1, h1, h2⟩ := h
    subst e
    exact ⟨f1, f2, v, τ, rfl, e1, R.mono d f1 v h1 (fun b x q z => k b x q (z.imp id (List.mem_append_left _))) kw, h2.mono (fun b x q z => k b x q (z.imp id (List.mem_append_right _))) kw⟩
theorem EnvR.mut : ∀ {env : Env} {fp : List Addr} {σ : St}, EnvR mg H W env fp σ → ∀ b ∈ fp, Mut (H b)
  | [], _, _, h => by rw [h.1]; simp
  | none :: es, fp, σ, h => by
    simp only [EnvR] at h
    obtain ⟨x, τ, e, h⟩ := h
    exact h.mut
  | some d :: es, fp, σ, h => by
    simp only [EnvR] at h
    obtain ⟨f1, f2, v, τ, e, e1, h1, h2⟩ := h
    subst e
    intro b hb
    rcases List.mem_append.mp hb with hb | hb
    · exact R.mut d f1 v h1 b hb
    · exact h2.mut b hb
theorem EnvR.len : ∀ {env : Env} {fp : List Addr} {σ : St}, EnvR mg H W env fp σ → env.length = σ.length
  | [], _, _, h => by rw [h.2]; rfl
  | none :: es, fp, σ, h => by
    simp only [EnvR] at h
    obtain ⟨x, τ, rfl, h⟩ := h
    simp [h.len]
  | some d :: es, fp, σ, h => by
    simp only [EnvR] at h
    obtain ⟨f1, f2, v, τ, e, rfl, h1, h2⟩ := h
    simp [h2.len]
theorem Fr.refl : Fr fe H H := fun _ _ h _ => h
theorem Fr.trans (a : Fr fe H H1) (n : Nw H fe fe1) (b : Fr fe1 H1 H2) : Fr fe H H2 := fun c x h hc =>
  b c x (a c x h hc) fun z => (n c z).elim hc fun q => by rw [h] at q; cases q
theorem Fr.kp (k : Same H H') : Fr fe H H' := fun b x h _ => k b x h
theorem Nw.refl : Nw H fe fe := fun _ h => .inl h
theorem Fr.none (a : Fr fe H H1) {b : Addr} (h : H1 b = Option.none) (hb : b ∉ fe) : H b = Option.none := by
  cases q : H b with
  | none => rfl
  | some x => rw [a b x q hb] at h; cases h
theorem Nw.trans (a : Fr fe H H1) (n : Nw H fe fe1) {l : List Addr} (m : Nw H1 fe1 l) : Nw H fe l := fun b hb => by
  rcases m b hb with z | z
  · exact n b z
  · by_cases hf : b ∈ fe
    · exact .inl hf
    · exact .inr (a.none z hf)
theorem Nw.sub {l l' : List Addr} (n : Nw H fe l) (h : ∀ b ∈ l', b ∈ l) : Nw H fe l' := fun b hb => n b (h b hb)
theorem Nw.left {l l' : List Addr} (n : Nw H fe (l ++ l')) : Nw H fe l := n.sub fun b h => List.mem_append_left _ h
theorem Nw.right {l l' : List Addr} (n : Nw H fe (l ++ l')) : Nw H fe l' := n.sub fun b h => List.mem_append_right _ h
theorem Nw.app {l l' : List Addr} (n : Nw H fe l) (m : Nw H fe l') : Nw H fe (l ++ l') := fun b h => (List.mem_append.mp h).elim (n b) (m b)

theorem Top.tr (I : Top mg W0 env fe σ ds fd vs H) : ∀ b, (W0 b ∨ b ∈ fe ∨ b ∈ fd) → H b ≠ none := fun b h => by
  rcases h with h | h | h
  · exact mut_some (I.w0 b h)
  · exact mut_some (I.e.mut b h)
  · exact mut_some (Rs.mut ds fd vs I.t b h)
theorem Top.lift (I : Top mg W0 env fe σ ds fd vs H) : Top mg (fun b => W0 b ∨ b ∈ fd) env fe σ [] [] [] H := by
  have iff : ∀ b, ¬ Wx W0 fe fd b → H b ≠ none → ¬ Wx (fun b => W0 b ∨ b ∈ fd) fe [] b := fun b h _ z => by
    rcases z with (z | z) | z | z
    · exact h (.inl z)
    · exact h (.inr (.inr z))
    · exact h (.inr (.inl z))
    · simp at z
  refine ⟨I.e.mono (fun b x q _ => q) iff, ⟨rfl, rfl⟩, ?_, fun b h => ?_, fun b hb h => ?_⟩
  · have := I.nd
    rw [List.append_nil]
    exact (List.nodup_append.mp this).1
  · rcases h with h | h
    · exact I.w0 b h
    · exact Rs.mut ds fd vs I.t b h
  · rw [List.append_nil] at hb
    rcases h with h | h
    · exact I.ap b (List.mem_append_left _ hb) h
    · exact (List.nodup_append.mp I.nd).2.2 b hb b h rfl
theorem Top.back (I : Top mg W0 env fe σ ds fd vs H) (fr : Fr fe H H') (nw : Nw H fe (fe' ++ fd')) (J : Top mg (fun b => W0 b ∨ b ∈ fd) env' fe' σ' ds' fd' vs' H') :
    Top mg W0 env' fe' σ' (ds ++ ds') (fd ++ fd') (vs ++ vs') H' := by
  have nd' := List.nodup_append.mp I.nd
  have fdfe : ∀ b ∈ fd, b ∉ fe := fun b h z => nd'.2.2 b z b h rfl
  have sep : ∀ b ∈ fd, b ∉ fe' ++ fd' := fun b h z => by
    rcases nw b z with q | q
    · exact fdfe b h q
    · exact I.tr b (.inr (.inr h)) q
  have w1 : ∀ b, ¬ Wx (fun b => W0 b ∨ b ∈ fd) fe' fd' b → H' b ≠ none → ¬ Wx W0 fe' (fd ++ fd') b := fun b h _ z => by
    rcases z with z | z | z
    · exact h (.inl (.inl z))
    · exact h (.inr (.inl z))
    · rcases List.mem_append.mp z with z | z
      · exact h (.inl (.inr z))
      · exact h (.inr (.inr z))
  refine ⟨J.e.mono (fun b x q _ => q) w1, ?_, ?_, fun b h => ?_, fun b hb h => ?_⟩
  · refine (Rs.app ds ds' _ _).mpr ⟨fd, fd', vs, vs', rfl, rfl, Rs.mono ds fd vs I.t (fun b x q z => fr b x q fun hf => ?_) (fun b h t z => ?_), Rs.mono ds' fd' vs' J.t (fun b x q _ => q) w1⟩
    · rcases z with z | z
      · exact z (.inr (.inl hf))
      · exact fdfe b z hf
    · rcases z with z | z | z
      · exact h (.inl z)
      · rcases nw b (List.mem_append_left _ z) with q | q
        · exact h (.inr (.inl q))
        · exact t q
      · rcases List.mem_append.mp z with z | z
        · exact h (.inr (.inr z))
        · rcases nw b (List.mem_append_right _ z) with q | q
          · exact h (.inr (.inl q))
          · exact t q
  · have j := List.nodup_append.mp J.nd
    refine List.nodup_append.mpr ⟨j.1, List.nodup_append.mpr ⟨nd'.2.1, j.2.1, fun a ha b hb e => sep a ha (by rw [e]; exact List.mem_append_right _ hb)⟩, fun a ha b hb e => ?_⟩
    rcases List.mem_append.mp hb with hb | hb
    · exact sep b hb (by rw [← e]; exact List.mem_append_left _ ha)
    · exact j.2.2 a ha b hb e
  · exact J.w0 b (.inl h)
  · rcases List.mem_append.mp hb with hb | hb
    · exact J.ap b (List.mem_append_left _ hb) (.inl h)
    · rcases List.mem_append.mp hb with hb | hb
      · exact I.ap b (List.mem_append_right _ hb) h
      · exact J.ap b (List.mem_append_right _ hb) (.inl h)
/-- the values at hand frozen -/
theorem Top.frz (I : Top mg W0 env fe σ ds fd vs H) : Top mg W0 env fe σ (fzs ds) [] vs H := by
  have nd' := List.nodup_append.mp I.nd
  have w1 : ∀ b, ¬ Wx W0 fe fd b → H b ≠ none → ¬ Wx W0 fe [] b := fun b h _ z => by
    rcases z with z | z | z
    · exact h (.inl z)
    · exact h (.inr (.inl z))
    · simp at z
  refine ⟨I.e.mono (fun b x q _ => q) w1, Rs.freeze ds fd vs I.t (fun b z => ?_) (fun b hb z => ?_), by rw [List.append_nil]; exact nd'.1, I.w0, fun b hb => I.ap b ?_⟩
  · rcases z with z | z | z
    · exact .inl z
    · exact .inr (.inl z)
    · simp at z
  · rcases z with z | z | z
    · exact I.ap b (List.mem_append_right _ hb) z
    · exact nd'.2.2 b z b hb rfl
    · simp at z
  · rw [List.append_nil] at hb
    exact List.mem_append_left _ hb
/-- the values at hand dropped -/
theorem Top.drop (I : Top mg W0 env fe σ ds fd vs H) : Top mg W0 env fe σ [] [] [] H := by
  have J := I.frz
  exact ⟨J.e, ⟨rfl, rfl⟩, J.nd, J.w0, J.ap⟩
/-- new things come -/
theorem Top.grow (I : Top mg W0 env fe σ [] [] [] H) (k : Same H H') (nf : ∀ b ∈ fd, H b = none) (nd : fd.Nodup) (t : Rs mg H' (fun b => Wx W0 fe [] b ∨ b ∈ fd) ds fd vs) : Top mg W0 env fe σ ds fd vs H' := by
  have nfe : ∀ b ∈ fe, b ∉ fd := fun b hb z => I.tr b (.inr (.inl hb)) (nf b z)
  refine ⟨I.e.mono (fun b x q _ => k b x q) (fun b h t z => ?_), Rs.mono ds fd vs t (fun b x q _ => q) (fun b h _ z => ?_), List.nodup_append.mpr ⟨by have := I.nd; rwa [List.append_nil] at this, nd, fun a ha b hb e => nfe a ha (e ▸ hb)⟩, fun b h => ?_, fun b hb h => ?_⟩
  · rcases z with z | z | z
    · exact h (.inl z)
    · exact h (.inr (.inl z))
    · exact t (nf b z)
  · rcases z with z | z | z
    · exact h (.inl (.inl z))
    · exact h (.inl (.inr (.inl z)))
    · exact h (.inr z)
  · have m := I.w0 b h
    cases q : H b with
    | none => rw [q] at m; exact m.elim
    | some x => rw [q] at m; rw [k b x q]; exact m
  · rcases List.mem_append.mp hb with hb | hb
    · exact I.ap b (by rw [List.append_nil]; exact hb) h
    · exact mut_some (I.w0 b h) (nf b hb)
end

/-! ### the judgements -/
/-- how an exception lies -/
def ExR (mg : G) (H : Hp) (W : Addr → Prop) (x : Ex) (cls : Value) (dd : Option Addr) : Prop :=
  ∃ C, mg x.cls = some (.ref C) ∧ cls = .ref C ∧ (x.ns ≠ [] → ∃ d fs, dd = some d ∧ H d = some (.xd fs) ∧ fs.map (·.1) = x.ns ∧ Rs mg H W x.xs [] (fs.map (·.2)))
section
variable (mg : G) (Wi : WX)
def EndE (W0 : Addr → Prop) (fe : List Addr) (σ : St) (H : Hp) (Q : VK) : Res D → Prop
  | .ok d env' => ∀ v H' fe' fd, Fr fe H H' → Nw H fe (fe' ++ fd) → Top mg W0 env' fe' σ [d] fd [v] H' → Q v H'
  | .exc x env' => ∀ cls dd H' fe', Fr fe H H' → Nw H fe fe' → Top mg W0 env' fe' σ [] [] [] H' → ExR mg H' (Wx W0 fe' []) x cls dd → Wi cls dd σ H'
  | .bad => False
def EndA (W0 : Addr → Prop) (fe : List Addr) (σ : St) (H : Hp) (Q : List V → Hp → Prop) : Res (List D) → Prop
  | .ok ds env' => ∀ vs H' fe' fd, Fr fe H H' → Nw H fe (fe' ++ fd) → Top mg W0 env' fe' σ ds fd vs H' → Q vs H'
  | .exc x env' => ∀ cls dd H' fe', Fr fe H H' → Nw H fe fe' → Top mg W0 env' fe' σ [] [] [] H' → ExR mg H' (Wx W0 fe' []) x cls dd → Wi cls dd σ H'
  | .bad => False
def EndT {α : Type} (W0 : Addr → Prop) (fe : List Addr) (σ : St) (H : Hp) (Q : α → Hp → Prop) : Res α → Prop
  | .ok b env' => ∀ H' fe', Fr fe H H' → Nw H fe fe' → Top mg W0 env' fe' σ [] [] [] H' → Q b H'
  | .exc x env' => ∀ cls dd H' fe', Fr fe H H' → Nw H fe fe' → Top mg W0 env' fe' σ [] [] [] H' → ExR mg H' (Wx W0 fe' []) x cls dd → Wi cls dd σ H'
  | .bad => False
def tM (m : M D) : TE := fun σ H Q => ∃ W0 env fe, Top mg W0 env fe σ [] [] [] H ∧ EndE mg Wi W0 fe σ H Q (m env)
def tA (m : M (List D)) : TA := fun σ H Q => ∃ W0 env fe, Top mg W0 env fe σ [] [] [] H ∧ EndA mg Wi W0 fe σ H Q (m env)
def tT {α : Type} (m : M α) : St → Hp → (α → Hp → Prop) → Prop := fun σ H Q => ∃ W0 env fe, Top mg W0 env fe σ [] [] [] H ∧ EndT mg Wi W0 fe σ H Q (m env)
end
section
variable {X : Cx} {Wi : WX}
theorem pe_imp {e : Expr} {t t' : TE} (h : PE X e t) (k : ∀ σ H Q, t' σ H Q → t σ H Q) : PE X e t' := ⟨fun pins s σ H Q I q => h.run pins s σ H Q I (k σ H Q q)⟩
theorem pa_imp {es : List Expr} {t t' : TA} (h : PA X es t) (k : ∀ σ H Q, t' σ H Q → t σ H Q) : PA X es t' := ⟨fun pos pins s σ H Q I q => h.run pos pins s σ H Q I (k σ H Q q)⟩
theorem pt_imp {e : Expr} {t t' : TT} (h : PT X e t) (k : ∀ σ H Q, t' σ H Q → t σ H Q) : PT X e t' := ⟨fun pins s σ H Q I q => h.run pins s σ H Q I (k σ H Q q)⟩
theorem ps_imp {st : Stmt} {t t' : TS} (h : PS X st t) (k : ∀ D σ H, t' D σ H → t D σ H) : PS X st t' := ⟨fun pins s σ H D I q => h.run pins s σ H D I (k D σ H q)⟩
theorem pss_imp {st : List Stmt} {t t' : TS} (h : PSs X st t) (k : ∀ D σ H, t' D σ H → t D σ H) : PSs X st t' := ⟨fun pins s σ H D I q => h.run pins s σ H D I (k D σ H q)⟩
abbrev PM (X : Cx) (Wi : WX) (e : Expr) (m : M D) : Prop := PE X e (tM X.gg Wi m)
abbrev PMA (X : Cx) (Wi : WX) (es : List Expr) (m : M (List D)) : Prop := PA X es (tA X.gg Wi m)
abbrev PMT (X : Cx) (Wi : WX) (e : Expr) (m : M Bool) : Prop := PT X e (tT X.gg Wi m)
end

/-! ### a value-level operation -/
/-- reading r computes g of frozen data -/
def OpS (mg : G) (r : List V → Hp → VK → Prop) (g : List D → Option D) : Prop :=
  ∀ (W : Addr → Prop) (H : Hp) (ds : List D) (vs : List V) (d : D) (Q : VK), Rs mg H W ds [] vs → (∀ b, W b → H b ≠ none) → g ds = some d →
    (∀ v H' fd, Same H H' → (∀ b ∈ fd, H b = none) → fd.Nodup → R mg H' (fun b => W b ∨ b ∈ fd) d fd v → Q v H') → r vs H Q
section
variable {mg : G} {Wi : WX} {W0 : Addr → Prop} {fe fe1 fd : List Addr} {env env1 : Env} {σ : St} {H H1 : Hp} {ds : List D} {vs : List V} {d : D} {Q : VK}
theorem Top.op {r : List V → Hp → VK → Prop} {g : List D → Option D} (o : OpS mg r g) (I : Top mg W0 env1 fe1 σ ds fd vs H1) (e : g (fzs ds) = some d) (fr : Fr fe H H1) (nw : Nw H fe fe1)
    (k : EndE mg Wi W0 fe σ H Q (.ok d env1)) : r vs H1 Q := by
  have J := I.frz
  refine o _ H1 _ vs d Q J.t J.tr e fun v H' f2 kp nf nd hr => ?_
  have T := (J.drop).grow (ds := [d]) (vs := [v]) kp nf nd (Rs.one hr)
  exact k v H' fe1 f2 (fr.trans nw (Fr.kp kp)) (nw.app (Nw.trans fr nw fun b hb => .inr (nf b hb))) T
/-- one after the other: from the state of the values at hand into an expression -/
theorem Top.run {m : M D} {Q' : VK} {ds : List D} {fd : List Addr} {vs : List V} (I : Top mg W0 env1 fe1 σ ds fd vs H1) (fr : Fr fe H H1) (nw : Nw H fe (fe1 ++ fd))
    (hk : ∀ d2 env2, m env1 = .ok d2 env2 → ∀ v H' fe' fd', Fr fe H H' → Nw H fe (fe' ++ (fd ++ fd')) → Top mg W0 env2 fe' σ (ds ++ [d2]) (fd ++ fd') (vs ++ [v]) H' → Q' v H')
    (hx : ∀ x env2, m env1 = .exc x env2 → ∀ cls dd H' fe', Fr fe H H' → Nw H fe fe' → Top mg W0 env2 fe' σ [] [] [] H' → ExR mg H' (Wx W0 fe' []) x cls dd → Wi cls dd σ H')
    (hb : m env1 ≠ .bad) : tM mg Wi m σ H1 Q' := by
  refine ⟨_, env1, fe1, I.lift, ?_⟩
  cases e : m env1 with
  | ok d2 env2 =>
    intro v H' fe' fd' fr' nw' T
    have B := I.back fr' nw' T
    have n2 := Nw.trans fr nw.left nw'
    refine hk d2 env2 e v H' fe' fd' (fr.trans nw.left fr') (n2.left.app (fun b hb => ?_)) B
    rcases List.mem_append.mp hb with hb | hb
    · exact nw b (List.mem_append_right _ hb)
    · exact n2 b (List.mem_append_right _ hb)
  | exc x env2 =>
    intro cls dd H' fe' fr' nw' T ex
    have B := I.back (fd' := []) fr' (by rw [List.append_nil]; exact nw') T
    have B2 := B.drop
    refine hx x env2 e cls dd H' fe' (fr.trans nw.left fr') (Nw.trans fr nw.left nw') B2 ?_
    obtain ⟨C, h1, h2, h3⟩ := ex
    refine ⟨C, h1, h2, fun hn => ?_⟩
    obtain ⟨d, fs, q1, q2, q3, q4⟩ := h3 hn
    refine ⟨d, fs, q1, q2, q3, Rs.mono _ _ _ q4 (fun _ _ q _ => q) fun b h _ z => ?_⟩
    rcases z with z | z | z
    · exact h (.inl (.inl z))
    · exact h (.inr (.inl z))
    · simp at z
  | bad => exact absurd e hb
end

/-! ### expressions -/
section
variable {X : Cx} {Wi : WX} {pos : Pos} {a b : Expr} {ma mb : M D} {es : List Expr} {ms : M (List D)}
def mC (d : D) : M D := fun e => .ok d e
theorem top_c {mg : G} {W0 : Addr → Prop} {env : Env} {fe : List Addr} {σ : St} {H : Hp} {d : D} {v : V} (I : Top mg W0 env fe σ [] [] [] H) (h : ∀ W, R mg H W d [] v) : Top mg W0 env fe σ [d] [] [v] H :=
  I.grow (Same.refl H) (fun b z => absurd z (by simp)) List.nodup_nil (Rs.one (h _))
theorem pm_c {e : Expr} {d : D} {v : V} (he : PE X e (tC v)) (h : ∀ H W, R X.gg H W d [] v) : PM X Wi e (mC d) := by
  refine pe_imp he fun σ H Q ⟨W0, env, fe, I, k⟩ => ?_
  exact k v H fe [] Fr.refl (by rw [List.append_nil]; exact Nw.refl) (top_c I (h H))
theorem pm_int {i j} : PM X Wi (.Constant (.int i) j pos) (mC (.int i)) := pm_c pe_int fun _ _ => ⟨rfl, rfl⟩
theorem pm_bl {b j} : PM X Wi (.Constant (.bool b) j pos) (mC (.bl b)) := pm_c pe_bl fun _ _ => ⟨rfl, rfl⟩
theorem pm_non {j} : PM X Wi (.Constant .none j pos) (mC .non) := pm_c pe_non fun _ _ => ⟨rfl, rfl⟩
theorem pm_str {x j} : PM X Wi (.Constant (.str x) j pos) (mC (.str x)) := pm_c pe_str fun _ _ => ⟨rfl, rfl⟩

theorem EnvR.get {mg : G} {H : Hp} {W : Addr → Prop} : ∀ {env : Env} {fp : List Addr} {σ : St} {i : Nat} {d : D}, EnvR mg H W env fp σ → env[i]? = some (some d) →
    ∃ f1 f2 f3 v, fp = f1 ++ f2 ++ f3 ∧ σ[i]? = some (some v) ∧ R mg H W d f2 v ∧ EnvR mg H W (env.set i none) (f1 ++ f3) σ
  | [], _, _, _, _, _, e => by simp at e
  | none :: es, fp, σ, 0, d, h, e => by simp at e
  | none :: es, fp, σ, i + 1, d, h, e => by
    simp only [EnvR] at h
    obtain ⟨x, τ, rfl, h⟩ := h
    obtain ⟨f1, f2, f3, v, q1, q2, q3, q4⟩ := EnvR.get (i := i) (d := d) h (by simpa using e)
    exact ⟨f1, f2, f3, v, q1, by simpa using q2, q3, x, τ, rfl, q4⟩
  | some d' :: es, fp, σ, 0, d, h, e => by
    simp only [EnvR] at h
    obtain ⟨f1, f2, v, τ, rfl, rfl, h1, h2⟩ := h
    simp at e
    subst e
    exact ⟨[], f1, f2, v, rfl, rfl, h1, some v, τ, rfl, h2⟩
  | some d' :: es, fp, σ, i + 1, d, h, e => by
    simp only [EnvR] at h
    obtain ⟨f1, f2, v, τ, rfl, rfl, h1, h2⟩ := h
    obtain ⟨g1, g2, g3, u, q1, q2, q3, q4⟩ := EnvR.get (i := i) (d := d) h2 (by simpa using e)
    refine ⟨f1 ++ g1, g2, g3, u, by rw [q1]; simp, by simpa using q2, q3, ?_⟩
    show EnvR mg H W (some d' :: es.set i none) _ _
    simp only [EnvR]
    exact ⟨f1, g1 ++ g3, v, τ, by simp, rfl, h1, q4⟩
theorem EnvR.put {mg : G} {H : Hp} {W : Addr → Prop} : ∀ {env : Env} {fp : List Addr} {σ : St} {i : Nat} {d : D} {f2 : List Addr} {v : V}, EnvR mg H W (env.set i none) fp σ → i < env.length → R mg H W d f2 v →
    ∃ f1 f3, fp = f1 ++ f3 ∧ EnvR mg H W (env.set i (some d)) (f1 ++ f2 ++ f3) (σ.set i (some v))
  | [], _, _, _, _, _, _, _, e, _ => by simp at e
  | x :: es, fp, σ, 0, d, f2, v, h, e, r => by
    simp only [List.set_cons_zero, EnvR] at h ⊢
    obtain ⟨x', τ, rfl, h⟩ := h
    refine ⟨[], fp, rfl, f2, fp, v, τ, by simp, rfl, r, h⟩
  | none :: es, fp, σ, i + 1, d, f2, v, h, e, r => by
    simp only [List.set_cons_succ, EnvR] at h ⊢
    obtain ⟨x', τ, rfl, h⟩ := h
    obtain ⟨f1, f3, q1, q2⟩ := EnvR.put h (by simpa using e) r
    exact ⟨f1, f3, q1, x', _, rfl, q2⟩
  | some d' :: es, fp, σ, i + 1, d, f2, v, h, e, r => by
    simp only [List.set_cons_succ, EnvR] at h ⊢
    obtain ⟨g1, g2, u, τ, rfl, rfl, h1, h2⟩ := h
    obtain ⟨f1, f3, q1, q2⟩ := EnvR.put h2 (by simpa using e) r
    subst q1
    exact ⟨g1 ++ f1, f3, by simp, g1, f1 ++ f2 ++ f3, u, _, by simp, rfl, h1, q2⟩

/-- a name: what it holds is frozen -/
def mV (i : Nat) : M D := fun env => match env[i]? with
  | some (some d) => .ok d.fz (env.set i (some d.fz))
  | _ => .bad
theorem pm_var {i : Nat} {e : Expr} (he : PE X e (tVar i)) : PM X Wi e (mV i) := by
  refine pe_imp he fun σ H Q ⟨W0, env, fe, I, k⟩ => ?_
  unfold mV at k
  split at k
  · rename_i d hd
    obtain ⟨f1, f2, f3, v, q1, q2, q3, q4⟩ := I.e.get hd
    refine ⟨v, q2, ?_⟩
    have hi : i < env.length := (List.getElem?_eq_some_iff.mp hd).1
    have nd := I.nd
    rw [List.append_nil, q1] at nd
    have w1 : ∀ b, Wx W0 (f1 ++ f3) [] b → Wx W0 fe [] b := fun b z => by
      rcases z with z | z | z
      · exact .inl z
      · refine .inr (.inl ?_)
        rw [q1]
        rcases List.mem_append.mp z with z | z
        · exact List.mem_append_left _ (List.mem_append_left _ z)
        · exact List.mem_append_right _ z
      · simp at z
    have apart : ∀ b ∈ f2, b ∉ f1 ++ f3 := fun b hb z => by
      have n1 := List.nodup_append.mp nd
      rcases List.mem_append.mp z with z | z
      · exact (List.nodup_append.mp n1.1).2.2 b z b hb rfl
      · exact n1.2.2 b (List.mem_append_right _ hb) b z rfl
    have rf : R X.gg H (Wx W0 (f1 ++ f3) []) d.fz [] v := R.freeze d f2 v q3 w1 fun b hb z => by
      rcases z with z | z | z
      · exact I.ap b (by rw [List.append_nil, q1]; exact List.mem_append_left _ (List.mem_append_right _ hb)) z
      · exact apart b hb z
      · simp at z
    have e4 : EnvR X.gg H (Wx W0 (f1 ++ f3) []) (env.set i none) (f1 ++ f3) σ := q4.mono (fun _ _ q _ => q) fun b h _ z => h (w1 b z)
    obtain ⟨g1, g3, q5, q6⟩ := e4.put hi rf
    have es : σ.set i (some v) = σ := by
      apply List.ext_getElem?
      intro j
      by_cases hj : i = j
      · subst hj
        rw [List.getElem?_set_self (List.getElem?_eq_some_iff.mp q2).1, q2]
      · rw [List.getElem?_set_ne hj]
    rw [es] at q6
    have q6' : EnvR X.gg H (Wx W0 (f1 ++ f3) []) (env.set i (some d.fz)) (f1 ++ f3) σ := by
      have z : g1 ++ [] ++ g3 = f1 ++ f3 := by rw [q5]; simp
      rw [z] at q6
      exact q6
    have nd2 : (f1 ++ f3).Nodup := nd.sublist (by simp)
    refine k v H (f1 ++ f3) [] Fr.refl (fun b hb => ?_) ⟨q6', Rs.one rf, by rw [List.append_nil]; exact nd2, I.w0, fun b hb => I.ap b ?_⟩
    · rw [List.append_nil] at hb
      refine .inl ?_
      rw [q1]
      rcases List.mem_append.mp hb with z | z
      · exact List.mem_append_left _ (List.mem_append_left _ z)
      · exact List.mem_append_right _ z
    · rw [List.append_nil] at hb ⊢
      rw [q1]
      rcases List.mem_append.mp hb with z | z
      · exact List.mem_append_left _ (List.mem_append_left _ z)
      · exact List.mem_append_right _ z
  · exact k.elim

/-- arguments -/
def mNil : M (List D) := fun e => .ok [] e
def mCons (m : M D) (ms : M (List D)) : M (List D) := fun e => match m e with
  | .ok d e1 => (match ms e1 with
    | .ok ds e2 => .ok (d :: ds) e2
    | .exc x e2 => .exc x e2
    | .bad => .bad)
  | .exc x e1 => .exc x e1
  | .bad => .bad
theorem exr_lift {mg : G} {H : Hp} {W0 : Addr → Prop} {fe fd : List Addr} {x : Ex} {cls : Value} {dd : Option Addr} (ex : ExR mg H (Wx (fun b => W0 b ∨ b ∈ fd) fe []) x cls dd) : ExR mg H (Wx W0 fe []) x cls dd := by
  obtain ⟨C, h1, h2, h3⟩ := ex
  refine ⟨C, h1, h2, fun hn => ?_⟩
  obtain ⟨d, fs, q1, q2, q3, q4⟩ := h3 hn
  refine ⟨d, fs, q1, q2, q3, Rs.mono _ _ _ q4 (fun _ _ q _ => q) fun b h _ z => ?_⟩
  rcases z with z | z | z
  · exact h (.inl (.inl z))
  · exact h (.inr (.inl z))
  · simp at z
theorem pma_nil : PMA X Wi [] mNil := by
  refine pa_imp pa_nil fun σ H Q ⟨W0, env, fe, I, k⟩ => ?_
  exact k [] H fe [] Fr.refl (by rw [List.append_nil]; exact Nw.refl) I
theorem tA_of_run {mg : G} {W0 : Addr → Prop} {env1 : Env} {fe fe1 fd : List Addr} {σ : St} {ds : List D} {vs : List V} {H H1 : Hp} {m : M (List D)} {Q' : List V → Hp → Prop} (I : Top mg W0 env1 fe1 σ ds fd vs H1) (fr : Fr fe H H1) (nw : Nw H fe (fe1 ++ fd))
    (hk : ∀ d2 env2, m env1 = .ok d2 env2 → ∀ us H' fe' fd', Fr fe H H' → Nw H fe (fe' ++ (fd ++ fd')) → Top mg W0 env2 fe' σ (ds ++ d2) (fd ++ fd') (vs ++ us) H' → Q' us H')
    (hx : ∀ x env2, m env1 = .exc x env2 → ∀ cls dd H' fe', Fr fe H H' → Nw H fe fe' → Top mg W0 env2 fe' σ [] [] [] H' → ExR mg H' (Wx W0 fe' []) x cls dd → Wi cls dd σ H')
    (hb : m env1 ≠ .bad) : tA mg Wi m σ H1 Q' := by
  refine ⟨_, env1, fe1, I.lift, ?_⟩
  cases e : m env1 with
  | ok d2 env2 =>
    intro us H' fe' fd' fr' nw' T
    have B := I.back fr' nw' T
    have n2 := Nw.trans fr nw.left nw'
    refine hk d2 env2 e us H' fe' fd' (fr.trans nw.left fr') (n2.left.app (fun b hb => ?_)) B
    rcases List.mem_append.mp hb with hb | hb
    · exact nw b (List.mem_append_right _ hb)
    · exact n2 b (List.mem_append_right _ hb)
  | exc x env2 =>
    intro cls dd H' fe' fr' nw' T ex
    have B := I.back (fd' := []) fr' (by rw [List.append_nil]; exact nw') T
    exact hx x env2 e cls dd H' fe' (fr.trans nw.left fr') (Nw.trans fr nw.left nw') B.drop (exr_lift ex)
  | bad => exact absurd e hb
theorem pma_cons (ha : PM X Wi a ma) (hr : PMA X Wi es ms) (hs : starEach (a :: es) X.env = (false, eval a X.env) :: starEach es X.env := by rfl) : PMA X Wi (a :: es) (mCons ma ms) := by
  refine pa_imp (pa_cons ha hr hs) fun σ H Q ⟨W0, env, fe, I, k⟩ => ?_
  refine ⟨W0, env, fe, I, ?_⟩
  unfold mCons at k
  cases e : ma env with
  | bad => rw [e] at k; exact k.elim
  | exc x e1 => rw [e] at k; exact k
  | ok d e1 =>
    rw [e] at k
    intro v H1 fe1 fd fr nw T
    refine tA_of_run T fr nw (fun d2 env2 e2 us H' fe' fd' fr' nw' T' => ?_) (fun x env2 e2 => ?_) (fun e2 => ?_)
    · simp only [e2] at k
      exact k (v :: us) H' fe' (fd ++ fd') fr' nw' T'
    · simp only [e2] at k
      exact k
    · simp only [e2] at k
      exact k.elim
end
end VL


set_option Elab.async false
set_option linter.all false
set_option maxRecDepth 100000
set_option maxHeartbeats 4000000
namespace VL
open PySem PySem.Spec L2
open PyProof.Rows hiding St

section
variable {mg : G} {Wi : WX} {W0 : Addr → Prop} {fe fe1 fd : List Addr} {env env1 : Env} {σ : St} {H H1 : Hp} {ds : List D} {vs : List V} {d : D} {Q : VK}
def EndX (mg : G) (Wi : WX) (W0 : Addr → Prop) (fe : List Addr) (σ : St) (H : Hp) (x : Ex) (env' : Env) : Prop :=
  ∀ cls dd H' fe', Fr fe H H' → Nw H fe fe' → Top mg W0 env' fe' σ [] [] [] H' → ExR mg H' (Wx W0 fe' []) x cls dd → Wi cls dd σ H'
theorem tM_run {m : M D} {Q' : VK} (I : Top mg W0 env fe σ [] [] [] H)
    (hk : ∀ d2 env2, m env = .ok d2 env2 → ∀ v H' fe' fd', Fr fe H H' → Nw H fe (fe' ++ fd') → Top mg W0 env2 fe' σ [d2] fd' [v] H' → Q' v H')
    (hx : ∀ x env2, m env = .exc x env2 → EndX mg Wi W0 fe σ H x env2) (hb : m env ≠ .bad) : tM mg Wi m σ H Q' := by
  refine ⟨W0, env, fe, I, ?_⟩
  cases e : m env with
  | ok d2 env2 => exact hk d2 env2 e
  | exc x env2 => exact hx x env2 e
  | bad => exact absurd e hb
theorem tA_run {m : M (List D)} {Q' : List V → Hp → Prop} (I : Top mg W0 env fe σ [] [] [] H)
    (hk : ∀ d2 env2, m env = .ok d2 env2 → ∀ v H' fe' fd', Fr fe H H' → Nw H fe (fe' ++ fd') → Top mg W0 env2 fe' σ d2 fd' v H' → Q' v H')
    (hx : ∀ x env2, m env = .exc x env2 → EndX mg Wi W0 fe σ H x env2) (hb : m env ≠ .bad) : tA mg Wi m σ H Q' := by
  refine ⟨W0, env, fe, I, ?_⟩
  cases e : m env with
  | ok d2 env2 => exact hk d2 env2 e
  | exc x env2 => exact hx x env2 e
  | bad => exact absurd e hb
theorem tT_run {α : Type} {m : M α} {Q' : α → Hp → Prop} (I : Top mg W0 env1 fe1 σ [] [] [] H1) (fr : Fr fe H H1) (nw : Nw H fe fe1)
    (hk : ∀ d2 env2, m env1 = .ok d2 env2 → ∀ H' fe', Fr fe H H' → Nw H fe fe' → Top mg W0 env2 fe' σ [] [] [] H' → Q' d2 H')
    (hx : ∀ x env2, m env1 = .exc x env2 → EndX mg Wi W0 fe σ H x env2) (hb : m env1 ≠ .bad) : tT mg Wi m σ H1 Q' := by
  refine ⟨W0, env1, fe1, I, ?_⟩
  cases e : m env1 with
  | ok d2 env2 => exact fun H' fe' fr' nw' T => hk d2 env2 e H' fe' (fr.trans nw fr') (Nw.trans fr nw nw') T
  | exc x env2 => exact fun cls dd H' fe' fr' nw' T ex => hx x env2 e cls dd H' fe' (fr.trans nw fr') (Nw.trans fr nw nw') T ex
  | bad => exact absurd e hb
/-- an expression from a later state -/
theorem tM_next {m : M D} {Q' : VK} (I : Top mg W0 env1 fe1 σ [] [] [] H1) (fr : Fr fe H H1) (nw : Nw H fe fe1)
    (hk : ∀ d2 env2, m env1 = .ok d2 env2 → ∀ v H' fe' fd', Fr fe H H' → Nw H fe (fe' ++ fd') → Top mg W0 env2 fe' σ [d2] fd' [v] H' → Q' v H')
    (hx : ∀ x env2, m env1 = .exc x env2 → EndX mg Wi W0 fe σ H x env2) (hb : m env1 ≠ .bad) : tM mg Wi m σ H1 Q' := by
  refine tM_run I (fun d2 env2 e v H' fe' fd' fr' nw' T => hk d2 env2 e v H' fe' fd' (fr.trans nw fr') (Nw.trans fr nw nw') T) (fun x env2 e => ?_) hb
  exact fun cls dd H' fe' fr' nw' T ex => hx x env2 e cls dd H' fe' (fr.trans nw fr') (Nw.trans fr nw nw') T ex
end

/-! ### two values, one operation -/
def Op2 (mg : G) (r : R2) (g : D → D → Option D) : Prop :=
  OpS mg (fun vs H Q => ∃ x y, vs = [x, y] ∧ r x y H Q) (fun ds => match ds with | [a, b] => g a b | _ => none)
def m2 (g : D → D → Option D) (ma mb : M D) : M D := ma.bind fun a => mb.bind fun b => M.ofO (g a.fz b.fz)
section
variable {X : Cx} {Wi : WX} {pos : Pos} {a b c : Expr} {ma mb mc : M D} {es : List Expr} {ms : M (List D)} {mg : G} {W0 : Addr → Prop} {fe : List Addr} {env : Env} {σ : St} {H : Hp} {Q : VK}
theorem m2_run {r : R2} {g : D → D → Option D} (o : Op2 mg r g) (I : Top mg W0 env fe σ [] [] [] H) (k : EndE mg Wi W0 fe σ H Q (m2 g ma mb env)) : tOp r (tM mg Wi ma) (tM mg Wi mb) σ H Q := by
  unfold m2 M.bind at k
  refine tM_run I (fun d1 env1 e1 v H1 fe1 fd fr nw T => ?_) (fun x env1 e1 => ?_) (fun e1 => ?_)
  · simp only [e1] at k
    refine T.run fr nw (fun d2 env2 e2 u H2 fe2 fd2 fr2 nw2 T2 => ?_) (fun x env2 e2 => ?_) (fun e2 => ?_)
    · simp only [e2] at k
      cases eg : g d1.fz d2.fz with
      | none => rw [eg] at k; exact k.elim
      | some d =>
        rw [eg] at k
        obtain ⟨x, y, e3, q⟩ := T2.op o (d := d) (Q := Q) eg fr2 nw2.left k
        simp only [List.singleton_append, List.cons.injEq, and_true] at e3
        obtain ⟨rfl, rfl⟩ := e3
        exact q
    · simp only [e2] at k
      exact k
    · simp only [e2] at k
      exact k.elim
  · simp only [e1] at k
    exact k
  · simp only [e1] at k
    exact k.elim
theorem pm_bin {op : Operator} {r : R2} {g : D → D → Option D} (ho : OpR X (binaryOp op) r) (o : Op2 X.gg r g) (ha : PM X Wi a ma) (hb : PM X Wi b mb) : PM X Wi (.BinOp a op b pos) (m2 g ma mb) :=
  pe_imp (pe_op ho ha hb) fun _ _ _ ⟨_, _, _, I, k⟩ => m2_run o I k
theorem pm_cmp {op : CmpOp} {r : R2} {g : D → D → Option D} (ho : OpR X (compareOp op) r) (o : Op2 X.gg r g) (ha : PM X Wi a ma) (hb : PM X Wi b mb) (hm : behindInMarks op b = false) : PM X Wi (.Compare a [op] [b] pos) (m2 g ma mb) :=
  pe_imp (pe_cmpR ho ha hb hm) fun _ _ _ ⟨_, _, _, I, k⟩ => m2_run o I k
theorem pm_ix {r : R2} {g : D → D → Option D} (ho : IxR X r) (o : Op2 X.gg r g) (ha : PM X Wi a ma) (hb : PM X Wi b mb) (hs : PlainIx b) : PM X Wi (.Subscript a b pos) (m2 g ma mb) :=
  pe_imp (pe_ix ho ha hb hs) fun _ _ _ ⟨_, _, _, I, k⟩ => m2_run o I k

/-- one value -/
def Op1 (mg : G) (r : V → Hp → VK → Prop) (g : D → Option D) : Prop :=
  OpS mg (fun vs H Q => ∃ x, vs = [x] ∧ r x H Q) (fun ds => match ds with | [a] => g a | _ => none)
def m1 (g : D → Option D) (ma : M D) : M D := ma.bind fun a => M.ofO (g a.fz)
theorem m1_run {r : V → Hp → VK → Prop} {g : D → Option D} (o : Op1 mg r g) (I : Top mg W0 env fe σ [] [] [] H) (k : EndE mg Wi W0 fe σ H Q (m1 g ma env)) : tM mg Wi ma σ H (fun x H1 => r x H1 Q) := by
  unfold m1 M.bind at k
  refine tM_run I (fun d1 env1 e1 v H1 fe1 fd fr nw T => ?_) (fun x env1 e1 => ?_) (fun e1 => ?_)
  · simp only [e1] at k
    cases eg : g d1.fz with
    | none => rw [eg] at k; exact k.elim
    | some d =>
      rw [eg] at k
      obtain ⟨x, e3, q⟩ := T.op o (d := d) (Q := Q) eg fr nw.left k
      simp only [List.cons.injEq, and_true] at e3
      subst e3
      exact q
  · simp only [e1] at k
    exact k
  · simp only [e1] at k
    exact k.elim
theorem pm_un {op : UnaryOp} {r : V → Hp → VK → Prop} {g : D → Option D} (ho : UnR X (unaryOp op) r) (o : Op1 X.gg r g) (ha : PM X Wi a ma) : PM X Wi (.UnaryOp op a pos) (m1 g ma) :=
  pe_imp (pe_un ho ha) fun _ _ _ ⟨_, _, _, I, k⟩ => m1_run o I k

/-- a call of a built-in with values -/
def mCall (g : List D → Option D) (ms : M (List D)) : M D := ms.bind fun ds => M.ofO (g (fzs ds))
theorem mCall_run {r : List V → Hp → VK → Prop} {g : List D → Option D} (o : OpS mg r g) (I : Top mg W0 env fe σ [] [] [] H) (k : EndE mg Wi W0 fe σ H Q (mCall g ms env)) : tA mg Wi ms σ H (fun xs H1 => r xs H1 Q) := by
  unfold mCall M.bind at k
  refine tA_run I (fun d1 env1 e1 v H1 fe1 fd fr nw T => ?_) (fun x env1 e1 => ?_) (fun e1 => ?_)
  · simp only [e1] at k
    cases eg : g (fzs d1) with
    | none => rw [eg] at k; exact k.elim
    | some d =>
      rw [eg] at k
      exact T.op o (d := d) (Q := Q) eg fr nw.left k
  · simp only [e1] at k
    exact k
  · simp only [e1] at k
    exact k.elim
theorem pm_callB {x : Str} {p : Pos} {id : String} {r : List V → Hp → VK → Prop} {g : List D → Option D} (hc : CallR X (.builtin id) r) (o : OpS X.gg r g) (hg : Gl X x) (hm : X.mg x = none) (hv : bootBuiltins x = some (.builtin id)) (ha : PMA X Wi (a :: es) ms)
    (hn : x ≠ "__name__" := by decide) (hdb : (x == ("__debug__" : Str)) = false := by decide)
    (he : starEach (a :: es) X.env = (false, eval a X.env) :: starEach es X.env := by rfl) (hpl : (backTo pos (starEach es X.env)).any (·.1) = false := by rfl) : PM X Wi (.Call (.Name x p) (a :: es) [] pos) (mCall g ms) :=
  pe_imp (pe_callB hc hg hm hv ha hn hdb he hpl) fun _ _ _ ⟨_, _, _, I, k⟩ => mCall_run o I k
theorem pm_callTy {x : Str} {p : Pos} {T : String} {r : List V → Hp → VK → Prop} {g : List D → Option D} (hc : CallR X (.type T) r) (o : OpS X.gg r g) (hg : Gl X x) (hm : X.mg x = none) (hv : bootBuiltins x = some (.type T)) (ha : PMA X Wi (a :: es) ms)
    (hn : x ≠ "__name__" := by decide) (hdb : (x == ("__debug__" : Str)) = false := by decide)
    (he : starEach (a :: es) X.env = (false, eval a X.env) :: starEach es X.env := by rfl) (hpl : (backTo pos (starEach es X.env)).any (·.1) = false := by rfl) : PM X Wi (.Call (.Name x p) (a :: es) [] pos) (mCall g ms) :=
  pe_imp (pe_callTy hc hg hm hv ha hn hdb he hpl) fun _ _ _ ⟨_, _, _, I, k⟩ => mCall_run o I k

/-- displays -/
def mTup (ms : M (List D)) : M D := ms.bind fun ds => if ds.length ≤ sizeLine then M.pure (.tup ds) else M.bad
def mLst (ms : M (List D)) : M D := ms.bind fun ds => if ds.length ≤ sizeLine then M.pure (.lst true ds) else M.bad
theorem pm_tup {x1} (h : PMA X Wi es ms) : PM X Wi (.Tuple es x1 pos) (mTup ms) := by
  refine pe_imp (pe_tup h) fun σ H Q ⟨W0, env, fe, I, k⟩ => ?_
  unfold mTup M.bind at k
  refine tA_run I (fun ds env1 e1 vs H1 fe1 fd fr nw T => ?_) (fun x env1 e1 => ?_) (fun e1 => ?_)
  · simp only [e1] at k
    by_cases hz : ds.length ≤ sizeLine
    · rw [if_pos hz] at k
      refine ⟨by rw [← T.t.len]; exact hz, fun p hp => ?_⟩
      have kp : Same H1 (upd H1 p (.tup vs)) := fun b x q => by rw [upd_ne (ne_of_none q hp)]; exact q
      have np : ¬ Wx W0 fe1 fd p := fun z => T.tr p z hp
      refine k _ _ fe1 fd (fr.trans nw.left (Fr.kp kp)) nw ⟨T.e.mono (fun b x q _ => kp b x q) (fun _ h _ => h), Rs.one ⟨p, vs, rfl, ⟨upd_same, np⟩, Rs.mono _ _ _ T.t (fun b x q _ => kp b x q) (fun _ h _ => h)⟩, T.nd, fun b hb => ?_, T.ap⟩
      rw [upd_ne fun z => np (by rw [← z]; exact .inl hb)]
      exact T.w0 b hb
    · rw [if_neg hz] at k
      exact k.elim
  · simp only [e1] at k
    exact k
  · simp only [e1] at k
    exact k.elim
theorem pm_lst (h : PMA X Wi es ms) : PM X Wi (.List es pos) (mLst ms) := by
  refine pe_imp (pe_lst h) fun σ H Q ⟨W0, env, fe, I, k⟩ => ?_
  unfold mLst M.bind at k
  refine tA_run I (fun ds env1 e1 vs H1 fe1 fd fr nw T => ?_) (fun x env1 e1 => ?_) (fun e1 => ?_)
  · simp only [e1] at k
    by_cases hz : ds.length ≤ sizeLine
    · rw [if_pos hz] at k
      refine ⟨by rw [← T.t.len]; exact hz, fun p hp => ?_⟩
      have kp : Same H1 (upd H1 p (.lst vs)) := fun b x q => by rw [upd_ne (ne_of_none q hp)]; exact q
      have np : ¬ Wx W0 fe1 fd p := fun z => T.tr p z hp
      have w1 : ∀ b, ¬ Wx W0 fe1 fd b → H1 b ≠ none → ¬ Wx W0 fe1 (p :: fd) b := fun b h t z => by
        rcases z with z | z | z
        · exact h (.inl z)
        · exact h (.inr (.inl z))
        · rcases List.mem_cons.mp z with z | z
          · rw [z] at t; exact t hp
          · exact h (.inr (.inr z))
      refine k _ _ fe1 (p :: fd) (fr.trans nw.left (Fr.kp kp)) (nw.left.app fun b hb => ?_) ⟨T.e.mono (fun b x q _ => kp b x q) w1, Rs.one ⟨p, vs, fd, rfl, rfl, upd_same, Rs.mono _ _ _ T.t (fun b x q _ => kp b x q) w1⟩, ?_, fun b hb => ?_, fun b hb => ?_⟩
      · rcases List.mem_cons.mp hb with hb | hb
        · rw [hb]
          exact Nw.trans fr nw.left (l := [p]) (fun b hb => .inr (by rw [List.mem_singleton.mp hb]; exact hp)) p List.mem_cons_self
        · exact nw b (List.mem_append_right _ hb)
      · have n := List.nodup_append.mp T.nd
        refine List.nodup_append.mpr ⟨n.1, List.nodup_cons.mpr ⟨fun z => np (.inr (.inr z)), n.2.1⟩, fun x hx y hy e => ?_⟩
        rcases List.mem_cons.mp hy with hy | hy
        · subst e hy; exact np (.inr (.inl hx))
        · exact n.2.2 x hx y hy e
      · rw [upd_ne fun z => np (by rw [← z]; exact .inl hb)]
        exact T.w0 b hb
      · rcases List.mem_append.mp hb with hb | hb
        · exact T.ap b (List.mem_append_left _ hb)
        · rcases List.mem_cons.mp hb with hb | hb
          · rw [hb]; exact fun z => np (.inl z)
          · exact T.ap b (List.mem_append_right _ hb)
    · rw [if_neg hz] at k
      exact k.elim
  · simp only [e1] at k
    exact k
  · simp only [e1] at k
    exact k.elim

/-! ### tests -/
def D.truth : D → Option Bool
  | .non => some false
  | .bl b => some b
  | .int i => some (i != 0)
  | .str s => if s.length ≤ sizeLine then some ((s.length : Int) != 0) else none
  | .tup xs => some !xs.isEmpty
  | .lst _ xs => some !xs.isEmpty
  | .dic _ _ xs => some !xs.isEmpty
  | .ins _ _ _ _ => none
  | .scr _ => none
theorem emp_len {α β : Type} {xs : List α} {ys : List β} (h : xs.length = ys.length) : xs.isEmpty = ys.isEmpty := by
  cases xs <;> cases ys <;> simp_all
theorem R.truth {W : Addr → Prop} {d : D} {fp : List Addr} {v : V} {k : Bool} (h : R mg H W d fp v) (e : d.truth = some k) : TruV X.K v H k := by
  cases d with
  | non => obtain ⟨_, rfl⟩ := h; simpa [D.truth, TruV] using e.symm
  | bl b => obtain ⟨_, rfl⟩ := h; simpa [D.truth, TruV] using e.symm
  | int i => obtain ⟨_, rfl⟩ := h; simpa [D.truth, TruV] using e.symm
  | str s =>
    obtain ⟨_, rfl⟩ := h
    simp only [D.truth] at e
    split at e
    · rename_i hz
      exact ⟨hz, (Option.some.inj e).symm⟩
    · cases e
  | tup xs =>
    simp only [R] at h
    obtain ⟨a, vs, rfl, ⟨h1, _⟩, h2⟩ := h
    exact .inr (.inl ⟨vs, SqT.of h1, by rw [← emp_len h2.len]; exact (Option.some.inj e).symm⟩)
  | lst o xs =>
    cases o with
    | true =>
      simp only [R] at h
      obtain ⟨a, vs, f1, rfl, _, h1, h2⟩ := h
      exact .inl ⟨vs, SqL.of h1, by rw [← emp_len h2.len]; exact (Option.some.inj e).symm⟩
    | false =>
      simp only [R] at h
      obtain ⟨_, a, vs, rfl, ⟨h1, _⟩, h2⟩ := h
      exact .inl ⟨vs, SqL.of h1, by rw [← emp_len h2.len]; exact (Option.some.inj e).symm⟩
  | dic o ks xs =>
    cases o with
    | true =>
      simp only [R] at h
      obtain ⟨a, kvs, f1, rfl, _, h1, hk, h2⟩ := h
      refine .inr (.inr ⟨kvs, h1, ?_⟩)
      have := emp_len (xs := xs) (ys := kvs) (by rw [h2.len, List.length_map])
      rw [← this]; exact (Option.some.inj e).symm
    | false =>
      simp only [R] at h
      obtain ⟨_, a, kvs, rfl, ⟨h1, _⟩, hk, h2⟩ := h
      refine .inr (.inr ⟨kvs, h1, ?_⟩)
      have := emp_len (xs := xs) (ys := kvs) (by rw [h2.len, List.length_map])
      rw [← this]; exact (Option.some.inj e).symm
  | ins _ _ _ _ => simp [D.truth] at e
  | scr _ => simp [D.truth] at e
/-- a value as a test -/
def mTru (m : M D) : M Bool := m.bind fun d => M.ofO d.truth
theorem mTru_run {Q : Bool → Hp → Prop} (I : Top X.gg W0 env fe σ [] [] [] H) (k : EndT X.gg Wi W0 fe σ H Q (mTru ma env)) : tM X.gg Wi ma σ H (fun x H' => ∃ k, TruV X.K x H' k ∧ Q k H') := by
  unfold mTru M.bind at k
  refine tM_run I (fun d1 env1 e1 v H1 fe1 fd fr nw T => ?_) (fun x env1 e1 => ?_) (fun e1 => ?_)
  · simp only [e1] at k
    cases eg : d1.truth with
    | none => rw [eg] at k; exact k.elim
    | some b =>
      rw [eg] at k
      obtain ⟨f1, f2, u, us, _, e2, h1, _⟩ := T.t
      simp only [List.cons.injEq] at e2
      obtain ⟨rfl, rfl⟩ := e2
      exact ⟨b, h1.truth eg, k H1 fe1 fr nw.left T.drop⟩
  · simp only [e1] at k
    exact k
  · simp only [e1] at k
    exact k.elim
theorem pmt_val (ha : PM X Wi a ma) (he : ∀ whole, isTrue a X.env whole = (do let v ← whole; standAt a.pos; holding [v] (truthy v)) := by intro _; rfl) : PMT X Wi a (mTru ma) :=
  pt_imp (pt_truth ha he) fun _ _ _ ⟨_, _, _, I, k⟩ => mTru_run I k
/-- a bool -/
def D.toB : D → Option Bool
  | .bl b => some b
  | _ => none
def mBl (m : M D) : M Bool := m.bind fun d => M.ofO d.toB
theorem mBl_run {Q : Bool → Hp → Prop} {te : TE} (I : Top X.gg W0 env fe σ [] [] [] H) (k : EndT X.gg Wi W0 fe σ H Q (mBl ma env)) (hr : ∀ Q', EndE X.gg Wi W0 fe σ H Q' (ma env) → te σ H Q') : te σ H (fun x H' => ∃ k, x = .bl k ∧ Q k H') := by
  unfold mBl M.bind at k
  refine hr _ ?_
  cases e1 : ma env with
  | ok d1 env1 =>
    simp only [e1] at k
    intro v H1 fe1 fd fr nw T
    cases d1 with
    | bl b =>
      obtain ⟨f1, f2, u, us, _, e2, ⟨_, h1⟩, _⟩ := T.t
      simp only [List.cons.injEq] at e2
      obtain ⟨rfl, rfl⟩ := e2
      exact ⟨b, h1, k H1 fe1 fr nw.left T.drop⟩
    | _ => exact k.elim
  | exc x env1 => simp only [e1] at k; exact k
  | bad => simp only [e1] at k; exact k
theorem pmt_cmp {op : CmpOp} {r : R2} {g : D → D → Option D} (ho : OpR X (compareOp op) r) (o : Op2 X.gg r g) (ha : PM X Wi a ma) (hb : PM X Wi b mb) (hm : behindInMarks op b = false) : PMT X Wi (.Compare a [op] [b] pos) (mBl (m2 g ma mb)) :=
  pt_imp (pt_cmpR ho ha hb hm) fun _ _ _ ⟨_, _, _, I, k⟩ => mBl_run (te := tOp r (tM X.gg Wi ma) (tM X.gg Wi mb)) I k fun _ k' => m2_run o I k'

abbrev PMW (X : Cx) (Wi : WX) (e : Expr) (m : M Bool) : Prop := PW X e (tT X.gg Wi m)
theorem pw_imp {e : Expr} {t t' : TT} (h : PW X e t) (k : ∀ σ H Q, t' σ H Q → t σ H Q) : PW X e t' := ⟨fun wh pins s σ H Q I q => h.run wh pins s σ H Q I (k σ H Q q)⟩
variable {ta tb : M Bool} {rest : List Expr}
def mAnd (ta tb : M Bool) : M Bool := ta.bind fun b => if b then tb else M.pure false
def mOr (ta tb : M Bool) : M Bool := ta.bind fun b => if b then M.pure true else tb
def mNot (ta : M Bool) : M Bool := ta.bind fun b => M.pure !b
theorem pmw_and1 (ha : PMT X Wi a ta) : PMW X Wi (.BoolOp .And [a] pos) ta := pw_and1 ha
theorem pmw_or1 (ha : PMT X Wi a ta) : PMW X Wi (.BoolOp .Or [a] pos) ta := pw_or1 ha
theorem pmw_and (ha : PMT X Wi a ta) (hb : PMW X Wi (.BoolOp .And (b :: rest) pos) tb) : PMW X Wi (.BoolOp .And (a :: b :: rest) pos) (mAnd ta tb) := by
  refine pw_imp (pw_and ha hb) fun σ H Q ⟨W0, env, fe, I, k⟩ => ?_
  unfold mAnd M.bind at k
  refine tT_run I Fr.refl Nw.refl (fun c env1 e1 H1 fe1 fr nw T => ?_) (fun x env1 e1 => ?_) (fun e1 => ?_)
  · simp only [e1] at k
    cases c with
    | true =>
      rw [if_pos rfl]
      refine tT_run T fr nw (fun c2 env2 e2 H2 fe2 fr2 nw2 T2 => ?_) (fun x env2 e2 => ?_) (fun e2 => ?_)
      · simp only [if_true, e2] at k; exact k H2 fe2 fr2 nw2 T2
      · simp only [if_true, e2] at k; exact k
      · simp only [if_true, e2] at k; exact k
    | false => exact k H1 fe1 fr nw T
  · simp only [e1] at k; exact k
  · simp only [e1] at k; exact k
theorem pmw_or (ha : PMT X Wi a ta) (hb : PMW X Wi (.BoolOp .Or (b :: rest) pos) tb) : PMW X Wi (.BoolOp .Or (a :: b :: rest) pos) (mOr ta tb) := by
  refine pw_imp (pw_or ha hb) fun σ H Q ⟨W0, env, fe, I, k⟩ => ?_
  unfold mOr M.bind at k
  refine tT_run I Fr.refl Nw.refl (fun c env1 e1 H1 fe1 fr nw T => ?_) (fun x env1 e1 => ?_) (fun e1 => ?_)
  · simp only [e1] at k
    cases c with
    | true => exact k H1 fe1 fr nw T
    | false =>
      rw [if_neg Bool.false_ne_true]
      refine tT_run T fr nw (fun c2 env2 e2 H2 fe2 fr2 nw2 T2 => ?_) (fun x env2 e2 => ?_) (fun e2 => ?_)
      · simp only [Bool.false_eq_true, if_false, e2] at k; exact k H2 fe2 fr2 nw2 T2
      · simp only [Bool.false_eq_true, if_false, e2] at k; exact k
      · simp only [Bool.false_eq_true, if_false, e2] at k; exact k
  · simp only [e1] at k; exact k
  · simp only [e1] at k; exact k
theorem pmt_not (ha : PMT X Wi a ta) : PMT X Wi (.UnaryOp .Not a pos) (mNot ta) := by
  refine pt_imp (pt_not ha) fun σ H Q ⟨W0, env, fe, I, k⟩ => ?_
  unfold mNot M.bind at k
  refine tT_run I Fr.refl Nw.refl (fun c env1 e1 H1 fe1 fr nw T => ?_) (fun x env1 e1 => ?_) (fun e1 => ?_)
  · simp only [e1] at k; exact k H1 fe1 fr nw T
  · simp only [e1] at k; exact k
  · simp only [e1] at k; exact k
end
end VL


set_option Elab.async false
set_option linter.all false
set_option maxRecDepth 100000
set_option maxHeartbeats 4000000
namespace VL
open PySem PySem.Spec L2
open PyProof.Rows hiding St

section
variable {mg : G} {Wi : WX} {W0 : Addr → Prop} {fe fe1 fd : List Addr} {env env1 : Env} {σ : St} {H H1 : Hp} {ds : List D} {vs : List V} {d : D} {Q : VK}
/-- a test (or a slice's part) behind values at hand -/
theorem Top.runT {α : Type} {m : M α} {Q' : α → Hp → Prop} (I : Top mg W0 env1 fe1 σ ds fd vs H1) (fr : Fr fe H H1) (nw : Nw H fe (fe1 ++ fd))
    (hk : ∀ d2 env2, m env1 = .ok d2 env2 → ∀ H' fe', Fr fe H H' → Nw H fe (fe' ++ fd) → Top mg W0 env2 fe' σ ds fd vs H' → Q' d2 H')
    (hx : ∀ x env2, m env1 = .exc x env2 → EndX mg Wi W0 fe σ H x env2) (hb : m env1 ≠ .bad) : tT mg Wi m σ H1 Q' := by
  refine ⟨_, env1, fe1, I.lift, ?_⟩
  cases e : m env1 with
  | ok d2 env2 =>
    intro H' fe' fr' nw' T
    have B := I.back (fd' := []) fr' (by rw [List.append_nil]; exact nw') T
    simp only [List.append_nil] at B
    exact hk d2 env2 e H' fe' (fr.trans nw.left fr') ((Nw.trans fr nw.left nw').app nw.right) B
  | exc x env2 =>
    intro cls dd H' fe' fr' nw' T ex
    have B := I.back (fd' := []) fr' (by rw [List.append_nil]; exact nw') T
    exact hx x env2 e cls dd H' fe' (fr.trans nw.left fr') (Nw.trans fr nw.left nw') B.drop (exr_lift ex)
  | bad => exact absurd e hb
theorem Top.runA {m : M (List D)} {Q' : List V → Hp → Prop} (I : Top mg W0 env1 fe1 σ ds fd vs H1) (fr : Fr fe H H1) (nw : Nw H fe (fe1 ++ fd))
    (hk : ∀ d2 env2, m env1 = .ok d2 env2 → ∀ us H' fe' fd', Fr fe H H' → Nw H fe (fe' ++ (fd ++ fd')) → Top mg W0 env2 fe' σ (ds ++ d2) (fd ++ fd') (vs ++ us) H' → Q' us H')
    (hx : ∀ x env2, m env1 = .exc x env2 → EndX mg Wi W0 fe σ H x env2) (hb : m env1 ≠ .bad) : tA mg Wi m σ H1 Q' := tA_of_run I fr nw hk hx hb
theorem Top.runE {m : M D} {Q' : VK} (I : Top mg W0 env1 fe1 σ ds fd vs H1) (fr : Fr fe H H1) (nw : Nw H fe (fe1 ++ fd))
    (hk : ∀ d2 env2, m env1 = .ok d2 env2 → ∀ v H' fe' fd', Fr fe H H' → Nw H fe (fe' ++ (fd ++ fd')) → Top mg W0 env2 fe' σ (ds ++ [d2]) (fd ++ fd') (vs ++ [v]) H' → Q' v H')
    (hx : ∀ x env2, m env1 = .exc x env2 → EndX mg Wi W0 fe σ H x env2) (hb : m env1 ≠ .bad) : tM mg Wi m σ H1 Q' := I.run fr nw hk hx hb
theorem Top.val1 (T : Top mg W0 env fe σ [d] fd vs H) : ∃ v, vs = [v] ∧ R mg H (Wx W0 fe fd) d fd v := by
  obtain ⟨f1, f2, v, us, e1, e2, h1, h2, h3⟩ := T.t
  subst h2 h3
  rw [List.append_nil] at e1
  subst e1
  exact ⟨v, e2, h1⟩
end

section
variable {X : Cx} {Wi : WX} {pos : Pos} {a b c o : Expr} {ma mb mc mo : M D} {es : List Expr} {ms : M (List D)} {ta tb : M Bool} {mg : G} {W0 : Addr → Prop} {fe : List Addr} {env : Env} {σ : St} {H : Hp} {Q : VK}
/-- x if t else y -/
def mIf (t : M Bool) (ma mb : M D) : M D := t.bind fun c => if c then ma else mb
theorem pm_ifExp (hc : PMT X Wi c ta) (ha : PM X Wi a ma) (hb : PM X Wi b mb) : PM X Wi (.IfExp c a b pos) (mIf ta ma mb) := by
  refine pe_imp (pe_ifExp hc ha hb) fun σ H Q ⟨W0, env, fe, I, k⟩ => ?_
  unfold mIf M.bind at k
  refine tT_run I Fr.refl Nw.refl (fun c env1 e1 H1 fe1 fr nw T => ?_) (fun x env1 e1 => ?_) (fun e1 => ?_)
  · simp only [e1] at k
    cases c with
    | true =>
      rw [if_pos rfl]
      refine tM_next T fr nw (fun d2 env2 e2 v H2 fe2 fd2 fr2 nw2 T2 => ?_) (fun x env2 e2 => ?_) (fun e2 => ?_) <;> simp only [if_true, e2] at k
      · exact k v H2 fe2 fd2 fr2 nw2 T2
      · exact k
      · exact k
    | false =>
      rw [if_neg Bool.false_ne_true]
      refine tM_next T fr nw (fun d2 env2 e2 v H2 fe2 fd2 fr2 nw2 T2 => ?_) (fun x env2 e2 => ?_) (fun e2 => ?_) <;> simp only [Bool.false_eq_true, if_false, e2] at k
      · exact k v H2 fe2 fd2 fr2 nw2 T2
      · exact k
      · exact k
  · simp only [e1] at k; exact k
  · simp only [e1] at k; exact k
/-- not, and, or as values, by truth -/
def mNotV (ma : M D) : M D := ma.bind fun d => M.ofO (d.truth.map fun k => .bl !k)
theorem pm_not (ha : PM X Wi a ma) : PM X Wi (.UnaryOp .Not a pos) (mNotV ma) := by
  refine pe_imp (pe_notT ha) fun σ H Q ⟨W0, env, fe, I, k⟩ => ?_
  unfold mNotV M.bind at k
  refine tM_run I (fun d env1 e1 v H1 fe1 fd fr nw T => ?_) (fun x env1 e1 => ?_) (fun e1 => ?_)
  · simp only [e1] at k
    cases et : d.truth with
    | none => rw [et] at k; exact k.elim
    | some b =>
      rw [et] at k
      obtain ⟨v', e2, h1⟩ := T.val1
      simp only [List.cons.injEq, and_true] at e2
      subst e2
      refine ⟨b, h1.truth et, k (.bl !b) H1 fe1 [] fr (by rw [List.append_nil]; exact nw.left) (top_c T.drop fun W => ⟨rfl, rfl⟩)⟩
  · simp only [e1] at k; exact k
  · simp only [e1] at k; exact k
def mAndV (ma mb : M D) : M D := ma.bind fun d => (M.ofO d.truth).bind fun k => if k then mb else M.pure d
def mOrV (ma mb : M D) : M D := ma.bind fun d => (M.ofO d.truth).bind fun k => if k then M.pure d else mb
variable {rest : List Expr}
theorem pm_one {op} (h : PM X Wi a ma) : PM X Wi (.BoolOp op [a] pos) ma := pe_one h
theorem pm_and (ha : PM X Wi a ma) (hb : PM X Wi (.BoolOp .And (b :: rest) pos) mb) : PM X Wi (.BoolOp .And (a :: b :: rest) pos) (mAndV ma mb) := by
  refine pe_imp (pe_andT ha hb) fun σ H Q ⟨W0, env, fe, I, k⟩ => ?_
  unfold mAndV M.bind at k
  refine tM_run I (fun d env1 e1 v H1 fe1 fd fr nw T => ?_) (fun x env1 e1 => ?_) (fun e1 => ?_)
  · simp only [e1] at k
    cases et : d.truth with
    | none => rw [et] at k; exact k.elim
    | some b =>
      rw [et] at k
      simp only [M.ofO, M.pure] at k
      obtain ⟨v', e2, h1⟩ := T.val1
      simp only [List.cons.injEq, and_true] at e2
      subst e2
      refine ⟨b, h1.truth et, ?_⟩
      cases b with
      | true =>
        rw [if_pos rfl]
        refine tM_next T.drop fr nw.left (fun d2 env2 e2 v H2 fe2 fd2 fr2 nw2 T2 => ?_) (fun x env2 e2 => ?_) (fun e2 => ?_) <;> simp only [if_true, e2] at k
        · exact k v H2 fe2 fd2 fr2 nw2 T2
        · exact k
        · exact k
      | false => exact k v H1 fe1 fd fr nw T
  · simp only [e1] at k; exact k
  · simp only [e1] at k; exact k
theorem pm_or (ha : PM X Wi a ma) (hb : PM X Wi (.BoolOp .Or (b :: rest) pos) mb) : PM X Wi (.BoolOp .Or (a :: b :: rest) pos) (mOrV ma mb) := by
  refine pe_imp (pe_orT ha hb) fun σ H Q ⟨W0, env, fe, I, k⟩ => ?_
  unfold mOrV M.bind at k
  refine tM_run I (fun d env1 e1 v H1 fe1 fd fr nw T => ?_) (fun x env1 e1 => ?_) (fun e1 => ?_)
  · simp only [e1] at k
    cases et : d.truth with
    | none => rw [et] at k; exact k.elim
    | some b =>
      rw [et] at k
      simp only [M.ofO, M.pure] at k
      obtain ⟨v', e2, h1⟩ := T.val1
      simp only [List.cons.injEq, and_true] at e2
      subst e2
      refine ⟨b, h1.truth et, ?_⟩
      cases b with
      | false =>
        rw [if_neg Bool.false_ne_true]
        refine tM_next T.drop fr nw.left (fun d2 env2 e2 v H2 fe2 fd2 fr2 nw2 T2 => ?_) (fun x env2 e2 => ?_) (fun e2 => ?_) <;> simp only [Bool.false_eq_true, if_false, e2] at k
        · exact k v H2 fe2 fd2 fr2 nw2 T2
        · exact k
        · exact k
      | true => exact k v H1 fe1 fd fr nw T
  · simp only [e1] at k; exact k
  · simp only [e1] at k; exact k
/-- a < b < c over ints -/
def D.toI : D → Option Int
  | .int i => some i
  | _ => none
def mI (m : M D) : M Int := m.bind fun d => M.ofO d.toI
def mChain (g g' : Int → Int → Bool) (ma mb mc : M D) : M D := (mI ma).bind fun i => (mI mb).bind fun j => if g i j then (mI mc).bind fun l => M.pure (.bl (g' j l)) else M.pure (.bl false)
theorem mI_ok {m : M D} {e e' : Env} {i : Int} (h : mI m e = .ok i e') : m e = .ok (.int i) e' := by
  unfold mI M.bind at h
  cases q : m e with
  | ok d e1 =>
    rw [q] at h
    cases d <;> simp_all [D.toI, M.ofO, M.pure, M.bad]
  | exc x e1 => rw [q] at h; cases h
  | bad => rw [q] at h; cases h
theorem mI_exc {m : M D} {e e' : Env} {x : Ex} (h : m e = .exc x e') : mI m e = .exc x e' := by
  unfold mI M.bind; rw [h]
theorem mI_bad {m : M D} {e : Env} (h : m e = .bad) : mI m e = .bad := by
  unfold mI M.bind; rw [h]
theorem mI_int {m : M D} {e e' : Env} {d : D} (h : m e = .ok d e') : (∃ i, d = .int i ∧ mI m e = .ok i e') ∨ mI m e = .bad := by
  unfold mI M.bind
  rw [h]
  cases d with
  | int i => exact .inl ⟨i, rfl, rfl⟩
  | _ => exact .inr rfl
theorem chain_run {g g' : Int → Int → Bool} (I : Top mg W0 env fe σ [] [] [] H) (k : EndE mg Wi W0 fe σ H Q (mChain g g' ma mb mc env)) :
    tChain (rI0 fun i j => .bl (g i j)) (rI0 fun i j => .bl (g' i j)) (tM mg Wi ma) (tM mg Wi mb) (tM mg Wi mc) σ H Q := by
  unfold mChain M.bind at k
  refine tM_run I (fun d1 env1 e1 v H1 fe1 fd fr nw T => ?_) (fun x env1 e1 => ?_) (fun e1 => ?_)
  · rcases mI_int e1 with ⟨i, rfl, q1⟩ | q1
    · simp only [q1] at k
      obtain ⟨v1, e2, _, h1⟩ := T.val1
      simp only [List.cons.injEq, and_true] at e2
      subst e2 h1
      refine tM_next T.drop fr nw.left (fun d2 env2 e2 v2 H2 fe2 fd2 fr2 nw2 T2 => ?_) (fun x env2 e2 => ?_) (fun e2 => ?_)
      · rcases mI_int e2 with ⟨j, rfl, q2⟩ | q2
        · simp only [q2] at k
          obtain ⟨v1, e2, _, h1⟩ := T2.val1
          simp only [List.cons.injEq, and_true] at e2
          subst e2 h1
          refine ⟨i, j, rfl, rfl, _, rfl, ?_⟩
          by_cases hg : g i j = true
          · rw [if_pos hg] at k ⊢
            refine tM_next T2.drop fr2 nw2.left (fun d3 env3 e3 v3 H3 fe3 fd3 fr3 nw3 T3 => ?_) (fun x env3 e3 => ?_) (fun e3 => ?_)
            · rcases mI_int e3 with ⟨l, rfl, q3⟩ | q3
              · simp only [q3] at k
                obtain ⟨v1, e2, _, h1⟩ := T3.val1
                simp only [List.cons.injEq, and_true] at e2
                subst e2 h1
                exact ⟨j, l, rfl, rfl, k _ H3 fe3 [] fr3 (by rw [List.append_nil]; exact nw3.left) (top_c T3.drop fun W => ⟨rfl, rfl⟩)⟩
              · simp only [q3] at k; exact k.elim
            · simp only [mI_exc e3] at k; exact k
            · simp only [mI_bad e3] at k; exact k
          · rw [if_neg hg] at k ⊢
            exact k _ H2 fe2 [] fr2 (by rw [List.append_nil]; exact nw2.left) (top_c T2.drop fun W => ⟨rfl, rfl⟩)
        · simp only [q2] at k; exact k.elim
      · simp only [mI_exc e2] at k; exact k
      · simp only [mI_bad e2] at k; exact k
    · simp only [q1] at k; exact k.elim
  · simp only [mI_exc e1] at k; exact k
  · simp only [mI_bad e1] at k; exact k
theorem pm_chain {op op' : CmpOp} {g g' : Int → Int → Bool} (ho : OpR X (compareOp op) (rI0 fun i j => .bl (g i j))) (ho' : OpR X (compareOp op') (rI0 fun i j => .bl (g' i j))) (ha : PM X Wi a ma) (hb : PM X Wi b mb) (hc : PM X Wi c mc)
    (hm : lastMarks [op, op'] [b, c] = false := by with_unfolding_all rfl) : PM X Wi (.Compare a [op, op'] [b, c] pos) (mChain g g' ma mb mc) :=
  pe_imp (pe_chain ho ho' ha hb hc hm) fun _ _ _ ⟨_, _, _, I, k⟩ => chain_run I k
theorem pmt_chain {op op' : CmpOp} {g g' : Int → Int → Bool} (ho : OpR X (compareOp op) (rI0 fun i j => .bl (g i j))) (ho' : OpR X (compareOp op') (rI0 fun i j => .bl (g' i j))) (ha : PM X Wi a ma) (hb : PM X Wi b mb) (hc : PM X Wi c mc)
    (hm : lastMarks [op, op'] [b, c] = false := by with_unfolding_all rfl) : PMT X Wi (.Compare a [op, op'] [b, c] pos) (mBl (mChain g g' ma mb mc)) :=
  pt_imp (pt_chain ho ho' ha hb hc hm) fun _ _ _ ⟨_, _, _, I, k⟩ => mBl_run (te := tChain _ _ (tM X.gg Wi ma) (tM X.gg Wi mb) (tM X.gg Wi mc)) I k fun _ k' => chain_run I k'

/-! slices -/
structure PMO (X : Cx) (Wi : WX) (e : Option Expr) (m : M (Option Int)) : Prop where
  run : PO X e (tT X.gg Wi m)
theorem po_imp {e : Option Expr} {t t' : TO} (h : PO X e t) (k : ∀ σ H Q, t' σ H Q → t σ H Q) : PO X e t' := ⟨fun pins s σ H Q I q => h.run pins s σ H Q I (k σ H Q q)⟩
theorem pmo_none : PMO X Wi none (M.pure none) := ⟨po_imp po_none fun σ H Q ⟨W0, env, fe, I, k⟩ => k H fe Fr.refl Nw.refl I⟩
theorem pmo_some (h : PM X Wi a ma) : PMO X Wi (some a) ((mI ma).bind fun i => M.pure (some i)) := ⟨po_imp (po_some h) fun σ H Q ⟨W0, env, fe, I, k⟩ => by
  unfold M.bind at k
  refine tM_run I (fun d env1 e1 v H1 fe1 fd fr nw T => ?_) (fun x env1 e1 => ?_) (fun e1 => ?_)
  · rcases mI_int e1 with ⟨i, rfl, q1⟩ | q1
    · simp only [q1] at k
      obtain ⟨v1, e2, _, h1⟩ := T.val1
      simp only [List.cons.injEq, and_true] at e2
      subst e2 h1
      exact ⟨i, rfl, k H1 fe1 fr nw.left T.drop⟩
    · simp only [q1] at k; exact k.elim
  · simp only [mI_exc e1] at k; exact k
  · simp only [mI_bad e1] at k; exact k⟩
def mSlice (g : D → Option Int → Option Int → Option D) (ma : M D) (ml mh : M (Option Int)) : M D := ma.bind fun d => ml.bind fun l => mh.bind fun h => M.ofO (g d.fz l h)
def OpSl (mg : G) (r : V → Option Int → Option Int → Hp → VK → Prop) (g : D → Option Int → Option Int → Option D) : Prop := ∀ l h, Op1 mg (fun x H Q => r x l h H Q) (fun d => g d l h)
theorem pm_slice {lo hi : Option Expr} {ml mh : M (Option Int)} {p2 : Pos} {r : V → Option Int → Option Int → Hp → VK → Prop} {g : D → Option Int → Option Int → Option D} (hr : SlR X r) (og : OpSl X.gg r g) (he : PM X Wi a ma) (hl : PMO X Wi lo ml) (hu : PMO X Wi hi mh) :
    PM X Wi (.Subscript a (.Slice lo hi none p2) pos) (mSlice g ma ml mh) := by
  refine pe_imp (pe_slice hr he hl.run hu.run) fun σ H Q ⟨W0, env, fe, I, k⟩ => ?_
  unfold mSlice M.bind at k
  refine tM_run I (fun d env1 e1 v H1 fe1 fd fr nw T => ?_) (fun x env1 e1 => ?_) (fun e1 => ?_)
  · simp only [e1] at k
    refine T.runT fr nw (fun l env2 e2 H2 fe2 fr2 nw2 T2 => ?_) (fun x env2 e2 => ?_) (fun e2 => ?_) <;> simp only [e2] at k
    · refine T2.runT fr2 nw2 (fun h env3 e3 H3 fe3 fr3 nw3 T3 => ?_) (fun x env3 e3 => ?_) (fun e3 => ?_) <;> simp only [e3] at k
      · cases eg : g d.fz l h with
        | none => rw [eg] at k; exact k.elim
        | some d' =>
          rw [eg] at k
          obtain ⟨x, e4, q⟩ := T3.op (og l h) (d := d') (Q := Q) eg fr3 nw3.left k
          simp only [List.cons.injEq, and_true] at e4
          subst e4
          exact q
      · exact k
      · exact k
    · exact k
    · exact k
  · simp only [e1] at k; exact k
  · simp only [e1] at k; exact k

/-! methods of built-in types that change nothing -/
def D.ty : D → String
  | .str _ => "str" | .int _ => "int" | .lst _ _ => "list" | .dic _ _ _ => "dict" | .tup _ => "tuple" | .bl _ => "bool" | .non => "NoneType" | .ins _ _ _ _ => "" | .scr _ => "list"
def D.meth : D → Bool
  | .str _ => true | .lst _ _ => true | .dic _ _ _ => true | _ => false
theorem R.tyV {W : Addr → Prop} {d : D} {fp : List Addr} {v : V} (h : R mg H W d fp v) (e : d.meth = true) : tyV X.K d.ty v H := by
  cases d with
  | str s => obtain ⟨_, rfl⟩ := h; rfl
  | lst o xs =>
    cases o with
    | true =>
      simp only [R] at h
      obtain ⟨a, vs, f1, rfl, _, h1, h2⟩ := h
      exact .inl ⟨rfl, vs, SqL.of h1⟩
    | false =>
      simp only [R] at h
      obtain ⟨_, a, vs, rfl, ⟨h1, _⟩, h2⟩ := h
      exact .inl ⟨rfl, vs, SqL.of h1⟩
  | dic o ks xs =>
    cases o with
    | true =>
      simp only [R] at h
      obtain ⟨a, kvs, f1, rfl, _, h1, hk, h2⟩ := h
      exact .inr (.inr (.inl ⟨rfl, .inl ⟨kvs, h1⟩⟩))
    | false =>
      simp only [R] at h
      obtain ⟨_, a, kvs, rfl, ⟨h1, _⟩, hk, h2⟩ := h
      exact .inr (.inr (.inl ⟨rfl, .inl ⟨kvs, h1⟩⟩))
  | _ => simp [D.meth] at e
def mMeth (T : String) (g : D → List D → Option D) (mo : M D) (ms : M (List D)) : M D := mo.bind fun o => if o.meth && o.ty == T then ms.bind fun ds => M.ofO (g o.fz (fzs ds)) else M.bad
def OpM (mg : G) (r : V → List V → Hp → VK → Prop) (g : D → List D → Option D) : Prop :=
  OpS mg (fun vs H Q => ∃ x xs, vs = x :: xs ∧ r x xs H Q) (fun ds => match ds with | d :: ds => g d ds | _ => none)
theorem mMeth_run {T : String} {r : V → List V → Hp → VK → Prop} {g : D → List D → Option D} (og : OpM X.gg r g) (I : Top X.gg W0 env fe σ [] [] [] H) (k : EndE X.gg Wi W0 fe σ H Q (mMeth T g mo ms env)) :
    tM X.gg Wi mo σ H fun x H1 => tyV X.K T x H1 ∧ tA X.gg Wi ms σ H1 fun xs H2 => r x xs H2 Q := by
  unfold mMeth M.bind at k
  refine tM_run I (fun d env1 e1 v H1 fe1 fd fr nw T => ?_) (fun x env1 e1 => ?_) (fun e1 => ?_)
  · simp only [e1] at k
    split at k
    · rename_i ht
      simp only [Bool.and_eq_true, beq_iff_eq] at ht
      obtain ⟨v', e2, h1⟩ := T.val1
      simp only [List.cons.injEq, and_true] at e2
      subst e2
      refine ⟨by rw [← ht.2]; exact h1.tyV ht.1, ?_⟩
      refine T.runA fr nw (fun d2 env2 e2 us H2 fe2 fd2 fr2 nw2 T2 => ?_) (fun x env2 e2 => ?_) (fun e2 => ?_) <;> simp only [e2] at k
      · cases eg : g d.fz (fzs d2) with
        | none => rw [eg] at k; exact k.elim
        | some d' =>
          rw [eg] at k
          obtain ⟨x, xs, e4, q⟩ := T2.op og (d := d') (Q := Q) (by simpa [fzs] using eg) fr2 nw2.left k
          simp only [List.singleton_append, List.cons.injEq] at e4
          obtain ⟨rfl, rfl⟩ := e4
          exact q
      · exact k
      · exact k
    · exact k.elim
  · simp only [e1] at k; exact k
  · simp only [e1] at k; exact k
theorem pm_bm {T id : String} {name : Str} {apos : Pos} {r : V → List V → Hp → VK → Prop} {g : D → List D → Option D} (pa : PlainAttrs T) (slot : Slot T name id) (hty : typeOf (.builtin id) = pure (.type "method_descriptor")) (hm : MtR X id r) (og : OpM X.gg r g) (ho : PM X Wi o mo) (ha : PMA X Wi (a :: es) ms)
    (hbase : attributeBase o name X.env (eval o X.env) = eval o X.env := by rfl)
    (hfew : ((backTo pos (starEach (a :: es) X.env)).all (fun x => !x.1) && (backToKw pos (keywordEach [] X.env)).all (fun x => x.1.isSome)
      && decide ((a :: es).length + ([] : List Keyword).length + (if ([] : List Keyword).isEmpty then 0 else 1) < 30)) = true := by rfl)
    (hline : (apos.endLine == pos.line) = true := by rfl) (hs : starEach (a :: es) X.env = (false, eval a X.env) :: starEach es X.env := by rfl) (hplain : (backTo pos (starEach es X.env)).any (·.1) = false := by rfl) :
    PM X Wi (.Call (.Attribute o name apos) (a :: es) [] pos) (mMeth T g mo ms) :=
  pe_imp (pe_bm pa slot hty hm ho ha hbase hfew hline hs hplain) fun _ _ _ ⟨_, _, _, I, k⟩ => mMeth_run og I k
def mMeth0 (T : String) (g : D → Option D) (mo : M D) : M D := mo.bind fun o => if o.meth && o.ty == T then M.ofO (g o.fz) else M.bad
theorem pm_bm0 {T id : String} {name : Str} {apos : Pos} {r : V → List V → Hp → VK → Prop} {g : D → Option D} (pa : PlainAttrs T) (slot : Slot T name id) (hty : typeOf (.builtin id) = pure (.type "method_descriptor")) (hm : MtR X id r) (og : Op1 X.gg (fun x H Q => r x [] H Q) g) (ho : PM X Wi o mo)
    (hbase : attributeBase o name X.env (eval o X.env) = eval o X.env := by rfl) (hline : (apos.endLine == pos.line) = true := by rfl) : PM X Wi (.Call (.Attribute o name apos) [] [] pos) (mMeth0 T g mo) := by
  refine pe_imp (pe_bm0 pa slot hty hm ho hbase hline) fun σ H Q ⟨W0, env, fe, I, k⟩ => ?_
  unfold mMeth0 M.bind at k
  refine tM_run I (fun d env1 e1 v H1 fe1 fd fr nw T => ?_) (fun x env1 e1 => ?_) (fun e1 => ?_)
  · simp only [e1] at k
    split at k
    · rename_i ht
      simp only [Bool.and_eq_true, beq_iff_eq] at ht
      obtain ⟨v', e2, h1⟩ := T.val1
      simp only [List.cons.injEq, and_true] at e2
      subst e2
      refine ⟨by rw [← ht.2]; exact h1.tyV ht.1, ?_⟩
      cases eg : g d.fz with
      | none => rw [eg] at k; exact k.elim
      | some d' =>
        rw [eg] at k
        obtain ⟨x, e4, q⟩ := T.op og (d := d') (Q := Q) eg fr nw.left k
        simp only [List.cons.injEq, and_true] at e4
        subst e4
        exact q
    · exact k.elim
  · simp only [e1] at k; exact k
  · simp only [e1] at k; exact k
end
end VL


set_option Elab.async false
set_option linter.all false
set_option maxRecDepth 100000
set_option maxHeartbeats 4000000
namespace VL
open PySem PySem.Spec L2
open PyProof.Rows hiding St

inductive FRes where
  | ok (d o : D) | exc (x : Ex) (o : D) | bad
abbrev Fn := List D → FRes
def IoV (io : Option Nat) (vs : List V) : List V := match io with | none => [] | some j => (vs[j]?).toList
def IoD (io : Option Nat) (o : D) : List D := match io with | none => [] | some _ => [o]
section
variable (mg : G)
def EndF (W0 : Addr → Prop) (io : Option Nat) (vs : List V) (fd : List Addr) (H : Hp) (Q : VK) (E : XK) : FRes → Prop
  | .ok d o => ∀ v H' fr, Fr fd H H' → Nw H fd fr → Top mg W0 [] [] [] (d :: IoD io o) fr (v :: IoV io vs) H' → Q v H'
  | .exc x o => ∀ cls dd H' fo, Fr fd H H' → Nw H fd fo → Top mg W0 [] [] [] (IoD io o) fo (IoV io vs) H' → ExR mg H' (Wx W0 [] fo) x cls dd → E cls dd H'
  | .bad => False
/-- a def's promise: it computes F; the argument at io is changed in place -/
def spF (n : Nat) (io : Option Nat) (F : Fn) : Sp := fun vs H Q E => ∃ W0 ds fd, vs.length = n ∧ Top mg W0 [] [] [] ds fd vs H ∧ EndF mg W0 io vs fd H Q E (F ds)
end

section
variable {mg : G} {Wi : WX} {W0 : Addr → Prop} {fe fe1 fd fr fo f : List Addr} {env env1 : Env} {σ : St} {H H1 H' : Hp} {ds : List D} {vs us : List V} {d : D} {v : V} {Q : VK} {i j : Nat}
/-- the slots hidden -/
theorem Top.hide (I : Top mg W0 env fe σ ds [] vs H) : Top mg (fun b => W0 b ∨ b ∈ fe) [] [] [] ds [] vs H := by
  refine ⟨⟨rfl, rfl⟩, Rs.mono _ _ _ I.t (fun _ _ q _ => q) (fun b h _ z => ?_), List.nodup_nil, fun b h => ?_, fun b hb => absurd hb (by simp)⟩
  · rcases z with (z | z) | z | z
    · exact h (.inl z)
    · exact h (.inr (.inl z))
    · simp at z
    · simp at z
  · rcases h with h | h
    · exact I.w0 b h
    · exact I.e.mut b h
theorem Top.show (I : Top mg W0 env fe σ [] [] [] H) (kp : Fr [] H H') (nw : Nw H [] fr) (J : Top mg (fun b => W0 b ∨ b ∈ fe) [] [] [] ds fr vs H') : Top mg W0 env fe σ ds fr vs H' := by
  refine I.grow (fun b x q => kp b x q (by simp)) (fun b hb => (nw b hb).resolve_left (by simp)) (by simpa using J.nd) (Rs.mono _ _ _ J.t (fun _ _ q _ => q) fun b h _ z => ?_)
  rcases z with (z | z | z) | z
  · exact h (.inl (.inl z))
  · exact h (.inl (.inr z))
  · simp at z
  · exact h (.inr (.inr z))

def callF (F : Fn) (ds : List D) : M D := match F ds with
  | .ok d _ => M.pure d
  | .exc x _ => M.raise x
  | .bad => M.bad
theorem callF_run {F : Fn} {n : Nat} (T : Top mg W0 env1 fe1 σ ds [] vs H1) (hn : vs.length = n) (fr : Fr fe H H1) (nw : Nw H fe fe1) (k : EndE mg Wi W0 fe σ H Q (callF F ds env1)) :
    spF mg n none F vs H1 Q (WE Wi σ) := by
  refine ⟨_, ds, [], hn, T.hide, ?_⟩
  unfold callF at k
  cases eF : F ds with
  | ok d o =>
    rw [eF] at k
    intro v H' f2 kp nw2 J
    have T2 := T.drop.show kp nw2 J
    exact k v H' fe1 f2 (fr.trans nw fun b x q _ => kp b x q (by simp)) (nw.app (Nw.trans fr nw fun b hb => .inr ((nw2 b hb).resolve_left (by simp)))) T2
  | exc x o =>
    rw [eF] at k
    intro cls dd H' f2 kp nw2 J ex
    have J' : Top mg (fun b => W0 b ∨ b ∈ fe1) [] [] [] [] [] [] H' := J.drop
    have T2 := T.drop.show kp (fr := []) (fun b hb => absurd hb (by simp)) J'
    refine k cls dd H' fe1 (fr.trans nw fun b x q _ => kp b x q (by simp)) nw T2 ?_
    obtain ⟨C, h1, h2, h3⟩ := ex
    refine ⟨C, h1, h2, fun hn => ?_⟩
    obtain ⟨d, fs, q1, q2, q3, q4⟩ := h3 hn
    refine ⟨d, fs, q1, q2, q3, Rs.mono _ _ _ q4 (fun _ _ q _ => q) fun b h _ z => ?_⟩
    rcases z with z | z | z
    · exact h (.inl (.inl z))
    · exact h (.inl (.inr z))
    · simp at z
  | bad => rw [eF] at k; exact k.elim
def mCallF (F : Fn) (ms : M (List D)) : M D := ms.bind fun ds => callF F (fzs ds)

theorem Rs.insert : ∀ {ds : List D} {vs : List V} {W : Addr → Prop} (j : Nat), Rs mg H W ds [] vs → R mg H W d f v → j ≤ ds.length → Rs mg H W (ds.insertIdx j d) f (vs.insertIdx j v) ∧ (vs.insertIdx j v)[j]? = some v
  | ds, vs, W, 0, h, r, _ => by
    simp only [List.insertIdx_zero, Rs, List.getElem?_cons_zero, and_true]
    exact ⟨f, [], v, vs, by simp, rfl, r, h⟩
  | [], vs, W, j + 1, h, r, hj => by simp at hj
  | d' :: ds, vs, W, j + 1, h, r, hj => by
    simp only [Rs] at h
    obtain ⟨f1, f2, u, us, e, rfl, h1, h2⟩ := h
    obtain ⟨rfl, rfl⟩ := List.append_eq_nil_iff.mp e.symm
    obtain ⟨q1, q2⟩ := Rs.insert j h2 r (by simpa using hj)
    simp only [List.insertIdx_succ_cons, Rs, List.getElem?_cons_succ]
    exact ⟨⟨[], f, u, _, rfl, rfl, h1, q1⟩, q2⟩

/-- a call that changes what slot i holds, the argument at place j -/
def callIO (F : Fn) (i j : Nat) (ds : List D) : M D := fun env => match env[i]? with
  | some (some d0) => if j ≤ ds.length then (match F (ds.insertIdx j d0) with
    | .ok d o => .ok d (env.set i (some o))
    | .exc x o => .exc x (env.set i (some o))
    | .bad => .bad) else .bad
  | _ => .bad
theorem callIO_run {F : Fn} {n : Nat} (T : Top mg W0 env1 fe1 σ ds [] us H1) (hs : σ[i]? = some (some v)) (hn : us.length + 1 = n) (fr : Fr fe H H1) (nw : Nw H fe fe1) (k : EndE mg Wi W0 fe σ H Q (callIO F i j ds env1)) :
    spF mg n (some j) F (us.insertIdx j v) H1 Q (WE Wi σ) := by
  unfold callIO at k
  split at k
  rotate_left
  · exact k.elim
  rename_i d0 hd
  split at k
  rotate_left
  · exact k.elim
  rename_i hj
  obtain ⟨f1, f2, f3, v0, q1, q2, q3, q4⟩ := T.e.get hd
  rw [hs] at q2
  obtain rfl : v = v0 := by simpa using q2
  have hi : i < env1.length := (List.getElem?_eq_some_iff.mp hd).1
  have nd := T.nd
  rw [List.append_nil, q1] at nd
  have n1 := List.nodup_append.mp nd
  have n2 := List.nodup_append.mp n1.1
  have ap12 : ∀ b ∈ f1, b ∉ f2 := fun b h z => n2.2.2 b h b z rfl
  have ap32 : ∀ b ∈ f3, b ∉ f2 := fun b h z => n1.2.2 b (List.mem_append_right _ z) b h rfl
  have sub : ∀ b, b ∈ f1 ++ f3 ∨ b ∈ f2 ↔ b ∈ fe1 := fun b => by rw [q1]; simp only [List.mem_append]; grind
  have wit : ∀ b, Wx W0 fe1 [] b ↔ Wx (fun b => W0 b ∨ b ∈ f1 ++ f3) [] f2 b := fun b => by
    have := sub b
    simp only [Wx, List.not_mem_nil, or_false, false_or]
    rw [← this, or_assoc]
  obtain ⟨ri, gi⟩ := Rs.insert j T.t q3 hj
  have I0 : Top mg (fun b => W0 b ∨ b ∈ f1 ++ f3) [] [] [] (ds.insertIdx j d0) f2 (us.insertIdx j v) H1 := by
    refine ⟨⟨rfl, rfl⟩, Rs.mono _ _ _ ri (fun _ _ q _ => q) (fun b h _ z => h ((wit b).mpr z)), by simpa using n2.2.1, fun b h => ?_, fun b hb h => ?_⟩
    · rcases h with h | h
      · exact T.w0 b h
      · exact T.e.mut b ((sub b).mp (.inl h))
    · rw [List.nil_append] at hb
      rcases h with h | h
      · exact T.ap b (by rw [List.append_nil]; exact (sub b).mp (.inr hb)) h
      · rcases List.mem_append.mp h with h | h
        · exact ap12 b h hb
        · exact ap32 b h hb
  refine ⟨_, _, f2, ?_, I0, ?_⟩
  · rw [List.length_insertIdx, if_pos (by rw [← T.t.len]; exact hj)]; exact hn
  have iov : IoV (some j) (us.insertIdx j v) = [v] := by simp [IoV, gi]
  -- the slots behind the call
  have after : ∀ {H' : Hp} {g : List Addr} {o : D} {ds' : List D} {fr' : List Addr} {vs' : List V}, Fr f2 H1 H' → Nw H1 f2 (fr' ++ g) → Rs mg H' (Wx (fun b => W0 b ∨ b ∈ f1 ++ f3) [] (fr' ++ g)) ds' fr' vs' → R mg H' (Wx (fun b => W0 b ∨ b ∈ f1 ++ f3) [] (fr' ++ g)) o g v → (fr' ++ g).Nodup →
      (∀ b, W0 b ∨ b ∈ f1 ++ f3 → Mut (H' b)) → (∀ b ∈ fr' ++ g, ¬ (W0 b ∨ b ∈ f1 ++ f3)) →
      ∃ fe2, Top mg W0 (env1.set i (some o)) fe2 σ ds' fr' vs' H' ∧ Fr fe H H' ∧ Nw H fe (fe2 ++ fr') ∧ ∀ b ∈ fe2, b ∈ f1 ++ f3 ∨ b ∈ g := fun {H' g o ds' fr' vs'} kp nw2 rd ro ndg mu apg => by
    have w1 : ∀ b, ¬ Wx W0 fe1 [] b → H1 b ≠ none → ¬ Wx W0 (f1 ++ f3 ++ g) fr' b := fun b h t z => by
      rcases z with z | z | z
      · exact h (.inl z)
      · rcases List.mem_append.mp z with z | z
        · exact h (.inr (.inl ((sub b).mp (.inl z))))
        · rcases nw2 b (List.mem_append_right _ z) with q | q
          · exact h (.inr (.inl ((sub b).mp (.inr q))))
          · exact t q
      · rcases nw2 b (List.mem_append_left _ z) with q | q
        · exact h (.inr (.inl ((sub b).mp (.inr q))))
        · exact t q
    have w2 : ∀ b, ¬ Wx (fun b => W0 b ∨ b ∈ f1 ++ f3) [] (fr' ++ g) b → H' b ≠ none → ¬ Wx W0 (f1 ++ f3 ++ g) fr' b := fun b h _ z => by
      rcases z with z | z | z
      · exact h (.inl (.inl z))
      · rcases List.mem_append.mp z with z | z
        · exact h (.inl (.inr z))
        · exact h (.inr (.inr (List.mem_append_right _ z)))
      · exact h (.inr (.inr (List.mem_append_left _ z)))
    have e1 : EnvR mg H' (Wx W0 (f1 ++ f3 ++ g) fr') (env1.set i none) (f1 ++ f3) σ := q4.mono (fun b x q z => kp b x q fun hb => by
      rcases z with z | z
      · exact z (.inr (.inl ((sub b).mp (.inr hb))))
      · rcases List.mem_append.mp z with z | z
        · exact ap12 b z hb
        · exact ap32 b z hb) w1
    obtain ⟨g1, g3, q5, q6⟩ := e1.put hi (R.mono _ _ _ ro (fun _ _ q _ => q) w2)
    have es : σ.set i (some v) = σ := by
      apply List.ext_getElem?
      intro l
      by_cases hl : i = l
      · subst hl
        rw [List.getElem?_set_self (List.getElem?_eq_some_iff.mp hs).1, hs]
      · rw [List.getElem?_set_ne hl]
    rw [es] at q6
    have pm : ∀ b, b ∈ g1 ++ g ++ g3 ↔ b ∈ f1 ++ f3 ++ g := fun b => by rw [q5]; simp only [List.mem_append]; grind
    have pp : List.Perm (g1 ++ g ++ g3) (f1 ++ f3 ++ g) := by
      rw [q5, List.append_assoc, List.append_assoc]
      exact List.Perm.append_left _ List.perm_append_comm
    have wq : ∀ b, ¬ Wx W0 (f1 ++ f3 ++ g) fr' b → H' b ≠ none → ¬ Wx W0 (g1 ++ g ++ g3) fr' b := fun b h _ z => by
      rcases z with z | z | z
      · exact h (.inl z)
      · exact h (.inr (.inl ((pm b).mp z)))
      · exact h (.inr (.inr z))
    refine ⟨g1 ++ g ++ g3, ⟨q6.mono (fun _ _ q _ => q) wq, Rs.mono _ _ _ rd (fun _ _ q _ => q) fun b h t => wq b (w2 b h t) t, ?_, fun b h => mu b (.inl h), fun b hb h => ?_⟩, fr.trans nw fun b x q hb => kp b x q fun z => hb ((sub b).mp (.inr z)), ?_, fun b hb => by have := (pm b).mp hb; simpa [or_assoc] using this⟩
    · have p1 : List.Perm (g1 ++ g ++ g3 ++ fr') (f1 ++ f3 ++ (fr' ++ g)) := by
        refine (pp.append_right fr').trans ?_
        rw [List.append_assoc]
        exact List.Perm.append_left _ List.perm_append_comm
      refine p1.nodup_iff.mpr (List.nodup_append.mpr ⟨?_, ndg, fun a ha b hb e => apg b hb (.inr (e ▸ ha))⟩)
      exact nd.sublist (by simp)
    · rcases List.mem_append.mp hb with hb | hb
      · rcases List.mem_append.mp ((pm b).mp hb) with hb | hb
        · exact T.ap b (by rw [List.append_nil]; exact (sub b).mp (.inl hb)) h
        · exact apg b (List.mem_append_right _ hb) (.inl h)
      · exact apg b (List.mem_append_left _ hb) (.inl h)
    · have n2' : Nw H1 fe1 (fr' ++ g) := fun b hb => (nw2 b hb).imp (fun q => (sub b).mp (.inr q)) id
      have n3 := Nw.trans fr nw n2'
      intro b hb
      rcases List.mem_append.mp hb with hb | hb
      · rcases List.mem_append.mp ((pm b).mp hb) with hb | hb
        · exact nw b ((sub b).mp (.inl hb))
        · exact n3 b (List.mem_append_right _ hb)
      · exact n3 b (List.mem_append_left _ hb)
  cases eF : F (ds.insertIdx j d0) with
  | ok d o =>
    rw [eF] at k
    intro v' H' f4 kp nw2 J
    rw [iov] at J
    obtain ⟨t1, t2, w1, w2, e1, e2, r1, r2⟩ := J.t
    simp only [List.cons.injEq] at e2
    obtain ⟨rfl, rfl⟩ := e2
    obtain ⟨t3, t4, w3, w4, e3, e4, r3, r4, r5⟩ := r2
    simp only [List.cons.injEq] at e4
    obtain ⟨rfl, rfl⟩ := e4
    subst r4 e3
    rw [List.append_nil] at e1
    subst e1
    obtain ⟨fe2, T2, a1, a2, a3⟩ := after kp nw2 (Rs.one r1) r3 (by simpa using J.nd) J.w0 (fun b hb => J.ap b (by simpa using hb))
    exact k _ H' fe2 t1 a1 a2 T2
  | exc x o =>
    rw [eF] at k
    intro cls dd H' f4 kp nw2 J ex
    rw [iov] at J
    obtain ⟨t3, t4, w3, w4, e3, e4, r3, r4, r5⟩ := J.t
    simp only [List.cons.injEq] at e4
    obtain ⟨rfl, rfl⟩ := e4
    subst r4 e3
    simp only [List.append_nil] at J nw2 r3 ex
    obtain ⟨fe2, T2, a1, a2, a3⟩ := after (fr' := []) (ds' := []) (vs' := []) kp nw2 ⟨rfl, rfl⟩ r3 (by simpa using J.nd) J.w0 (fun b hb => J.ap b (by simpa using hb))
    refine k cls dd H' fe2 a1 (by simpa using a2) T2 ?_
    obtain ⟨C, h1, h2, h3⟩ := ex
    refine ⟨C, h1, h2, fun hn => ?_⟩
    obtain ⟨d, fs, x1, x2, x3, x4⟩ := h3 hn
    refine ⟨d, fs, x1, x2, x3, ?_⟩
    have imx := x4
    refine Rs.mono _ _ _ x4 (fun _ _ q _ => q) fun b h t z => ?_
    rcases z with z | z | z
    · exact h (.inl (.inl z))
    · rcases a3 b z with q | q
      · exact h (.inl (.inr q))
      · exact h (.inr (.inr q))
    · simp at z
  | bad => rw [eF] at k; exact k.elim
end
end VL


set_option Elab.async false
set_option linter.all false
set_option maxRecDepth 100000
set_option maxHeartbeats 4000000
namespace VL
open PySem PySem.Spec L2
open PyProof.Rows hiding St

/-! ### calls at the hand layer, what is raised by the slots -/
section
variable {X : Cx} {CX : CXT} {k : Nat} {f C : Addr} {fd : FuncData} {ps : List Str} {sp : Sp} {E : L2.St → XK} {x m : Str} {p pos apos : Pos} {e o : Expr} {es : List Expr} {ta : TE} {t : TA}
def tMethE (C : Addr) (m : Str) (sp : Sp) (E : L2.St → XK) (ta : TE) (t : TA) : TE := fun σ H Q => ta σ H fun x H1 => ∃ a dx fs, x = .ref a ∧ H1 a = some (.ins C dx fs) ∧ fs.lookup m = none ∧ t σ H1 fun vs H2 => sp (x :: vs) H2 Q (E σ)
theorem pe_methE {pl : Sem Bool} (he : PE X o ta) (c : Cls X.K C) (hm : Meth X.K C m f) (F : FnOk X.prog X.w X.K X.mg X.base CX k f fd ps sp) (hr : Room k X.A) (hb : Binds X.K fd ps []) (hx : ∀ σ, PassesAt CX X σ (E σ)) (ha : PA X (e :: es) t)
    (hst : starEach (e :: es) X.env = (false, eval e X.env) :: starEach es X.env := by rfl) (hpl : (backTo pos (starEach es X.env)).any (·.1) = false := by rfl)
    (ht : eval (.Call (.Attribute o m apos) (e :: es) [] pos) X.env = (do
      let ov ← eval o X.env
      standAt apos.atName
      let (f, first) ← holding [ov] (getMethod ov m pl)
      callWith pos f first (backTo pos (starEach (e :: es) X.env)) (backToKw pos (keywordEach [] X.env))) := by rfl) :
    PE X (.Call (.Attribute o m apos) (e :: es) [] pos) (tMethE C m sp E ta t) := by
  refine ⟨fun pins s σ H Q I h => ?_⟩
  refine PySem.W.methodCall_KW (pl := pl) (thn (he.run pins s σ H _ I h) fun u s1 ⟨x, H1, I1, rx, a, dx, fs, ex, ea, l, q⟩ => ?_) ht
  subst ex
  obtain rfl : u = Value.ref a := rx
  refine getmeth_ok I1 ea c hm l ?_
  refine PySem.W.callWith_K (first := [.ref a]) (h₀ := X.base) I.ok.mod.kin hm.kp (thn (ha.run pos pins s1 σ H1 _ I1 q) fun us s2 ⟨vs, H2, I2, r, q2⟩ => ⟨I2.kIn, ?_⟩) hst hpl
  exact run_fnS (us := .ref a :: us) (vs := .ref a :: vs) F hr hb (hx σ) I2 (.cons rfl r) q2
theorem pe_methE0 {pl : Sem Bool} (he : PE X o ta) (c : Cls X.K C) (hm : Meth X.K C m f) (F : FnOk X.prog X.w X.K X.mg X.base CX k f fd ps sp) (hr : Room k X.A) (hb : Binds X.K fd ps []) (hx : ∀ σ, PassesAt CX X σ (E σ))
    (ht : eval (.Call (.Attribute o m apos) [] [] pos) X.env = (do
      let ov ← eval o X.env
      standAt apos.atName
      let (f, first) ← holding [ov] (getMethod ov m pl)
      callWith pos f first (backTo pos (starEach [] X.env)) (backToKw pos (keywordEach [] X.env))) := by rfl) :
    PE X (.Call (.Attribute o m apos) [] [] pos) (tMethE C m sp E ta tNil) := by
  refine ⟨fun pins s σ H Q I h => ?_⟩
  refine PySem.W.methodCall_KW (pl := pl) (thn (he.run pins s σ H _ I h) fun u s1 ⟨x, H1, I1, rx, a, dx, fs, ex, ea, l, q⟩ => ?_) ht
  subst ex
  obtain rfl : u = Value.ref a := rx
  refine getmeth_ok I1 ea c hm l ?_
  exact PySem.W.callWith_K0 (first := [.ref a]) I1.kIn hm.kp (run_fnS (us := [.ref a]) (vs := [.ref a]) F hr hb (hx σ) I1 (.cons rfl .nil) q)
def tMakeE (C : Addr) (sp : Sp) (E : L2.St → XK) (t : TA) : TE := fun σ H Q => t σ H fun vs H1 => ∀ x dx, H1 x = none → H1 dx = none → dx ≠ x →
  sp (.ref x :: vs) (upd (upd H1 dx (.own x)) x (.ins C dx [])) (fun v H2 => v = .non ∧ Q (.ref x) H2) (E σ)
theorem run_makeE {pins : List (Addr × Obj)} {σ : L2.St} {H : Hp} {s : Shared} {Q : VK} {us : List Value} {vs : List V} (M : Mk X.K C f) (F : FnOk X.prog X.w X.K X.mg X.base CX k f fd ps sp) (hr : Room (k + 1) X.A) (hb : Binds X.K fd ps [])
    {E1 : XK} (hx : PassesAt CX X σ E1) (I : Inv X pins σ H s) (r : Vals vs us)
    (h : ∀ x dx, H x = none → H dx = none → dx ≠ x → sp (.ref x :: vs) (upd (upd H dx (.own x)) x (.ins C dx [])) (fun v H2 => v = .non ∧ Q (.ref x) H2) E1) :
    wpAny (model X.prog X.w) X.A (call (.ref C) us) (EP X pins σ Q) X.xe s := by
  have hq := h (s.heap.objs.size + 1) s.heap.objs.size (I.hok.fresh (Nat.le_succ _)) (I.hok.fresh (Nat.le_refl _)) (Nat.ne_of_lt (Nat.lt_succ_self _))
  have I2 := Inv.made (C := C) I
  have r2 : Vals (V.ref (s.heap.objs.size + 1) :: vs) (Value.ref (s.heap.objs.size + 1) :: us) := .cons rfl r
  have hl : (Value.ref (s.heap.objs.size + 1) :: us).length = ps.length := by
    have e := r2.length
    rw [F.len _ _ _ _ hq] at e
    exact e.symm
  have hbb := hb _ (Value.ref (s.heap.objs.size + 1) :: us) I2.kIn (by rw [List.append_nil]; exact hl)
  rw [List.append_nil] at hbb
  refine wpAny_call (make_map (f := f) I.kIn M.makes M.init (beq_iff_eq.mp M.fn) (codeAny_mono (F.run _ X.stack _ _ ⟨Value.ref (s.heap.objs.size + 1) :: us, []⟩ (Value.ref (s.heap.objs.size + 1) :: us) _ _ E1 (hr.make C us [])
    (I2.env0.make C us []) hbb r2 hq) fun r s' hq' => ?_))
  cases r with
  | error e => exact hx pins _ _ e s' I2 hq'
  | ok fl =>
    cases fl with
    | ret u =>
      obtain ⟨v, H', I3, rv, ev, q3⟩ := I2.after hq'
      subst ev
      exact ⟨rv, ⟨V.ref (s.heap.objs.size + 1), H', I3, rfl, q3⟩⟩
    | next => exact False.elim hq'
    | brk => exact False.elim hq'
    | cont => exact False.elim hq'
theorem pe_makeE (M : Mk X.K C f) (F : FnOk X.prog X.w X.K X.mg X.base CX k f fd ps sp) (hr : Room (k + 1) X.A) (hg : Gl X x) (hm : X.mg x = some (.ref C)) (hb : Binds X.K fd ps []) (hx : ∀ σ, PassesAt CX X σ (E σ))
    (ha : PA X (e :: es) t) (hdb : (x == ("__debug__" : Str)) = false := by decide) (he : starEach (e :: es) X.env = (false, eval e X.env) :: starEach es X.env := by rfl) (hpl : (backTo pos (starEach es X.env)).any (·.1) = false := by rfl) :
    PE X (.Call (.Name x p) (e :: es) [] pos) (tMakeE C sp E t) := by
  refine ⟨fun pins s σ H Q I h => ?_⟩
  refine wpAny_Call_Name_kw (ld_glob I hg hm ?_ hdb)
  refine PySem.W.callWith_K (h₀ := X.base) I.ok.mod.kin M.kp (thn (ha.run pos pins s σ H _ I h) fun us s1 ⟨vs, H1, I1, r, q⟩ => ⟨I1.kIn, ?_⟩) he hpl
  exact run_makeE M F hr hb (hx σ) I1 r q
theorem pe_makeE0 (M : Mk X.K C f) (F : FnOk X.prog X.w X.K X.mg X.base CX k f fd ps sp) (hr : Room (k + 1) X.A) (hg : Gl X x) (hm : X.mg x = some (.ref C)) (hb : Binds X.K fd ps []) (hx : ∀ σ, PassesAt CX X σ (E σ))
    (hdb : (x == ("__debug__" : Str)) = false := by decide) : PE X (.Call (.Name x p) [] [] pos) (tMakeE C sp E tNil) := by
  refine ⟨fun pins s σ H Q I h => ?_⟩
  refine wpAny_Call_Name_kw (ld_glob I hg hm ?_ hdb)
  exact PySem.W.callWith_K0 I.kIn M.kp (run_makeE (us := []) M F hr hb (hx σ) I .nil h)
end

/-! ### the value layer's calls -/
section
variable {X : Cx} {Wi : WX} {k n : Nat} {f C : Addr} {fd : FuncData} {ps : List Str} {F : Fn} {x m c : Str} {p pos apos : Pos} {a o : Expr} {es : List Expr} {ms : M (List D)} {ma mo : M D} {i j : Nat}
def mCall' (n : Nat) (F : Fn) (ms : M (List D)) : M D := ms.bind fun ds => if ds.length = n then callF F (fzs ds) else M.bad
theorem fzs_len (ds : List D) : (fzs ds).length = ds.length := by rw [fzs_map, List.length_map]
theorem pm_call (Fo : FnOk X.prog X.w X.K X.mg X.base (L2.CX X.prog X.w) k f fd ps (spF X.gg n none F)) (hr : Room k X.A) (hg : Gl X x) (hm : X.mg x = some (.ref f)) (hk : PySem.W.keepIn X.K (.ref f) = true) (hb : Binds X.K fd ps []) (tk : Takes X Wi) (ha : PMA X Wi (a :: es) ms)
    (hdb : (x == ("__debug__" : Str)) = false := by decide) (he : starEach (a :: es) X.env = (false, eval a X.env) :: starEach es X.env := by rfl) (hpl : (backTo pos (starEach es X.env)).any (·.1) = false := by rfl) :
    PM X Wi (.Call (.Name x p) (a :: es) [] pos) (mCall' n F ms) := by
  refine pe_imp (pe_callS (E := WE Wi) Fo hr hg hm hk hb (fun σ => passAt tk σ) ha hdb he hpl) fun σ H Q ⟨W0, env, fe, I, k⟩ => ?_
  unfold mCall' M.bind at k
  refine tA_run I (fun ds env1 e1 vs H1 fe1 fd fr nw T => ?_) (fun x env1 e1 => ?_) (fun e1 => ?_)
  · simp only [e1] at k
    split at k
    · rename_i hn
      exact callF_run T.frz (by rw [← T.t.len]; exact hn) fr nw.left k
    · exact k.elim
  · simp only [e1] at k; exact k
  · simp only [e1] at k; exact k
/-- arguments with a slot that is changed in place -/
def mGuard {α : Type} (i : Nat) (m : M α) : M α := fun env => match env[i]? with | some (some _) => m env | _ => .bad
def tAI (mg : G) (Wi : WX) (i j : Nat) (m : M (List D)) : TA := fun σ H Q => ∃ W0 env fe, Top mg W0 env fe σ [] [] [] H ∧ EndA mg Wi W0 fe σ H (fun us H' => ∀ v, σ[i]? = some (some v) → Q (us.insertIdx j v) H') (m env)
abbrev PAI (X : Cx) (Wi : WX) (i j : Nat) (es : List Expr) (m : M (List D)) : Prop := PA X es (tAI X.gg Wi i j m)
theorem pai_here {e : Expr} (he : PE X e (tVar i)) (hr : PMA X Wi es ms) (hs : starEach (e :: es) X.env = (false, eval e X.env) :: starEach es X.env := by rfl) : PAI X Wi i 0 (e :: es) (mGuard i ms) := by
  refine pa_imp (pa_cons he hr hs) fun σ H Q ⟨W0, env, fe, I, k⟩ => ?_
  unfold mGuard at k
  split at k
  · rename_i d hd
    obtain ⟨f1, f2, f3, v, q1, q2, q3, q4⟩ := I.e.get hd
    refine ⟨v, q2, W0, env, fe, I, ?_⟩
    cases e1 : ms env with
    | ok ds env1 => rw [e1] at k; exact fun us H' fe' fd fr nw T => by simpa using k us H' fe' fd fr nw T v q2
    | exc x env1 => rw [e1] at k; exact k
    | bad => rw [e1] at k; exact k
  · exact k.elim
theorem pai_there (ha : PM X Wi a ma) (hr : PAI X Wi i j es ms) (hs : starEach (a :: es) X.env = (false, eval a X.env) :: starEach es X.env := by rfl) : PAI X Wi i (j + 1) (a :: es) (mCons ma ms) := by
  refine pa_imp (pa_cons ha hr hs) fun σ H Q ⟨W0, env, fe, I, k⟩ => ?_
  unfold mCons at k
  refine tM_run I (fun d env1 e1 v H1 fe1 fd fr nw T => ?_) (fun x env1 e1 => ?_) (fun e1 => ?_)
  · simp only [e1] at k
    refine ⟨_, env1, fe1, T.lift, ?_⟩
    cases e2 : ms env1 with
    | ok ds env2 =>
      simp only [e2] at k
      intro us H' fe' fd' fr' nw' T' v' hv'
      have B := T.back fr' nw' T'
      have n2 := Nw.trans fr nw.left nw'
      have := k (v :: us) H' fe' (fd ++ fd') (fr.trans nw.left fr') (n2.left.app fun b hb => by
        rcases List.mem_append.mp hb with hb | hb
        · exact nw b (List.mem_append_right _ hb)
        · exact n2 b (List.mem_append_right _ hb)) B v' hv'
      simpa using this
    | exc x env2 =>
      simp only [e2] at k
      intro cls dd H' fe' fr' nw' T' ex
      have B := T.back (fd' := []) fr' (by rw [List.append_nil]; exact nw') T'
      exact k cls dd H' fe' (fr.trans nw.left fr') (Nw.trans fr nw.left nw') B.drop (exr_lift ex)
    | bad => simp only [e2] at k; exact k
  · simp only [e1] at k; exact k
  · simp only [e1] at k; exact k
def mCallIO (n : Nat) (F : Fn) (i j : Nat) (ms : M (List D)) : M D := ms.bind fun ds => if ds.length + 1 = n then callIO F i j (fzs ds) else M.bad
theorem Top.slot {mg : G} {W0 : Addr → Prop} {env : Env} {fe fd : List Addr} {σ : L2.St} {ds : List D} {vs : List V} {H : Hp} {d : D} (T : Top mg W0 env fe σ ds fd vs H) (h : env[i]? = some (some d)) : ∃ v, σ[i]? = some (some v) := by
  obtain ⟨f1, f2, f3, v, q1, q2, q3, q4⟩ := T.e.get h
  exact ⟨v, q2⟩
theorem callIO_slot {ds : List D} {env : Env} (h : callIO F i j ds env ≠ .bad) : ∃ d, env[i]? = some (some d) := by
  unfold callIO at h
  split at h
  · exact ⟨_, by assumption⟩
  · exact absurd rfl h
theorem pm_callIO (Fo : FnOk X.prog X.w X.K X.mg X.base (L2.CX X.prog X.w) k f fd ps (spF X.gg n (some j) F)) (hr : Room k X.A) (hg : Gl X x) (hm : X.mg x = some (.ref f)) (hk : PySem.W.keepIn X.K (.ref f) = true) (hb : Binds X.K fd ps []) (tk : Takes X Wi) (ha : PAI X Wi i j (a :: es) ms)
    (hdb : (x == ("__debug__" : Str)) = false := by decide) (he : starEach (a :: es) X.env = (false, eval a X.env) :: starEach es X.env := by rfl) (hpl : (backTo pos (starEach es X.env)).any (·.1) = false := by rfl) :
    PM X Wi (.Call (.Name x p) (a :: es) [] pos) (mCallIO n F i j ms) := by
  refine pe_imp (pe_callS (E := WE Wi) Fo hr hg hm hk hb (fun σ => passAt tk σ) ha hdb he hpl) fun σ H Q ⟨W0, env, fe, I, k⟩ => ?_
  unfold mCallIO M.bind at k
  refine ⟨W0, env, fe, I, ?_⟩
  cases e1 : ms env with
  | ok ds env1 =>
    simp only [e1] at k
    intro us H1 fe1 fd fr nw T v hv
    split at k
    · rename_i hn
      exact callIO_run T.frz hv (by rw [← T.t.len]; exact hn) fr nw.left k
    · exact k.elim
  | exc x env1 => simp only [e1] at k; exact k
  | bad => simp only [e1] at k; exact k

/-! methods -/
theorem lookup_no {fs : List (Str × V)} {m : Str} (h : m ∉ fs.map (·.1)) : fs.lookup m = none := by
  induction fs with
  | nil => rfl
  | cons p r ih =>
    simp only [List.map_cons, List.mem_cons, not_or] at h
    rw [List.lookup_cons]
    have : (m == p.1) = false := by simpa using h.1
    rw [this]
    exact ih h.2
/-- is it an instance of the class, without an attribute m -/
def D.isI (c m : Str) : D → Bool
  | .ins _ c' ns _ => decide (c' = c) && decide (m ∉ ns)
  | _ => false
theorem R.isI {mg : G} {H : Hp} {W : Addr → Prop} {d : D} {fp : List Addr} {v : V} (h : R mg H W d fp v) (e : d.isI c m = true) (hc : mg c = some (.ref C)) : ∃ a dx fs, v = .ref a ∧ H a = some (.ins C dx fs) ∧ fs.lookup m = none := by
  cases d with
  | ins o c' ns xs =>
    simp only [D.isI, Bool.and_eq_true, decide_eq_true_eq] at e
    obtain ⟨rfl, hm⟩ := e
    cases o with
    | true =>
      simp only [R] at h
      obtain ⟨a, C', dx, fs, f1, rfl, _, q1, q2, q3, _⟩ := h
      rw [hc] at q1
      cases q1
      exact ⟨a, dx, fs, rfl, q2, lookup_no (by rw [q3]; exact hm)⟩
    | false =>
      simp only [R] at h
      obtain ⟨_, a, C', dx, fs, rfl, q1, ⟨q2, _⟩, q3, _⟩ := h
      rw [hc] at q1
      cases q1
      exact ⟨a, dx, fs, rfl, q2, lookup_no (by rw [q3]; exact hm)⟩
  | _ => simp [D.isI] at e
/-- of a frozen receiver -/
def mMethF (c m : Str) (n : Nat) (F : Fn) (mo : M D) (ms : M (List D)) : M D := mo.bind fun o => if o.isI c m then ms.bind fun ds => if ds.length + 1 = n then callF F (o.fz :: fzs ds) else M.bad else M.bad
theorem mMethF_run {mg : G} {W0 : Addr → Prop} {env : Env} {fe : List Addr} {σ : L2.St} {H : Hp} {Q : VK} (hc : mg c = some (.ref C)) (I : Top mg W0 env fe σ [] [] [] H) (k : EndE mg Wi W0 fe σ H Q (mMethF c m n F mo ms env)) :
    tMethE C m (spF mg n none F) (WE Wi) (tM mg Wi mo) (tA mg Wi ms) σ H Q := by
  unfold mMethF M.bind at k
  refine tM_run I (fun d env1 e1 v H1 fe1 fd fr nw T => ?_) (fun x env1 e1 => ?_) (fun e1 => ?_)
  · simp only [e1] at k
    split at k
    · rename_i hi
      obtain ⟨v', e2, h1⟩ := T.val1
      simp only [List.cons.injEq, and_true] at e2
      subst e2
      obtain ⟨a, dx, fs, q1, q2, q3⟩ := h1.isI hi hc
      refine ⟨a, dx, fs, q1, q2, q3, ?_⟩
      refine T.runA fr nw (fun d2 env2 e2 us H2 fe2 fd2 fr2 nw2 T2 => ?_) (fun x env2 e2 => ?_) (fun e2 => ?_) <;> simp only [e2] at k
      · split at k
        · rename_i hn
          have T3 := T2.frz
          have e4 : fzs ([d] ++ d2) = d.fz :: fzs d2 := by simp [fzs]
          rw [e4] at T3
          exact callF_run T3 (by simp only [List.singleton_append, List.length_cons]; have := T2.t.len; simp only [List.singleton_append, List.length_cons] at this; omega) fr2 nw2.left k
        · exact k.elim
      · exact k
      · exact k
    · exact k.elim
  · simp only [e1] at k; exact k
  · simp only [e1] at k; exact k
theorem pm_meth {pl : Sem Bool} (he : PM X Wi o mo) (c' : Cls X.K C) (hc : X.mg c = some (.ref C)) (hm : Meth X.K C m f) (Fo : FnOk X.prog X.w X.K X.mg X.base (L2.CX X.prog X.w) k f fd ps (spF X.gg n none F)) (hr : Room k X.A) (hb : Binds X.K fd ps []) (tk : Takes X Wi) (ha : PMA X Wi (a :: es) ms)
    (hst : starEach (a :: es) X.env = (false, eval a X.env) :: starEach es X.env := by rfl) (hpl : (backTo pos (starEach es X.env)).any (·.1) = false := by rfl)
    (ht : eval (.Call (.Attribute o m apos) (a :: es) [] pos) X.env = (do
      let ov ← eval o X.env
      standAt apos.atName
      let (f, first) ← holding [ov] (getMethod ov m pl)
      callWith pos f first (backTo pos (starEach (a :: es) X.env)) (backToKw pos (keywordEach [] X.env))) := by rfl) :
    PM X Wi (.Call (.Attribute o m apos) (a :: es) [] pos) (mMethF c m n F mo ms) :=
  pe_imp (pe_methE (E := WE Wi) he c' hm Fo hr hb (fun σ => passAt tk σ) ha hst hpl ht) fun _ _ _ ⟨_, _, _, I, k⟩ => mMethF_run hc I k
theorem pm_meth0 {pl : Sem Bool} (he : PM X Wi o mo) (c' : Cls X.K C) (hc : X.mg c = some (.ref C)) (hm : Meth X.K C m f) (Fo : FnOk X.prog X.w X.K X.mg X.base (L2.CX X.prog X.w) k f fd ps (spF X.gg n none F)) (hr : Room k X.A) (hb : Binds X.K fd ps []) (tk : Takes X Wi)
    (ht : eval (.Call (.Attribute o m apos) [] [] pos) X.env = (do
      let ov ← eval o X.env
      standAt apos.atName
      let (f, first) ← holding [ov] (getMethod ov m pl)
      callWith pos f first (backTo pos (starEach [] X.env)) (backToKw pos (keywordEach [] X.env))) := by rfl) :
    PM X Wi (.Call (.Attribute o m apos) [] [] pos) (mMethF c m n F mo mNil) := by
  refine pe_imp (pe_methE0 (E := WE Wi) he c' hm Fo hr hb (fun σ => passAt tk σ) ht) fun σ H Q ⟨_, _, _, I, k⟩ => ?_
  have := mMethF_run (C := C) (Wi := Wi) hc I k
  unfold tMethE at this ⊢
  obtain ⟨W0, env, fe, J, z⟩ := this
  refine ⟨W0, env, fe, J, ?_⟩
  cases e : mo env with
  | ok d env1 =>
    rw [e] at z
    intro v H' fe' fd fr nw T
    obtain ⟨a, dx, fs, q1, q2, q3, W1, env2, fe2, T2, z2⟩ := z v H' fe' fd fr nw T
    exact ⟨a, dx, fs, q1, q2, q3, z2 [] H' fe2 [] Fr.refl (by rw [List.append_nil]; exact Nw.refl) T2⟩
  | exc x env1 => rw [e] at z; exact z
  | bad => rw [e] at z; exact z
/-- of a receiver that stands in a slot and is changed in place -/
def mMethIO (c m : Str) (n : Nat) (F : Fn) (i : Nat) (ms : M (List D)) : M D := fun env => match env[i]? with
  | some (some d0) => if d0.isI c m then mCallIO n F i 0 ms env else .bad
  | _ => .bad
theorem mMethIO_run {mg : G} {W0 : Addr → Prop} {env : Env} {fe : List Addr} {σ : L2.St} {H : Hp} {Q : VK} (hc : mg c = some (.ref C)) (I : Top mg W0 env fe σ [] [] [] H) (k : EndE mg Wi W0 fe σ H Q (mMethIO c m n F i ms env)) :
    tMethE C m (spF mg n (some 0) F) (WE Wi) (tVar i) (tA mg Wi ms) σ H Q := by
  unfold mMethIO at k
  split at k
  · rename_i d0 hd
    split at k
    · rename_i hi
      obtain ⟨f1, f2, f3, v, q1, q2, q3, q4⟩ := I.e.get hd
      obtain ⟨a, dx, fs, w1, w2, w3⟩ := q3.isI hi hc
      refine ⟨v, q2, a, dx, fs, w1, w2, w3, ?_⟩
      unfold mCallIO M.bind at k
      refine tA_run I (fun ds env1 e1 us H1 fe1 fd fr nw T => ?_) (fun x env1 e1 => ?_) (fun e1 => ?_) <;> simp only [e1] at k
      · split at k
        · rename_i hn
          have := callIO_run (n := n) (j := 0) T.frz q2 (by rw [← T.t.len]; exact hn) fr nw.left k
          simpa using this
        · exact k.elim
      · exact k
      · exact k
    · exact k.elim
  · exact k.elim
theorem pm_methIO {pl : Sem Bool} (he : PE X o (tVar i)) (c' : Cls X.K C) (hc : X.mg c = some (.ref C)) (hm : Meth X.K C m f) (Fo : FnOk X.prog X.w X.K X.mg X.base (L2.CX X.prog X.w) k f fd ps (spF X.gg n (some 0) F)) (hr : Room k X.A) (hb : Binds X.K fd ps []) (tk : Takes X Wi) (ha : PMA X Wi (a :: es) ms)
    (hst : starEach (a :: es) X.env = (false, eval a X.env) :: starEach es X.env := by rfl) (hpl : (backTo pos (starEach es X.env)).any (·.1) = false := by rfl)
    (ht : eval (.Call (.Attribute o m apos) (a :: es) [] pos) X.env = (do
      let ov ← eval o X.env
      standAt apos.atName
      let (f, first) ← holding [ov] (getMethod ov m pl)
      callWith pos f first (backTo pos (starEach (a :: es) X.env)) (backToKw pos (keywordEach [] X.env))) := by rfl) :
    PM X Wi (.Call (.Attribute o m apos) (a :: es) [] pos) (mMethIO c m n F i ms) :=
  pe_imp (pe_methE (E := WE Wi) he c' hm Fo hr hb (fun σ => passAt tk σ) ha hst hpl ht) fun _ _ _ ⟨_, _, _, I, k⟩ => mMethIO_run hc I k

/-! a new instance -/
def mMake (c : Str) (n : Nat) (F : Fn) (ms : M (List D)) : M D := ms.bind fun ds => if ds.length + 1 = n then (match F (.ins true c [] [] :: fzs ds) with
  | .ok .non o => M.pure o
  | .exc x _ => M.raise x
  | _ => M.bad) else M.bad
theorem mMake_run {mg : G} {W0 : Addr → Prop} {env : Env} {fe : List Addr} {σ : L2.St} {H : Hp} {Q : VK} (hc : mg c = some (.ref C)) (I : Top mg W0 env fe σ [] [] [] H) (k : EndE mg Wi W0 fe σ H Q (mMake c n F ms env)) :
    tMakeE C (spF mg n (some 0) F) (WE Wi) (tA mg Wi ms) σ H Q := by
  unfold mMake M.bind at k
  refine tA_run I (fun ds env1 e1 vs H1 fe1 fd fr nw T => ?_) (fun x env1 e1 => ?_) (fun e1 => ?_) <;> simp only [e1] at k
  · split at k
    · rename_i hn
      intro x dx hx hdx ne
      have T1 := T.frz
      have kp : Same H1 (upd (upd H1 dx (.own x)) x (.ins C dx [])) := fun b z q => by
        rw [upd_ne (ne_of_none q hx), upd_ne (ne_of_none q hdx)]; exact q
      have T2 : Top mg W0 env1 fe1 σ (fzs ds) [] vs (upd (upd H1 dx (.own x)) x (.ins C dx [])) :=
        ⟨T1.e.mono (fun b z q _ => kp b z q) fun _ h _ => h, Rs.mono _ _ _ T1.t (fun b z q _ => kp b z q) fun _ h _ => h, T1.nd, fun b h => by
          have m := T1.w0 b h
          cases q : H1 b with
          | none => rw [q] at m; exact m.elim
          | some z => rw [q] at m; rw [kp b z q]; exact m, T1.ap⟩
      have T3 := T2.hide
      have nx : ¬ (W0 x ∨ x ∈ fe1) := fun z => T1.tr x (by rcases z with z | z; exact .inl z; exact .inr (.inl z)) hx
      have I0 : Top mg (fun b => W0 b ∨ b ∈ fe1) [] [] [] (.ins true c [] [] :: fzs ds) [x] (.ref x :: vs) (upd (upd H1 dx (.own x)) x (.ins C dx [])) := by
        refine ⟨⟨rfl, rfl⟩, ⟨[x], [], .ref x, vs, rfl, rfl, ⟨x, C, dx, [], [], rfl, rfl, hc, upd_same, rfl, rfl, rfl⟩, Rs.mono _ _ _ T1.t (fun b z q _ => kp b z q) fun b h t z => ?_⟩, by simp, T3.w0, fun b hb => ?_⟩
        · rcases z with (z | z) | z | z
          · exact h (.inl z)
          · exact h (.inr (.inl z))
          · simp at z
          · rw [List.mem_singleton.mp z] at t; exact t hx
        · simp only [List.nil_append, List.mem_singleton] at hb
          rw [hb]; exact nx
      refine ⟨_, _, [x], ?_, I0, ?_⟩
      · have := T1.t.len
        rw [fzs_len] at this
        rw [List.length_cons]; omega
      -- what was known ahead is kept
      have back : ∀ {H' : Hp} {fr' : List Addr}, Fr [x] (upd (upd H1 dx (.own x)) x (.ins C dx [])) H' → Nw (upd (upd H1 dx (.own x)) x (.ins C dx [])) [x] fr' → Fr [] H1 H' ∧ Nw H1 [] fr' := fun {H' fr'} a b => by
        refine ⟨fun y z q _ => a y z (kp y z q) fun hy => ?_, fun y hy => .inr ?_⟩
        · rw [List.mem_singleton.mp hy, hx] at q; cases q
        · rcases b y hy with q | q
          · rw [List.mem_singleton.mp q]; exact hx
          · cases w : H1 y with
            | none => rfl
            | some z => rw [kp y z w] at q; cases q
      cases eF : F (.ins true c [] [] :: fzs ds) with
      | ok d o' =>
        rw [eF] at k
        cases d with
        | non =>
          intro v H' f4 a b J
          obtain ⟨a', b'⟩ := back a b
          obtain ⟨t1, t2, w1, w2, e1', e2, r1, r2⟩ := J.t
          simp only [IoV, List.getElem?_cons_zero, Option.toList, List.cons.injEq] at e2
          obtain ⟨rfl, rfl⟩ := e2
          obtain ⟨q1, q2⟩ := r1
          subst q1 q2
          rw [List.nil_append] at e1'
          subst e1'
          have J' : Top mg (fun b => W0 b ∨ b ∈ fe1) [] [] [] [o'] f4 [.ref x] H' := ⟨J.e, r2, J.nd, J.w0, J.ap⟩
          refine ⟨rfl, k _ H' fe1 f4 (fr.trans nw.left fun y z q hy => a' y z q (by simp)) (nw.left.app (Nw.trans fr nw.left fun y hy => .inr ((b' y hy).resolve_left (by simp)))) (T.drop.show a' b' J')⟩
        | _ => exact k.elim
      | exc x' o' =>
        rw [eF] at k
        intro cls dd H' f4 a b J ex
        obtain ⟨a', b'⟩ := back a b
        have T5 := T.drop.show a' (fr := []) (fun b hb => absurd hb (by simp)) J.drop
        refine k cls dd H' fe1 (fr.trans nw.left fun y z q hy => a' y z q (by simp)) nw.left T5 ?_
        obtain ⟨C', h1, h2, h3⟩ := ex
        refine ⟨C', h1, h2, fun hn => ?_⟩
        obtain ⟨d, fs, x1, x2, x3, x4⟩ := h3 hn
        refine ⟨d, fs, x1, x2, x3, Rs.mono _ _ _ x4 (fun _ _ q _ => q) fun b h t z => ?_⟩
        rcases z with z | z | z
        · exact h (.inl (.inl z))
        · exact h (.inl (.inr z))
        · simp at z
      | bad => rw [eF] at k; exact k.elim
    · exact k.elim
  · exact k
  · exact k
theorem pm_make (M : Mk X.K C f) (Fo : FnOk X.prog X.w X.K X.mg X.base (L2.CX X.prog X.w) k f fd ps (spF X.gg n (some 0) F)) (hr : Room (k + 1) X.A) (hg : Gl X x) (hm : X.mg x = some (.ref C)) (hb : Binds X.K fd ps []) (tk : Takes X Wi) (ha : PMA X Wi (a :: es) ms)
    (hdb : (x == ("__debug__" : Str)) = false := by decide) (he : starEach (a :: es) X.env = (false, eval a X.env) :: starEach es X.env := by rfl) (hpl : (backTo pos (starEach es X.env)).any (·.1) = false := by rfl) :
    PM X Wi (.Call (.Name x p) (a :: es) [] pos) (mMake x n F ms) :=
  pe_imp (pe_makeE (E := WE Wi) M Fo hr hg hm hb (fun σ => passAt tk σ) ha hdb he hpl) fun _ _ _ ⟨_, _, _, I, k⟩ => mMake_run hm I k
end
end VL


set_option Elab.async false
set_option linter.all false
set_option maxRecDepth 100000
set_option maxHeartbeats 4000000
namespace VL
open PySem PySem.Spec L2
open PyProof.Rows hiding St

inductive SRes where
  | nx (e : Env) | rt (d : D) (e : Env) | bk (e : Env) | ct (e : Env) | exc (x : Ex) (e : Env) | bad
abbrev MS := Env → SRes
def Pn (pin : List Nat) (σ σ' : L2.St) : Prop := ∀ i ∈ pin, σ'[i]? = σ[i]?
section
variable (mg : G) (Wi : WX) (pin : List Nat)
def EndS (W0 : Addr → Prop) (fe : List Addr) (σ : L2.St) (H : Hp) (Dn : Ends) : SRes → Prop
  | .nx env' => ∀ σ' H' fe', Fr fe H H' → Nw H fe fe' → Pn pin σ σ' → Top mg W0 env' fe' σ' [] [] [] H' → Dn.nx σ' H'
  | .bk env' => ∀ σ' H' fe', Fr fe H H' → Nw H fe fe' → Pn pin σ σ' → Top mg W0 env' fe' σ' [] [] [] H' → Dn.bk σ' H'
  | .ct env' => ∀ σ' H' fe', Fr fe H H' → Nw H fe fe' → Pn pin σ σ' → Top mg W0 env' fe' σ' [] [] [] H' → Dn.ct σ' H'
  | .rt d env' => ∀ v σ' H' fe' fd, Fr fe H H' → Nw H fe (fe' ++ fd) → Pn pin σ σ' → Top mg W0 env' fe' σ' [d] fd [v] H' → Dn.rt v H'
  | .exc x env' => ∀ cls dd σ' H' fe', Fr fe H H' → Nw H fe fe' → Pn pin σ σ' → Top mg W0 env' fe' σ' [] [] [] H' → ExR mg H' (Wx W0 fe' []) x cls dd → Wi cls dd σ' H'
  | .bad => False
def sM (m : MS) : TS := fun Dn σ H => ∃ W0 env fe, Top mg W0 env fe σ [] [] [] H ∧ EndS mg Wi pin W0 fe σ H Dn (m env)
def tG (g : D → Env → Option Env) : TG := fun v σ H Q => ∃ W0 env fe d fd, Top mg W0 env fe σ [d] fd [v] H ∧ match g d env with
  | some env' => ∀ σ' fe', (∀ b ∈ fe', b ∈ fe ++ fd) → Pn pin σ σ' → Top mg W0 env' fe' σ' [] [] [] H → Q σ' H
  | none => False
def gAll : List (D → Env → Option Env) → List D → Env → Option Env
  | [], [], env => some env
  | g :: gs, d :: ds, env => (g d env).bind (gAll gs ds)
  | _, _, _ => none
def tGs (gs : List (D → Env → Option Env)) : TGs := fun vs σ H Q => ∃ W0 env fe ds fd, Top mg W0 env fe σ ds fd vs H ∧ match gAll gs ds env with
  | some env' => ∀ σ' fe', (∀ b ∈ fe', b ∈ fe ++ fd) → Pn pin σ σ' → Top mg W0 env' fe' σ' [] [] [] H → Q σ' H
  | none => False
end
abbrev PSM (X : Cx) (Wi : WX) (pin : List Nat) (st : Stmt) (m : MS) : Prop := PS X st (sM X.gg Wi pin m)
abbrev PSSM (X : Cx) (Wi : WX) (pin : List Nat) (st : List Stmt) (m : MS) : Prop := PSs X st (sM X.gg Wi pin m)
theorem Pn.refl {pin : List Nat} {σ : L2.St} : Pn pin σ σ := fun _ _ => rfl
theorem Pn.trans {pin : List Nat} {σ σ' σ2 : L2.St} (a : Pn pin σ σ') (b : Pn pin σ' σ2) : Pn pin σ σ2 := fun i h => (b i h).trans (a i h)

section
variable {mg : G} {Wi : WX} {pin : List Nat} {W0 : Addr → Prop} {fe fe1 fd : List Addr} {env env1 : Env} {σ σ1 : L2.St} {H H1 : Hp} {ds : List D} {vs : List V} {d : D} {v : V} {Dn : Ends}
/-- the same end, seen from an earlier state -/
theorem EndS.from (fr : Fr fe H H1) (nw : Nw H fe fe1) (pn : Pn pin σ σ1) {r : SRes} (k : EndS mg Wi pin W0 fe σ H Dn r) : EndS mg Wi pin W0 fe1 σ1 H1 Dn r := by
  cases r with
  | nx e => exact fun σ' H' fe' a b c T => k σ' H' fe' (fr.trans nw a) (Nw.trans fr nw b) (pn.trans c) T
  | bk e => exact fun σ' H' fe' a b c T => k σ' H' fe' (fr.trans nw a) (Nw.trans fr nw b) (pn.trans c) T
  | ct e => exact fun σ' H' fe' a b c T => k σ' H' fe' (fr.trans nw a) (Nw.trans fr nw b) (pn.trans c) T
  | rt d e => exact fun v σ' H' fe' fd a b c T => k v σ' H' fe' fd (fr.trans nw a) (Nw.trans fr nw b) (pn.trans c) T
  | exc x e => exact fun cls dd σ' H' fe' a b c T ex => k cls dd σ' H' fe' (fr.trans nw a) (Nw.trans fr nw b) (pn.trans c) T ex
  | bad => exact k
theorem sM_run {m : MS} (T : Top mg W0 env1 fe1 σ1 [] [] [] H1) (fr : Fr fe H H1) (nw : Nw H fe fe1) (pn : Pn pin σ σ1) (k : EndS mg Wi pin W0 fe σ H Dn (m env1)) : sM mg Wi pin m Dn σ1 H1 := ⟨W0, env1, fe1, T, k.from fr nw pn⟩
/-- a slot stored -/
theorem Top.store {i : Nat} (T : Top mg W0 env fe σ [d] fd [v] H) (hi : i < env.length) : ∃ fe', (∀ b ∈ fe', b ∈ fe ++ fd) ∧ Top mg W0 (env.set i (some d)) fe' (σ.set i (some v)) [] [] [] H := by
  obtain ⟨v', e2, h1⟩ := T.val1
  simp only [List.cons.injEq, and_true] at e2
  subst e2
  -- the slot emptied
  obtain ⟨g, sub, e0⟩ : ∃ g, List.Sublist g fe ∧ EnvR mg H (Wx W0 fe fd) (env.set i none) g σ := by
    cases q : env[i]? with
    | none => exact absurd (List.getElem?_eq_none_iff.mp q) (by omega)
    | some o =>
      cases o with
      | none =>
        refine ⟨fe, List.Sublist.refl _, ?_⟩
        have : env.set i none = env := by
          apply List.ext_getElem?
          intro l
          by_cases hl : i = l
          · subst hl; rw [List.getElem?_set_self hi, q]
          · rw [List.getElem?_set_ne hl]
        rw [this]; exact T.e
      | some d0 =>
        obtain ⟨f1, f2, f3, v0, q1, q2, q3, q4⟩ := T.e.get q
        exact ⟨f1 ++ f3, by rw [q1, List.append_assoc]; exact List.Sublist.append_left (List.sublist_append_right _ _) _, q4⟩
  obtain ⟨g1, g3, q5, q6⟩ := e0.put hi h1
  have pm : ∀ b, b ∈ g1 ++ fd ++ g3 → b ∈ fe ++ fd := fun b hb => by
    simp only [List.mem_append] at hb ⊢
    rcases hb with (hb | hb) | hb
    · exact .inl (sub.subset (by rw [q5]; exact List.mem_append_left _ hb))
    · exact .inr hb
    · exact .inl (sub.subset (by rw [q5]; exact List.mem_append_right _ hb))
  refine ⟨g1 ++ fd ++ g3, pm, ⟨q6.mono (fun _ _ q _ => q) (fun b h _ z => ?_), ⟨rfl, rfl⟩, ?_, T.w0, fun b hb => T.ap b (pm b (by simpa using hb))⟩⟩
  · rcases z with z | z | z
    · exact h (.inl z)
    · rcases List.mem_append.mp (pm b z) with z | z
      · exact h (.inr (.inl z))
      · exact h (.inr (.inr z))
    · simp at z
  · rw [List.append_nil]
    have p1 : List.Perm (g1 ++ fd ++ g3) (g ++ fd) := by
      rw [q5, List.append_assoc, List.append_assoc]
      exact List.Perm.append_left _ List.perm_append_comm
    refine p1.nodup_iff.mpr ?_
    exact T.nd.sublist (List.Sublist.append sub (List.Sublist.refl _))
theorem Pn.set {i : Nat} {o : Option V} (h : i ∉ pin) : Pn pin σ (σ.set i o) := fun j hj => List.getElem?_set_ne (fun (e : i = j) => h (by rw [e]; exact hj))
end

section
variable {X : Cx} {Wi : WX} {pin : List Nat} {pos pos' : Pos} {a e : Expr} {m ma : M D} {ms : M (List D)} {ta : M Bool} {st : Stmt} {rest body orelse : List Stmt} {s s1 s2 : MS} {i : Nat} {x : Str}
/-! blocks -/
def sSeq (s1 s2 : MS) : MS := fun env => match s1 env with
  | .nx e => s2 e
  | r => r
theorem pssm_nil : PSSM X Wi pin [] .nx := pss_imp pss_nil fun Dn σ H ⟨W0, env, fe, I, k⟩ => k σ H fe Fr.refl Nw.refl Pn.refl I
theorem pssm_one (h1 : PSM X Wi pin st s) : PSSM X Wi pin [st] s := pss_one h1
theorem pssm_cons (h1 : PSM X Wi pin st s1) (h2 : PSSM X Wi pin rest s2) : PSSM X Wi pin (st :: rest) (sSeq s1 s2) := by
  refine pss_imp (pss_cons h1 h2) fun Dn σ H ⟨W0, env, fe, I, k⟩ => ⟨W0, env, fe, I, ?_⟩
  unfold sSeq at k
  cases e : s1 env with
  | nx env1 => rw [e] at k; exact fun σ' H' fe' fr nw pn T => sM_run T fr nw pn k
  | rt d e' => rw [e] at k; exact k
  | bk e' => rw [e] at k; exact k
  | ct e' => rw [e] at k; exact k
  | exc x e' => rw [e] at k; exact k
  | bad => rw [e] at k; exact k
theorem psm_pass : PSM X Wi pin (.Pass pos) .nx := ps_imp ps_pass fun Dn σ H ⟨W0, env, fe, I, k⟩ => k σ H fe Fr.refl Nw.refl Pn.refl I
theorem psm_break : PSM X Wi pin (.Break pos) .bk := ps_imp ps_break fun Dn σ H ⟨W0, env, fe, I, k⟩ => k σ H fe Fr.refl Nw.refl Pn.refl I
theorem psm_continue : PSM X Wi pin (.Continue pos) .ct := ps_imp ps_continue fun Dn σ H ⟨W0, env, fe, I, k⟩ => k σ H fe Fr.refl Nw.refl Pn.refl I
theorem psm_doc {x j} : PSM X Wi pin (.Expr (.Constant (.str x) j pos) pos') .nx := ps_imp ps_doc fun Dn σ H ⟨W0, env, fe, I, k⟩ => k σ H fe Fr.refl Nw.refl Pn.refl I
def sEx (m : M D) : MS := fun env => match m env with
  | .ok _ e => .nx e
  | .exc x e => .exc x e
  | .bad => .bad
theorem EndX.of {mg : G} {W0 : Addr → Prop} {fe : List Addr} {σ : L2.St} {H : Hp} {Dn : Ends} {x : Ex} {env' : Env} (k : EndS mg Wi pin W0 fe σ H Dn (.exc x env')) : EndX mg Wi W0 fe σ H x env' :=
  fun cls dd H' fe' a b T ex => k cls dd σ H' fe' a b Pn.refl T ex
theorem psm_expr (he : PM X Wi e m) (hs : swapsWith e none pos.line X.env = pure false := by rfl) : PSM X Wi pin (.Expr e pos) (sEx m) := by
  refine ps_imp (ps_expr he hs) fun Dn σ H ⟨W0, env, fe, I, k⟩ => ?_
  unfold sEx at k
  refine tM_run I (fun d env1 e1 v H1 fe1 fd fr nw T => ?_) (fun x env1 e1 => ?_) (fun e1 => ?_) <;> simp only [e1] at k
  · exact k σ H1 fe1 fr nw.left Pn.refl T.drop
  · exact EndX.of k
  · exact k
def sRet (m : M D) : MS := fun env => match m env with
  | .ok d e => .rt d e
  | .exc x e => .exc x e
  | .bad => .bad
theorem psm_ret (he : PM X Wi e m) : PSM X Wi pin (.Return (some e) pos) (sRet m) := by
  refine ps_imp (ps_ret he) fun Dn σ H ⟨W0, env, fe, I, k⟩ => ?_
  unfold sRet at k
  refine tM_run I (fun d env1 e1 v H1 fe1 fd fr nw T => ?_) (fun x env1 e1 => ?_) (fun e1 => ?_) <;> simp only [e1] at k
  · exact k v σ H1 fe1 fd fr nw Pn.refl T
  · exact EndX.of k
  · exact k
theorem psm_retN : PSM X Wi pin (.Return none pos) (fun env => .rt .non env) :=
  ps_imp ps_retN fun Dn σ H ⟨W0, env, fe, I, k⟩ => k .non σ H fe [] Fr.refl (by rw [List.append_nil]; exact Nw.refl) Pn.refl (top_c I fun W => ⟨rfl, rfl⟩)
/-- the name that is given back goes out whole -/
def sRetV (i : Nat) : MS := fun env => match env[i]? with
  | some (some d) => .rt d (env.set i none)
  | _ => .bad
theorem psm_retV (he : PE X e (tVar i)) (hp : i ∉ pin := by decide) : PSM X Wi pin (.Return (some e) pos) (sRetV i) := by
  refine ps_imp (ps_ret he) fun Dn σ H ⟨W0, env, fe, I, k⟩ => ?_
  unfold sRetV at k
  split at k
  · rename_i d hd
    obtain ⟨f1, f2, f3, v, q1, q2, q3, q4⟩ := I.e.get hd
    have nd := I.nd
    rw [List.append_nil, q1] at nd
    have w1 : ∀ b, Wx W0 fe [] b ↔ Wx W0 (f1 ++ f3) f2 b := fun b => by
      simp only [Wx, q1, List.mem_append, List.not_mem_nil, or_false]
      grind
    refine ⟨v, q2, k v σ H (f1 ++ f3) f2 Fr.refl (fun b hb => .inl ?_) Pn.refl ⟨q4.mono (fun _ _ q _ => q) (fun b h _ z => h ((w1 b).mpr z)), Rs.one (R.mono _ _ _ q3 (fun _ _ q _ => q) (fun b h _ z => h ((w1 b).mpr z))), ?_, I.w0, fun b hb => I.ap b ?_⟩⟩
    · rw [q1]; simp only [List.mem_append] at hb ⊢; grind
    · have p1 : List.Perm (f1 ++ f3 ++ f2) (f1 ++ f2 ++ f3) := by
        rw [List.append_assoc, List.append_assoc]
        exact List.Perm.append_left _ List.perm_append_comm
      exact p1.nodup_iff.mpr nd
    · rw [List.append_nil, q1]; simp only [List.mem_append] at hb ⊢; grind
  · exact k.elim
def sIf (t : M Bool) (s1 s2 : MS) : MS := fun env => match t env with
  | .ok b e => if b then s1 e else s2 e
  | .exc x e => .exc x e
  | .bad => .bad
theorem psm_if (hc : PMT X Wi a ta) (ha : PSSM X Wi pin body s1) (hb : PSSM X Wi pin orelse s2) : PSM X Wi pin (.If a body orelse pos) (sIf ta s1 s2) := by
  refine ps_imp (ps_if hc ha hb) fun Dn σ H ⟨W0, env, fe, I, k⟩ => ?_
  unfold sIf at k
  refine tT_run I Fr.refl Nw.refl (fun c env1 e1 H1 fe1 fr nw T => ?_) (fun x env1 e1 => ?_) (fun e1 => ?_) <;> simp only [e1] at k
  · cases c with
    | true => rw [if_pos rfl] at k ⊢; exact sM_run T fr nw Pn.refl k
    | false => rw [if_neg Bool.false_ne_true] at k ⊢; exact sM_run T fr nw Pn.refl k
  · exact EndX.of k
  · exact k
/-! stores -/
def gNm (i : Nat) : D → Env → Option Env := fun d env => if i < env.length then some (env.set i (some d)) else none
theorem pgm_name (hN : X.N.Nodup) (hi : X.N[i]? = some x) (hx : Loc X.env.scope x) (hp : i ∉ pin := by decide) (hf : X.fn x = true ∨ X.env.scope.names.lookup x = some .local := by first | exact .inl rfl | exact .inr rfl | assumption) :
    PG X (.Name x pos) (tG X.gg pin (gNm i)) := by
  refine ⟨fun pins s σ H v u Q I r h => (pg_name hN hi hx hf).run pins s σ H v u Q I r ?_⟩
  obtain ⟨W0, env, fe, d, fd, T, k⟩ := h
  unfold gNm at k
  split at k
  · rename_i env' he
    split at he
    · rename_i hl
      cases he
      obtain ⟨fe', sub, T2⟩ := T.store hl
      exact k _ fe' sub (Pn.set hp) T2
    · cases he
  · exact k.elim
theorem pgm_nil : PGs X [] (tGs X.gg pin []) := by
  refine ⟨fun pins s σ H vs us Q I r h => pgs_nil.run pins s σ H vs us Q I r ?_⟩
  obtain ⟨W0, env, fe, ds, fd, T, k⟩ := h
  cases ds with
  | nil =>
    obtain ⟨rfl, rfl⟩ := T.t
    exact ⟨rfl, k σ fe (fun b hb => List.mem_append_left _ hb) Pn.refl T⟩
  | cons d ds => exact k.elim
theorem pgm_cons {g : D → Env → Option Env} {gs : List (D → Env → Option Env)} {t : Expr} {ts : List Expr} (h1 : PG X t (tG X.gg pin g)) (h2 : PGs X ts (tGs X.gg pin gs))
    (hs : (assignEach (t :: ts) X.env).map (·.2) = assign t X.env :: (assignEach ts X.env).map (·.2) := by rfl) : PGs X (t :: ts) (tGs X.gg pin (g :: gs)) := by
  refine ⟨fun pins s σ H vs us Q I r h => (pgs_cons h1 h2 hs).run pins s σ H vs us Q I r ?_⟩
  obtain ⟨W0, env, fe, ds, fd, T, k⟩ := h
  cases ds with
  | nil => exact k.elim
  | cons d ds =>
    obtain ⟨f1, f2, v, ws, rfl, rfl, r1, r2⟩ := T.t
    refine ⟨v, ws, rfl, ?_⟩
    simp only [gAll] at k
    cases eg : g d env with
    | none => rw [eg] at k; exact k.elim
    | some env1 =>
      rw [eg, Option.bind_some] at k
      have nd := List.nodup_append.mp T.nd
      have nd2 := List.nodup_append.mp nd.2.1
      -- the first one, the others protected
      have w1 : ∀ b, ¬ Wx W0 fe (f1 ++ f2) b → H b ≠ none → ¬ Wx (fun b => W0 b ∨ b ∈ f2) fe f1 b := fun b h _ z => by
        rcases z with (z | z) | z | z
        · exact h (.inl z)
        · exact h (.inr (.inr (List.mem_append_right _ z)))
        · exact h (.inr (.inl z))
        · exact h (.inr (.inr (List.mem_append_left _ z)))
      have T1 : Top X.gg (fun b => W0 b ∨ b ∈ f2) env fe σ [d] f1 [v] H := by
        refine ⟨T.e.mono (fun _ _ q _ => q) w1, Rs.one (R.mono _ _ _ r1 (fun _ _ q _ => q) w1), List.nodup_append.mpr ⟨nd.1, nd2.1, fun a ha b hb => nd.2.2 a ha b (List.mem_append_left _ hb)⟩, fun b h => ?_, fun b hb h => ?_⟩
        · rcases h with h | h
          · exact T.w0 b h
          · exact Rs.mut _ _ _ r2 b h
        · rcases h with h | h
          · exact T.ap b (by simp only [List.mem_append] at hb ⊢; rcases hb with hb | hb; exact .inl hb; exact .inr (.inl hb)) h
          · rcases List.mem_append.mp hb with hb | hb
            · exact nd.2.2 b hb b (List.mem_append_right _ h) rfl
            · exact nd2.2.2 b hb b h rfl
      refine ⟨_, env, fe, d, f1, T1, ?_⟩
      rw [eg]
      intro σ1 fe1 sub1 pn1 T2
      have apart : ∀ b ∈ fe1, b ∉ f2 := fun b hb z => T2.ap b (by simpa using hb) (.inr z)
      have w2 : ∀ b, ¬ Wx (fun b => W0 b ∨ b ∈ f2) fe1 [] b → H b ≠ none → ¬ Wx W0 fe1 f2 b := fun b h _ z => by
        rcases z with z | z | z
        · exact h (.inl (.inl z))
        · exact h (.inr (.inl z))
        · exact h (.inl (.inr z))
      refine ⟨W0, env1, fe1, ds, f2, ⟨T2.e.mono (fun _ _ q _ => q) w2, Rs.mono _ _ _ r2 (fun _ _ q _ => q) (fun b h _ z => ?_), ?_, fun b h => T2.w0 b (.inl h), fun b hb h => ?_⟩, ?_⟩
      · rcases z with z | z | z
        · exact h (.inl z)
        · have := sub1 b z
          rcases List.mem_append.mp this with z | z
          · exact h (.inr (.inl z))
          · exact h (.inr (.inr (List.mem_append_left _ z)))
        · exact h (.inr (.inr (List.mem_append_right _ z)))
      · have := T2.nd
        rw [List.append_nil] at this
        exact List.nodup_append.mpr ⟨this, nd2.2.1, fun a ha b hb e => apart a ha (e ▸ hb)⟩
      · rcases List.mem_append.mp hb with hb | hb
        · exact T2.ap b (by simpa using hb) (.inl h)
        · exact T.ap b (List.mem_append_right _ (List.mem_append_right _ hb)) h
      · cases ea : gAll gs ds env1 with
        | none => rw [ea] at k; exact k.elim
        | some env' =>
          rw [ea] at k
          intro σ' fe' sub pn T3
          refine k σ' fe' (fun b hb => ?_) (pn1.trans pn) T3
          rcases List.mem_append.mp (sub b hb) with z | z
          · have := sub1 b z
            simp only [List.mem_append] at this ⊢
            rcases this with q | q
            · exact .inl q
            · exact .inr (.inl q)
          · simp only [List.mem_append]; exact .inr (.inr z)
def gTp (gs : List (D → Env → Option Env)) : D → Env → Option Env := fun d env => match d with
  | .tup ds => gAll gs ds env
  | _ => none
theorem gAll_len : ∀ {gs : List (D → Env → Option Env)} {ds : List D} {env env' : Env}, gAll gs ds env = some env' → gs.length = ds.length
  | [], [], _, _, _ => rfl
  | g :: gs, d :: ds, env, env', h => by
    simp only [gAll] at h
    cases e : g d env with
    | none => rw [e] at h; cases h
    | some e1 => rw [e, Option.bind_some] at h; simp [gAll_len h]
  | [], _ :: _, _, _, h => by simp [gAll] at h
  | _ :: _, [], _, _, h => by simp [gAll] at h
theorem pgm_tup {ts : List Expr} {k : Nat} {gs : List (D → Env → Option Env)} (hc : X.calm = true) (h : PGs X ts (tGs X.gg pin gs)) (hn : (assignEach ts X.env).length = gs.length := by rfl) (hst : (assignEach ts X.env).findIdx? (·.1) = none := by rfl) :
    PG X (.Tuple ts k pos) (tG X.gg pin (gTp gs)) := by
  refine ⟨fun pins s σ H v u Q I r hw => (pg_tup hc h hn hst).run pins s σ H v u Q I r ?_⟩
  obtain ⟨W0, env, fe, d, fd, T, k⟩ := hw
  unfold gTp at k
  cases d with
  | tup ds =>
    obtain ⟨v', e2, h1⟩ := T.val1
    simp only [List.cons.injEq, and_true] at e2
    subst e2
    simp only [R] at h1
    obtain ⟨a, vs, rfl, ⟨q1, q2⟩, q3⟩ := h1
    cases ea : gAll gs ds env with
    | none => simp only [ea] at k
    | some env' =>
      refine ⟨a, vs, rfl, SqT.of q1, by rw [← q3.len, gAll_len ea], ?_⟩
      exact ⟨W0, env, fe, ds, fd, ⟨T.e, q3, T.nd, T.w0, T.ap⟩, k⟩
  | _ => exact k.elim
def sSet (g : D → Env → Option Env) (m : M D) : MS := fun env => match m env with
  | .ok d e => (match g d e with | some e' => .nx e' | none => .bad)
  | .exc x e => .exc x e
  | .bad => .bad
theorem sSet_run {g : D → Env → Option Env} {te : TE} {tg : TG} (h1 : ∀ Q σ H, tM X.gg Wi m σ H Q → te σ H Q) (h2 : ∀ v σ H Q, tG X.gg pin g v σ H Q → tg v σ H Q) {Dn : Ends} {σ : L2.St} {H : Hp} (h : sM X.gg Wi pin (sSet g m) Dn σ H) : tAsg te tg Dn σ H := by
  obtain ⟨W0, env, fe, I, k⟩ := h
  unfold sSet at k
  refine h1 _ _ _ ?_
  refine tM_run I (fun d env1 e1 v H1 fe1 fd fr nw T => ?_) (fun x env1 e1 => ?_) (fun e1 => ?_) <;> simp only [e1] at k
  · refine h2 _ _ _ _ ⟨W0, env1, fe1, d, fd, T, ?_⟩
    cases eg : g d env1 with
    | none => rw [eg] at k; exact k
    | some env2 =>
      rw [eg] at k
      intro σ' fe' sub pn T2
      exact k σ' H1 fe' fr (fun b hb => nw b (sub b hb)) pn T2
  · exact EndX.of k
  · exact k
theorem psm_asg {tg e : Expr} {g : D → Env → Option Env} (he : PM X Wi e m) (hg : PG X tg (tG X.gg pin g)) (hs : swapsWithSole [tg] e pos.line X.env = pure false := by rfl) (hw : swappedStores [tg] e X.env = pure none := by rfl)
    (h1 : (assignEach [tg] X.env).map (·.2) = [assign tg X.env] := by rfl) : PSM X Wi pin (.Assign [tg] e pos) (sSet g m) :=
  ps_imp (ps_asg he hg hs hw h1) fun _ _ _ h => sSet_run (fun _ _ _ h => h) (fun _ _ _ _ h => h) h
theorem tG_name (hp : i ∉ pin) {v : V} {σ : L2.St} {H : Hp} {Q : L2.St → Hp → Prop} (h : tG X.gg pin (gNm i) v σ H Q) : gName i v σ H Q := by
  obtain ⟨W0, env, fe, d, fd, T, k⟩ := h
  unfold gNm at k
  split at k
  · rename_i env' he
    split at he
    · rename_i hl
      cases he
      obtain ⟨fe', sub, T2⟩ := T.store hl
      exact k _ fe' sub (Pn.set hp) T2
    · cases he
  · exact k.elim
theorem psm_set (hN : X.N.Nodup) (hi : X.N[i]? = some x) (hx : Loc X.env.scope x) (he : PM X Wi e m) (hp : i ∉ pin := by decide) (hs : swapsWith e (some (.Name x pos')) pos.line X.env = pure false := by rfl) (hf : X.fn x = true ∨ X.env.scope.names.lookup x = some .local := by first | exact .inl rfl | exact .inr rfl | assumption) :
    PSM X Wi pin (.Assign [.Name x pos'] e pos) (sSet (gNm i) m) :=
  ps_imp (ps_set hN hi hx he hs hf) fun _ _ _ h => sSet_run (te := tM X.gg Wi m) (tg := gName i) (fun _ _ _ h => h) (fun _ _ _ _ h => tG_name hp h) h
/-- x op= e, x what cannot be changed -/
def sAug (i : Nat) (g : D → D → Option D) (m : M D) : MS := fun env => match env[i]? with
  | some (some d0) => if d0.im then (match m env with
    | .ok d e => (match g d0 d.fz with | some z => .nx (e.set i (some z)) | none => .bad)
    | .exc x e => .exc x e
    | .bad => .bad) else .bad
  | _ => .bad
theorem psm_aug {op : Operator} {ti : TIp} {g : D → D → Option D} (hN : X.N.Nodup) (hi : X.N[i]? = some x) (hx : Loc X.env.scope x) (he : PM X Wi e m) (ho : PIp X op ti) (og : Op2 X.gg ti g) (hp : i ∉ pin := by decide) (hf : X.fn x = true ∨ X.env.scope.names.lookup x = some .local := by first | exact .inl rfl | exact .inr rfl | assumption) :
    PSM X Wi pin (.AugAssign (.Name x pos') op e pos) (sAug i g m) := by
  refine ps_imp (ps_aug hN hi hx he ho hf) fun Dn σ H ⟨W0, env, fe, I, k⟩ => ?_
  unfold sAug at k
  split at k
  rotate_left
  · exact k.elim
  rename_i d0 hd
  split at k
  rotate_left
  · exact k.elim
  rename_i him
  obtain ⟨f1, f2, f3, v0, q1, q2, q3, q4⟩ := I.e.get hd
  refine ⟨v0, q2, ?_⟩
  have hil : i < env.length := (List.getElem?_eq_some_iff.mp hd).1
  -- the old value at hand
  obtain ⟨z1, z2⟩ := R.imTo (W' := Wx W0 fe []) d0 f2 v0 q3 him (fun b h => by
    rcases h with h | h | h
    · exact I.w0 b h
    · exact I.e.mut b h
    · simp at h)
  have T0 : Top X.gg W0 env fe σ [d0] [] [v0] H := ⟨I.e, Rs.one z2, I.nd, I.w0, I.ap⟩
  refine T0.runE Fr.refl (by rw [List.append_nil]; exact Nw.refl) (fun d env1 e1 v H1 fe1 fd fr nw T => ?_) (fun x env1 e1 => ?_) (fun e1 => ?_) <;> simp only [e1] at k
  · cases eg : g d0 d.fz with
    | none => rw [eg] at k; exact k.elim
    | some z =>
      rw [eg] at k
      have T1 := T.frz
      have ez : fzs ([d0] ++ [d]) = [d0, d.fz] := by simp [fzs, D.fz_im d0 him]
      have k' : EndE X.gg Wi W0 fe σ H (fun w H2 => Dn.nx (σ.set i (some w)) H2) (.ok z env1) := by
        intro w H2 fe2 fd2 fr2 nw2 T2
        have hl : i < env1.length := by
          have a1 := T2.e.len; have a2 := I.e.len
          omega
        obtain ⟨fe', sub, T3⟩ := T2.store hl
        exact k _ H2 fe' fr2 (fun b hb => nw2 b (sub b hb)) (Pn.set hp) T3
      obtain ⟨x, y, e3, q⟩ := T.op og (d := z) (Q := fun w H2 => Dn.nx (σ.set i (some w)) H2) (by rw [ez]; exact eg) fr nw.left k'
      simp only [List.singleton_append, List.cons.injEq, and_true] at e3
      obtain ⟨rfl, rfl⟩ := e3
      exact q
  · exact EndX.of k
  · exact k
end
end VL


set_option Elab.async false
set_option linter.all false
set_option maxRecDepth 100000
set_option maxHeartbeats 4000000
namespace VL
open PySem PySem.Spec L2
open PyProof.Rows hiding St

/-! ### what a loop walks -/
def ItOk (W : Addr → Prop) (J : It) (xs : List V) (H : Hp) : Prop := ∃ S : Hp → Prop, S H ∧ (∀ H1 H2, S H1 → (∀ b x, H1 b = some x → ¬ W b → H2 b = some x) → S H2) ∧
  (∀ H1 i x, S H1 → xs[i]? = some x → J.go i H1 ∧ ∀ x' H', J.yld i H1 x' H' → H' = H1 ∧ x' = x) ∧ ∀ H1, S H1 → J.stop xs.length H1
section
variable (mg : G) (Wi : WX)
def EndI (W0 : Addr → Prop) (fe : List Addr) (σ : L2.St) (H : Hp) (Rr : It → Hp → Prop) : Res (List D) → Prop
  | .ok items env' => ∀ J H' fe' xs, Fr fe H H' → Nw H fe fe' → Top mg W0 env' fe' σ [] [] [] H' → Rs mg H' (Wx W0 fe' []) items [] xs → ItOk (Wx W0 fe' []) J xs H' → Rr J H'
  | .exc x env' => EndX mg Wi W0 fe σ H x env'
  | .bad => False
def tI (m : M (List D)) : TI := fun σ H Rr => ∃ W0 env fe, Top mg W0 env fe σ [] [] [] H ∧ EndI mg Wi W0 fe σ H Rr (m env)
end
abbrev PMI (X : Cx) (Wi : WX) (tg iter : Expr) (m : M (List D)) : Prop := PI X tg iter (tI X.gg Wi m)
theorem pi_imp {X : Cx} {tg iter : Expr} {t t' : TI} (h : PI X tg iter t) (k : ∀ σ H Q, t' σ H Q → t σ H Q) : PI X tg iter t' := ⟨fun pins s σ H Q I q => h.run pins s σ H Q I (k σ H Q q)⟩

/-- a list or a tuple -/
def iSeq (K : PySem.W.Frag) (tl : TE) : TI := fun σ H Rr => tl σ H fun x H1 => ∃ a, x = .ref a ∧ (((∃ xs, SqL K H1 a xs) ∧ Rr (Itl K a) H1) ∨ ((∃ xs, SqT K H1 a xs) ∧ Rr (Itt K a) H1))
theorem pi_seq {X : Cx} {tg l : Expr} {tl : TE} (hl : PE X l tl) : PI X tg l (iSeq X.K tl) := by
  refine ⟨fun pins s σ H R I h => ?_⟩
  refine thn (hl.run pins s σ H _ I h) fun v s1 ⟨x, H1, I1, r1, q1⟩ => ?_
  obtain ⟨a, e, q⟩ := q1
  subst e
  cases r1
  rcases q with ⟨⟨xs, hq⟩, q⟩ | ⟨⟨xs, hq⟩, q⟩
  · obtain ⟨its, rv, p, hz⟩ := I1.list hq
    refine wpAny_pyIter_list p.isList ?_
    refine ⟨s1.heap.objs.size, [s1.heap.objs.size], _, _, H1, rfl, I1.kept (t' := s1.toks) fun b o e => Heap.get?_push_of_some _ e, turn_list a _, ⟨_, Heap.get?_push_size _ rfl, rfl, rfl⟩, fun b hb => ?_, q⟩
    have e : b = s1.heap.objs.size := by simpa using hb
    subst e
    exact I1.fpOk (Nat.le_refl _) (I1.hok.fresh (Nat.le_refl _))
  · obtain ⟨its, rv, p, hz⟩ := I1.tuple hq
    refine wpAny_pyIter_tuple (show s1.heap.IsTuple a its.toArray from p) ?_
    refine ⟨s1.heap.objs.size, [s1.heap.objs.size], _, _, H1, rfl, I1.kept (t' := s1.toks) fun b o e => Heap.get?_push_of_some _ e, turn_tuple a _, ⟨_, Heap.get?_push_size _ rfl, rfl, rfl⟩, fun b hb => ?_, q⟩
    have e : b = s1.heap.objs.size := by simpa using hb
    subst e
    exact I1.fpOk (Nat.le_refl _) (I1.hok.fresh (Nat.le_refl _))

theorem frz_inj {xs ys : List V} (h : HO.lst xs = HO.lst ys) : xs = ys := by cases h; rfl
theorem sqL_lst {K : PySem.W.Frag} {H : Hp} {a : Addr} {xs ys : List V} (h : H a = some (.lst xs)) (nk : K.lookup a = none) (q : SqL K H a ys) : ys = xs := by
  rcases q with (q | ⟨o, q⟩) | ⟨o, its, n, q, _⟩
  · rw [h] at q; cases q; rfl
  · rw [h] at q; cases q
  · rw [nk] at q; cases q
section
variable {X : Cx} {Wi : WX} {tg a b : Expr} {m ma mb : M D} {pos p : Pos}
def mItems (m : M D) : M (List D) := m.bind fun d => match d.fz with
  | .lst _ ds => M.pure ds
  | .tup ds => M.pure ds
  | .scr ns => M.pure (ns.map .int)
  | _ => M.bad
theorem Rs.ints {mg : G} {H : Hp} {W : Addr → Prop} : ∀ ns : List Int, Rs mg H W (ns.map D.int) [] (ns.map V.int)
  | [] => ⟨rfl, rfl⟩
  | n :: ns => ⟨[], [], .int n, ns.map V.int, rfl, rfl, ⟨rfl, rfl⟩, Rs.ints ns⟩
/-- the walked things are where nothing of the text's own stands -/
theorem itl_ok {K : PySem.W.Frag} {W : Addr → Prop} {H : Hp} {c : Addr} {xs : List V} (h : Rd H c (.lst xs) ∧ ¬ W c) : ItOk W (Itl K c) xs H := by
  refine ⟨fun H1 => Rd H1 c (.lst xs) , h.1, fun H1 H2 q k => ?_, fun H1 i x q e => ⟨⟨xs, x, .inl q, e⟩, fun x' H' y => ⟨y.1, ?_⟩⟩, fun H1 q => ⟨xs, .inl q, Nat.le_refl _⟩⟩
  · rcases q with q | ⟨o, q⟩
    · exact .inl (k _ _ q h.2)
    · exact .inr ⟨o, k _ _ q h.2⟩
  · have := y.2 xs (.inl q)
    rw [this] at e
    exact Option.some.inj e
theorem itt_ok {K : PySem.W.Frag} {W : Addr → Prop} {H : Hp} {c : Addr} {xs : List V} (h : H c = some (.tup xs) ∧ ¬ W c) : ItOk W (Itt K c) xs H := by
  refine ⟨fun H1 => H1 c = some (.tup xs), h.1, fun H1 H2 q k => k _ _ q h.2, fun H1 i x q e => ⟨⟨xs, x, SqT.of q, e⟩, fun x' H' y => ⟨y.1, ?_⟩⟩, fun H1 q => ⟨xs, SqT.of q, Nat.le_refl _⟩⟩
  have := y.2 xs (SqT.of q)
  rw [this] at e
  exact Option.some.inj e
theorem pmi_seq (h : PM X Wi a m) : PMI X Wi tg a (mItems m) := by
  refine pi_imp (pi_seq h) fun σ H Rr ⟨W0, env, fe, I, k⟩ => ?_
  unfold mItems M.bind at k
  refine tM_run I (fun d env1 e1 v H1 fe1 fd fr nw T => ?_) (fun x env1 e1 => ?_) (fun e1 => ?_) <;> simp only [e1] at k
  · have T1 := T.frz
    have Td := T.drop
    obtain ⟨v', e2, h1⟩ := (show Top X.gg W0 env1 fe1 σ [d.fz] [] [v] H1 from T1).val1
    simp only [List.cons.injEq, and_true] at e2
    subst e2
    cases hd : d.fz with
    | lst o ds =>
      rw [hd] at h1 k
      cases o with
      | true => simp only [R] at h1; obtain ⟨_, _, _, _, q, _⟩ := h1; cases q
      | false =>
        simp only [R] at h1
        obtain ⟨_, c, xs, rfl, q, r⟩ := h1
        exact ⟨c, rfl, .inl ⟨⟨xs, SqL.of q.1⟩, k _ _ _ xs fr nw.left Td r (itl_ok (K := X.K) ⟨.inl q.1, q.2⟩)⟩⟩
    | tup ds =>
      rw [hd] at h1 k
      simp only [R] at h1
      obtain ⟨c, xs, rfl, q, r⟩ := h1
      exact ⟨c, rfl, .inr ⟨⟨xs, SqT.of q.1⟩, k _ _ _ xs fr nw.left Td r (itt_ok q)⟩⟩
    | scr ns =>
      rw [hd] at h1 k
      simp only [R] at h1
      obtain ⟨_, c, rfl, ⟨o, q, q2⟩ | ⟨o, its, n, q⟩⟩ := h1
      · exact ⟨c, rfl, .inl ⟨⟨_, .inl (.inr ⟨o, q⟩)⟩, k _ _ _ _ fr nw.left Td (Rs.ints ns) (itl_ok (K := X.K) ⟨.inr ⟨o, q⟩, q2⟩)⟩⟩
      · have hs : ∀ H1, SqL X.K H1 c (ns.map V.int) := fun H1 => .inr ⟨o, its, n, q⟩
        exact ⟨c, rfl, .inl ⟨⟨_, hs _⟩, k _ _ _ _ fr nw.left Td (Rs.ints ns) ⟨fun _ => True, trivial, fun _ _ _ _ => trivial, fun H1 i x _ e => ⟨⟨_, x, hs H1, e⟩, fun x' H' y => ⟨y.1, by
          have := y.2 _ (hs H1)
          rw [this] at e
          exact Option.some.inj e⟩⟩, fun H1 _ => ⟨_, hs H1, Nat.le_refl _⟩⟩⟩⟩
    | non => rw [hd] at k; exact k.elim
    | bl b => rw [hd] at k; exact k.elim
    | int i => rw [hd] at k; exact k.elim
    | str s => rw [hd] at k; exact k.elim
    | ins o c ns xs => rw [hd] at k; exact k.elim
    | dic o ks xs => rw [hd] at k; exact k.elim
  · exact k
  · exact k

def mRange1 (m : M D) : M (List D) := (mI m).bind fun j => if -(2 ^ 62) ≤ j ∧ j < 2 ^ 62 then M.pure ((List.range j.toNat).map fun i => .int (i : Nat)) else M.bad
def mRange2 (ma mb : M D) : M (List D) := (mI ma).bind fun i => (mI mb).bind fun j => if -(2 ^ 62) ≤ i ∧ i < 2 ^ 62 ∧ -(2 ^ 62) ≤ j ∧ j < 2 ^ 62 then M.pure ((List.range (j - i).toNat).map fun l => .int (i + (l : Nat))) else M.bad
theorem itr_ok {W : Addr → Prop} {H : Hp} {lo : Int} {n : Nat} : ItOk W (Itr lo n) ((List.range n).map fun i => V.int (lo + (i : Nat))) H := by
  refine ⟨fun _ => True, trivial, fun _ _ _ _ => trivial, fun H1 i x _ e => ?_, fun H1 _ => by simp [Itr]⟩
  rw [List.getElem?_map] at e
  by_cases hi : i < n
  · rw [List.getElem?_range hi] at e
    refine ⟨hi, fun x' H' y => ⟨y.1, ?_⟩⟩
    rw [y.2]
    exact Option.some.inj e
  · rw [List.getElem?_eq_none (by simpa using hi)] at e
    cases e
theorem Rs.mapInt {mg : G} {H : Hp} {W : Addr → Prop} {f : Nat → Int} : ∀ l : List Nat, Rs mg H W (l.map fun i => D.int (f i)) [] (l.map fun i => V.int (f i))
  | [] => ⟨rfl, rfl⟩
  | n :: ns => ⟨[], [], .int (f n), ns.map fun i => V.int (f i), rfl, rfl, ⟨rfl, rfl⟩, Rs.mapInt ns⟩
theorem pmi_range1 {es} (hg : Gl X "range") (hm : X.mg "range" = none) (ha : PM X Wi a m) (hs : starEach [a] X.env = [(false, eval a X.env)] := by rfl) (he : es = [a] := by rfl) : PMI X Wi tg (.Call (.Name "range" p) es [] pos) (mRange1 m) := by
  subst he
  refine pi_imp (pi_range1 hg hm (pa_cons ha pa_nil (by rw [hs]; rfl)) hs) fun σ H Rr ⟨W0, env, fe, I, k⟩ => ?_
  unfold mRange1 M.bind at k
  refine tM_run I (fun d env1 e1 v H1 fe1 fd fr nw T => ?_) (fun x env1 e1 => ?_) (fun e1 => ?_)
  · rcases mI_int e1 with ⟨j, rfl, q1⟩ | q1
    · simp only [q1] at k
      obtain ⟨v1, e2, _, h1⟩ := T.val1
      simp only [List.cons.injEq, and_true] at e2
      subst e2 h1
      split at k
      · rename_i hj
        refine ⟨j, rfl, hj.1, hj.2, k _ H1 fe1 ((List.range j.toNat).map fun i => V.int (0 + (i : Nat))) fr nw.left T.drop ?_ itr_ok⟩
        have := Rs.mapInt (mg := X.gg) (H := H1) (W := Wx W0 fe1 []) (f := fun i => 0 + (i : Nat)) (List.range j.toNat)
        simpa using this
      · exact k.elim
    · simp only [q1] at k; exact k.elim
  · simp only [mI_exc e1] at k; exact k
  · simp only [mI_bad e1] at k; exact k
theorem pmi_range2 (hg : Gl X "range") (hm : X.mg "range" = none) (ha : PM X Wi a ma) (hb : PM X Wi b mb) (hs : starEach [a, b] X.env = [(false, eval a X.env), (false, eval b X.env)] := by rfl) (hs2 : starEach [b] X.env = [(false, eval b X.env)] := by rfl) :
    PMI X Wi tg (.Call (.Name "range" p) [a, b] [] pos) (mRange2 ma mb) := by
  refine pi_imp (pi_range2 hg hm (pa_cons ha (pa_cons hb pa_nil (by rw [hs2]; rfl)) (by rw [hs, hs2])) hs hs2) fun σ H Rr ⟨W0, env, fe, I, k⟩ => ?_
  unfold mRange2 M.bind at k
  refine tM_run I (fun d env1 e1 v H1 fe1 fd fr nw T => ?_) (fun x env1 e1 => ?_) (fun e1 => ?_)
  · rcases mI_int e1 with ⟨i, rfl, q1⟩ | q1
    · simp only [q1] at k
      obtain ⟨v1, e2, _, h1⟩ := T.val1
      simp only [List.cons.injEq, and_true] at e2
      subst e2 h1
      refine tM_next T.drop fr nw.left (fun d2 env2 e2 v2 H2 fe2 fd2 fr2 nw2 T2 => ?_) (fun x env2 e2 => ?_) (fun e2 => ?_)
      · rcases mI_int e2 with ⟨j, rfl, q2⟩ | q2
        · simp only [q2] at k
          obtain ⟨v1, e2, _, h1⟩ := T2.val1
          simp only [List.cons.injEq, and_true] at e2
          subst e2 h1
          split at k
          · rename_i hj
            refine ⟨i, j, rfl, hj, k _ H2 fe2 ((List.range (j - i).toNat).map fun l => V.int (i + (l : Nat))) fr2 nw2.left T2.drop ?_ itr_ok⟩
            exact Rs.mapInt (f := fun l => i + (l : Nat)) _
          · exact k.elim
        · simp only [q2] at k; exact k.elim
      · simp only [mI_exc e2] at k; exact k
      · simp only [mI_bad e2] at k; exact k
    · simp only [q1] at k; exact k.elim
  · simp only [mI_exc e1] at k; exact k
  · simp only [mI_bad e1] at k; exact k
def mSigns (m : M D) : M (List D) := m.bind fun d => match d with
  | .str s => M.pure (s.cps.toList.map fun c => .str ⟨#[c]⟩)
  | _ => M.bad
theorem Rs.mapStr {mg : G} {H : Hp} {W : Addr → Prop} {f : Nat → Str} : ∀ l : List Nat, Rs mg H W (l.map fun i => D.str (f i)) [] (l.map fun i => V.str (f i))
  | [] => ⟨rfl, rfl⟩
  | n :: ns => ⟨[], [], .str (f n), ns.map fun i => V.str (f i), rfl, rfl, ⟨rfl, rfl⟩, Rs.mapStr ns⟩
theorem its_ok {W : Addr → Prop} {H : Hp} {s : Str} : ItOk W (Its s) (s.cps.toList.map fun c => V.str ⟨#[c]⟩) H := by
  refine ⟨fun _ => True, trivial, fun _ _ _ _ => trivial, fun H1 i x _ e => ?_, fun H1 _ => by simp [Its]⟩
  rw [List.getElem?_map] at e
  cases q : s.cps.toList[i]? with
  | none => rw [q] at e; cases e
  | some c =>
    rw [q] at e
    have qi : s.cps[i]? = some c := by simpa using q
    refine ⟨(Array.getElem?_eq_some_iff.mp qi).1, fun x' H' y => ⟨y.1, ?_⟩⟩
    obtain ⟨_, c', y1, y2⟩ := y
    rw [qi] at y1
    cases y1
    rw [y2]
    exact Option.some.inj e
theorem pmi_str (h : PM X Wi a m) : PMI X Wi tg a (mSigns m) := by
  refine pi_imp (pi_str h) fun σ H Rr ⟨W0, env, fe, I, k⟩ => ?_
  unfold mSigns M.bind at k
  refine tM_run I (fun d env1 e1 v H1 fe1 fd fr nw T => ?_) (fun x env1 e1 => ?_) (fun e1 => ?_) <;> simp only [e1] at k
  · cases d with
    | str s =>
      obtain ⟨v1, e2, _, h1⟩ := T.val1
      simp only [List.cons.injEq, and_true] at e2
      subst e2 h1
      exact ⟨s, rfl, k _ H1 fe1 _ fr nw.left T.drop (Rs.mapStr _) its_ok⟩
    | _ => exact k.elim
  · exact k
  · exact k
end

/-! ### for -/
def forS (g : D → Env → Option Env) (body : MS) : List D → MS
  | [], env => .nx env
  | d :: ds, env => match g d env with
    | none => .bad
    | some e1 => match body e1 with
      | .nx e2 => forS g body ds e2
      | .ct e2 => forS g body ds e2
      | .bk e2 => .nx e2
      | .rt d e2 => .rt d e2
      | .exc x e2 => .exc x e2
      | .bad => .bad
def sFor (mi : M (List D)) (g : D → Env → Option Env) (body : MS) : MS := fun env => match mi env with
  | .ok items e => forS g body items e
  | .exc x e => .exc x e
  | .bad => .bad
section
variable {X : Cx} {Wi : WX} {pin : List Nat} {tg iter c : Expr} {mi : M (List D)} {g : D → Env → Option Env} {body : List Stmt} {sb : MS} {pos : Pos} {t : M Bool}
theorem psm_for (hp : PassesOwn (model X.prog X.w) X.A X.env X.xe) (hc : X.calm = true) (hi : PMI X Wi tg iter mi) (hg : PG X tg (tG X.gg pin g)) (hb : PSSM X Wi pin body sb)
    (hs : ∀ x, foldedSetIterable iter X.env x = pure x := by intro _; rfl) : PSM X Wi pin (.For tg iter body [] pos) (sFor mi g sb) := by
  refine ps_imp (ps_for hp hc hi hg hb hs) fun Dn σ H ⟨W0, env, fe, I, k⟩ => ?_
  unfold sFor at k
  refine ⟨W0, env, fe, I, ?_⟩
  cases e1 : mi env with
  | exc x env1 => rw [e1] at k; exact EndX.of k
  | bad => rw [e1] at k; exact k
  | ok items env1 =>
    simp only [e1] at k
    intro J H1 fe1 xs fr nw T rs ⟨S, s1, s2, s3, s4⟩
    have hl := rs.len
    refine ⟨fun i m σ' H' => i ≤ items.length ∧ m = items.length - i ∧ ∃ env' fe', Fr fe1 H1 H' ∧ Nw H1 fe1 fe' ∧ Pn pin σ σ' ∧ Top X.gg W0 env' fe' σ' [] [] [] H' ∧ EndS X.gg Wi pin W0 fe1 σ H1 Dn (forS g sb (items.drop i) env'),
      ⟨items.length, Nat.zero_le _, by omega, env1, fe1, Fr.refl, Nw.refl, Pn.refl, T, by simpa using k.from fr nw Pn.refl⟩, ?_⟩
    rintro i m σ2 H2 ⟨hi, rfl, env2, fe2, fr2, nw2, pn2, T2, k2⟩
    have S2 : S H2 := s2 _ _ s1 fun b x q hb => fr2 b x q fun z => hb (.inr (.inl z))
    by_cases hlt : i < items.length
    · obtain ⟨x, hx⟩ : ∃ x, xs[i]? = some x := ⟨xs[i]'(by omega), List.getElem?_eq_getElem (by omega)⟩
      obtain ⟨go, yl⟩ := s3 H2 i x S2 hx
      refine .inr ⟨go, fun σ' H' => ∃ env' fe', Fr fe1 H1 H' ∧ Nw H1 fe1 fe' ∧ Pn pin σ σ' ∧ Top X.gg W0 env' fe' σ' [] [] [] H' ∧ EndS X.gg Wi pin W0 fe1 σ H1 Dn (forS g sb (items.drop (i + 1)) env'),
        fun σ' H' z => ⟨items.length - (i + 1), by omega, by omega, rfl, z⟩, fun x' H' y => ?_⟩
      obtain ⟨rfl, rfl⟩ := yl x' H' y
      rw [List.drop_eq_getElem_cons hlt] at k2
      -- the item, as it stands now
      have rd : R X.gg H' (Wx W0 fe2 []) items[i] [] x' := by
        have r1 : R X.gg H1 (Wx W0 fe1 []) items[i] [] x' := by
          have aux : ∀ (ds : List D) (vs : List V) (j : Nat) (hj : j < ds.length) (v : V), Rs X.gg H1 (Wx W0 fe1 []) ds [] vs → vs[j]? = some v → R X.gg H1 (Wx W0 fe1 []) ds[j] [] v := by
            intro ds
            induction ds with
            | nil => intro vs j hj; simp at hj
            | cons d ds ih =>
              rintro vs j hj v ⟨f1, f2, u, us, e, rfl, h1, h2⟩ hv
              obtain ⟨rfl, rfl⟩ := List.append_eq_nil_iff.mp e.symm
              cases j with
              | zero => simp at hv; subst hv; exact h1
              | succ j => exact ih us j (by simpa using hj) v h2 (by simpa using hv)
          exact aux items xs i hlt x' rs hx
        refine R.mono _ _ _ r1 (fun b x q z => fr2 b x q fun hb => ?_) fun b h t z => ?_
        · rcases z with z | z
          · exact z (.inr (.inl hb))
          · simp at z
        · rcases z with z | z | z
          · exact h (.inl z)
          · rcases nw2 b z with q | q
            · exact h (.inr (.inl q))
            · exact t q
          · simp at z
      have T3 : Top X.gg W0 env2 fe2 σ2 [items[i]] [] [x'] H' := T2.grow (Same.refl _) (fun b z => absurd z (by simp)) List.nodup_nil (Rs.one (R.mono _ _ _ rd (fun _ _ q _ => q) fun b h _ z => h (z.resolve_right (by simp))))
      simp only [forS] at k2
      refine ⟨W0, env2, fe2, _, [], T3, ?_⟩
      cases eg : g items[i] env2 with
      | none => rw [eg] at k2; exact k2
      | some env3 =>
        simp only [eg] at k2
        intro σ4 fe4 sub4 pn4 T4
        have nw4 : Nw H1 fe1 fe4 := fun b hb => nw2 b (by have := sub4 b hb; simpa using this)
        have nx : ∀ {σ' : L2.St} {H'' : Hp} {fe' : List Addr} {env' : Env}, Fr fe4 H' H'' → Nw H' fe4 fe' → Pn pin σ4 σ' → Top X.gg W0 env' fe' σ' [] [] [] H'' → EndS X.gg Wi pin W0 fe1 σ H1 Dn (forS g sb (items.drop (i + 1)) env') →
            ∃ env' fe', Fr fe1 H1 H'' ∧ Nw H1 fe1 fe' ∧ Pn pin σ σ' ∧ Top X.gg W0 env' fe' σ' [] [] [] H'' ∧ EndS X.gg Wi pin W0 fe1 σ H1 Dn (forS g sb (items.drop (i + 1)) env') :=
          fun {σ' H'' fe' env'} a b c d e => ⟨env', fe', fr2.trans nw4 a, Nw.trans fr2 nw4 b, (pn2.trans pn4).trans c, d, e⟩
        refine ⟨W0, env3, fe4, T4, ?_⟩
        cases eb : sb env3 with
        | nx e2 => simp only [eb] at k2; exact fun σ' H'' fe' a b c d => nx a b c d k2
        | ct e2 => simp only [eb] at k2; exact fun σ' H'' fe' a b c d => nx a b c d k2
        | bk e2 => simp only [eb] at k2; exact k2.from fr2 nw4 (pn2.trans pn4)
        | rt d e2 => simp only [eb] at k2; exact k2.from fr2 nw4 (pn2.trans pn4)
        | exc x e2 => simp only [eb] at k2; exact k2.from fr2 nw4 (pn2.trans pn4)
        | bad => simp only [eb] at k2; exact k2
    · have e : i = items.length := by omega
      subst e
      rw [List.drop_length] at k2
      exact .inl ⟨by rw [hl]; exact s4 H2 S2, k2 σ2 H2 fe2 fr2 nw2 pn2 T2⟩

/-! ### while -/
def whileS (t : M Bool) (body : MS) : Nat → MS
  | 0, _ => .bad
  | n + 1, env => match t env with
    | .ok b e1 => if b then (match body e1 with
      | .nx e2 => whileS t body n e2
      | .ct e2 => whileS t body n e2
      | .bk e2 => .nx e2
      | .rt d e2 => .rt d e2
      | .exc x e2 => .exc x e2
      | .bad => .bad) else .nx e1
    | .exc x e1 => .exc x e1
    | .bad => .bad
theorem psm_while (fu : Env → Nat) (hp : PassesOwn (model X.prog X.w) X.A X.env X.xe) (hc : PMT X Wi c t) (hb : PSSM X Wi pin body sb) : PSM X Wi pin (.While c body [] pos) (fun env => whileS t sb (fu env) env) := by
  refine ps_imp (ps_while hp hc hb) fun Dn σ H ⟨W0, env, fe, I, k⟩ => ?_
  refine ⟨fun m σ' H' => ∃ env' fe', Fr fe H H' ∧ Nw H fe fe' ∧ Pn pin σ σ' ∧ Top X.gg W0 env' fe' σ' [] [] [] H' ∧ EndS X.gg Wi pin W0 fe σ H Dn (whileS t sb m env'),
    ⟨_, env, fe, Fr.refl, Nw.refl, Pn.refl, I, k⟩, ?_⟩
  rintro m σ1 H1 ⟨env1, fe1, fr1, nw1, pn1, T1, k1⟩
  cases m with
  | zero => exact k1.elim
  | succ m =>
    simp only [whileS] at k1
    refine ⟨W0, env1, fe1, T1, ?_⟩
    cases et : t env1 with
    | ok b e1 =>
      simp only [et] at k1
      intro H2 fe2 fr2 nw2 T2
      have fr' := fr1.trans nw1 fr2
      have nw' := Nw.trans fr1 nw1 nw2
      cases b with
      | false => simp only [Bool.false_eq_true, if_false] at k1 ⊢; exact k1 σ1 H2 fe2 fr' nw' pn1 T2
      | true =>
        simp only [if_true] at k1 ⊢
        refine ⟨fun σ' H' => ∃ env' fe', Fr fe H H' ∧ Nw H fe fe' ∧ Pn pin σ σ' ∧ Top X.gg W0 env' fe' σ' [] [] [] H' ∧ EndS X.gg Wi pin W0 fe σ H Dn (whileS t sb m env'), fun σ' H' z => ⟨m, by omega, z⟩, W0, e1, fe2, T2, ?_⟩
        cases eb : sb e1 with
        | nx e2 => simp only [eb] at k1; exact fun σ' H'' fe' a b c d => ⟨e2, fe', fr'.trans nw' a, Nw.trans fr' nw' b, pn1.trans c, d, k1⟩
        | ct e2 => simp only [eb] at k1; exact fun σ' H'' fe' a b c d => ⟨e2, fe', fr'.trans nw' a, Nw.trans fr' nw' b, pn1.trans c, d, k1⟩
        | bk e2 => simp only [eb] at k1; exact k1.from fr' nw' pn1
        | rt d e2 => simp only [eb] at k1; exact k1.from fr' nw' pn1
        | exc x e2 => simp only [eb] at k1; exact k1.from fr' nw' pn1
        | bad => simp only [eb] at k1; exact k1
    | exc x e1 =>
      simp only [et] at k1
      exact fun cls dd H' fe' a b T ex => k1 cls dd σ1 H' fe' (fr1.trans nw1 a) (Nw.trans fr1 nw1 b) pn1 T ex
    | bad => simp only [et] at k1; exact k1
end
end VL


set_option Elab.async false
set_option linter.all false
set_option maxRecDepth 100000
set_option maxHeartbeats 4000000
namespace VL
open PySem PySem.Spec L2
open PyProof.Rows hiding St

/-! ### an own list at hand grows -/
section
variable {mg : G} {Wi : WX} {pin : List Nat} {W0 : Addr → Prop} {fe fe1 fd : List Addr} {env env1 : Env} {σ σ1 : L2.St} {H H1 : Hp} {ds : List D} {vs : List V} {d : D} {v : V}
theorem Top.append {acc : List D} {c : Addr} (T : Top mg W0 env fe σ [.lst true acc, d] fd [.ref c, v] H) :
    ∃ av, H c = some (.lst av) ∧ av.length = acc.length ∧ Top mg W0 env fe σ [.lst true (acc ++ [d])] fd [.ref c] (upd H c (.lst (av ++ [v]))) := by
  obtain ⟨g1, g2, u, us, e1, e2, r1, r2⟩ := T.t
  simp only [List.cons.injEq] at e2
  obtain ⟨rfl, rfl⟩ := e2
  obtain ⟨g3, g4, u, us, e3, e4, r3, r4, r5⟩ := r2
  simp only [List.cons.injEq] at e4
  obtain ⟨rfl, rfl⟩ := e4
  subst r4 e3
  simp only [R] at r1
  obtain ⟨a, av, ga, e5, e6, q1, q2⟩ := r1
  cases e5
  subst e6
  have ed : fd = c :: (ga ++ g3) := by rw [e1]; simp
  have nd := List.nodup_append.mp T.nd
  have ndd := nd.2.1
  rw [ed] at ndd
  have cn := (List.nodup_cons.mp ndd).1
  have cfe : c ∉ fe := fun z => nd.2.2 c z c (by rw [ed]; exact List.mem_cons_self) rfl
  have cW : Wx W0 fe fd c := .inr (.inr (by rw [ed]; exact List.mem_cons_self))
  have k : ∀ b x, H b = some x → b ≠ c → (upd H c (.lst (av ++ [v]))) b = some x := fun b x q hb => by rw [upd_ne hb]; exact q
  refine ⟨av, q1, q2.len.symm, ⟨T.e.mono (fun b x q z => k b x q fun e => ?_) fun _ h _ => h, Rs.one ⟨c, av ++ [v], ga ++ g3, rfl, ed, upd_same, (Rs.app _ _ _ _).mpr ⟨ga, g3, av, [v], rfl, rfl, Rs.mono _ _ _ q2 (fun b x q z => k b x q fun e => ?_) (fun _ h _ => h), Rs.one (R.mono _ _ _ r3 (fun b x q z => k b x q fun e => ?_) fun _ h _ => h)⟩⟩, T.nd, fun b h => ?_, T.ap⟩⟩
  · subst e; rcases z with z | z
    · exact z cW
    · exact cfe z
  · subst e; rcases z with z | z
    · exact z cW
    · exact cn (List.mem_append_left _ z)
  · subst e; rcases z with z | z
    · exact z cW
    · exact cn (List.mem_append_right _ z)
  · have hb : b ≠ c := fun e => T.ap c (List.mem_append_right _ (by rw [ed]; exact List.mem_cons_self)) (e ▸ h)
    rw [upd_ne hb]; exact T.w0 b h
end

/-! ### list comprehensions -/
theorem EndE.from {mg : G} {Wi : WX} {W0 : Addr → Prop} {fe fe1 : List Addr} {σ : L2.St} {H H1 : Hp} {Q : VK} {r : Res D} (fr : Fr fe H H1) (nw : Nw H fe fe1) (k : EndE mg Wi W0 fe σ H Q r) : EndE mg Wi W0 fe1 σ H1 Q r := by
  cases r with
  | ok d e => exact fun v H' fe' fd a b T => k v H' fe' fd (fr.trans nw a) (Nw.trans fr nw b) T
  | exc x e => exact fun cls dd H' fe' a b T ex => k cls dd H' fe' (fr.trans nw a) (Nw.trans fr nw b) T ex
  | bad => exact k
theorem rs_get {mg : G} {H : Hp} {W : Addr → Prop} : ∀ {ds : List D} {vs : List V} {j : Nat} {v : V} (_ : Rs mg H W ds [] vs) (hj : j < ds.length), vs[j]? = some v → R mg H W ds[j] [] v
  | [], _, _, _, _, hj, _ => by simp at hj
  | d :: ds, vs, j, v, h, hj, hv => by
    obtain ⟨f1, f2, u, us, e, rfl, h1, h2⟩ := h
    obtain ⟨rfl, rfl⟩ := List.append_eq_nil_iff.mp e.symm
    cases j with
    | zero => simp at hv; subst hv; exact h1
    | succ j => exact rs_get h2 (by simpa using hj) (by simpa using hv)
def wipeE (env : Env) : List Nat → Env
  | [] => env
  | v :: vs => (wipeE env vs).set v none
theorem EnvR.unset {mg : G} {H : Hp} {W : Addr → Prop} : ∀ {env : Env} {fp : List Addr} {σ : L2.St} (i : Nat), EnvR mg H W env fp σ → ∃ g, List.Sublist g fp ∧ EnvR mg H W (env.set i none) g (σ.set i none)
  | [], fp, σ, i, h => ⟨fp, List.Sublist.refl _, by obtain ⟨rfl, rfl⟩ := h; exact ⟨rfl, rfl⟩⟩
  | none :: es, fp, σ, 0, h => by
    simp only [EnvR] at h
    obtain ⟨x, τ, rfl, h⟩ := h
    exact ⟨fp, List.Sublist.refl _, none, τ, rfl, h⟩
  | some d :: es, fp, σ, 0, h => by
    simp only [EnvR] at h
    obtain ⟨f1, f2, v, τ, rfl, rfl, h1, h2⟩ := h
    exact ⟨f2, List.sublist_append_right _ _, none, τ, rfl, h2⟩
  | none :: es, fp, σ, i + 1, h => by
    simp only [EnvR] at h
    obtain ⟨x, τ, rfl, h⟩ := h
    obtain ⟨g, s, q⟩ := EnvR.unset i h
    exact ⟨g, s, x, _, rfl, q⟩
  | some d :: es, fp, σ, i + 1, h => by
    simp only [EnvR] at h
    obtain ⟨f1, f2, v, τ, rfl, rfl, h1, h2⟩ := h
    obtain ⟨g, s, q⟩ := EnvR.unset i h2
    refine ⟨f1 ++ g, List.Sublist.append_left s _, ?_⟩
    show EnvR mg H W (some d :: es.set i none) _ _
    simp only [EnvR]
    exact ⟨f1, g, v, _, rfl, rfl, h1, q⟩
theorem envR_wipe {mg : G} {H : Hp} {W : Addr → Prop} {env : Env} {fp : List Addr} {σ : L2.St} (h : EnvR mg H W env fp σ) : ∀ vs : List Nat, ∃ g, List.Sublist g fp ∧ EnvR mg H W (wipeE env vs) g (wipe σ vs)
  | [] => ⟨fp, List.Sublist.refl _, h⟩
  | v :: vs => by
    obtain ⟨g, s, q⟩ := envR_wipe h vs
    obtain ⟨g2, s2, q2⟩ := q.unset v
    exact ⟨g2, s2.trans s, q2⟩
/-- a slot that is not told may hold anything -/
theorem EnvR.any {mg : G} {H : Hp} {W : Addr → Prop} : ∀ {env : Env} {fp : List Addr} {σ σ' : L2.St}, EnvR mg H W env fp σ → σ.length = σ'.length → (∀ (i : Nat) (d : D), env[i]? = some (some d) → σ'[i]? = σ[i]?) → EnvR mg H W env fp σ'
  | [], fp, σ, σ', h, hl, _ => by obtain ⟨rfl, rfl⟩ := h; cases σ' with | nil => exact ⟨rfl, rfl⟩ | cons => simp at hl
  | none :: es, fp, σ, σ', h, hl, k => by
    simp only [EnvR] at h ⊢
    obtain ⟨x, τ, rfl, h⟩ := h
    cases σ' with
    | nil => simp at hl
    | cons y τ' => exact ⟨y, τ', rfl, h.any (by simpa using hl) fun i d e => by simpa using k (i + 1) d (by simpa using e)⟩
  | some d :: es, fp, σ, σ', h, hl, k => by
    simp only [EnvR] at h ⊢
    obtain ⟨f1, f2, v, τ, rfl, rfl, h1, h2⟩ := h
    cases σ' with
    | nil => simp at hl
    | cons y τ' =>
      have := k 0 d (by simp)
      simp at this
      subst this
      exact ⟨f1, f2, v, τ', rfl, rfl, h1, h2.any (by simpa using hl) fun i d e => by simpa using k (i + 1) d (by simpa using e)⟩
theorem wipeE_get {env : Env} {i : Nat} {d : D} : ∀ {vs : List Nat}, (wipeE env vs)[i]? = some (some d) → env[i]? = some (some d) ∧ i ∉ vs
  | [], h => ⟨h, by simp⟩
  | v :: vs, h => by
    unfold wipeE at h
    by_cases hi : v = i
    · subst hi
      by_cases hv : v < (wipeE env vs).length
      · rw [List.getElem?_set_self hv] at h; cases h
      · rw [List.getElem?_eq_none (by simpa using hv)] at h; cases h
    · rw [List.getElem?_set_ne hi] at h
      obtain ⟨h1, h2⟩ := wipeE_get h
      exact ⟨h1, by simp only [List.mem_cons, not_or]; exact ⟨fun e => hi e.symm, h2⟩⟩
theorem wipe_ne {σ : L2.St} {i : Nat} : ∀ {vs : List Nat}, i ∉ vs → (wipe σ vs)[i]? = σ[i]?
  | [], _ => rfl
  | v :: vs, h => by
    simp only [List.mem_cons, not_or] at h
    unfold wipe
    rw [List.getElem?_set_ne (fun e => h.1 e.symm)]
    exact wipe_ne h.2
theorem wipe_in {σ : L2.St} {i : Nat} : ∀ {vs : List Nat}, i ∈ vs → i < σ.length → (wipe σ vs)[i]? = some none
  | v :: vs, h, hl => by
    unfold wipe
    by_cases e : v = i
    · subst e; rw [List.getElem?_set_self (by rw [wipe_length]; exact hl)]
    · rw [List.getElem?_set_ne e]
      exact wipe_in (by rcases List.mem_cons.mp h with z | z; exact absurd z.symm e; exact z) hl
theorem wipe_eq {σ σ' : L2.St} {vs : List Nat} (hl : σ'.length = σ.length) (h : ∀ i, i ∉ vs → σ'[i]? = σ[i]?) : wipe σ' vs = wipe σ vs := by
  apply List.ext_getElem?
  intro i
  by_cases hi : i ∈ vs
  · by_cases hn : i < σ.length
    · rw [wipe_in hi hn, wipe_in hi (by omega)]
    · rw [List.getElem?_eq_none (by rw [wipe_length]; omega), List.getElem?_eq_none (by rw [wipe_length]; omega)]
  · rw [wipe_ne hi, wipe_ne hi, h i hi]
def compL (g : D → Env → Option Env) (tt : M Bool) (te : M D) (vs : List Nat) : List D → List D → M D
  | [], acc, env => .ok (.lst true acc) env
  | d :: ds, acc, env => match g d env with
    | none => .bad
    | some e1 => match tt e1 with
      | .ok b e2 => if b then (match te e2 with
        | .ok y e3 => if acc.length < sizeLine then compL g tt te vs ds (acc ++ [y]) (wipeE e3 vs) else .bad
        | _ => .bad) else compL g tt te vs ds acc (wipeE e2 vs)
      | _ => .bad
def mComp (mi : M (List D)) (g : D → Env → Option Env) (tt : M Bool) (te : M D) (vs : List Nat) : M D := mi.bind fun items => fun env => compL g tt te vs items [] (wipeE env vs)
abbrev WF : WX := fun _ _ _ _ => False
/-- all slots but some -/
def butS (n : Nat) (vs : List Nat) : List Nat := (List.range n).filter fun i => decide (i ∉ vs)
section
variable {X : Cx} {Wi : WX}
theorem top_wipe {mg : G} {W0 : Addr → Prop} {env : Env} {fe fd : List Addr} {σ : L2.St} {ds : List D} {us : List V} {H : Hp} (T : Top mg W0 env fe σ ds fd us H) (vs : List Nat) :
    ∃ g, (∀ b ∈ g, b ∈ fe) ∧ Top mg W0 (wipeE env vs) g (wipe σ vs) ds fd us H ∧ Top mg W0 (wipeE env vs) g σ ds fd us H := by
  obtain ⟨g, s, q⟩ := envR_wipe T.e vs
  have w1 : ∀ b, ¬ Wx W0 fe fd b → H b ≠ none → ¬ Wx W0 g fd b := fun b h _ z => by
    rcases z with z | z | z
    · exact h (.inl z)
    · exact h (.inr (.inl (s.subset z)))
    · exact h (.inr (.inr z))
  have T1 : Top mg W0 (wipeE env vs) g (wipe σ vs) ds fd us H := ⟨q.mono (fun _ _ q _ => q) w1, Rs.mono _ _ _ T.t (fun _ _ q _ => q) w1, T.nd.sublist (List.Sublist.append s (List.Sublist.refl _)), T.w0, fun b hb => T.ap b (by
    rcases List.mem_append.mp hb with hb | hb
    · exact List.mem_append_left _ (s.subset hb)
    · exact List.mem_append_right _ hb)⟩
  exact ⟨g, fun b hb => s.subset hb, T1, ⟨T1.e.any (wipe_length σ vs) fun i d e => (wipe_ne (wipeE_get e).2).symm, T1.t, T1.nd, T1.w0, T1.ap⟩⟩
theorem Top.anyS {mg : G} {W0 : Addr → Prop} {env : Env} {fe fd : List Addr} {σ σ' : L2.St} {ds : List D} {us : List V} {H : Hp} (T : Top mg W0 env fe σ ds fd us H) (hl : σ.length = σ'.length) (k : ∀ (i : Nat) (d : D), env[i]? = some (some d) → σ'[i]? = σ[i]?) : Top mg W0 env fe σ' ds fd us H :=
  ⟨T.e.any hl k, T.t, T.nd, T.w0, T.ap⟩
theorem mComp_run {wi : TI} {g : D → Env → Option Env} {tt : M Bool} {te : M D} {vs : List Nat} {mi : M (List D)} {W0 : Addr → Prop} {env : Env} {fe : List Addr} {σ : L2.St} {H : Hp} {Q : VK}
    (hgl : ∀ d e e', g d e = some e' → e'.length = e.length) (hw : ∀ σ H Rr, tI X.gg Wi mi σ H Rr → wi σ H Rr) (I : Top X.gg W0 env fe σ [] [] [] H) (k : EndE X.gg Wi W0 fe σ H Q (mComp mi g tt te vs env)) :
    tLc wi (tG X.gg (butS env.length vs) g) (tT X.gg WF tt) (tM X.gg WF te) vs σ H Q := by
  unfold mComp M.bind at k
  refine hw _ _ _ ⟨W0, env, fe, I, ?_⟩
  cases e1 : mi env with
  | exc x env1 => rw [e1] at k; exact k
  | bad => rw [e1] at k; exact k
  | ok items env1 =>
    simp only [e1] at k
    intro J H1 fe1 xs fr nw T rs ⟨S, s1, s2, s3, s4⟩ C hC
    have hl := rs.len
    have kp1 : Same H1 (upd H1 C (.lst [])) := fun b x q => by rw [upd_ne (ne_of_none q hC)]; exact q
    obtain ⟨fe2, sub2, T2, T2'⟩ := top_wipe T vs
    have hlen : env.length = σ.length := I.e.len
    -- the new list at hand
    have T3 : Top X.gg W0 (wipeE env1 vs) fe2 (wipe σ vs) [.lst true []] [C] [.ref C] (upd H1 C (.lst [])) :=
      T2.grow kp1 (fun b hb => by rw [List.mem_singleton.mp hb]; exact hC) (by simp) (Rs.one (by simp only [R]; exact ⟨C, [], [], rfl, rfl, upd_same, rfl, rfl⟩))
    refine ⟨fun i m H' => i ≤ items.length ∧ m = items.length - i ∧ ∃ acc env' fe' fd', Fr fe1 H1 H' ∧ Nw H1 fe1 (fe' ++ fd') ∧ Top X.gg W0 env' fe' (wipe σ vs) [.lst true acc] fd' [.ref C] H' ∧ EndE X.gg Wi W0 fe1 σ H1 Q (compL g tt te vs (items.drop i) acc env') ∧ (∀ (v : Nat) (d : D), v ∈ vs → env'[v]? ≠ some (some d)),
      ⟨items.length, Nat.zero_le _, by omega, [], wipeE env1 vs, fe2, [C], Fr.kp kp1, fun b hb => ?_, T3, by simpa using k.from fr nw, fun v d hv e => (wipeE_get e).2 hv⟩, ?_⟩
    · rcases List.mem_append.mp hb with hb | hb
      · exact .inl (sub2 b hb)
      · rw [List.mem_singleton.mp hb]; exact .inr hC
    rintro i m H2 ⟨hi, rfl, acc, env2, fe3, fd2, fr2, nw2, T4, k2, nv⟩
    have S2 : S H2 := s2 _ _ s1 fun b x q hb => fr2 b x q fun z => hb (.inr (.inl z))
    by_cases hlt : i < items.length
    rotate_left
    · have e : i = items.length := by omega
      subst e
      rw [List.drop_length] at k2
      refine .inl ⟨by rw [hl]; exact s4 H2 S2, k2 _ H2 fe3 fd2 fr2 nw2 (T4.anyS (wipe_length σ vs) fun i d e => ?_)⟩
      exact (wipe_ne fun hv => nv i d hv e).symm
    obtain ⟨x, hx⟩ : ∃ x, xs[i]? = some x := ⟨xs[i]'(by omega), List.getElem?_eq_getElem (by omega)⟩
    obtain ⟨go, yl⟩ := s3 H2 i x S2 hx
    refine .inr ⟨go, fun H' => ∃ acc env' fe' fd', Fr fe1 H1 H' ∧ Nw H1 fe1 (fe' ++ fd') ∧ Top X.gg W0 env' fe' (wipe σ vs) [.lst true acc] fd' [.ref C] H' ∧ EndE X.gg Wi W0 fe1 σ H1 Q (compL g tt te vs (items.drop (i + 1)) acc env') ∧ (∀ (v : Nat) (d : D), v ∈ vs → env'[v]? ≠ some (some d)),
      fun H' z => ⟨items.length - (i + 1), by omega, by omega, rfl, z⟩, fun x' H' y => ?_⟩
    obtain ⟨rfl, rfl⟩ := yl x' H' y
    rw [List.drop_eq_getElem_cons hlt] at k2
    have T5 := T4.lift
    have rd : R X.gg H' (Wx (fun b => W0 b ∨ b ∈ fd2) fe3 []) items[i] [] x' := by
      refine R.mono _ _ _ (rs_get rs hlt hx) (fun b x q z => fr2 b x q fun hb => ?_) fun b h t z => ?_
      · rcases z with z | z
        · exact z (.inr (.inl hb))
        · simp at z
      · rcases z with (z | z) | z | z
        · exact h (.inl z)
        · rcases nw2 b (List.mem_append_right _ z) with q | q
          · exact h (.inr (.inl q))
          · exact t q
        · rcases nw2 b (List.mem_append_left _ z) with q | q
          · exact h (.inr (.inl q))
          · exact t q
        · simp at z
    have T6 : Top X.gg (fun b => W0 b ∨ b ∈ fd2) env2 fe3 (wipe σ vs) [items[i]] [] [x'] H' := T5.grow (Same.refl _) (fun b z => absurd z (by simp)) List.nodup_nil (Rs.one (R.mono _ _ _ rd (fun _ _ q _ => q) fun b h _ z => h (z.resolve_right (by simp))))
    simp only [compL] at k2
    refine ⟨_, env2, fe3, _, [], T6, ?_⟩
    cases eg : g items[i] env2 with
    | none => rw [eg] at k2; exact k2
    | some env3 =>
      simp only [eg] at k2
      intro σ4 fe4 sub4 pn4 T7
      have sub4' : ∀ b ∈ fe4, b ∈ fe3 := fun b hb => by have := sub4 b hb; simpa using this
      have hl4 : σ4.length = σ.length := by
        have a1 := T7.e.len
        have a3 : env3.length = env2.length := by
          have a2 := T6.e.len
          rw [wipe_length] at a2
          rw [hgl _ _ _ eg]
        have a2 := T6.e.len
        rw [wipe_length] at a2
        omega
      have ew : wipe σ4 vs = wipe σ vs := wipe_eq hl4 fun j hj => by
        by_cases hn : j < env.length
        · rw [pn4 j (List.mem_filter.mpr ⟨List.mem_range.mpr hn, by simpa using hj⟩), wipe_ne hj]
        · rw [List.getElem?_eq_none (by omega), List.getElem?_eq_none (by omega)]
      refine ⟨ew, _, env3, fe4, T7, ?_⟩
      cases et : tt env3 with
      | exc x e2 => simp only [et] at k2; exact k2.elim
      | bad => simp only [et] at k2; exact k2
      | ok b e2 =>
        simp only [et] at k2
        intro H3 fe5 fr5 nw5 T8
        have fr35 : Fr fe3 H' H3 := Fr.trans Fr.refl (fun b hb => .inl (sub4' b hb)) fr5
        have nw35 : Nw H' fe3 fe5 := Nw.trans Fr.refl (fun b hb => .inl (sub4' b hb)) nw5
        cases b with
        | false =>
          simp only [Bool.false_eq_true, if_false] at k2 ⊢
          have B := T4.back (fd' := []) fr35 (by rw [List.append_nil]; exact nw35) T8
          simp only [List.append_nil] at B
          obtain ⟨g6, sub6, T9, _⟩ := top_wipe B vs
          rw [ew] at T9
          refine ⟨acc, wipeE e2 vs, g6, fd2, fr2.trans nw2.left fr35, ?_, T9, k2, fun v d hv e => (wipeE_get e).2 hv⟩
          refine (Nw.trans fr2 nw2.left (l := g6) fun b hb => nw35 b (sub6 b hb)).app nw2.right
        | true =>
          simp only [if_true] at k2 ⊢
          refine ⟨_, e2, fe5, T8, ?_⟩
          cases ee : te e2 with
          | exc x e3 => simp only [ee] at k2; exact k2.elim
          | bad => simp only [ee] at k2; exact k2
          | ok y e3 =>
            simp only [ee] at k2
            intro v H4 fe6 fd6 fr6 nw6 T9
            have fr36 : Fr fe3 H' H4 := fr35.trans nw35 fr6
            have nw36 : Nw H' fe3 (fe6 ++ fd6) := Nw.trans fr35 nw35 nw6
            have B := T4.back fr36 nw36 T9
            obtain ⟨av, q1, q2, T10⟩ := Top.append B
            by_cases hz : acc.length < sizeLine
            · rw [if_pos hz] at k2
              refine ⟨av, q1, by rw [q2]; exact hz, ?_⟩
              obtain ⟨g6, sub6, T11, _⟩ := top_wipe T10 vs
              rw [ew] at T11
              -- the new list is none of what stood ahead
              have hCfd : C ∈ fd2 := by
                obtain ⟨v', e5, h5⟩ := T4.val1
                simp only [List.cons.injEq, and_true] at e5
                subst e5
                simp only [R] at h5
                obtain ⟨a, us, f1, e6, e7, _⟩ := h5
                cases e6
                rw [e7]; exact List.mem_cons_self
              have frC : Fr fe1 H1 (upd H4 C (.lst (av ++ [v]))) := fun b z q hb => by
                have hne : b ≠ C := ne_of_none q hC
                rw [upd_ne hne]
                exact (fr2.trans nw2.left fr36) b z q hb
              refine ⟨acc ++ [y], wipeE e3 vs, g6, fd2 ++ fd6, frC, ?_, T11, k2, fun v d hv e => (wipeE_get e).2 hv⟩
              have n1 := Nw.trans fr2 nw2.left nw36
              refine (n1.left.sub sub6).app fun b hb => ?_
              rcases List.mem_append.mp hb with hb | hb
              · exact nw2 b (List.mem_append_right _ hb)
              · exact n1 b (List.mem_append_right _ hb)
            · rw [if_neg hz] at k2; exact k2.elim
variable {elt tg iter : Expr} {scope : Scope} {own : List (Str × Nat)} {pos : Pos} {mi : M (List D)} {g : D → Env → Option Env} {tt : M Bool} {te : M D} {ifs : List Expr}
/-- the slots' number is kept by a target -/
def GLen (g : D → Env → Option Env) : Prop := ∀ d e e', g d e = some e' → e'.length = e.length
theorem glen_nm {i : Nat} : GLen (gNm i) := fun d e e' h => by
  unfold gNm at h
  split at h
  · cases h; simp
  · cases h
theorem glen_all : ∀ {gs : List (D → Env → Option Env)}, (∀ g ∈ gs, GLen g) → ∀ ds e e', gAll gs ds e = some e' → e'.length = e.length
  | [], _, [], e, e', h => by simp only [gAll, Option.some.injEq] at h; rw [h]
  | g :: gs, hg, d :: ds, e, e', h => by
    simp only [gAll] at h
    cases q : g d e with
    | none => rw [q] at h; cases h
    | some e1 =>
      rw [q, Option.bind_some] at h
      rw [glen_all (fun g' h' => hg g' (List.mem_cons_of_mem _ h')) ds e1 e' h, hg g List.mem_cons_self d e e1 q]
  | [], _, _ :: _, _, _, h => by simp [gAll] at h
  | _ :: _, _, [], _, _, h => by simp [gAll] at h
theorem glen_tp {gs : List (D → Env → Option Env)} (h : ∀ g ∈ gs, GLen g) : GLen (gTp gs) := fun d e e' q => by
  unfold gTp at q
  split at q
  · exact glen_all h _ _ _ q
  · cases q
theorem tLc_env {wi : TI} {vs : List Nat} {n : Nat} (hgl : GLen g) (hw : ∀ σ H Rr, tI X.gg Wi mi σ H Rr → wi σ H Rr) {σ : L2.St} {H : Hp} {Q : VK} (hn : ∀ W0 env fe, Top X.gg W0 env fe σ [] [] [] H → env.length = n) (h : tM X.gg Wi (mComp mi g tt te vs) σ H Q) : tLc wi (tG X.gg (butS n vs) g) (tT X.gg WF tt) (tM X.gg WF te) vs σ H Q := by
  obtain ⟨W0, env, fe, I, k⟩ := h
  rw [← hn W0 env fe I]
  exact mComp_run hgl hw I k
end
end VL


set_option Elab.async false
set_option linter.all false
set_option maxRecDepth 100000
set_option maxHeartbeats 4000000
namespace VL
open PySem PySem.Spec L2
open PyProof.Rows hiding St

section
variable {X : Cx} {Wi : WX} {pin : List Nat}
theorem ptm_nil : PTs X [] (tT X.gg Wi (M.pure true)) := ⟨fun pins s σ H Q I ⟨W0, env, fe, T, k⟩ => pts_nil.run pins s σ H Q I (k H fe Fr.refl Nw.refl T)⟩
theorem ptm_one {c : Expr} {t : M Bool} (h : PMT X Wi c t) : PTs X [c] (tT X.gg Wi t) := pts_one h
variable {elt tg iter : Expr} {scope : Scope} {own : List (Str × Nat)} {pos spos py : Pos} {mi : M (List D)} {g : D → Env → Option Env} {tt : M Bool} {te : M D} {ifs : List Expr} {y : Str} {i : Nat}
theorem pm_lc (hc : X.calm = true) (hN : X.N.Nodup) (hi : PMI X Wi tg iter mi) (ok : BlkOk X.N X.env.scope scope own) (n : Nat) (hn : X.N.length = n)
    (hg : ∀ (s : Shared) (H : Hp) (C : Addr) (cl : List (Str × Addr)) (fp : List Addr), PG (X.blk s H scope (compEnvC scope cl C X.env) fp) tg (tG X.gg (butS n (own.map (·.2))) g)) (ht : ∀ (s : Shared) (H : Hp) (C : Addr) (cl : List (Str × Addr)) (fp : List Addr), PTs (X.blk s H scope (compEnvC scope cl C X.env) fp) ifs (tT X.gg WF tt))
    (he : ∀ (s : Shared) (H : Hp) (C : Addr) (cl : List (Str × Addr)) (fp : List Addr), PE (X.blk s H scope (compEnvC scope cl C X.env) fp) elt (tM X.gg WF te)) (hgl : GLen g) (hs : ∀ x, foldedSetIterable iter X.env x = pure x := by intro _; rfl) :
    PM X Wi (.ListComp elt [⟨tg, iter, ifs, 0⟩] scope pos) (mComp mi g tt te (own.map (·.2))) :=
  ⟨fun pins s σ H Q I h => (pe_lc hc hN hi ok hg ht he hs).run pins s σ H Q I (tLc_env hgl (fun _ _ _ h => h) (fun W0 env fe T => by rw [T.e.len, I.len, hn]) h)⟩
theorem psm_setLc (hc : X.calm = true) (hN : X.N.Nodup) (hy : X.N[i]? = some y) (hyl : X.env.scope.names.lookup y = some .local) (hp : i ∉ pin)
    (hsw : swapsWith (.ListComp elt [⟨tg, iter, ifs, 0⟩] scope pos) (some (.Name y py)) spos.line X.env = pure true) (hi : PMI X Wi tg iter mi) (ok : BlkOk X.N X.env.scope scope own) (n : Nat) (hn : X.N.length = n)
    (hg : ∀ (s : Shared) (H : Hp) (C : Addr) (cl : List (Str × Addr)) (fp : List Addr), PG (X.blk s H scope (compEnvC scope cl C X.env) fp) tg (tG X.gg (butS n (own.map (·.2))) g)) (ht : ∀ (s : Shared) (H : Hp) (C : Addr) (cl : List (Str × Addr)) (fp : List Addr), PTs (X.blk s H scope (compEnvC scope cl C X.env) fp) ifs (tT X.gg WF tt))
    (he : ∀ (s : Shared) (H : Hp) (C : Addr) (cl : List (Str × Addr)) (fp : List Addr), PE (X.blk s H scope (compEnvC scope cl C X.env) fp) elt (tM X.gg WF te)) (hgl : GLen g) (hs : ∀ x, foldedSetIterable iter X.env x = pure x := by intro _; rfl) :
    PSM X Wi pin (.Assign [.Name y py] (.ListComp elt [⟨tg, iter, ifs, 0⟩] scope pos) spos) (sSet (gNm i) (mComp mi g tt te (own.map (·.2)))) :=
  ⟨fun pins s σ H Dn I h => (ps_setLc hc hN hy hyl hsw hi ok hg ht he hs).run pins s σ H Dn I
    (tLc_env (Q := fun x H1 => gName i x σ H1 Dn.nx) hgl (fun _ _ _ h => h) (fun W0 env fe T => by rw [T.e.len, I.len, hn]) (show tAsg (tM X.gg Wi (mComp mi g tt te (own.map (·.2)))) (gName i) Dn σ H from sSet_run (te := tM X.gg Wi (mComp mi g tt te (own.map (·.2)))) (tg := gName i) (fun _ _ _ h => h) (fun _ _ _ _ h => tG_name hp h) h))⟩
end

/-! ### an own list in a slot -/
section
variable {mg : G} {Wi : WX} {W0 : Addr → Prop} {fe fe1 fd : List Addr} {env env1 : Env} {σ σ1 : L2.St} {H H1 : Hp} {ds xs : List D} {vs : List V} {d : D} {v : V} {i : Nat}
theorem Top.mutL (T : Top mg W0 env fe σ ds fd vs H) (e : env[i]? = some (some (.lst true xs))) : ∃ l us f1 g f3, σ[i]? = some (some (.ref l)) ∧ H l = some (.lst us) ∧ Rs mg H (Wx W0 fe fd) xs g us ∧ fe = f1 ++ (l :: g) ++ f3 ∧
    ∀ xs' g' us' ds' fd' vs', Rs mg H (Wx W0 fe fd) xs' g' us' → Rs mg H (Wx W0 fe fd) ds' fd' vs' → (g' ++ fd').Nodup → (∀ b ∈ g' ++ fd', b ∈ g ∨ b ∈ fd) →
      ∃ fe', (∀ b ∈ fe', b ∈ fe ∨ b ∈ fd) ∧ Top mg W0 (env.set i (some (.lst true xs'))) fe' σ ds' fd' vs' (upd H l (.lst us')) ∧ Fr fe H (upd H l (.lst us')) := by
  obtain ⟨f1, f2, f3, v0, q1, q2, q3, q4⟩ := T.e.get e
  simp only [R] at q3
  obtain ⟨l, us, g, rfl, rfl, h1, h2⟩ := q3
  refine ⟨l, us, f1, g, f3, q2, h1, h2, q1, fun xs' g' us' ds' fd' vs' rx rd ndg sub => ?_⟩
  have hi : i < env.length := (List.getElem?_eq_some_iff.mp e).1
  have nd := List.nodup_append.mp T.nd
  have nfe := nd.1
  rw [q1] at nfe
  have n1 := List.nodup_append.mp nfe
  have n2 := List.nodup_append.mp n1.1
  have lg : l ∉ g := (List.nodup_cons.mp n2.2.1).1
  have lfe : l ∈ fe := by rw [q1]; simp
  have lfd : l ∉ fd := fun z => nd.2.2 l lfe l z rfl
  have lgf : l ∉ g' ++ fd' := fun z => (sub l z).elim lg lfd
  have l13 : l ∉ f1 ++ f3 := fun z => by
    rcases List.mem_append.mp z with z | z
    · exact n2.2.2 l z l List.mem_cons_self rfl
    · exact n1.2.2 l (List.mem_append_right _ List.mem_cons_self) l z rfl
  have k : ∀ b x, H b = some x → b ≠ l → (upd H l (.lst us')) b = some x := fun b x q hb => by rw [upd_ne hb]; exact q
  have lW : Wx W0 fe fd l := .inr (.inl lfe)
  have memfe : ∀ b, b ∈ fe ↔ b = l ∨ b ∈ g ∨ b ∈ f1 ++ f3 := fun b => by
    rw [q1]; simp only [List.mem_append, List.mem_cons]; grind
  have w1 : ∀ b, ¬ Wx W0 fe fd b → H b ≠ none → ¬ Wx W0 (f1 ++ f3 ++ (l :: g')) fd' b := fun b h _ z => by
    rcases z with z | z | z
    · exact h (.inl z)
    · rcases List.mem_append.mp z with z | z
      · exact h (.inr (.inl ((memfe b).mpr (.inr (.inr z)))))
      · rcases List.mem_cons.mp z with z | z
        · rw [z] at h; exact h lW
        · rcases sub b (List.mem_append_left _ z) with z | z
          · exact h (.inr (.inl ((memfe b).mpr (.inr (.inl z)))))
          · exact h (.inr (.inr z))
    · rcases sub b (List.mem_append_right _ z) with z | z
      · exact h (.inr (.inl ((memfe b).mpr (.inr (.inl z)))))
      · exact h (.inr (.inr z))
  have e1 : EnvR mg (upd H l (.lst us')) (Wx W0 (f1 ++ f3 ++ (l :: g')) fd') (env.set i none) (f1 ++ f3) σ := q4.mono (fun b x q z => k b x q fun hb => by
    subst hb
    rcases z with z | z
    · exact z lW
    · exact l13 z) w1
  have rl : R mg (upd H l (.lst us')) (Wx W0 (f1 ++ f3 ++ (l :: g')) fd') (.lst true xs') (l :: g') (.ref l) := by
    simp only [R]
    exact ⟨l, us', g', rfl, rfl, upd_same, Rs.mono _ _ _ rx (fun b x q z => k b x q fun hb => by
      subst hb
      rcases z with z | z
      · exact z lW
      · exact lgf (List.mem_append_left _ z)) w1⟩
  obtain ⟨g1, g3, q5, q6⟩ := e1.put hi rl
  have es : σ.set i (some (.ref l)) = σ := by
    apply List.ext_getElem?
    intro j
    by_cases hj : i = j
    · subst hj
      rw [List.getElem?_set_self (List.getElem?_eq_some_iff.mp q2).1, q2]
    · rw [List.getElem?_set_ne hj]
  rw [es] at q6
  have pp : List.Perm (g1 ++ (l :: g') ++ g3) (f1 ++ f3 ++ (l :: g')) := by
    rw [q5, List.append_assoc, List.append_assoc]
    exact List.Perm.append_left _ List.perm_append_comm
  have wq : ∀ b, ¬ Wx W0 (f1 ++ f3 ++ (l :: g')) fd' b → ¬ Wx W0 (g1 ++ (l :: g') ++ g3) fd' b := fun b h z => by
    rcases z with z | z | z
    · exact h (.inl z)
    · exact h (.inr (.inl (pp.subset z)))
    · exact h (.inr (.inr z))
  have subF : ∀ b ∈ g1 ++ (l :: g') ++ g3, b ∈ fe ∨ b ∈ fd := fun b hb => by
    rcases List.mem_append.mp (pp.subset hb) with z | z
    · exact .inl ((memfe b).mpr (.inr (.inr z)))
    · rcases List.mem_cons.mp z with z | z
      · exact .inl ((memfe b).mpr (.inl z))
      · exact (sub b (List.mem_append_left _ z)).imp (fun z => (memfe b).mpr (.inr (.inl z))) id
  refine ⟨_, subF, ⟨q6.mono (fun _ _ q _ => q) (fun b h _ => wq b h), Rs.mono _ _ _ rd (fun b x q z => k b x q fun hb => ?_) (fun b h t => wq b (w1 b h t)), ?_, fun b h => ?_, fun b hb h => ?_⟩, fun b x q hb => k b x q fun e => hb (e ▸ lfe)⟩
  · subst hb
    rcases z with z | z
    · exact z lW
    · exact lgf (List.mem_append_right _ z)
  · have p1 : List.Perm (g1 ++ (l :: g') ++ g3 ++ fd') (f1 ++ f3 ++ (l :: g' ++ fd')) := by
      refine (pp.append_right fd').trans ?_
      rw [List.append_assoc]
    refine p1.nodup_iff.mpr (List.nodup_append.mpr ⟨nfe.sublist (by simp), ?_, fun a ha b hb e => ?_⟩)
    · exact List.nodup_cons.mpr ⟨lgf, ndg⟩
    · subst e
      rcases List.mem_cons.mp hb with hb | hb
      · subst hb; exact l13 ha
      · rcases sub a hb with z | z
        · rcases List.mem_append.mp ha with ha | ha
          · exact n2.2.2 a ha a (List.mem_cons_of_mem _ z) rfl
          · exact n1.2.2 a (List.mem_append_right _ (List.mem_cons_of_mem _ z)) a ha rfl
        · exact nd.2.2 a ((memfe a).mpr (.inr (.inr ha))) a z rfl
  · have hb : b ≠ l := fun e => T.ap l (List.mem_append_left _ lfe) (e ▸ h)
    rw [upd_ne hb]; exact T.w0 b h
  · rcases List.mem_append.mp hb with hb | hb
    · rcases subF b hb with z | z
      · exact T.ap b (List.mem_append_left _ z) h
      · exact T.ap b (List.mem_append_right _ z) h
    · rcases sub b (List.mem_append_right _ hb) with z | z
      · exact T.ap b (List.mem_append_left _ ((memfe b).mpr (.inr (.inl z)))) h
      · exact T.ap b (List.mem_append_right _ z) h
end
section
variable {X : Cx} {Wi : WX} {pin : List Nat} {a o e : Expr} {es : List Expr} {ms : M (List D)} {m mi : M D} {apos pos p2 : Pos} {i : Nat}
/-- what an own list's method does: the list, the arguments; the new list, what comes back -/
abbrev LOp := List D → List D → Option (List D × D)
def ownL (d : D) : Bool := match d with | .lst true _ => true | _ => false
def mMutL (f : LOp) (i : Nat) (ms : M (List D)) : M D := fun env => match env[i]? with
  | some (some d0) => if ownL d0 then (match ms env with
    | .ok ds e1 => (match e1[i]? with
      | some (some (.lst true xs)) => (match f xs ds with
        | some (xs', d) => .ok d (e1.set i (some (.lst true xs')))
        | none => .bad)
      | _ => .bad)
    | .exc x e1 => .exc x e1
    | .bad => .bad) else .bad
  | _ => .bad
/-- the reading of such a method -/
def LOpOk (mg : G) (r : V → List V → Hp → VK → Prop) (f : LOp) : Prop :=
  ∀ (W : Addr → Prop) (H : Hp) (l : Addr) (us : List V) (xs ds : List D) (g fd : List Addr) (vs : List V) (xs' : List D) (d : D) (Q : VK), H l = some (.lst us) → Rs mg H W xs g us → Rs mg H W ds fd vs → f xs ds = some (xs', d) → (g ++ fd).Nodup → l ∉ g ++ fd →
    (∀ us' v g' fd', Rs mg H W xs' g' us' → Rs mg H W [d] fd' [v] → (g' ++ fd').Nodup → (∀ b ∈ g' ++ fd', b ∈ g ∨ b ∈ fd) → Q v (upd H l (.lst us'))) → r (.ref l) vs H Q
theorem mMutL_run {r : V → List V → Hp → VK → Prop} {f : LOp} (og : LOpOk X.gg r f) {W0 : Addr → Prop} {env : Env} {fe : List Addr} {σ : L2.St} {H : Hp} {Q : VK} (I : Top X.gg W0 env fe σ [] [] [] H) (k : EndE X.gg Wi W0 fe σ H Q (mMutL f i ms env)) :
    tVar i σ H fun x H1 => tyV X.K "list" x H1 ∧ tA X.gg Wi ms σ H1 fun xs H2 => r x xs H2 Q := by
  unfold mMutL at k
  split at k
  rotate_left
  · exact k.elim
  rename_i d0 hd
  split at k
  rotate_left
  · exact k.elim
  rename_i ho
  obtain ⟨xs0, rfl⟩ : ∃ xs0, d0 = .lst true xs0 := by
    unfold ownL at ho
    split at ho
    · exact ⟨_, rfl⟩
    · cases ho
  obtain ⟨l, us, _, _, _, s1, s2, _⟩ := I.mutL hd
  refine ⟨.ref l, s1, .inl ⟨rfl, us, SqL.of s2⟩, ?_⟩
  refine tA_run I (fun ds env1 e1 vs H1 fe1 fd fr nw T => ?_) (fun x env1 e1 => ?_) (fun e1 => ?_) <;> simp only [e1] at k
  · split at k
    rotate_left
    · exact k.elim
    rename_i xs hx
    obtain ⟨l', us', f1, g, f3, t1, t2, t3, t4, t5⟩ := T.mutL hx
    rw [s1] at t1
    cases t1
    split at k
    rotate_left
    · exact k.elim
    rename_i xs' d hf
    have nd := List.nodup_append.mp T.nd
    have sg : ∀ b ∈ l :: g, b ∈ fe1 := fun b hb => by rw [t4]; simp only [List.mem_append]; exact .inl (.inr hb)
    have ng : (l :: g).Nodup := nd.1.sublist (by rw [t4, List.append_assoc]; exact (List.sublist_append_left _ _).trans (List.sublist_append_right _ _))
    refine og _ _ l us' xs ds g fd vs xs' d Q t2 t3 T.t hf (List.nodup_append.mpr ⟨(List.nodup_cons.mp ng).2, nd.2.1, fun a ha b hb => nd.2.2 a (sg a (List.mem_cons_of_mem _ ha)) b hb⟩) (fun z => ?_) fun us2 v g' fd' r1 r2 n1 n2 => ?_
    · rcases List.mem_append.mp z with z | z
      · exact (List.nodup_cons.mp ng).1 z
      · exact nd.2.2 l (sg l List.mem_cons_self) l z rfl
    · obtain ⟨fe', sub, T2, frl⟩ := t5 xs' g' us2 [d] fd' [v] r1 r2 n1 n2
      have sub2 : ∀ b ∈ fe' ++ fd', b ∈ fe1 ∨ b ∈ fd := fun b hb => by
        rcases List.mem_append.mp hb with hb | hb
        · exact sub b hb
        · exact (n2 b (List.mem_append_right _ hb)).imp (fun z => sg b (List.mem_cons_of_mem _ z)) id
      exact k v _ fe' fd' (fr.trans nw.left frl) (fun b hb => nw b (by simp only [List.mem_append]; exact sub2 b hb)) T2
  · exact k
  · exact k
theorem pm_mutL {id : String} {name : Str} {r : V → List V → Hp → VK → Prop} {f : LOp} (slot : Slot "list" name id) (hty : typeOf (.builtin id) = pure (.type "method_descriptor")) (hm : MtR X id r) (og : LOpOk X.gg r f) (ho : PE X o (tVar i)) (ha : PMA X Wi (a :: es) ms)
    (hbase : attributeBase o name X.env (eval o X.env) = eval o X.env := by rfl)
    (hfew : ((backTo pos (starEach (a :: es) X.env)).all (fun x => !x.1) && (backToKw pos (keywordEach [] X.env)).all (fun x => x.1.isSome)
      && decide ((a :: es).length + ([] : List Keyword).length + (if ([] : List Keyword).isEmpty then 0 else 1) < 30)) = true := by rfl)
    (hline : (apos.endLine == pos.line) = true := by rfl) (hs : starEach (a :: es) X.env = (false, eval a X.env) :: starEach es X.env := by rfl) (hplain : (backTo pos (starEach es X.env)).any (·.1) = false := by rfl) :
    PM X Wi (.Call (.Attribute o name apos) (a :: es) [] pos) (mMutL f i ms) :=
  pe_imp (pe_bm PySem.F.plainAttrs_list slot hty hm ho ha hbase hfew hline hs hplain) fun _ _ _ ⟨_, _, _, I, k⟩ => mMutL_run og I k
theorem pm_mutL0 {id : String} {name : Str} {r : V → List V → Hp → VK → Prop} {f : LOp} (slot : Slot "list" name id) (hty : typeOf (.builtin id) = pure (.type "method_descriptor")) (hm : MtR X id r) (og : LOpOk X.gg r f) (ho : PE X o (tVar i))
    (hbase : attributeBase o name X.env (eval o X.env) = eval o X.env := by rfl) (hline : (apos.endLine == pos.line) = true := by rfl) : PM X Wi (.Call (.Attribute o name apos) [] [] pos) (mMutL f i mNil) := by
  refine pe_imp (pe_bm0 PySem.F.plainAttrs_list slot hty hm ho hbase hline) fun σ H Q ⟨_, _, _, I, k⟩ => ?_
  obtain ⟨v, h1, h2, W1, env1, fe1, T1, k1⟩ := mMutL_run og I k
  exact ⟨v, h1, h2, k1 [] H fe1 [] Fr.refl (by rw [List.append_nil]; exact Nw.refl) T1⟩
def fAppend : LOp := fun xs ds => match ds with | [d] => if xs.length < sizeLine then some (xs ++ [d], .non) else none | _ => none
theorem rs_non {mg : G} {H : Hp} {W : Addr → Prop} : Rs mg H W [.non] [] [.non] := ⟨[], [], .non, [], rfl, rfl, ⟨rfl, rfl⟩, rfl, rfl⟩
theorem rs1 {mg : G} {H : Hp} {W : Addr → Prop} {d : D} {fd : List Addr} {vs : List V} (h : Rs mg H W [d] fd vs) : ∃ v, vs = [v] ∧ R mg H W d fd v := by
  obtain ⟨f1, f2, v, us, e1, e2, h1, h2, h3⟩ := h
  subst h2 h3
  rw [List.append_nil] at e1
  subst e1
  exact ⟨v, e2, h1⟩
theorem ok_append {mg} : LOpOk mg rAppend fAppend := by
  intro W H l us xs ds g fd vs xs' d Q hl rx rd hf nd nl k
  unfold fAppend at hf
  split at hf
  · rename_i d1
    split at hf
    · rename_i hz
      cases hf
      obtain ⟨v, rfl, r1⟩ := rs1 rd
      refine ⟨l, us, v, rfl, rfl, hl, by rw [← rx.len]; exact hz, k _ .non (g ++ fd) [] ((Rs.app _ _ _ _).mpr ⟨g, fd, us, [v], rfl, rfl, rx, rd⟩) rs_non (by simpa using nd) (by simp)⟩
    · cases hf
  · cases hf
def fExtend : LOp := fun xs ds => match ds with | [.lst _ ys] => if xs.length + ys.length ≤ sizeLine then some (xs ++ ys, .non) else none | _ => none
theorem ok_extend {mg} : LOpOk mg rExtend fExtend := by
  intro W H l us xs ds g fd vs xs' d Q hl rx rd hf nd nl k
  unfold fExtend at hf
  split at hf
  · rename_i o ys
    split at hf
    · rename_i hz
      cases hf
      obtain ⟨v, rfl, r1⟩ := rs1 rd
      cases o with
      | true =>
        simp only [R] at r1
        obtain ⟨b, ws, f1, rfl, rfl, q1, q2⟩ := r1
        have nd' : (g ++ f1).Nodup := nd.sublist (List.Sublist.append_left (List.sublist_cons_self _ _) _)
        refine ⟨l, b, us, ws, rfl, rfl, hl, q1, by rw [← rx.len, ← q2.len]; exact hz, k _ .non (g ++ f1) [] ((Rs.app _ _ _ _).mpr ⟨g, f1, us, ws, rfl, rfl, rx, q2⟩) rs_non (by simpa using nd') (fun b hb => ?_)⟩
        simp only [List.append_nil, List.mem_append, List.mem_cons] at hb ⊢
        exact hb.imp id .inr
      | false =>
        simp only [R] at r1
        obtain ⟨rfl, b, ws, rfl, ⟨q1, _⟩, q2⟩ := r1
        refine ⟨l, b, us, ws, rfl, rfl, hl, q1, by rw [← rx.len, ← q2.len]; exact hz, k _ .non g [] ((Rs.app _ _ _ _).mpr ⟨g, [], us, ws, by simp, rfl, rx, q2⟩) rs_non (by simpa using nd) (by simp)⟩
    · cases hf
  · cases hf
/-- an item of a list, taken out -/
theorem rs_split {mg : G} {H : Hp} {W : Addr → Prop} {xs : List D} {g : List Addr} {us : List V} {j : Nat} {x : D} (h : Rs mg H W xs g us) (e : xs[j]? = some x) :
    ∃ g1 g2 g3 u, g = g1 ++ g2 ++ g3 ∧ us[j]? = some u ∧ R mg H W x g2 u ∧ Rs mg H W (xs.take j) g1 (us.take j) ∧ Rs mg H W (xs.drop (j + 1)) g3 (us.drop (j + 1)) := by
  have hj : j < xs.length := (List.getElem?_eq_some_iff.mp e).1
  have hl := h.len
  have ex : xs = xs.take j ++ x :: xs.drop (j + 1) := by
    have := (List.getElem?_eq_some_iff.mp e).2
    rw [← this, ← List.drop_eq_getElem_cons hj, List.take_append_drop]
  rw [ex] at h
  obtain ⟨g1, g2, v1, v2, e1, e2, h1, h2⟩ := (Rs.app _ _ _ _).mp h
  obtain ⟨g3, g4, u, w, e3, e4, h3, h4⟩ := h2
  have hv1 : v1.length = j := by rw [← h1.len, List.length_take]; omega
  refine ⟨g1, g3, g4, u, by rw [e1, e3, List.append_assoc], ?_, h3, ?_, ?_⟩
  · rw [e2, e4, List.getElem?_append_right (by omega), hv1]; simp
  · rw [e2, List.take_left' hv1]; exact h1
  · rw [e2, e4, show v1 ++ u :: w = (v1 ++ [u]) ++ w by simp, List.drop_left' (by simp [hv1])]
    exact h4
def fPop : LOp := fun xs ds => match ds with | [] => (xs[xs.length - 1]?).map fun x => (xs.dropLast, x) | _ => none
def fPopAt : LOp := fun xs ds => match ds with | [.int i] => if 0 ≤ i ∧ i < xs.length ∧ xs.length ≤ sizeLine then (xs[i.toNat]?).map fun x => (xs.eraseIdx i.toNat, x) else none | _ => none
theorem ok_pop {mg} : LOpOk mg rPop fPop := by
  intro W H l us xs ds g fd vs xs' d Q hl rx rd hf nd nl k
  unfold fPop at hf
  split at hf
  · cases e : xs[xs.length - 1]? with
    | none => rw [e] at hf; cases hf
    | some x =>
      rw [e] at hf
      cases hf
      obtain ⟨rfl, rfl⟩ := rd
      obtain ⟨g1, g2, g3, u, eg, q1, q2, q3, q4⟩ := rs_split rx e
      have hlx := rx.len
      have ne : 0 < xs.length := by
        have := (List.getElem?_eq_some_iff.mp e).1; omega
      rw [List.drop_eq_nil_of_le (by omega)] at q4
      obtain ⟨rfl, _⟩ := q4
      rw [List.append_nil] at eg nd
      refine ⟨l, us, u, rfl, rfl, hl, by rw [← hlx]; exact q1, ?_⟩
      have e3 : us.dropLast = us.take (xs.length - 1) := by rw [List.dropLast_eq_take, hlx]
      rw [e3]
      refine k _ u g1 g2 ?_ (Rs.one q2) (by rw [← eg]; exact nd) (by rw [← eg]; simp)
      rw [List.dropLast_eq_take]; exact q3
  · cases hf
theorem ok_popAt {mg} : LOpOk mg rPopAt fPopAt := by
  intro W H l us xs ds g fd vs xs' d Q hl rx rd hf nd nl k
  unfold fPopAt at hf
  split at hf
  · rename_i i
    split at hf
    · rename_i hz
      cases e : xs[i.toNat]? with
      | none => rw [e] at hf; cases hf
      | some x =>
        rw [e] at hf
        cases hf
        obtain ⟨v, rfl, rfl, rfl⟩ := rs1 rd
        obtain ⟨g1, g2, g3, u, eg, q1, q2, q3, q4⟩ := rs_split rx e
        have hlx := rx.len
        have sz : sizeLine < 2 ^ 63 := by decide
        refine ⟨l, us, i, i.toNat, u, rfl, rfl, hl, by omega, by omega, ?_, q1, ?_⟩
        · have := ixN_seq (n := us.length) (i := i) (j := i.toNat) (by unfold ixN; rw [if_pos (by omega), if_pos (by omega)])
          exact this.1
        · rw [List.append_nil] at nd
          have nd2 : (g1 ++ g3 ++ g2).Nodup := by
            refine (List.Perm.nodup_iff ?_).mp nd
            rw [eg, List.append_assoc, List.append_assoc]
            exact List.Perm.append_left _ List.perm_append_comm
          refine k _ u (g1 ++ g3) g2 ?_ (Rs.one q2) nd2 (fun b hb => .inl ?_)
          · rw [List.eraseIdx_eq_take_drop_succ, List.eraseIdx_eq_take_drop_succ]
            exact (Rs.app _ _ _ _).mpr ⟨g1, g3, _, _, rfl, rfl, q3, q4⟩
          · rw [eg]; simp only [List.mem_append] at hb ⊢; grind
    · cases hf
  · cases hf

/-! o[i] = v of an own list in a slot -/
def sSetIx (i : Nat) (mv mi : M D) : MS := fun env => match mv env with
  | .ok d e1 => (match e1[i]? with
    | some (some d0) => if ownL d0 then (match mI mi e1 with
      | .ok j e2 => (match e2[i]? with
        | some (some (.lst true xs)) => if 0 ≤ j ∧ j < xs.length then .nx (e2.set i (some (.lst true (xs.set j.toNat d)))) else .bad
        | _ => .bad)
      | .exc x e2 => .exc x e2
      | .bad => .bad) else .bad
    | _ => .bad)
  | .exc x e1 => .exc x e1
  | .bad => .bad
theorem psm_setIx {mv : M D} (he : PM X Wi e mv) (ho : PE X o (tVar i)) (hix : PM X Wi a mi)
    (ha : ∀ v, assign (.Subscript o a p2) X.env v = (do
      let ov ← holding [v] (eval o X.env)
      let iv ← holding [v, ov] (eval a X.env)
      standAt p2
      holding [v, ov, iv] (setItem ov iv v)
      release [v, ov, iv] []) := by intro _; rfl)
    (hs : swapsWithSole [.Subscript o a p2] e pos.line X.env = pure false := by rfl) (hw : swappedStores [.Subscript o a p2] e X.env = pure none := by rfl)
    (h1 : (assignEach [.Subscript o a p2] X.env).map (·.2) = [assign (.Subscript o a p2) X.env] := by rfl) : PSM X Wi pin (.Assign [.Subscript o a p2] e pos) (sSetIx i mv mi) := by
  refine ps_imp (ps_asg he (pg_sub ho hix set_list ha) hs hw h1) fun Dn σ H ⟨W0, env, fe, I, k⟩ => ?_
  unfold sSetIx at k
  refine tM_run I (fun d env1 e1 v H1 fe1 fd fr nw T => ?_) (fun x env1 e1 => ?_) (fun e1 => ?_) <;> simp only [e1] at k
  rotate_left
  · exact EndX.of k
  · exact k
  split at k
  rotate_left
  · exact k.elim
  rename_i d0 hd
  split at k
  rotate_left
  · exact k.elim
  rename_i ho'
  obtain ⟨xs0, rfl⟩ : ∃ xs0, d0 = .lst true xs0 := by
    unfold ownL at ho'
    split at ho'
    · exact ⟨_, rfl⟩
    · cases ho'
  obtain ⟨l, us0, _, _, _, s1, s2, _⟩ := T.mutL hd
  refine ⟨.ref l, s1, ?_⟩
  refine T.runE fr nw (fun dj env2 e2 u H2 fe2 fd2 fr2 nw2 T2 => ?_) (fun x env2 e2 => ?_) (fun e2 => ?_)
  rotate_left
  · simp only [mI_exc e2] at k; exact EndX.of k
  · simp only [mI_bad e2] at k; exact k.elim
  rcases mI_int e2 with ⟨j, rfl, q0⟩ | q0
  · simp only [q0] at k
    split at k
    rotate_left
    · exact k.elim
    rename_i xs hx
    split at k
    rotate_left
    · exact k.elim
    rename_i hj
    obtain ⟨l', us, f1, g, f3, t1, t2, t3, t4, t5⟩ := T2.mutL hx
    rw [s1] at t1
    cases t1
    -- the new value, the index
    obtain ⟨a1, a2, w1, w2, b1, b2, r1, r2⟩ := T2.t
    simp only [List.singleton_append, List.cons.injEq] at b2
    obtain ⟨rfl, rfl⟩ := b2
    obtain ⟨_, eq, ea2, hu⟩ := rs1 r2
    simp only [List.cons.injEq, and_true] at eq
    subst eq hu
    subst ea2
    rw [List.append_nil] at b1
    have hlx := t3.len
    obtain ⟨x, hxj⟩ : ∃ x, xs[j.toNat]? = some x := ⟨xs[j.toNat]'(by omega), List.getElem?_eq_getElem (by omega)⟩
    obtain ⟨g1, g2, g3, u0, eg, q1, q2, q3, q4⟩ := rs_split t3 hxj
    refine ⟨l, us, j, j.toNat, rfl, rfl, t2, by unfold ixN; rw [if_pos (by omega), if_pos (by omega)], ?_⟩
    have nd := List.nodup_append.mp T2.nd
    have sg : ∀ b ∈ g, b ∈ fe2 := fun b hb => by rw [t4]; simp only [List.mem_append, List.mem_cons]; exact .inl (.inr (.inr hb))
    have ng : g.Nodup := nd.1.sublist (by rw [t4, List.append_assoc]; exact ((List.sublist_cons_self _ _).trans (List.sublist_append_left _ _)).trans (List.sublist_append_right _ _))
    have esx : xs.set j.toNat d = xs.take j.toNat ++ d :: xs.drop (j.toNat + 1) := by rw [List.set_eq_take_append_cons_drop, if_pos (by omega)]
    have esu : us.set j.toNat v = us.take j.toNat ++ v :: us.drop (j.toNat + 1) := by rw [List.set_eq_take_append_cons_drop, if_pos (by omega)]
    have nfd : a1.Nodup := by have := nd.2.1; rwa [b1] at this
    obtain ⟨fe', sub, T3, frl⟩ := t5 (xs.set j.toNat d) (g1 ++ (a1 ++ g3)) (us.set j.toNat v) [] [] [] (by
      rw [esx, esu]
      exact (Rs.app _ _ _ _).mpr ⟨g1, a1 ++ g3, _, _, rfl, rfl, q3, a1, g3, v, _, rfl, rfl, r1, q4⟩) ⟨rfl, rfl⟩ (by
      rw [List.append_nil]
      have p1 : List.Perm (g1 ++ (a1 ++ g3)) (g1 ++ g3 ++ a1) := by
        rw [List.append_assoc]; exact List.Perm.append_left _ List.perm_append_comm
      refine p1.nodup_iff.mpr (List.nodup_append.mpr ⟨ng.sublist (by rw [eg, List.append_assoc]; exact List.Sublist.append_left (List.sublist_append_right _ _) _), nfd, fun y hy z hz e => ?_⟩)
      refine nd.2.2 y (sg y ?_) z (by rw [b1]; exact hz) e
      rw [eg]; simp only [List.mem_append] at hy ⊢; grind) (fun b hb => by
      rw [b1, eg]
      simp only [List.append_nil, List.mem_append] at hb ⊢; grind)
    exact k σ _ fe' (fr2.trans nw2.left frl) (fun b hb => nw2 b (by simp only [List.mem_append]; have := sub b hb; simpa using this)) Pn.refl T3
  · simp only [q0] at k; exact k.elim
end
end VL


set_option Elab.async false
set_option linter.all false
set_option maxRecDepth 100000
set_option maxHeartbeats 4000000
namespace VL
open PySem PySem.Spec L2
open PyProof.Rows hiding St

/-! ### reading what is owned, without changing it -/
mutual
theorem D.fz_fz : ∀ d : D, d.fz.fz = d.fz
  | .non => rfl | .bl _ => rfl | .int _ => rfl | .str _ => rfl | .scr _ => rfl
  | .tup xs => by simp only [D.fz, fzs_fzs xs]
  | .lst _ xs => by simp only [D.fz, fzs_fzs xs]
  | .ins _ _ _ xs => by simp only [D.fz, fzs_fzs xs]
  | .dic _ _ xs => by simp only [D.fz, fzs_fzs xs]
theorem fzs_fzs : ∀ ds : List D, fzs (fzs ds) = fzs ds
  | [] => rfl
  | d :: ds => by simp only [fzs, D.fz_fz d, fzs_fzs ds]
end
def frzE (env : Env) : Env := env.map (Option.map D.fz)
theorem frzE_frzE (env : Env) : frzE (frzE env) = frzE env := by
  unfold frzE
  rw [List.map_map]
  apply List.map_congr_left
  intro o _
  cases o with
  | none => rfl
  | some d => simp [D.fz_fz]
/-- leaves a frozen state as it is -/
def Pu {α : Type} (m : M α) : Prop := ∀ env, frzE env = env → match m env with | .ok _ e => e = env | .exc _ e => e = env | .bad => True
theorem EnvR.frz {mg : G} {H : Hp} {W W' : Addr → Prop} : ∀ {env : Env} {fp : List Addr} {σ : L2.St}, EnvR mg H W env fp σ → (∀ b, W' b → W b) → (∀ b ∈ fp, ¬ W' b) → EnvR mg H W' (frzE env) [] σ
  | [], fp, σ, h, _, _ => ⟨rfl, h.2⟩
  | none :: es, fp, σ, h, k, kw => by
    simp only [EnvR] at h
    obtain ⟨x, τ, rfl, h⟩ := h
    exact ⟨x, τ, rfl, h.frz k kw⟩
  | some d :: es, fp, σ, h, k, kw => by
    simp only [EnvR] at h
    obtain ⟨f1, f2, v, τ, rfl, rfl, h1, h2⟩ := h
    exact ⟨[], [], v, τ, rfl, rfl, R.freeze d f1 v h1 k (fun b hb => kw b (List.mem_append_left _ hb)), h2.frz k fun b hb => kw b (List.mem_append_right _ hb)⟩
def D.imf : D → Bool
  | .lst true xs => ims xs
  | d => d.im
theorem R.imfTo {mg : G} {H : Hp} {W W' : Addr → Prop} {d : D} {fp : List Addr} {v : V} (h : R mg H W d fp v) (i : d.imf = true) (kw : ∀ b, W' b → Mut (H b)) : R mg H W' d fp v := by
  unfold D.imf at i
  split at i
  · rename_i xs
    simp only [R] at h ⊢
    obtain ⟨a, vs, f1, e, e1, h1, h2⟩ := h
    obtain ⟨rfl, q⟩ := Rs.imTo xs f1 vs h2 i kw
    exact ⟨a, vs, [], e, e1, h1, q⟩
  · obtain ⟨rfl, q⟩ := R.imTo d fp v h i kw
    exact q
def mBor (m : M D) : M D := fun env => match m (frzE env) with
  | .ok d _ => if d.imf then .ok d env else .bad
  | .exc x _ => if ims x.xs then .exc x env else .bad
  | .bad => .bad
def mBorT {α : Type} (m : M α) : M α := fun env => match m (frzE env) with
  | .ok d _ => .ok d env
  | .exc x _ => if ims x.xs then .exc x env else .bad
  | .bad => .bad
section
variable {mg : G} {Wi : WX} {W0 : Addr → Prop} {fe fd fe' : List Addr} {env env' : Env} {σ : L2.St} {H H' : Hp} {d : D} {v : V} {x : Ex} {cls : Value} {dd : Option Addr}
theorem Top.frzEnv (I : Top mg W0 env fe σ [] [] [] H) : Top mg W0 (frzE env) [] σ [] [] [] H := by
  refine ⟨I.e.frz (fun b z => ?_) (fun b hb z => ?_), ⟨rfl, rfl⟩, List.nodup_nil, I.w0, fun b hb => absurd hb (by simp)⟩
  · rcases z with z | z | z
    · exact .inl z
    · simp at z
    · simp at z
  · rcases z with z | z | z
    · exact I.ap b (by rw [List.append_nil]; exact hb) z
    · simp at z
    · simp at z
theorem Top.thaw (I : Top mg W0 env fe σ [] [] [] H) (fr : Fr [] H H') (nw : Nw H [] fd) (i : d.imf = true) (T : Top mg W0 env' fe' σ [d] fd [v] H') : Top mg W0 env fe σ [d] fd [v] H' := by
  have kp : Same H H' := fun b x q => fr b x q (by simp)
  have nf : ∀ b ∈ fd, H b = none := fun b hb => (nw b hb).resolve_left (by simp)
  obtain ⟨v', e2, h1⟩ := T.val1
  simp only [List.cons.injEq, and_true] at e2
  subst e2
  refine I.grow kp nf (List.nodup_append.mp T.nd).2.1 (Rs.one (h1.imfTo i fun b z => ?_))
  rcases z with (z | z | z) | z
  · exact T.w0 b z
  · have m := I.e.mut b z
    cases q : H b with
    | none => rw [q] at m; exact m.elim
    | some y => rw [q] at m; rw [kp b y q]; exact m
  · simp at z
  · exact R.mut _ _ _ h1 b z
theorem Top.same (I : Top mg W0 env fe σ [] [] [] H) (fr : Fr [] H H') : Top mg W0 env fe σ [] [] [] H' :=
  I.grow (fd := []) (ds := []) (vs := []) (fun b x q => fr b x q (by simp)) (fun b hb => absurd hb (by simp)) List.nodup_nil ⟨rfl, rfl⟩
theorem ExR.im {W W' : Addr → Prop} (ex : ExR mg H W x cls dd) (i : ims x.xs = true) (kw : ∀ b, W' b → Mut (H b)) : ExR mg H W' x cls dd := by
  obtain ⟨C, h1, h2, h3⟩ := ex
  refine ⟨C, h1, h2, fun hn => ?_⟩
  obtain ⟨d, fs, q1, q2, q3, q4⟩ := h3 hn
  exact ⟨d, fs, q1, q2, q3, (Rs.imTo _ _ _ q4 i kw).2⟩
theorem Top.mutW (T : Top mg W0 env fe σ [] [] [] H) : ∀ b, Wx W0 fe [] b → Mut (H b) := fun b z => by
  rcases z with z | z | z
  · exact T.w0 b z
  · exact T.e.mut b z
  · simp at z
end
section
variable {X : Cx} {Wi : WX} {e : Expr} {m : M D} {t : M Bool}
theorem pm_bor (h : PM X Wi e m) (hp : Pu m) : PM X Wi e (mBor m) := by
  refine pe_imp h fun σ H Q ⟨W0, env, fe, I, k⟩ => ⟨W0, frzE env, [], I.frzEnv, ?_⟩
  have p := hp (frzE env) (frzE_frzE env)
  unfold mBor at k
  cases q : m (frzE env) with
  | ok d e' =>
    rw [q] at k p
    intro v H' fe' fd fr nw T
    simp only at k
    split at k
    · rename_i hi
      exact k v H' fe fd (fun b x q _ => fr b x q (by simp)) (Nw.refl.app fun b hb => .inr ((nw b (List.mem_append_right _ hb)).resolve_left (by simp))) (I.thaw fr nw.right hi T)
    · exact k.elim
  | exc x e' =>
    rw [q] at k p
    intro cls dd H' fe' fr nw T ex
    simp only at k
    split at k
    · rename_i hi
      have T2 := I.same fr
      exact k cls dd H' fe (fun b x q _ => fr b x q (by simp)) Nw.refl T2 (ex.im hi T2.mutW)
    · exact k.elim
  | bad => rw [q] at k; exact k
theorem pmt_bor (h : PMT X Wi e t) (hp : Pu t) : PMT X Wi e (mBorT t) := by
  refine pt_imp h fun σ H Q ⟨W0, env, fe, I, k⟩ => ⟨W0, frzE env, [], I.frzEnv, ?_⟩
  unfold mBorT at k
  cases q : t (frzE env) with
  | ok d e' =>
    rw [q] at k
    exact fun H' fe' fr nw T => k H' fe (fun b x q _ => fr b x q (by simp)) Nw.refl (I.same fr)
  | exc x e' =>
    rw [q] at k
    intro cls dd H' fe' fr nw T ex
    simp only at k
    split at k
    · rename_i hi
      have T2 := I.same fr
      exact k cls dd H' fe (fun b x q _ => fr b x q (by simp)) Nw.refl T2 (ex.im hi T2.mutW)
    · exact k.elim
  | bad => rw [q] at k; exact k
end
/-! what is pure -/
section
variable {α β : Type} {m ma mb mc : M D} {ms : M (List D)} {t ta tb : M Bool}
theorem pu_pure (a : α) : Pu (M.pure a) := fun _ _ => rfl
theorem pu_bad : Pu (M.bad : M α) := fun _ _ => trivial
theorem pu_raise (x : Ex) : Pu (M.raise x : M α) := fun _ _ => rfl
theorem pu_ofO (o : Option α) : Pu (M.ofO o) := by cases o; exact pu_bad; exact pu_pure _
theorem pu_c (d : D) : Pu (mC d) := fun _ _ => rfl
theorem pu_nil : Pu mNil := fun _ _ => rfl
theorem pu_bind {m : M α} {f : α → M β} (h : Pu m) (k : ∀ a, Pu (f a)) : Pu (M.bind m f) := fun env he => by
  have := h env he
  unfold M.bind
  cases q : m env with
  | ok a e => rw [q] at this; simp only at this; subst this; exact k a e he
  | exc x e => rw [q] at this; exact this
  | bad => trivial
theorem pu_v (i : Nat) : Pu (mV i) := fun env he => by
  unfold mV
  cases h2 : env[i]? with
  | none => trivial
  | some o =>
    cases o with
    | none => trivial
    | some d2 =>
      show env.set i (some d2.fz) = env
      apply List.ext_getElem?
      intro j
      by_cases hj : i = j
      · subst hj
        rw [List.getElem?_set_self (List.getElem?_eq_some_iff.mp h2).1, h2]
        have e1 : (frzE env)[i]? = some (some d2) := by rw [he, h2]
        unfold frzE at e1
        rw [List.getElem?_map, h2] at e1
        simpa using e1
      · rw [List.getElem?_set_ne hj]
theorem pu_ite {c : Prop} [Decidable c] {a b : M α} (h1 : Pu a) (h2 : Pu b) : Pu (if c then a else b) := by split; exact h1; exact h2
theorem pu_m2 {g : D → D → Option D} (h1 : Pu ma) (h2 : Pu mb) : Pu (m2 g ma mb) := pu_bind h1 fun _ => pu_bind h2 fun _ => pu_ofO _
theorem pu_m1 {g : D → Option D} (h1 : Pu ma) : Pu (m1 g ma) := pu_bind h1 fun _ => pu_ofO _
theorem pu_cons (h1 : Pu ma) (h2 : Pu ms) : Pu (mCons ma ms) := fun env he => by
  have a := h1 env he
  unfold mCons
  cases q : ma env with
  | ok d e =>
    rw [q] at a
    simp only at a
    subst a
    have b := h2 e he
    simp only
    cases q2 : ms e with
    | ok ds e2 => rw [q2] at b; exact b
    | exc x e2 => rw [q2] at b; exact b
    | bad => trivial
  | exc x e => rw [q] at a; exact a
  | bad => trivial
theorem pu_call {g : List D → Option D} (h : Pu ms) : Pu (mCall g ms) := pu_bind h fun _ => pu_ofO _
theorem pu_tup (h : Pu ms) : Pu (mTup ms) := pu_bind h fun _ => pu_ite (pu_pure _) pu_bad
theorem pu_lst (h : Pu ms) : Pu (mLst ms) := pu_bind h fun _ => pu_ite (pu_pure _) pu_bad
theorem pu_tru (h : Pu m) : Pu (mTru m) := pu_bind h fun _ => pu_ofO _
theorem pu_bl (h : Pu m) : Pu (mBl m) := pu_bind h fun _ => pu_ofO _
theorem pu_i (h : Pu m) : Pu (mI m) := pu_bind h fun _ => pu_ofO _
theorem pu_and (h1 : Pu ta) (h2 : Pu tb) : Pu (mAnd ta tb) := pu_bind h1 fun _ => pu_ite h2 (pu_pure _)
theorem pu_or (h1 : Pu ta) (h2 : Pu tb) : Pu (mOr ta tb) := pu_bind h1 fun _ => pu_ite (pu_pure _) h2
theorem pu_not (h1 : Pu ta) : Pu (mNot ta) := pu_bind h1 fun _ => pu_pure _
theorem pu_if (h1 : Pu ta) (h2 : Pu ma) (h3 : Pu mb) : Pu (mIf ta ma mb) := pu_bind h1 fun _ => pu_ite h2 h3
theorem pu_notV (h : Pu m) : Pu (mNotV m) := pu_bind h fun _ => pu_ofO _
theorem pu_andV (h1 : Pu ma) (h2 : Pu mb) : Pu (mAndV ma mb) := pu_bind h1 fun _ => pu_bind (pu_ofO _) fun _ => pu_ite h2 (pu_pure _)
theorem pu_orV (h1 : Pu ma) (h2 : Pu mb) : Pu (mOrV ma mb) := pu_bind h1 fun _ => pu_bind (pu_ofO _) fun _ => pu_ite (pu_pure _) h2
theorem pu_chain {g g' : Int → Int → Bool} (h1 : Pu ma) (h2 : Pu mb) (h3 : Pu mc) : Pu (mChain g g' ma mb mc) := pu_bind (pu_i h1) fun _ => pu_bind (pu_i h2) fun _ => pu_ite (pu_bind (pu_i h3) fun _ => pu_pure _) (pu_pure _)
theorem pu_part (h : Pu m) : Pu ((mI m).bind fun i => M.pure (some i)) := pu_bind (pu_i h) fun _ => pu_pure _
theorem pu_slice {g : D → Option Int → Option Int → Option D} {ml mh : M (Option Int)} (h1 : Pu ma) (h2 : Pu ml) (h3 : Pu mh) : Pu (mSlice g ma ml mh) := pu_bind h1 fun _ => pu_bind h2 fun _ => pu_bind h3 fun _ => pu_ofO _
theorem pu_meth {T : String} {g : D → List D → Option D} (h1 : Pu m) (h2 : Pu ms) : Pu (mMeth T g m ms) := pu_bind h1 fun _ => pu_ite (pu_bind h2 fun _ => pu_ofO _) pu_bad
theorem pu_meth0 {T : String} {g : D → Option D} (h1 : Pu m) : Pu (mMeth0 T g m) := pu_bind h1 fun _ => pu_ite (pu_ofO _) pu_bad
theorem pu_callF {F : Fn} {ds : List D} : Pu (callF F ds) := by
  unfold callF
  split
  · exact pu_pure _
  · exact pu_raise _
  · exact pu_bad
theorem pu_fn {n : Nat} {F : Fn} (h : Pu ms) : Pu (mCall' n F ms) := pu_bind h fun _ => pu_ite pu_callF pu_bad
theorem pu_methF {c x : Str} {n : Nat} {F : Fn} (h1 : Pu m) (h2 : Pu ms) : Pu (mMethF c x n F m ms) := pu_bind h1 fun _ => pu_ite (pu_bind h2 fun _ => pu_ite pu_callF pu_bad) pu_bad
theorem pu_items (h : Pu m) : Pu (mItems m) := pu_bind h fun _ => by
  split
  all_goals first | exact pu_pure _ | exact pu_bad
theorem pu_range1 (h : Pu m) : Pu (mRange1 m) := pu_bind (pu_i h) fun _ => pu_ite (pu_pure _) pu_bad
theorem pu_range2 (h1 : Pu ma) (h2 : Pu mb) : Pu (mRange2 ma mb) := pu_bind (pu_i h1) fun _ => pu_bind (pu_i h2) fun _ => pu_ite (pu_pure _) pu_bad
theorem pu_signs (h : Pu m) : Pu (mSigns m) := pu_bind h fun _ => by
  split
  · exact pu_pure _
  · exact pu_bad
end

/-! ### a def of the text -/
def ioOut (io : Option Nat) (env : Env) : Option D := match io with
  | none => some .non
  | some j => (env[j]?).join
/-- what a def computes, by its body -/
def fnS (n : Nat) (io : Option Nat) (ms : MS) : Fn := fun ds => match ms (ds.map some ++ List.replicate (n - ds.length) none) with
  | .rt d e => (match ioOut io e with | some o => .ok d o | none => .bad)
  | .nx e => (match ioOut io e with | some o => .ok .non o | none => .bad)
  | .exc x e => (match ioOut io e with | some o => .exc x o | none => .bad)
  | _ => .bad
section
variable {mg : G} {Wi : WX} {W0 : Addr → Prop} {fe fd fe' : List Addr} {env env' : Env} {σ : L2.St} {H H' : Hp} {ds : List D} {vs : List V} {d : D} {v : V}
theorem EnvR.of : ∀ {ds : List D} {fp : List Addr} {vs : List V} {W : Addr → Prop} (n : Nat), Rs mg H W ds fp vs → EnvR mg H W (ds.map some ++ List.replicate n none) fp (vs.map some ++ List.replicate n none)
  | [], fp, vs, W, n, h => by
    obtain ⟨rfl, rfl⟩ := h
    simp only [List.map_nil, List.nil_append]
    induction n with
    | zero => exact ⟨rfl, rfl⟩
    | succ n ih => exact ⟨none, _, rfl, ih⟩
  | d :: ds, fp, vs, W, n, h => by
    obtain ⟨f1, f2, v, us, rfl, rfl, h1, h2⟩ := h
    exact ⟨f1, f2, v, _, rfl, rfl, h1, EnvR.of n h2⟩
theorem Top.out (T : Top mg W0 env fe σ ds fd vs H) : Top mg W0 [] [] [] ds fd vs H := by
  have w1 : ∀ b, ¬ Wx W0 fe fd b → H b ≠ none → ¬ Wx W0 [] fd b := fun b h _ z => by
    rcases z with z | z | z
    · exact h (.inl z)
    · simp at z
    · exact h (.inr (.inr z))
  exact ⟨⟨rfl, rfl⟩, Rs.mono _ _ _ T.t (fun _ _ q _ => q) w1, by simpa using (List.nodup_append.mp T.nd).2.1, T.w0, fun b hb => T.ap b (List.mem_append_right _ (by simpa using hb))⟩
/-- the values at hand, and what a slot holds -/
theorem Top.outIO {io : Option Nat} {o : D} {us : List V} (T : Top mg W0 env fe σ ds fd vs H) (e : ioOut io env = some o) (hs : ∀ j, io = some j → σ[j]? = (us[j]?).map some) :
    ∃ fr, (∀ b ∈ fr, b ∈ fe ++ fd) ∧ (fr.Perm fr) ∧ Top mg W0 [] [] [] (ds ++ IoD io o) fr (vs ++ IoV io us) H := by
  cases io with
  | none =>
    refine ⟨fd, fun b hb => List.mem_append_right _ hb, List.Perm.refl _, ?_⟩
    simpa [IoD, IoV] using T.out
  | some j =>
    simp only [ioOut] at e
    have e2 : env[j]? = some (some o) := by
      cases q : env[j]? with
      | none => rw [q] at e; cases e
      | some w => rw [q] at e; simp at e; rw [e]
    obtain ⟨f1, f2, f3, v, q1, q2, q3, q4⟩ := T.e.get e2
    have h1 := hs j rfl
    rw [q2] at h1
    have hv : us[j]? = some v := by
      cases q : us[j]? with
      | none => rw [q] at h1; cases h1
      | some w => rw [q] at h1; simp at h1; rw [h1]
    have nd := List.nodup_append.mp T.nd
    have sub : ∀ b ∈ f2, b ∈ fe := fun b hb => by rw [q1]; simp only [List.mem_append]; exact .inl (.inr hb)
    have w1 : ∀ b, ¬ Wx W0 fe fd b → H b ≠ none → ¬ Wx W0 [] (fd ++ f2) b := fun b h _ z => by
      rcases z with z | z | z
      · exact h (.inl z)
      · simp at z
      · rcases List.mem_append.mp z with z | z
        · exact h (.inr (.inr z))
        · exact h (.inr (.inl (sub b z)))
    refine ⟨fd ++ f2, fun b hb => ?_, List.Perm.refl _, ⟨⟨rfl, rfl⟩, ?_, ?_, T.w0, fun b hb => T.ap b ?_⟩⟩
    · rcases List.mem_append.mp hb with hb | hb
      · exact List.mem_append_right _ hb
      · exact List.mem_append_left _ (sub b hb)
    · simp only [IoD, IoV, hv, Option.toList]
      exact (Rs.app _ _ _ _).mpr ⟨fd, f2, vs, [v], rfl, rfl, Rs.mono _ _ _ T.t (fun _ _ q _ => q) w1, Rs.one (R.mono _ _ _ q3 (fun _ _ q _ => q) w1)⟩
    · rw [List.nil_append]
      refine List.nodup_append.mpr ⟨nd.2.1, nd.1.sublist (by rw [q1, List.append_assoc]; exact (List.sublist_append_left _ _).trans (List.sublist_append_right _ _)), fun a ha b hb e => nd.2.2 b (sub b hb) a ha e.symm⟩
    · rw [List.nil_append] at hb
      rcases List.mem_append.mp hb with hb | hb
      · exact List.mem_append_right _ hb
      · exact List.mem_append_left _ (sub b hb)
end
section
variable {P : Program} {w : World} {K : PySem.W.Frag} {mg : Str → Option Value} {base : Heap}
/-- THE RULE: a def computes what its body's reading says -/
theorem fn_val {x qual : Str} {st : Stmt} {f : Addr} {fd : FuncData} {N ps : List Str} {k : Nat} (F : Fun K x qual st f fd) (S : FnScope N ps (defScope st)) (io : Option Nat) (ms : MS)
    (hio : ∀ j, io = some j → j < ps.length)
    (hb : ∀ (cdv : Value) (A : Around) (outer : List PySem.Env) (s : Shared) (H : Hp) (E : XK), Room k (A.deeper (envOfC qual (defScope st) s.heap.objs.size f cdv)) →
      PSSM (cxOf (L2.CX P w) P w K mg base N qual (defScope st) f cdv A outer s H E) (fun cls d _ H => E cls d H) io.toList (defBody st) ms) :
    FnOk P w K mg base (L2.CX P w) (k + 1) f fd ps (spF ⟨K, mg⟩ ps.length io (fnS N.length io ms)) := by
  refine F.okX S (fun vs H Q E h => ?_) (fun cdv A outer s H vs Q E hr h => ⟨_, hb cdv A outer s H E hr, ?_⟩)
  · obtain ⟨_, _, _, hn, _⟩ := h
    exact hn
  obtain ⟨W0, ds, fd0, hn, T, k⟩ := h
  have hl := T.t.len
  have hpl : ps.length ≤ N.length := by have := congrArg List.length S.pre; rw [List.length_take] at this; omega
  have T0 : Top ⟨K, mg⟩ W0 (ds.map some ++ List.replicate (N.length - ds.length) none) fd0 (L2.start N vs) [] [] [] H := by
    have w1 : ∀ b, ¬ Wx W0 [] fd0 b → H b ≠ none → ¬ Wx W0 fd0 [] b := fun b h _ z => by
      rcases z with z | z | z
      · exact h (.inl z)
      · exact h (.inr (.inr z))
      · simp at z
    refine ⟨?_, ⟨rfl, rfl⟩, by simpa using T.nd, T.w0, fun b hb => T.ap b (by simpa using hb)⟩
    have := EnvR.of (N.length - ds.length) (Rs.mono _ _ _ T.t (fun _ _ q _ => q) w1)
    unfold L2.start
    rw [hl] at this ⊢
    exact this
  have hst : ∀ j, io = some j → (L2.start N vs)[j]? = (vs[j]?).map some := fun j hj => by
    have := hio j hj
    unfold L2.start
    rw [List.getElem?_append_left (by rw [List.length_map]; omega), List.getElem?_map]
  have pnio : ∀ {σ' : L2.St}, Pn io.toList (L2.start N vs) σ' → ∀ j, io = some j → σ'[j]? = (vs[j]?).map some := fun {σ'} pn j hj => by
    rw [pn j (by rw [hj]; simp), hst j hj]
  refine ⟨W0, _, fd0, T0, ?_⟩
  unfold fnS at k
  cases eb : ms (ds.map some ++ List.replicate (N.length - ds.length) none) with
  | rt d e =>
    simp only [eb] at k
    cases eo : ioOut io e with
    | none => rw [eo] at k; exact k.elim
    | some o =>
      rw [eo] at k
      intro v σ' H' fe' fdd fr nw pn T1
      obtain ⟨f2, sub, _, T2⟩ := T1.outIO eo (pnio pn)
      exact k v H' f2 fr (fun b hb => nw b (sub b hb)) T2
  | nx e =>
    simp only [eb] at k
    cases eo : ioOut io e with
    | none => rw [eo] at k; exact k.elim
    | some o =>
      rw [eo] at k
      intro σ' H' fe' fr nw pn T1
      have T1' := top_c (d := .non) (v := .non) T1 fun W => ⟨rfl, rfl⟩
      obtain ⟨f2, sub, _, T2⟩ := T1'.outIO eo (pnio pn)
      exact k .non H' f2 fr (fun b hb => nw b (by have := sub b hb; simpa using this)) T2
  | exc x e =>
    simp only [eb] at k
    cases eo : ioOut io e with
    | none => rw [eo] at k; exact k.elim
    | some o =>
      rw [eo] at k
      intro cls dd σ' H' fe' fr nw pn T1 ex
      obtain ⟨f2, sub, _, T2⟩ := T1.outIO eo (pnio pn)
      refine k cls dd H' f2 fr (fun b hb => nw b (by have := sub b hb; simpa using this)) (by simp only [List.nil_append] at T2; exact T2) ?_
      obtain ⟨C, h1, h2, h3⟩ := ex
      refine ⟨C, h1, h2, fun hn => ?_⟩
      obtain ⟨d, fs, q1, q2, q3, q4⟩ := h3 hn
      refine ⟨d, fs, q1, q2, q3, Rs.mono _ _ _ q4 (fun _ _ q _ => q) fun b h _ z => ?_⟩
      rcases z with z | z | z
      · exact h (.inl z)
      · simp at z
      · have := sub b z; exact h (.inr (.inl (by simpa using this)))
  | bk e => simp only [eb] at k; exact k.elim
  | ct e => simp only [eb] at k; exact k.elim
  | bad => simp only [eb] at k; exact k.elim
end

/-! ### raise, try -/
section
variable {X : Cx} {Wi : WX} {pin : List Nat} {C : Addr} {e : Expr} {c x : Str} {cv : Value} {pos pos' np : Pos} {body suite : List Stmt} {b₀ : Stmt} {sb ss : MS}
theorem psm_raise (hc : X.calm = true) (tk : Takes X Wi) (he : PMk X e (fun _ H Q => Q (.ref C) none H)) (gC : X.mg c = some (.ref C)) : PSM X Wi pin (.Raise (some e) none pos) (fun env => .exc ⟨c, [], []⟩ env) := by
  refine ps_imp (ps_raise hc tk he) fun Dn σ H ⟨W0, env, fe, I, k⟩ => ?_
  exact k _ none σ H fe Fr.refl Nw.refl Pn.refl I ⟨C, gC, rfl, fun h => absurd rfl h⟩
/-- try: .. except c: ..; is: what the clause takes, by the classes' names -/
def sTry (is : Str → Option Bool) (sb ss : MS) : MS := fun env => match sb env with
  | .exc x e => (match is x.cls with
    | some true => (match ss e with | .exc _ _ => .bad | r => r)
    | some false => .exc x e
    | none => .bad)
  | r => r
theorem psm_try {is : Str → Option Bool} (hs : X.stack = X.env :: X.outer) (hf : X.env.frame = some X.env.locals) (hc : Names X x cv) (tk : Takes X Wi) (his : ∀ n D b, X.mg n = some (.ref D) → is n = some b → PySem.W.exmOne X.K (.ref D) cv = some b)
    (hb : ∀ (W : WX) (pn : List (Addr × Obj)) (xe : Value → Shared → Prop), Takes (X.tr pn xe) W → PassesOwn (model X.prog X.w) X.A X.env xe → PSSM (X.tr pn xe) W pin body sb)
    (hsu : ∀ (a : Addr) (oe : Obj) (cls : Value) (d : Option Addr) (pn : List (Addr × Obj)), Zc cls d oe → (∃ vs, oe.data = .fields vs) → PSSM (X.suite a ((a, oe) :: pn)) WF pin (b₀ :: suite) ss) :
    PSM X Wi pin (.Try body [.ExceptHandler (some (.Name x np)) none (b₀ :: suite) pos'] [] [] pos) (sTry is sb ss) := by
  refine ps_imp (ps_try_only (ts := fun _ _ _ => sM X.gg WF pin ss) (tb := fun W => sM X.gg W pin sb) hs hf hc tk hb hsu) fun Dn σ H ⟨W0, env, fe, I, k⟩ => ⟨W0, env, fe, I, ?_⟩
  unfold sTry at k
  cases eb : sb env with
  | exc y e' =>
    rw [eb] at k
    simp only at k
    intro cls dd σ' H' fe' fr nw pn T ex
    obtain ⟨D, h1, h2, h3⟩ := id ex
    cases ei : is y.cls with
    | none => rw [ei] at k; exact k.elim
    | some b =>
      rw [ei] at k
      refine ⟨b, by rw [h2]; exact his _ D b h1 ei, fun hb a ha => ?_, fun hb => ?_⟩
      · subst hb
        simp only at k
        refine ⟨W0, e', fe', T, ?_⟩
        cases es : ss e' with
        | exc _ _ => rw [es] at k; exact k.elim
        | nx e2 => rw [es] at k; exact k.from fr nw pn
        | rt d e2 => rw [es] at k; exact k.from fr nw pn
        | bk e2 => rw [es] at k; exact k.from fr nw pn
        | ct e2 => rw [es] at k; exact k.from fr nw pn
        | bad => rw [es] at k; exact k
      · subst hb
        exact k cls dd σ' H' fe' fr nw pn T ex
  | nx e2 => rw [eb] at k; exact k
  | rt d e2 => rw [eb] at k; exact k
  | bk e2 => rw [eb] at k; exact k
  | ct e2 => rw [eb] at k; exact k
  | bad => rw [eb] at k; exact k
end
end VL


set_option Elab.async false
set_option linter.all false
set_option maxRecDepth 100000
set_option maxHeartbeats 4000000
namespace VL
open PySem PySem.Spec L2
open PyProof.Rows hiding St

/-- what an operation's result may be handed on as -/
abbrev KK (mg : G) (W : Addr → Prop) (H : Hp) (d : D) (Q : VK) : Prop :=
  ∀ v H' fd, Same H H' → (∀ b ∈ fd, H b = none) → fd.Nodup → R mg H' (fun b => W b ∨ b ∈ fd) d fd v → Q v H'
section
variable {mg : G} {W : Addr → Prop} {H H' : Hp} {d : D} {xs : List D} {vs : List V} {v : V} {Q : VK}
theorem wnil : ∀ b, ¬ W b → H b ≠ none → ¬ (fun b => W b ∨ b ∈ ([] : List Addr)) b := fun b h _ z => z.elim h (by simp)
theorem same_upd {p : Addr} {o : HO} (hp : H p = none) : Same H (upd H p o) := fun b x q => by rw [upd_ne (ne_of_none q hp)]; exact q
theorem KK.old (k : KK mg W H d Q) (h : R mg H W d [] v) : Q v H :=
  k v H [] (Same.refl H) (fun b z => absurd z (by simp)) List.nodup_nil (R.mono _ _ _ h (fun _ _ q _ => q) wnil)
theorem KK.tup (k : KK mg W H (.tup xs) Q) (h : Rs mg H W xs [] vs) (tr : ∀ b, W b → H b ≠ none) : ∀ p, H p = none → Q (.ref p) (upd H p (.tup vs)) := fun p hp =>
  k (.ref p) _ [] (same_upd hp) (fun b z => absurd z (by simp)) List.nodup_nil
    ⟨p, vs, rfl, ⟨upd_same, fun z => z.elim (fun z => tr p z hp) (by simp)⟩, Rs.mono _ _ _ h (fun b x q _ => same_upd hp b x q) wnil⟩
theorem KK.lst (k : KK mg W H (.lst true xs) Q) (h : Rs mg H W xs [] vs) : ∀ p, H p = none → Q (.ref p) (upd H p (.lst vs)) := fun p hp =>
  k (.ref p) _ [p] (same_upd hp) (fun b z => by rw [List.mem_singleton.mp z]; exact hp) (by simp)
    ⟨p, vs, [], rfl, rfl, upd_same, Rs.mono _ _ _ h (fun b x q _ => same_upd hp b x q) fun b hb hn z => z.elim hb fun z => by rw [List.mem_singleton.mp z] at hn; exact hn hp⟩
theorem Rs.nil_iff : Rs mg H W [] [] vs ↔ vs = [] := ⟨fun h => h.2, fun h => ⟨rfl, h⟩⟩
theorem Rs.cons0 {ds : List D} : Rs mg H W (d :: ds) [] vs ↔ ∃ v us, vs = v :: us ∧ R mg H W d [] v ∧ Rs mg H W ds [] us := by
  constructor
  · rintro ⟨f1, f2, v, us, e, rfl, h1, h2⟩
    obtain ⟨rfl, rfl⟩ := List.append_eq_nil_iff.mp e.symm
    exact ⟨v, us, rfl, h1, h2⟩
  · rintro ⟨v, us, rfl, h1, h2⟩
    exact ⟨[], [], v, us, rfl, rfl, h1, h2⟩
theorem Rs.app0 {as bs : List D} {us vs : List V} (h1 : Rs mg H W as [] us) (h2 : Rs mg H W bs [] vs) : Rs mg H W (as ++ bs) [] (us ++ vs) :=
  (Rs.app as bs [] (us ++ vs)).mpr ⟨[], [], us, vs, rfl, rfl, h1, h2⟩
theorem Rs.drop0 : ∀ {ds : List D} {vs : List V} (n : Nat), Rs mg H W ds [] vs → Rs mg H W (ds.drop n) [] (vs.drop n)
  | ds, vs, 0, h => by simpa using h
  | [], vs, n + 1, h => by rw [h.2]; exact ⟨rfl, rfl⟩
  | d :: ds, vs, n + 1, h => by
    obtain ⟨v, us, rfl, h1, h2⟩ := Rs.cons0.mp h
    simpa using Rs.drop0 n h2
theorem Rs.take0 : ∀ {ds : List D} {vs : List V} (n : Nat), Rs mg H W ds [] vs → Rs mg H W (ds.take n) [] (vs.take n)
  | ds, vs, 0, h => by simp; exact ⟨rfl, rfl⟩
  | [], vs, n + 1, h => by rw [h.2]; exact ⟨rfl, rfl⟩
  | d :: ds, vs, n + 1, h => by
    obtain ⟨v, us, rfl, h1, h2⟩ := Rs.cons0.mp h
    simpa using Rs.cons0.mpr ⟨v, us.take n, rfl, h1, Rs.take0 n h2⟩
theorem Rs.rep0 {ds : List D} {vs : List V} (h : Rs mg H W ds [] vs) : ∀ n : Nat, Rs mg H W (List.replicate n ds).flatten [] (List.replicate n vs).flatten
  | 0 => ⟨rfl, rfl⟩
  | n + 1 => by
    simp only [List.replicate_succ, List.flatten_cons]
    exact Rs.app0 h (Rs.rep0 h n)
theorem Rs.ints0 : ∀ ns : List Int, Rs mg H W (ns.map .int) [] (ns.map V.int)
  | [] => ⟨rfl, rfl⟩
  | n :: ns => Rs.cons0.mpr ⟨_, _, rfl, ⟨rfl, rfl⟩, Rs.ints0 ns⟩
theorem Rs.strs0 : ∀ ns : List Str, Rs mg H W (ns.map .str) [] (ns.map V.str)
  | [] => ⟨rfl, rfl⟩
  | n :: ns => Rs.cons0.mpr ⟨_, _, rfl, ⟨rfl, rfl⟩, Rs.strs0 ns⟩
theorem Rs.get0 : ∀ {ds : List D} {vs : List V} {j : Nat} {x : D}, Rs mg H W ds [] vs → ds[j]? = some x → ∃ v, vs[j]? = some v ∧ R mg H W x [] v
  | [], _, j, x, _, e => by simp at e
  | d :: ds, vs, 0, x, h, e => by
    obtain ⟨v, us, rfl, h1, h2⟩ := Rs.cons0.mp h
    simp at e
    subst e
    exact ⟨v, rfl, h1⟩
  | d :: ds, vs, j + 1, x, h, e => by
    obtain ⟨v, us, rfl, h1, h2⟩ := Rs.cons0.mp h
    simpa using Rs.get0 (j := j) h2 (by simpa using e)
end

/-- a list's items; a tuple's -/
def D.sq : D → Option (List D)
  | .lst _ xs => some xs
  | .scr ns => some (ns.map .int)
  | _ => none
def D.tq : D → Option (List D)
  | .tup xs => some xs
  | _ => none
section
variable {mg : G} {W : Addr → Prop} {H H' : Hp} {d : D} {xs : List D} {fp : List Addr} {v : V}
theorem R.sq (h : R mg H W d fp v) (e : d.sq = some xs) : ∃ a vs f1, v = .ref a ∧ SqL mg.K H a vs ∧ Rs mg H W xs f1 vs ∧ (fp = [] → f1 = []) := by
  cases d with
  | lst o ys =>
    obtain rfl := Option.some.inj e
    cases o with
    | true =>
      simp only [R] at h
      obtain ⟨a, vs, f1, rfl, rfl, h1, h2⟩ := h
      exact ⟨a, vs, f1, rfl, SqL.of h1, h2, fun z => by simp at z⟩
    | false =>
      simp only [R] at h
      obtain ⟨rfl, a, vs, rfl, ⟨h1, _⟩, h2⟩ := h
      exact ⟨a, vs, [], rfl, SqL.of h1, h2, fun _ => rfl⟩
  | scr ns =>
    obtain rfl := Option.some.inj e
    simp only [R] at h
    obtain ⟨rfl, a, rfl, ⟨o, h1, _⟩ | ⟨o, its, n, h1, h2, h3, h4, h5, h6⟩⟩ := h
    · exact ⟨a, _, [], rfl, .inl (.inr ⟨o, h1⟩), Rs.ints0 ns, fun _ => rfl⟩
    · exact ⟨a, _, [], rfl, .inr ⟨o, its, n, h1, h2, h3, h4, h5, h6⟩, Rs.ints0 ns, fun _ => rfl⟩
  | _ => simp [D.sq] at e
theorem R.tq (h : R mg H W d fp v) (e : d.tq = some xs) : ∃ a vs, v = .ref a ∧ SqT mg.K H a vs ∧ Rs mg H W xs fp vs := by
  cases d with
  | tup ys =>
    obtain rfl := Option.some.inj e
    simp only [R] at h
    obtain ⟨a, vs, rfl, ⟨h1, _⟩, h2⟩ := h
    exact ⟨a, vs, rfl, SqT.of h1, h2⟩
  | _ => simp [D.tq] at e
theorem R.sq0 (h : R mg H W d [] v) (e : d.sq = some xs) : ∃ a vs, v = .ref a ∧ SqL mg.K H a vs ∧ Rs mg H W xs [] vs := by
  obtain ⟨a, vs, f1, h1, h2, h3, h4⟩ := h.sq e
  rw [h4 rfl] at h3
  exact ⟨a, vs, h1, h2, h3⟩
end
theorem op2_of {mg : G} {r : R2} {g : D → D → Option D} (h : ∀ (W : Addr → Prop) (H : Hp) (a b : D) (x y : V) (d : D) (Q : VK), R mg H W a [] x → R mg H W b [] y → (∀ b, W b → H b ≠ none) → g a b = some d → KK mg W H d Q → r x y H Q) : Op2 mg r g := by
  intro W H ds vs d Q hr tr e k
  match ds, e with
  | [a, b], e =>
    obtain ⟨x, us, rfl, h1, h2⟩ := Rs.cons0.mp hr
    obtain ⟨y, us2, rfl, h4, h3⟩ := Rs.cons0.mp h2
    obtain rfl := Rs.nil_iff.mp h3
    exact ⟨x, y, rfl, h W H a b x y d Q h1 h4 tr e k⟩
theorem op1_of {mg : G} {r : V → Hp → VK → Prop} {g : D → Option D} (h : ∀ (W : Addr → Prop) (H : Hp) (a : D) (x : V) (d : D) (Q : VK), R mg H W a [] x → (∀ b, W b → H b ≠ none) → g a = some d → KK mg W H d Q → r x H Q) : Op1 mg r g := by
  intro W H ds vs d Q hr tr e k
  match ds, e with
  | [a], e =>
    obtain ⟨x, us, rfl, h1, h2⟩ := Rs.cons0.mp hr
    obtain rfl := Rs.nil_iff.mp h2
    exact ⟨x, rfl, h W H a x d Q h1 tr e k⟩
theorem opS_of1 {mg : G} {r : List V → Hp → VK → Prop} {g : List D → Option D} {g1 : D → Option D} (hg : ∀ ds d, g ds = some d → ∃ a, ds = [a] ∧ g1 a = some d) (h : ∀ (W : Addr → Prop) (H : Hp) (a : D) (x : V) (d : D) (Q : VK), R mg H W a [] x → (∀ b, W b → H b ≠ none) → g1 a = some d → KK mg W H d Q → r [x] H Q) : OpS mg r g := by
  intro W H ds vs d Q hr tr e k
  obtain ⟨a, rfl, e1⟩ := hg ds d e
  obtain ⟨x, us, rfl, h1, h2⟩ := Rs.cons0.mp hr
  obtain rfl := Rs.nil_iff.mp h2
  exact h W H a x d Q h1 tr e1 k
/-- one argument -/
def one (g : D → Option D) : List D → Option D := fun ds => match ds with | [a] => g a | _ => none
theorem opS_one {mg : G} {r : List V → Hp → VK → Prop} {g : D → Option D} (h : ∀ (W : Addr → Prop) (H : Hp) (a : D) (x : V) (d : D) (Q : VK), R mg H W a [] x → (∀ b, W b → H b ≠ none) → g a = some d → KK mg W H d Q → r [x] H Q) : OpS mg r (one g) :=
  opS_of1 (g1 := g) (fun ds d e => by match ds, e with | [a], e => exact ⟨a, rfl, e⟩) h

/-! ### + - * // % -/
def dAdd : D → D → Option D
  | .int i, .int j => some (.int (i + j))
  | .str s, .str t => if s.length + t.length ≤ sizeLine then some (.str (s ++ t)) else none
  | .tup xs, .tup ys => if xs.length + ys.length ≤ sizeLine then some (.tup (xs ++ ys)) else none
  | .lst _ xs, .lst _ ys => if xs.length + ys.length ≤ sizeLine then some (.lst true (xs ++ ys)) else none
  | _, _ => none
def rAddV (K : PySem.W.Frag) : R2 := fun x y H Q => (∃ i j, x = .int i ∧ y = .int j ∧ Q (.int (i + j)) H) ∨ (∃ i j, x = .str i ∧ y = .str j ∧ i.length + j.length ≤ sizeLine ∧ Q (.str (i ++ j)) H) ∨ rCatA K x y H Q ∨ rCat x y H Q
theorem opr_add {X : Cx} : OpR X (binaryOp .Add) (rAddV X.K) := op_add.or (op_add_str.or (op_catA.or op_cat))
theorem R.lst0 {mg : G} {H : Hp} {W : Addr → Prop} {o : Bool} {xs : List D} {v : V} (h : R mg H W (.lst o xs) [] v) : ∃ a vs, v = .ref a ∧ H a = some (.lst vs) ∧ ¬ W a ∧ Rs mg H W xs [] vs ∧ o = false := by
  cases o with
  | true =>
    simp only [R] at h
    obtain ⟨a, vs, f1, rfl, e, h1, h2⟩ := h
    cases e
  | false =>
    simp only [R] at h
    obtain ⟨_, a, vs, rfl, ⟨h1, h3⟩, h2⟩ := h
    exact ⟨a, vs, rfl, h1, h3, h2, rfl⟩
theorem R.tup0 {mg : G} {H : Hp} {W : Addr → Prop} {xs : List D} {v : V} (h : R mg H W (.tup xs) [] v) : ∃ a vs, v = .ref a ∧ H a = some (.tup vs) ∧ ¬ W a ∧ Rs mg H W xs [] vs := by
  simp only [R] at h
  obtain ⟨a, vs, rfl, ⟨h1, h3⟩, h2⟩ := h
  exact ⟨a, vs, rfl, h1, h3, h2⟩
theorem ok_add {mg : G} : Op2 mg (rAddV mg.K) dAdd := op2_of fun W H a b x y d Q ha hb tr e k => by
  unfold dAdd at e
  split at e
  · obtain ⟨_, rfl⟩ := ha; obtain ⟨_, rfl⟩ := hb
    obtain rfl := Option.some.inj e
    exact .inl ⟨_, _, rfl, rfl, k.old ⟨rfl, rfl⟩⟩
  · obtain ⟨_, rfl⟩ := ha; obtain ⟨_, rfl⟩ := hb
    split at e
    · obtain rfl := Option.some.inj e
      exact .inr (.inl ⟨_, _, rfl, rfl, by assumption, k.old ⟨rfl, rfl⟩⟩)
    · cases e
  · split at e
    · rename_i xs ys hz
      obtain rfl := Option.some.inj e
      have ha' := ha; have hb' := hb
      obtain ⟨p, us, rfl, h1, _, h2⟩ := ha.tup0
      obtain ⟨q, ws, rfl, h3, _, h4⟩ := hb.tup0
      refine .inr (.inr (.inl ⟨p, q, us, ws, rfl, rfl, SqT.of h1, SqT.of h3, by rw [← h2.len, ← h4.len]; exact hz, fun z => ?_, fun _ z => ?_, fun _ _ => k.tup (Rs.app0 h2 h4) tr⟩))
      · subst z
        have : xs = [] := List.length_eq_zero_iff.mp h2.len
        subst this
        exact k.old hb'
      · subst z
        have : ys = [] := List.length_eq_zero_iff.mp h4.len
        subst this
        rw [List.append_nil] at k
        exact k.old ha'
    · cases e
  · split at e
    · rename_i o xs o2 ys hz
      obtain rfl := Option.some.inj e
      obtain ⟨p, us, rfl, h1, _, h2, _⟩ := ha.lst0
      obtain ⟨q, ws, rfl, h3, _, h4, _⟩ := hb.lst0
      exact .inr (.inr (.inr ⟨p, q, us, ws, rfl, rfl, h1, h3, by rw [← h2.len, ← h4.len]; exact hz, k.lst (Rs.app0 h2 h4)⟩))
    · cases e
  · cases e
def dSub : D → D → Option D
  | .int i, .int j => some (.int (i - j))
  | _, _ => none
def dMul : D → D → Option D
  | .int i, .int j => if (-(2 ^ 64) < i ∧ i < 2 ^ 64) ∨ (-(2 ^ 64) < j ∧ j < 2 ^ 64) then some (.int (i * j)) else none
  | .str s, .int k => if k ≤ 1000 ∧ s.length ≤ 1000 ∧ -(2 ^ 63) ≤ k then some (.str (Txt.mul s k)) else none
  | .tup xs, .int k => if xs ≠ [] ∧ 2 ≤ k ∧ k ≤ 1000 ∧ xs.length ≤ 1000 then some (.tup (List.replicate k.toNat xs).flatten) else none
  | .lst _ xs, .int k => if -(2 ^ 63) ≤ k ∧ k < 2 ^ 63 ∧ xs.length * k.toNat ≤ sizeLine then some (.lst true (List.replicate k.toNat xs).flatten) else none
  | _, _ => none
def dDiv : D → D → Option D
  | .int i, .int j => if 0 < j ∧ j < 1073741824 then some (.int (i / j)) else none
  | _, _ => none
def dMod : D → D → Option D
  | .int i, .int j => if 0 < j then some (.int (i % j)) else none
  | _, _ => none
theorem ok_sub {mg : G} : Op2 mg (rI0 fun i j => .int (i - j)) dSub := op2_of fun W H a b x y d Q ha hb tr e k => by
  unfold dSub at e
  split at e
  · obtain ⟨_, rfl⟩ := ha; obtain ⟨_, rfl⟩ := hb
    obtain rfl := Option.some.inj e
    exact ⟨_, _, rfl, rfl, k.old ⟨rfl, rfl⟩⟩
  · cases e
theorem ok_div {mg : G} : Op2 mg (rI CDiv fun i j => .int (i / j)) dDiv := op2_of fun W H a b x y d Q ha hb tr e k => by
  unfold dDiv at e
  split at e
  · split at e
    · obtain ⟨_, rfl⟩ := ha; obtain ⟨_, rfl⟩ := hb
      obtain rfl := Option.some.inj e
      exact ⟨_, _, rfl, rfl, by assumption, k.old ⟨rfl, rfl⟩⟩
    · cases e
  · cases e
theorem ok_mod {mg : G} : Op2 mg (rI (fun _ j => 0 < j) fun i j => .int (i % j)) dMod := op2_of fun W H a b x y d Q ha hb tr e k => by
  unfold dMod at e
  split at e
  · split at e
    · obtain ⟨_, rfl⟩ := ha; obtain ⟨_, rfl⟩ := hb
      obtain rfl := Option.some.inj e
      exact ⟨_, _, rfl, rfl, by assumption, k.old ⟨rfl, rfl⟩⟩
    · cases e
  · cases e
theorem mulOk_small {s : Str} {k : Int} (h1 : k ≤ 1000) (h2 : s.length ≤ 1000) (h3 : -(2 ^ 63) ≤ k) : MulOk s k := by
  refine ⟨by simp; omega, fun hk _ => ?_, fun hk _ => ?_⟩
  · have hk1 : 0 < k := by omega
    have : (s.length : Int) ≤ (2 ^ 63 - 1) / k := by
      rw [Int.le_ediv_iff_mul_le hk1]
      have : (s.length : Int) * k ≤ 1000 * 1000 := Int.mul_le_mul (by omega) h1 (by omega) (by omega)
      omega
    omega
  · unfold Builtin.Str.tooLong
    rw [sizeLine_eq]
    have : s.length * k.toNat ≤ 1000 * 1000 := Nat.mul_le_mul h2 (by omega)
    simp; omega
theorem op_mulS {X : Cx} : OpR X (binaryOp .Mult) (fun x y H Q => ∃ s k, x = .str s ∧ y = .int k ∧ MulOk s k ∧ Q (.str (Txt.mul s k)) H) := by
  intro pins s σ H x y v u Q I rx ry h
  obtain ⟨z, k, rfl, rfl, hk, q⟩ := h
  obtain ⟨t, rfl⟩ := rx
  obtain ⟨t', rfl⟩ := ry
  exact SB.mul hk fun t' j => ⟨.str (Txt.mul z k), H, I.tok j, ⟨t', rfl⟩, q⟩
def rMulV (K : PySem.W.Frag) : R2 := fun x y H Q => rI CMul (fun i j => .int (i * j)) x y H Q ∨ (∃ s k, x = .str s ∧ y = .int k ∧ MulOk s k ∧ Q (.str (Txt.mul s k)) H) ∨ rRepT K x y H Q ∨ rRep x y H Q
theorem opr_mul {X : Cx} : OpR X (binaryOp .Mult) (rMulV X.K) := op_mul.or (op_mulS.or (op_repT.or op_rep))
theorem ok_mul {mg : G} : Op2 mg (rMulV mg.K) dMul := op2_of fun W H a b x y d Q ha hb tr e k => by
  unfold dMul at e
  split at e
  · split at e
    · obtain ⟨_, rfl⟩ := ha; obtain ⟨_, rfl⟩ := hb
      obtain rfl := Option.some.inj e
      exact .inl ⟨_, _, rfl, rfl, by assumption, k.old ⟨rfl, rfl⟩⟩
    · cases e
  · split at e
    · rename_i hz
      obtain ⟨_, rfl⟩ := ha; obtain ⟨_, rfl⟩ := hb
      obtain rfl := Option.some.inj e
      exact .inr (.inl ⟨_, _, rfl, rfl, mulOk_small hz.1 hz.2.1 hz.2.2, k.old ⟨rfl, rfl⟩⟩)
    · cases e
  · split at e
    · rename_i xs n hz
      obtain ⟨_, rfl⟩ := hb
      obtain rfl := Option.some.inj e
      obtain ⟨p, us, rfl, h1, _, h2⟩ := ha.tup0
      exact .inr (.inr (.inl ⟨p, n, us, rfl, rfl, SqT.of h1, fun z => hz.1 (List.length_eq_zero_iff.mp (by rw [h2.len, z]; rfl)), hz.2.1, hz.2.2.1, by rw [← h2.len]; exact hz.2.2.2, k.tup (Rs.rep0 h2 _) tr⟩))
    · cases e
  · split at e
    · rename_i o xs n hz
      obtain ⟨_, rfl⟩ := hb
      obtain rfl := Option.some.inj e
      obtain ⟨p, us, rfl, h1, _, h2, _⟩ := ha.lst0
      exact .inr (.inr (.inr ⟨p, n, us, rfl, rfl, h1, hz.1, hz.2.1, by rw [← h2.len]; exact hz.2.2, k.lst (Rs.rep0 h2 _)⟩))
    · cases e
  · cases e

/-! ### comparisons -/
def dLt : D → D → Option D
  | .int i, .int j => some (.bl (decide (i < j)))
  | _, _ => none
def dLe : D → D → Option D
  | .int i, .int j => some (.bl (decide (i ≤ j)))
  | _, _ => none
def dGt : D → D → Option D
  | .int i, .int j => some (.bl (decide (j < i)))
  | _, _ => none
def dGe : D → D → Option D
  | .int i, .int j => some (.bl (decide (j ≤ i)))
  | _, _ => none
theorem ok_lt {mg : G} : Op2 mg (rI0 fun i j => .bl (decide (i < j))) dLt := op2_of fun W H a b x y d Q ha hb tr e k => by
  unfold dLt at e
  split at e
  · obtain ⟨_, rfl⟩ := ha; obtain ⟨_, rfl⟩ := hb
    obtain rfl := Option.some.inj e
    exact ⟨_, _, rfl, rfl, k.old ⟨rfl, rfl⟩⟩
  · cases e
theorem ok_le {mg : G} : Op2 mg (rI0 fun i j => .bl (decide (i ≤ j))) dLe := op2_of fun W H a b x y d Q ha hb tr e k => by
  unfold dLe at e
  split at e
  · obtain ⟨_, rfl⟩ := ha; obtain ⟨_, rfl⟩ := hb
    obtain rfl := Option.some.inj e
    exact ⟨_, _, rfl, rfl, k.old ⟨rfl, rfl⟩⟩
  · cases e
theorem ok_gt {mg : G} : Op2 mg (rI0 fun i j => .bl (decide (j < i))) dGt := op2_of fun W H a b x y d Q ha hb tr e k => by
  unfold dGt at e
  split at e
  · obtain ⟨_, rfl⟩ := ha; obtain ⟨_, rfl⟩ := hb
    obtain rfl := Option.some.inj e
    exact ⟨_, _, rfl, rfl, k.old ⟨rfl, rfl⟩⟩
  · cases e
theorem ok_ge {mg : G} : Op2 mg (rI0 fun i j => .bl (decide (j ≤ i))) dGe := op2_of fun W H a b x y d Q ha hb tr e k => by
  unfold dGe at e
  split at e
  · obtain ⟨_, rfl⟩ := ha; obtain ⟨_, rfl⟩ := hb
    obtain rfl := Option.some.inj e
    exact ⟨_, _, rfl, rfl, k.old ⟨rfl, rfl⟩⟩
  · cases e

mutual
/-- as the library's data -/
def D.py : D → Option PyData
  | .non => some .none
  | .bl b => some (.bool b)
  | .int i => some (.int i)
  | .str s => some (.str s)
  | .tup xs => (pys xs).map .tuple
  | .lst _ xs => (pys xs).map .list
  | .scr ns => some (.list (ns.map .int))
  | .ins _ _ _ _ => none
  | .dic _ _ _ => none
def pys : List D → Option (List PyData)
  | [] => some []
  | d :: ds => d.py.bind fun p => (pys ds).map (p :: ·)
end
mutual
theorem R.dp {mg : G} {H : Hp} {W : Addr → Prop} : ∀ (d : D) (fp : List Addr) (v : V) (p : PyData), R mg H W d fp v → d.py = some p → Dp mg.K H v p
  | .non, _, _, _, h, e => by obtain ⟨_, rfl⟩ := h; obtain rfl := Option.some.inj e; exact .non
  | .bl _, _, _, _, h, e => by obtain ⟨_, rfl⟩ := h; obtain rfl := Option.some.inj e; exact .bl _
  | .int _, _, _, _, h, e => by obtain ⟨_, rfl⟩ := h; obtain rfl := Option.some.inj e; exact .int _
  | .str _, _, _, _, h, e => by obtain ⟨_, rfl⟩ := h; obtain rfl := Option.some.inj e; exact .str _
  | .tup xs, fp, v, p, h, e => by
    obtain ⟨a, vs, rfl, h1, h2⟩ := h.tq rfl
    simp only [D.py, Option.map_eq_some_iff] at e
    obtain ⟨ps, e, rfl⟩ := e
    exact .tup h1 (Rs.dp xs fp vs ps h2 e)
  | .lst o xs, fp, v, p, h, e => by
    obtain ⟨a, vs, f1, rfl, h1, h2, _⟩ := h.sq rfl
    simp only [D.py, Option.map_eq_some_iff] at e
    obtain ⟨ps, e, rfl⟩ := e
    exact .lst h1 (Rs.dp xs f1 vs ps h2 e)
  | .scr ns, fp, v, p, h, e => by
    simp only [R] at h
    obtain ⟨_, a, rfl, h⟩ := h
    obtain rfl := Option.some.inj e
    refine .lst (xs := ns.map V.int) ?_ ?_
    · rcases h with ⟨o, h1, _⟩ | ⟨o, its, n, h1, h2, h3, h4, h5, h6⟩
      · exact .inl (.inr ⟨o, h1⟩)
      · exact .inr ⟨o, its, n, h1, h2, h3, h4, h5, h6⟩
    · clear h e
      induction ns with
      | nil => exact .nil
      | cons n ns ih => exact .cons (.int n) ih
  | .ins _ _ _ _, _, _, _, _, e => by simp [D.py] at e
  | .dic _ _ _, _, _, _, _, e => by simp [D.py] at e
theorem Rs.dp {mg : G} {H : Hp} {W : Addr → Prop} : ∀ (ds : List D) (fp : List Addr) (vs : List V) (ps : List PyData), Rs mg H W ds fp vs → pys ds = some ps → DpAll mg.K H vs ps
  | [], _, _, _, h, e => by obtain ⟨_, rfl⟩ := h; obtain rfl := Option.some.inj e; exact .nil
  | d :: ds, fp, vs, ps, h, e => by
    obtain ⟨f1, f2, v, us, rfl, rfl, h1, h2⟩ := h
    simp only [pys, Option.bind_eq_some_iff, Option.map_eq_some_iff] at e
    obtain ⟨p, e1, qs, e2, rfl⟩ := e
    exact .cons (R.dp d f1 v p h1 e1) (Rs.dp ds f2 us qs h2 e2)
end
/-- == of scalars -/
def dEqS : D → D → Option Bool
  | .int i, .int j => some (i == j)
  | .str s, .str t => some (s == t)
  | .bl a, .bl b => some (a == b)
  | .non, .non => some true
  | .non, .int _ => some false | .int _, .non => some false | .non, .bl _ => some false | .bl _, .non => some false | .non, .str _ => some false | .str _, .non => some false
  | .int _, .str _ => some false | .str _, .int _ => some false | .bl _, .str _ => some false | .str _, .bl _ => some false
  | _, _ => none
def dEqP (a b : D) : Option Bool := match a.py, b.py with
  | some p, some q => if SeqAt.shaped p && SeqAt.shaped q then some (PyData.eqv p q) else none
  | _, _ => none
def dEqB (a b : D) : Option Bool := match dEqS a b with
  | some k => some k
  | none => dEqP a b
def dEq (a b : D) : Option D := (dEqB a b).map .bl
def dNe (a b : D) : Option D := (dEqB a b).map fun k => .bl !k
def rEqV (K : PySem.W.Frag) : R2 := fun x y H Q => rEq x y H Q ∨ rEqD K x y H Q
def rNeV (K : PySem.W.Frag) : R2 := fun x y H Q => rNe x y H Q ∨ rNeD K x y H Q
theorem opr_eq {X : Cx} (hu : X.A.units + 64 < cLine) : OpR X (compareOp .Eq) (rEqV X.K) := op_eq.or (op_eqD hu)
theorem opr_ne {X : Cx} (hu : X.A.units + 64 < cLine) : OpR X (compareOp .NotEq) (rNeV X.K) := op_ne.or (op_neD hu)
theorem eqS_ok {mg : G} {H : Hp} {W : Addr → Prop} {a b : D} {x y : V} {k : Bool} (ha : R mg H W a [] x) (hb : R mg H W b [] y) (e : dEqS a b = some k) : scal x y = true ∧ decide (x = y) = k := by
  unfold dEqS at e
  split at e <;> first | cases e; done | skip
  all_goals
    obtain ⟨_, rfl⟩ := ha
    obtain ⟨_, rfl⟩ := hb
    obtain rfl := Option.some.inj e
    first
      | exact ⟨rfl, dec_int⟩
      | exact ⟨rfl, dec_str⟩
      | exact ⟨rfl, dec_bl⟩
      | exact ⟨rfl, by simp⟩
theorem eqP_ok {mg : G} {H : Hp} {W : Addr → Prop} {a b : D} {x y : V} {k : Bool} (ha : R mg H W a [] x) (hb : R mg H W b [] y) (e : dEqP a b = some k) : ∃ d e, Dp mg.K H x d ∧ Dp mg.K H y e ∧ SeqAt.shaped d = true ∧ SeqAt.shaped e = true ∧ PyData.eqv d e = k := by
  unfold dEqP at e
  split at e
  · rename_i p q hp hq
    split at e
    · rename_i hs
      rw [Bool.and_eq_true] at hs
      exact ⟨p, q, R.dp _ _ _ _ ha hp, R.dp _ _ _ _ hb hq, hs.1, hs.2, Option.some.inj e⟩
    · cases e
  · cases e
theorem eqB_split {a b : D} {k : Bool} (e : dEqB a b = some k) : dEqS a b = some k ∨ dEqP a b = some k := by
  unfold dEqB at e
  split at e
  · rename_i j h
    exact .inl (by rw [h]; exact e)
  · exact .inr e
theorem ok_eq {mg : G} : Op2 mg (rEqV mg.K) dEq := op2_of fun W H a b x y d Q ha hb tr e k => by
  simp only [dEq, Option.map_eq_some_iff] at e
  obtain ⟨c, e, rfl⟩ := e
  rcases eqB_split e with e | e
  · obtain ⟨h1, h2⟩ := eqS_ok ha hb e
    exact .inl ⟨h1, by rw [h2]; exact k.old ⟨rfl, rfl⟩⟩
  · obtain ⟨p, q, h1, h2, h3, h4, h5⟩ := eqP_ok ha hb e
    exact .inr ⟨p, q, h1, h2, h3, h4, by rw [h5]; exact k.old ⟨rfl, rfl⟩⟩
theorem ok_ne {mg : G} : Op2 mg (rNeV mg.K) dNe := op2_of fun W H a b x y d Q ha hb tr e k => by
  simp only [dNe, Option.map_eq_some_iff] at e
  obtain ⟨c, e, rfl⟩ := e
  rcases eqB_split e with e | e
  · obtain ⟨h1, h2⟩ := eqS_ok ha hb e
    exact .inl ⟨h1, by rw [h2]; exact k.old ⟨rfl, rfl⟩⟩
  · obtain ⟨p, q, h1, h2, h3, h4, h5⟩ := eqP_ok ha hb e
    exact .inr ⟨p, q, h1, h2, h3, h4, by rw [h5]; exact k.old ⟨rfl, rfl⟩⟩

/-! ### in, not in -/
def dInB : D → D → Option Bool
  | .str s, .str z => match s.cps.toList with | [c] => some (decide (c ∈ z.cps.toList)) | _ => none
  | d, .tup xs => match d.py, pys xs with | some p, some ps => if SeqAt.shaped p && SeqAt.shaped (.tuple ps) then some (ps.any fun z => PyData.eqv z p) else none | _, _ => none
  | d, .lst _ xs => match d.py, pys xs with | some p, some ps => if SeqAt.shaped p && SeqAt.shaped (.list ps) then some (ps.any fun z => PyData.eqv z p) else none | _, _ => none
  | _, _ => none
def dIn (a b : D) : Option D := (dInB a b).map .bl
def dNotIn (a b : D) : Option D := (dInB a b).map fun k => .bl !k
def rInT (K : PySem.W.Frag) (f : Bool → Bool) : R2 := fun x y H Q => ∃ d ds, Dp K H x d ∧ Dp K H y (.tuple ds) ∧ SeqAt.shaped d = true ∧ SeqAt.shaped (.tuple ds) = true ∧ Q (.bl (f (ds.any fun z => PyData.eqv z d))) H
theorem op_inT {X : Cx} (hu : X.A.units + 65 < cLine) : OpR X (compareOp .In) (rInT X.K id) := by
  intro pins s σ H x y v u Q I rx ry h
  obtain ⟨d, ds, hd, he, sd, se, q⟩ := h
  obtain ⟨as, r1⟩ := Dp.reads I d x v hd rx
  obtain ⟨bs, r2⟩ := Dp.reads I (.tuple ds) y u he ry
  exact SeqAt.in_tuple_reads r2 r1 (SeqAt.canLay_of_shaped se) (SeqAt.canLay_of_shaped sd) (room_in_shaped sd hu) ⟨.bl _, H, I, rfl, q⟩
theorem op_notInT {X : Cx} (hu : X.A.units + 65 < cLine) : OpR X (compareOp .NotIn) (rInT X.K not) := by
  intro pins s σ H x y v u Q I rx ry h
  obtain ⟨d, ds, hd, he, sd, se, q⟩ := h
  obtain ⟨as, r1⟩ := Dp.reads I d x v hd rx
  obtain ⟨bs, r2⟩ := Dp.reads I (.tuple ds) y u he ry
  exact SeqAt.notIn_tuple_reads r2 r1 (SeqAt.canLay_of_shaped se) (SeqAt.canLay_of_shaped sd) (room_in_shaped sd hu) ⟨.bl _, H, I, rfl, q⟩
def rInSg (f : Bool → Bool) : R2 := fun x y H Q => ∃ (c : Nat) (z : Str), x = .str ⟨#[c]⟩ ∧ y = .str z ∧ Q (.bl (f (decide (c ∈ z.cps.toList)))) H
def rInV (K : PySem.W.Frag) (f : Bool → Bool) : R2 := fun x y H Q => rInSg f x y H Q ∨ rInT K f x y H Q ∨ ∃ d ds, Dp K H x d ∧ Dp K H y (.list ds) ∧ SeqAt.shaped d = true ∧ SeqAt.shaped (.list ds) = true ∧ Q (.bl (f (ds.any fun z => PyData.eqv z d))) H
theorem opr_in {X : Cx} (hu : X.A.units + 65 < cLine) : OpR X (compareOp .In) (rInV X.K id) := OpR.or (r := rInSg id) op_in_sign ((op_inT hu).or (op_inD hu))
theorem opr_notIn {X : Cx} (hu : X.A.units + 65 < cLine) : OpR X (compareOp .NotIn) (rInV X.K not) := OpR.or (r := rInSg not) op_notIn_sign ((op_notInT hu).or (op_notInD hu))
theorem in_ok {mg : G} {H : Hp} {W : Addr → Prop} {a b : D} {x y : V} {c : Bool} {f : Bool → Bool} {Q : VK} (ha : R mg H W a [] x) (hb : R mg H W b [] y) (e : dInB a b = some c) (k : Q (.bl (f c)) H) : rInV mg.K f x y H Q := by
  unfold dInB at e
  split at e
  · rename_i s z
    obtain ⟨_, rfl⟩ := ha; obtain ⟨_, rfl⟩ := hb
    split at e
    · rename_i c' hc
      obtain rfl := Option.some.inj e
      refine .inl ⟨c', z, ?_, rfl, k⟩
      obtain ⟨cp⟩ := s
      obtain ⟨l⟩ := cp
      simp at hc
      rw [hc]
    · cases e
  · rename_i xs _
    split at e
    · rename_i p ps hp hps
      split at e
      · rename_i hs
        rw [Bool.and_eq_true] at hs
        obtain rfl := Option.some.inj e
        exact .inr (.inl ⟨p, ps, R.dp _ _ _ _ ha hp, R.dp _ _ _ (.tuple ps) hb (by simp [D.py, hps]), hs.1, hs.2, k⟩)
      · cases e
    · cases e
  · rename_i o xs _
    split at e
    · rename_i p ps hp hps
      split at e
      · rename_i hs
        rw [Bool.and_eq_true] at hs
        obtain rfl := Option.some.inj e
        exact .inr (.inr ⟨p, ps, R.dp _ _ _ _ ha hp, R.dp _ _ _ (.list ps) hb (by simp [D.py, hps]), hs.1, hs.2, k⟩)
      · cases e
    · cases e
  · cases e
theorem ok_in {mg : G} : Op2 mg (rInV mg.K id) dIn := op2_of fun W H a b x y d Q ha hb tr e k => by
  simp only [dIn, Option.map_eq_some_iff] at e
  obtain ⟨c, e, rfl⟩ := e
  exact in_ok ha hb e (k.old ⟨rfl, rfl⟩)
theorem ok_notIn {mg : G} : Op2 mg (rInV mg.K not) dNotIn := op2_of fun W H a b x y d Q ha hb tr e k => by
  simp only [dNotIn, Option.map_eq_some_iff] at e
  obtain ⟨c, e, rfl⟩ := e
  exact in_ok ha hb e (k.old ⟨rfl, rfl⟩)

/-! ### is, is not -/
def dIsB : D → D → Option Bool
  | .non, .non => some true
  | .bl a, .bl b => some (a == b)
  | _, .non => some false
  | _, _ => none
def dIs (a b : D) : Option D := (dIsB a b).map .bl
def dIsNot (a b : D) : Option D := (dIsB a b).map fun k => .bl !k
def rIsV : R2 := fun x y H Q => (y = .non ∧ Q (.bl (decide (x = .non))) H) ∨ rIsB x y H Q
def rIsNotV : R2 := fun x y H Q => (y = .non ∧ Q (.bl (!decide (x = .non))) H) ∨ rNotB x y H Q
theorem opr_is {X : Cx} : OpR X (compareOp .Is) rIsV := op_isN.or op_isBl
theorem opr_isNot {X : Cx} : OpR X (compareOp .IsNot) rIsNotV := op_notN.or op_notBl
theorem R.ne_non {mg : G} {H : Hp} {W : Addr → Prop} {d : D} {fp : List Addr} {v : V} (h : R mg H W d fp v) (hd : d ≠ .non) : v ≠ .non := by
  intro e
  subst e
  cases d with
  | non => exact hd rfl
  | bl b => obtain ⟨_, e⟩ := h; cases e
  | int i => obtain ⟨_, e⟩ := h; cases e
  | str i => obtain ⟨_, e⟩ := h; cases e
  | tup xs => simp [R] at h
  | lst o xs => cases o <;> simp [R] at h
  | ins o c ns xs => cases o <;> simp [R] at h
  | dic o ks xs => cases o <;> simp [R] at h
  | scr ns => simp [R] at h
theorem isB_ok {mg : G} {H : Hp} {W : Addr → Prop} {a b : D} {x y : V} {k : Bool} (ha : R mg H W a [] x) (hb : R mg H W b [] y) (e : dIsB a b = some k) : (y = .non ∧ decide (x = .non) = k) ∨ ∃ p q : Bool, x = .bl p ∧ y = .bl q ∧ decide (p = q) = k := by
  unfold dIsB at e
  split at e
  · obtain ⟨_, rfl⟩ := ha; obtain ⟨_, rfl⟩ := hb
    obtain rfl := Option.some.inj e
    exact .inl ⟨rfl, by simp⟩
  · obtain ⟨_, rfl⟩ := ha; obtain ⟨_, rfl⟩ := hb
    obtain rfl := Option.some.inj e
    exact .inr ⟨_, _, rfl, rfl, by rw [Bool.eq_iff_iff]; simp⟩
  · rename_i hn
    obtain ⟨_, rfl⟩ := hb
    obtain rfl := Option.some.inj e
    exact .inl ⟨rfl, by simp [ha.ne_non fun z => hn z]⟩
  · cases e
theorem ok_is {mg : G} : Op2 mg rIsV dIs := op2_of fun W H a b x y d Q ha hb tr e k => by
  simp only [dIs, Option.map_eq_some_iff] at e
  obtain ⟨c, e, rfl⟩ := e
  rcases isB_ok ha hb e with ⟨h1, h2⟩ | ⟨p, q, h1, h2, h3⟩
  · exact .inl ⟨h1, by rw [h2]; exact k.old ⟨rfl, rfl⟩⟩
  · exact .inr ⟨p, q, h1, h2, by rw [h3]; exact k.old ⟨rfl, rfl⟩⟩
theorem ok_isNot {mg : G} : Op2 mg rIsNotV dIsNot := op2_of fun W H a b x y d Q ha hb tr e k => by
  simp only [dIsNot, Option.map_eq_some_iff] at e
  obtain ⟨c, e, rfl⟩ := e
  rcases isB_ok ha hb e with ⟨h1, h2⟩ | ⟨p, q, h1, h2, h3⟩
  · exact .inl ⟨h1, by rw [h2]; exact k.old ⟨rfl, rfl⟩⟩
  · exact .inr ⟨p, q, h1, h2, by rw [h3]; exact k.old ⟨rfl, rfl⟩⟩
end VL


set_option Elab.async false
set_option linter.all false
set_option maxRecDepth 100000
set_option maxHeartbeats 4000000
namespace VL
open PySem PySem.Spec L2
open PyProof.Rows hiding St

/-! ### o[i] -/
def dIx : D → D → Option D
  | .str z, .int i => if z.length ≤ sizeLine then (atI z.cps.toList i).map fun c => .str ⟨#[c]⟩ else none
  | .tup xs, .int i => atI xs i
  | .lst _ xs, .int i => atI xs i
  | .scr ns, .int i => (atI ns i).map .int
  | _, _ => none
section
variable {mg : G} {W : Addr → Prop} {H : Hp}
theorem Rs.at0 {xs : List D} {vs : List V} {i : Int} {d : D} (h : Rs mg H W xs [] vs) (e : atI xs i = some d) : ∃ v, atI vs i = some v ∧ R mg H W d [] v := by
  unfold atI at e ⊢
  rw [← h.len]
  obtain ⟨j, e1, e2⟩ := Option.bind_eq_some_iff.mp e
  obtain ⟨v, e3, r⟩ := h.get0 e2
  exact ⟨v, by rw [e1]; exact e3, r⟩
theorem atI_map {α β : Type} (f : α → β) (xs : List α) (i : Int) : atI (xs.map f) i = (atI xs i).map f := by
  unfold atI
  rw [List.length_map]
  cases ixN xs.length i with
  | none => rfl
  | some j => simp
theorem ok_ix : Op2 mg (rIx mg.K) dIx := op2_of fun W H a b x y d Q ha hb tr e k => by
  unfold dIx at e
  split at e
  · obtain ⟨_, rfl⟩ := ha; obtain ⟨_, rfl⟩ := hb
    split at e
    · obtain ⟨c, e1, rfl⟩ := Option.map_eq_some_iff.mp e
      exact .inr (.inr ⟨_, _, c, rfl, rfl, by assumption, e1, k.old ⟨rfl, rfl⟩⟩)
    · cases e
  · obtain ⟨_, rfl⟩ := hb
    obtain ⟨p, us, rfl, h1, _, h2⟩ := ha.tup0
    obtain ⟨v, e1, r⟩ := h2.at0 e
    exact .inr (.inl ⟨p, us, _, v, rfl, rfl, SqT.of h1, e1, k.old r⟩)
  · obtain ⟨_, rfl⟩ := hb
    obtain ⟨p, us, rfl, h1, h2⟩ := ha.sq0 rfl
    obtain ⟨v, e1, r⟩ := h2.at0 e
    exact .inl ⟨p, us, _, v, rfl, rfl, h1, e1, k.old r⟩
  · obtain ⟨_, rfl⟩ := hb
    obtain ⟨p, us, rfl, h1, h2⟩ := ha.sq0 rfl
    rw [← atI_map] at e
    obtain ⟨v, e1, r⟩ := h2.at0 e
    exact .inl ⟨p, us, _, v, rfl, rfl, h1, e1, k.old r⟩
  · cases e

/-! ### o[i:j] -/
def cutL {α : Type} (xs : List α) (lo hi : Option Int) : List α := (xs.drop (HT.sIx xs.length 0 lo)).take (HT.sIx xs.length xs.length hi - HT.sIx xs.length 0 lo)
def dSl (d : D) (lo hi : Option Int) : Option D := match d with
  | .str z => if z.length ≤ sizeLine then some (.str (Txt.slice z lo hi)) else none
  | .tup xs => some (.tup (cutL xs lo hi))
  | .lst _ xs => some (.lst true (cutL xs lo hi))
  | .scr ns => some (.lst true (cutL (ns.map .int) lo hi))
  | _ => none
theorem Rs.cut0 {xs : List D} {vs : List V} (h : Rs mg H W xs [] vs) (lo hi : Option Int) : Rs mg H W (cutL xs lo hi) [] (cutV vs lo hi) := by
  unfold cutL cutV
  rw [h.len]
  exact Rs.take0 _ (Rs.drop0 _ h)
def rSlV (K : PySem.W.Frag) : V → Option Int → Option Int → Hp → VK → Prop := fun x lo hi H Q => C8.rSlX x lo hi H Q ∨ rSlA K x lo hi H Q ∨ rSlL K x lo hi H Q
theorem slr_v {X : Cx} : SlR X (rSlV X.K) := SlR.or (r := C8.rSlX) C8.sl_txt (sl_tupA.or sl_list)
theorem cut_whole {α : Type} {xs : List α} {lo hi : Option Int} (h : HT.sIx xs.length 0 lo = 0 ∧ HT.sIx xs.length xs.length hi = xs.length) : cutL xs lo hi = xs := by
  unfold cutL
  rw [h.1, h.2]; simp
theorem ok_sl : OpSl mg (rSlV mg.K) dSl := fun lo hi => op1_of fun W H a x d Q ha tr e k => by
  unfold dSl at e
  split at e
  · obtain ⟨_, rfl⟩ := ha
    split at e
    · obtain rfl := Option.some.inj e
      exact .inl ⟨_, rfl, by assumption, k.old ⟨rfl, rfl⟩⟩
    · cases e
  · obtain rfl := Option.some.inj e
    have ha' := ha
    obtain ⟨p, us, rfl, h1, _, h2⟩ := ha.tup0
    refine .inr (.inl ⟨p, us, rfl, SqT.of h1, fun hw => ?_, fun _ => k.tup (h2.cut0 lo hi) tr⟩)
    rw [← h2.len] at hw
    rw [cut_whole hw] at k
    exact k.old ha'
  · obtain rfl := Option.some.inj e
    obtain ⟨p, us, rfl, h1, h2⟩ := ha.sq0 rfl
    exact .inr (.inr ⟨p, us, rfl, h1, k.lst (h2.cut0 lo hi)⟩)
  · obtain rfl := Option.some.inj e
    obtain ⟨p, us, rfl, h1, h2⟩ := ha.sq0 rfl
    exact .inr (.inr ⟨p, us, rfl, h1, k.lst (h2.cut0 lo hi)⟩)
  · cases e
end

/-! ### built-in functions -/
def dLen : D → Option D
  | .str z => if z.length ≤ sizeLine then some (.int z.length) else none
  | .tup xs => some (.int xs.length)
  | .lst _ xs => some (.int xs.length)
  | .scr ns => some (.int ns.length)
  | .dic _ ks xs => some (.int xs.length)
  | _ => none
def rLenV (K : PySem.W.Frag) : List V → Hp → VK → Prop := fun xs H Q => (∃ x n, xs = [x] ∧ LenV K x H n ∧ Q (.int n) H) ∨ ∃ a kvs, xs = [V.ref a] ∧ H a = some (.dK kvs) ∧ Q (.int kvs.length) H
theorem cr_len {X : Cx} : CallR X (.builtin "len") (rLenV X.K) := call_len.or call_lenD
theorem R.dic0 {mg : G} {H : Hp} {W : Addr → Prop} {o : Bool} {ks : List Key} {xs : List D} {v : V} (h : R mg H W (.dic o ks xs) [] v) : ∃ a kvs, v = .ref a ∧ H a = some (.dK kvs) ∧ ¬ W a ∧ kvs.map (·.1) = ks ∧ Rs mg H W xs [] (kvs.map (·.2)) := by
  cases o with
  | true =>
    simp only [R] at h
    obtain ⟨a, vs, f1, rfl, e, h1, h2⟩ := h
    cases e
  | false =>
    simp only [R] at h
    obtain ⟨_, a, vs, rfl, ⟨h1, h3⟩, h2, h4⟩ := h
    exact ⟨a, vs, rfl, h1, h3, h2, h4⟩
theorem ok_len {mg : G} : OpS mg (rLenV mg.K) (one dLen) := opS_one fun W H a x d Q ha tr e k => by
  unfold dLen at e
  split at e
  · obtain ⟨_, rfl⟩ := ha
    split at e
    · obtain rfl := Option.some.inj e
      exact .inl ⟨_, _, rfl, ⟨by assumption, rfl⟩, k.old ⟨rfl, rfl⟩⟩
    · cases e
  · obtain rfl := Option.some.inj e
    obtain ⟨p, us, rfl, h1, _, h2⟩ := ha.tup0
    exact .inl ⟨_, _, rfl, .inr ⟨us, SqT.of h1, rfl⟩, k.old ⟨rfl, by rw [h2.len]⟩⟩
  · obtain rfl := Option.some.inj e
    obtain ⟨p, us, rfl, h1, h2⟩ := ha.sq0 rfl
    exact .inl ⟨_, _, rfl, .inl ⟨us, h1, rfl⟩, k.old ⟨rfl, by rw [h2.len]⟩⟩
  · obtain rfl := Option.some.inj e
    obtain ⟨p, us, rfl, h1, h2⟩ := ha.sq0 rfl
    exact .inl ⟨_, _, rfl, .inl ⟨us, h1, rfl⟩, k.old ⟨rfl, by rw [← h2.len, List.length_map]⟩⟩
  · obtain rfl := Option.some.inj e
    obtain ⟨p, kvs, rfl, h1, _, _, h2⟩ := ha.dic0
    exact .inr ⟨_, _, rfl, h1, k.old ⟨rfl, by rw [h2.len, List.length_map]⟩⟩
  · cases e
/-- a list of bools, of lsI, of texts -/
def lsB : List D → Option (List Bool)
  | [] => some []
  | .bl b :: ds => (lsB ds).map (b :: ·)
  | _ :: _ => none
def lsI : List D → Option (List Int)
  | [] => some []
  | .int b :: ds => (lsI ds).map (b :: ·)
  | _ :: _ => none
def lsS : List D → Option (List Str)
  | [] => some []
  | .str b :: ds => (lsS ds).map (b :: ·)
  | _ :: _ => none
theorem Rs.lsB {mg : G} {H : Hp} {W : Addr → Prop} : ∀ {ds : List D} {vs : List V} {bs : List Bool}, Rs mg H W ds [] vs → VL.lsB ds = some bs → vs = bs.map V.bl
  | [], vs, bs, h, e => by obtain rfl := Rs.nil_iff.mp h; obtain rfl := Option.some.inj e; rfl
  | d :: ds, vs, bs, h, e => by
    obtain ⟨v, us, rfl, h1, h2⟩ := Rs.cons0.mp h
    cases d <;> try (simp [VL.lsB] at e; done)
    obtain ⟨_, rfl⟩ := h1
    obtain ⟨cs, e1, rfl⟩ := Option.map_eq_some_iff.mp e
    rw [h2.lsB e1]; rfl
theorem Rs.lsI {mg : G} {H : Hp} {W : Addr → Prop} : ∀ {ds : List D} {vs : List V} {bs : List Int}, Rs mg H W ds [] vs → VL.lsI ds = some bs → vs = bs.map V.int
  | [], vs, bs, h, e => by obtain rfl := Rs.nil_iff.mp h; obtain rfl := Option.some.inj e; rfl
  | d :: ds, vs, bs, h, e => by
    obtain ⟨v, us, rfl, h1, h2⟩ := Rs.cons0.mp h
    cases d <;> try (simp [VL.lsI] at e; done)
    obtain ⟨_, rfl⟩ := h1
    obtain ⟨cs, e1, rfl⟩ := Option.map_eq_some_iff.mp e
    rw [h2.lsI e1]; rfl
theorem Rs.lsS {mg : G} {H : Hp} {W : Addr → Prop} : ∀ {ds : List D} {vs : List V} {bs : List Str}, Rs mg H W ds [] vs → VL.lsS ds = some bs → vs = bs.map V.str
  | [], vs, bs, h, e => by obtain rfl := Rs.nil_iff.mp h; obtain rfl := Option.some.inj e; rfl
  | d :: ds, vs, bs, h, e => by
    obtain ⟨v, us, rfl, h1, h2⟩ := Rs.cons0.mp h
    cases d <;> try (simp [VL.lsS] at e; done)
    obtain ⟨_, rfl⟩ := h1
    obtain ⟨cs, e1, rfl⟩ := Option.map_eq_some_iff.mp e
    rw [h2.lsS e1]; rfl
def dAll (d : D) : Option D := d.sq.bind fun xs => (lsB xs).map fun bs => .bl (bs.all id)
def dAny (d : D) : Option D := d.sq.bind fun xs => (lsB xs).map fun bs => .bl (bs.any id)
def dSum (d : D) : Option D := d.sq.bind fun xs => (lsI xs).map fun bs => .int bs.sum
theorem ok_all {mg : G} : OpS mg (rAll mg.K) (one dAll) := opS_one fun W H a x d Q ha tr e k => by
  obtain ⟨xs, e1, e2⟩ := Option.bind_eq_some_iff.mp e
  obtain ⟨bs, e3, rfl⟩ := Option.map_eq_some_iff.mp e2
  obtain ⟨p, us, rfl, h1, h2⟩ := ha.sq0 e1
  obtain rfl := h2.lsB e3
  exact ⟨p, bs, rfl, h1, k.old ⟨rfl, rfl⟩⟩
theorem ok_any {mg : G} : OpS mg (rAny mg.K) (one dAny) := opS_one fun W H a x d Q ha tr e k => by
  obtain ⟨xs, e1, e2⟩ := Option.bind_eq_some_iff.mp e
  obtain ⟨bs, e3, rfl⟩ := Option.map_eq_some_iff.mp e2
  obtain ⟨p, us, rfl, h1, h2⟩ := ha.sq0 e1
  obtain rfl := h2.lsB e3
  exact ⟨p, bs, rfl, h1, k.old ⟨rfl, rfl⟩⟩
theorem ok_sum {mg : G} : OpS mg (rSum mg.K) (one dSum) := opS_one fun W H a x d Q ha tr e k => by
  obtain ⟨xs, e1, e2⟩ := Option.bind_eq_some_iff.mp e
  obtain ⟨bs, e3, rfl⟩ := Option.map_eq_some_iff.mp e2
  obtain ⟨p, us, rfl, h1, h2⟩ := ha.sq0 e1
  obtain rfl := h2.lsI e3
  exact ⟨p, bs, rfl, h1, k.old ⟨rfl, rfl⟩⟩
def dList : D → Option D
  | .lst _ xs => some (.lst true xs)
  | .tup xs => some (.lst true xs)
  | .scr ns => some (.lst true (ns.map .int))
  | _ => none
def dTuple : D → Option D
  | .lst _ xs => some (.tup xs)
  | .tup xs => some (.tup xs)
  | .scr ns => some (.tup (ns.map .int))
  | _ => none
def rListV (K : PySem.W.Frag) : List V → Hp → VK → Prop := fun xs H Q => ∃ p ys, xs = [.ref p] ∧ (SqL K H p ys ∨ SqT K H p ys) ∧ ∀ l, H l = none → Q (.ref l) (upd H l (.lst ys))
def rTupV (K : PySem.W.Frag) : List V → Hp → VK → Prop := fun xs H Q => ∃ p ys, xs = [.ref p] ∧ ((SqL K H p ys ∧ ∀ l, H l = none → Q (.ref l) (upd H l (.tup ys))) ∨ (SqT K H p ys ∧ Q (.ref p) H))
theorem cr_list {X : Cx} : CallR X (.type "list") (rListV X.K) := call_list_of
theorem cr_tuple {X : Cx} : CallR X (.type "tuple") (rTupV X.K) := call_tuple_of
theorem ok_list {mg : G} : OpS mg (rListV mg.K) (one dList) := opS_one fun W H a x d Q ha tr e k => by
  unfold dList at e
  split at e
  · obtain rfl := Option.some.inj e
    obtain ⟨p, us, rfl, h1, h2⟩ := ha.sq0 rfl
    exact ⟨p, us, rfl, .inl h1, k.lst h2⟩
  · obtain rfl := Option.some.inj e
    obtain ⟨p, us, rfl, h1, _, h2⟩ := ha.tup0
    exact ⟨p, us, rfl, .inr (SqT.of h1), k.lst h2⟩
  · obtain rfl := Option.some.inj e
    obtain ⟨p, us, rfl, h1, h2⟩ := ha.sq0 rfl
    exact ⟨p, us, rfl, .inl h1, k.lst h2⟩
  · cases e
theorem ok_tuple {mg : G} : OpS mg (rTupV mg.K) (one dTuple) := opS_one fun W H a x d Q ha tr e k => by
  unfold dTuple at e
  split at e
  · obtain rfl := Option.some.inj e
    obtain ⟨p, us, rfl, h1, h2⟩ := ha.sq0 rfl
    exact ⟨p, us, rfl, .inl ⟨h1, k.tup h2 tr⟩⟩
  · obtain rfl := Option.some.inj e
    have ha' := ha
    obtain ⟨p, us, rfl, h1, _, h2⟩ := ha.tup0
    exact ⟨p, us, rfl, .inr ⟨SqT.of h1, k.old ha'⟩⟩
  · obtain rfl := Option.some.inj e
    obtain ⟨p, us, rfl, h1, h2⟩ := ha.sq0 rfl
    exact ⟨p, us, rfl, .inl ⟨h1, k.tup h2 tr⟩⟩
  · cases e
def dInt : D → Option D
  | .int i => some (.int i)
  | .bl b => some (.int (if b then 1 else 0))
  | .str s => if s.length ≤ 640 then (PySem.intText? s).map .int else none
  | _ => none
def rIntV : List V → Hp → VK → Prop := fun xs H Q => ((∃ i, xs = [.int i] ∧ Q (.int i) H) ∨ ∃ k, xs = [.bl k] ∧ Q (.int (if k then 1 else 0)) H) ∨ ∃ a n, xs = [.str a] ∧ PySem.intText? a = some n ∧ a.length ≤ 640 ∧ Q (.int n) H
theorem cr_int {X : Cx} : CallR X (.type "int") rIntV := call_int1.or call_int_str
theorem ok_int {mg : G} : OpS mg rIntV (one dInt) := opS_one fun W H a x d Q ha tr e k => by
  unfold dInt at e
  split at e
  · obtain rfl := Option.some.inj e; obtain ⟨_, rfl⟩ := ha
    exact .inl (.inl ⟨_, rfl, k.old ⟨rfl, rfl⟩⟩)
  · obtain rfl := Option.some.inj e; obtain ⟨_, rfl⟩ := ha
    exact .inl (.inr ⟨_, rfl, k.old ⟨rfl, rfl⟩⟩)
  · obtain ⟨_, rfl⟩ := ha
    split at e
    · obtain ⟨n, e1, rfl⟩ := Option.map_eq_some_iff.mp e
      exact .inr ⟨_, n, rfl, e1, by assumption, k.old ⟨rfl, rfl⟩⟩
    · cases e
  · cases e
def dAbs : D → Option D
  | .int i => some (.int (if i < 0 then -i else i))
  | _ => none
def rAbsV : List V → Hp → VK → Prop := fun xs H Q => ∃ i, xs = [.int i] ∧ Q (.int (if i < 0 then -i else i)) H
theorem cr_abs {X : Cx} : CallR X (.builtin "abs") rAbsV := call_abs
theorem ok_abs {mg : G} : OpS mg rAbsV (one dAbs) := opS_one fun W H a x d Q ha tr e k => by
  unfold dAbs at e
  split at e
  · obtain rfl := Option.some.inj e; obtain ⟨_, rfl⟩ := ha
    exact ⟨_, rfl, k.old ⟨rfl, rfl⟩⟩
  · cases e
def dStr : D → Option D
  | .int i => if i.natAbs.log2 < 1920 then some (.str (toString i)) else none
  | _ => none
def rStrV : List V → Hp → VK → Prop := fun xs H Q => ∃ i, xs = [.int i] ∧ i.natAbs.log2 < 1920 ∧ Q (.str (toString i)) H
theorem cr_str {X : Cx} : CallR X (.type "str") rStrV := call_str_int
theorem ok_str {mg : G} : OpS mg rStrV (one dStr) := opS_one fun W H a x d Q ha tr e k => by
  unfold dStr at e
  split at e
  · split at e
    · obtain rfl := Option.some.inj e; obtain ⟨_, rfl⟩ := ha
      exact ⟨_, rfl, by assumption, k.old ⟨rfl, rfl⟩⟩
    · cases e
  · cases e
/-- isinstance(x, T), T one of the types below -/
def D.tn : D → Option String
  | .non => some "NoneType" | .bl _ => some "bool" | .int _ => some "int" | .str _ => some "str" | .tup _ => some "tuple" | .lst _ _ => some "list" | .scr _ => some "list" | _ => none
def isiT (T t : String) : Bool := t == T || (t == "bool" && T == "int")
def dIsi (T : String) (d : D) : Option D := d.tn.map fun t => .bl (isiT T t)
theorem R.tyx {mg : G} {H : Hp} {W : Addr → Prop} {d : D} {v : V} {t : String} (h : R mg H W d [] v) (e : d.tn = some t) : TyX mg.K H v (.type t) := by
  cases d with
  | non => obtain ⟨_, rfl⟩ := h; obtain rfl := Option.some.inj e; exact .base .non
  | bl b => obtain ⟨_, rfl⟩ := h; obtain rfl := Option.some.inj e; exact .base (.bl b)
  | int i => obtain ⟨_, rfl⟩ := h; obtain rfl := Option.some.inj e; exact .base (.int i)
  | str s => obtain ⟨_, rfl⟩ := h; obtain rfl := Option.some.inj e; exact .base (.str s)
  | tup xs => obtain ⟨p, us, rfl, h1, _⟩ := h.tup0; obtain rfl := Option.some.inj e; exact .base (.tup h1)
  | lst o xs => obtain ⟨p, us, rfl, h1, _⟩ := h.lst0; obtain rfl := Option.some.inj e; exact .base (.lst h1)
  | scr ns =>
    obtain rfl := Option.some.inj e
    simp only [R] at h
    obtain ⟨_, a, rfl, ⟨o, h1, _⟩ | ⟨o, its, n, h1, h2, _⟩⟩ := h
    · exact .base (.frz h1)
    · exact .kList h1 h2
  | ins _ _ _ _ => simp [D.tn] at e
  | dic _ _ _ => simp [D.tn] at e
def isiOk (T : String) : Prop := ∀ (K : PySem.W.Frag) (t : String), t ∈ ["NoneType", "bool", "int", "str", "tuple", "list"] → PySem.W.kitOne K (.type t) (.type T) = some (isiT T t)
theorem tn_mem {d : D} {t : String} (e : d.tn = some t) : t ∈ ["NoneType", "bool", "int", "str", "tuple", "list"] := by
  cases d <;> simp [D.tn] at e <;> subst e <;> simp
theorem isi_tuple : isiOk "tuple" := fun K t h => by
  simp only [List.mem_cons, List.not_mem_nil, or_false] at h
  rcases h with rfl | rfl | rfl | rfl | rfl | rfl <;> rfl
theorem isi_list : isiOk "list" := fun K t h => by
  simp only [List.mem_cons, List.not_mem_nil, or_false] at h
  rcases h with rfl | rfl | rfl | rfl | rfl | rfl <;> rfl
theorem isi_str : isiOk "str" := fun K t h => by
  simp only [List.mem_cons, List.not_mem_nil, or_false] at h
  rcases h with rfl | rfl | rfl | rfl | rfl | rfl <;> rfl
theorem isi_int : isiOk "int" := fun K t h => by
  simp only [List.mem_cons, List.not_mem_nil, or_false] at h
  rcases h with rfl | rfl | rfl | rfl | rfl | rfl <;> rfl
theorem isi_bool : isiOk "bool" := fun K t h => by
  simp only [List.mem_cons, List.not_mem_nil, or_false] at h
  rcases h with rfl | rfl | rfl | rfl | rfl | rfl <;> rfl
theorem ok_isi {mg : G} {T : String} (hT : isiOk T) : Op1 mg (fun x H Q => rIsi mg.K [x, .ty T] H Q) (dIsi T) := op1_of fun W H a x d Q ha tr e k => by
  obtain ⟨t, e1, rfl⟩ := Option.map_eq_some_iff.mp e
  exact ⟨x, .ty T, .type t, .type T, _, rfl, .ty T, ha.tyx e1, hT mg.K t (tn_mem e1), k.old ⟨rfl, rfl⟩⟩
end VL


set_option Elab.async false
set_option linter.all false
set_option maxRecDepth 100000
set_option maxHeartbeats 4000000
namespace VL
open PySem PySem.Spec L2
open PyProof.Rows hiding St

/-! ### methods of texts and lists that change nothing -/
theorem opM1_of {mg : G} {r : V → List V → Hp → VK → Prop} {g : D → D → Option D} (h : ∀ (W : Addr → Prop) (H : Hp) (a b : D) (x y : V) (d : D) (Q : VK), R mg H W a [] x → R mg H W b [] y → (∀ b, W b → H b ≠ none) → g a b = some d → KK mg W H d Q → r x [y] H Q) :
    OpM mg r (fun a ds => match ds with | [b] => g a b | _ => none) := by
  intro W H ds vs d Q hr tr e k
  match ds, e with
  | [a, b], e =>
    obtain ⟨x, us, rfl, h1, h2⟩ := Rs.cons0.mp hr
    obtain ⟨y, us2, rfl, h4, h3⟩ := Rs.cons0.mp h2
    obtain rfl := Rs.nil_iff.mp h3
    exact ⟨x, [y], rfl, h W H a b x y d Q h1 h4 tr e k⟩
/-- a method with one argument -/
def arg1 (g : D → D → Option D) : D → List D → Option D := fun a ds => match ds with | [b] => g a b | _ => none
def dStarts : D → D → Option D
  | .str a, .str b => some (.bl (Txt.startswith a b))
  | _, _ => none
def rStartsV : V → List V → Hp → VK → Prop := fun x xs H Q => ∃ a b, x = .str a ∧ xs = [.str b] ∧ Q (.bl (Txt.startswith a b)) H
theorem mr_starts {X : Cx} : MtR X "str.startswith" rStartsV := mt_startswith
theorem ok_starts {mg : G} : OpM mg rStartsV (arg1 dStarts) := opM1_of fun W H a b x y d Q ha hb tr e k => by
  unfold dStarts at e
  split at e
  · obtain ⟨_, rfl⟩ := ha; obtain ⟨_, rfl⟩ := hb
    obtain rfl := Option.some.inj e
    exact ⟨_, _, rfl, rfl, k.old ⟨rfl, rfl⟩⟩
  · cases e
def dSplit : D → D → Option D
  | .str a, .str b => if (b.length == 0) = false ∧ a.length + 2 ≤ sizeLine then some (.lst true ((Txt.split a b).map .str)) else none
  | _, _ => none
def rSplitV : V → List V → Hp → VK → Prop := fun x xs H Q => ∃ a b, x = .str a ∧ xs = [.str b] ∧ (b.length == 0) = false ∧ a.length + 2 ≤ sizeLine ∧ rNewStrs (Txt.split a b) H Q
theorem mr_split {X : Cx} : MtR X "str.split" rSplitV := mt_split
theorem ok_split {mg : G} : OpM mg rSplitV (arg1 dSplit) := opM1_of fun W H a b x y d Q ha hb tr e k => by
  unfold dSplit at e
  split at e
  · obtain ⟨_, rfl⟩ := ha; obtain ⟨_, rfl⟩ := hb
    split at e
    · rename_i hz
      obtain rfl := Option.some.inj e
      exact ⟨_, _, rfl, rfl, hz.1, hz.2, k.lst (Rs.strs0 _)⟩
    · cases e
  · cases e
/-- items of a list or a tuple -/
def D.xs : D → Option (List D)
  | .tup xs => some xs
  | .lst _ xs => some xs
  | _ => none
def dJoin : D → D → Option D
  | .str a, d => d.xs.bind fun xs => (lsS xs).bind fun ys => if (ys.map (·.length)).sum + ys.length * a.length ≤ 16777216 then some (.str (Txt.join a ys)) else none
  | _, _ => none
def rJoinV (K : PySem.W.Frag) : V → List V → Hp → VK → Prop := fun x xs H Q => ∃ a p, ∃ ys : List Str, x = .str a ∧ xs = [.ref p] ∧ (SqL K H p (ys.map V.str) ∨ SqT K H p (ys.map V.str)) ∧
    (ys.map (·.length)).sum + ys.length * a.length ≤ 16777216 ∧ Q (.str (Txt.join a ys)) H
theorem mr_join {X : Cx} : MtR X "str.join" (rJoinV X.K) := mt_join
theorem ok_join {mg : G} : OpM mg (rJoinV mg.K) (arg1 dJoin) := opM1_of fun W H a b x y d Q ha hb tr e k => by
  unfold dJoin at e
  split at e
  · obtain ⟨_, rfl⟩ := ha
    obtain ⟨xs, e1, e2⟩ := Option.bind_eq_some_iff.mp e
    obtain ⟨ys, e3, e4⟩ := Option.bind_eq_some_iff.mp e2
    split at e4
    · rename_i a' hz
      obtain rfl := Option.some.inj e4
      have fin : ∃ p, y = .ref p ∧ (SqL mg.K H p (ys.map V.str) ∨ SqT mg.K H p (ys.map V.str)) := by
        cases b with
        | tup zs =>
          obtain rfl := Option.some.inj e1
          obtain ⟨p, us, rfl, h1, _, h2⟩ := hb.tup0
          obtain rfl := h2.lsS e3
          exact ⟨p, rfl, .inr (SqT.of h1)⟩
        | lst o zs =>
          obtain rfl := Option.some.inj e1
          obtain ⟨p, us, rfl, h1, h2⟩ := hb.sq0 rfl
          obtain rfl := h2.lsS e3
          exact ⟨p, rfl, .inl h1⟩
        | _ => simp [D.xs] at e1
      obtain ⟨p, rfl, h⟩ := fin
      exact ⟨_, p, ys, rfl, rfl, h, hz, k.old ⟨rfl, rfl⟩⟩
    · cases e4
  · cases e
theorem cnt_S (k : Str) : ∀ ns : List Str, Spec.countIn (.str k) (ns.map .str) = ns.count k
  | [] => rfl
  | y :: r => by simp only [List.map_cons, Spec.countIn, Spec.same, cnt_S k r, List.count_cons]; split <;> simp_all <;> omega
def dCount : D → D → Option D
  | .lst _ xs, .str k => (lsS xs).map fun ys => .int (ys.count k : Nat)
  | _, _ => none
def rCountV (K : PySem.W.Frag) : V → List V → Hp → VK → Prop := fun x xs H Q => ∃ (a : Addr) (ys : List Str) (k : Str), x = V.ref a ∧ xs = [V.str k] ∧ SqL K H a (ys.map V.str) ∧ Q (.int (ys.count k : Nat)) H
theorem mr_count {X : Cx} : MtR X "list.count" (rCountV X.K) := by
  intro pins s σ H x xs v us Q I rx rs h
  obtain ⟨a, ys, k, rfl, rfl, hs, q⟩ := h
  cases rx
  cases rs with
  | cons r1 rs =>
    cases rs
    obtain ⟨u, rfl⟩ := r1
    obtain ⟨its, r, ⟨o, n, ho, hc, _, hd⟩, _⟩ := I.list hs
    refine count_list_strs ⟨o, ho, hc, n, hd⟩ (strs_of_vals r) ⟨.int (ys.count k : Nat), H, I.tok _, ⟨s.toks, by rw [cnt_S]⟩, q⟩
theorem ok_count {mg : G} : OpM mg (rCountV mg.K) (arg1 dCount) := opM1_of fun W H a b x y d Q ha hb tr e k => by
  unfold dCount at e
  split at e
  · obtain ⟨_, rfl⟩ := hb
    obtain ⟨ys, e3, rfl⟩ := Option.map_eq_some_iff.mp e
    obtain ⟨p, us, rfl, h1, h2⟩ := ha.sq0 rfl
    obtain rfl := h2.lsS e3
    exact ⟨p, ys, _, rfl, rfl, h1, k.old ⟨rfl, rfl⟩⟩
  · cases e
/-- the first place -/
def dIndex : D → D → Option D
  | .lst _ xs, d => match pys xs, d.py with
    | some ps, some p => if SeqAt.shaped (.list ps) && SeqAt.shaped p then (ps.findIdx? fun z => PyData.eqv z p).map fun j => .int (j : Nat) else none
    | _, _ => none
  | _, _ => none
theorem mr_index {X : Cx} (hu : X.A.units + 65 < cLine) : MtR X "list.index" (rIndexD X.K) := mt_indexD hu
theorem ok_index {mg : G} : OpM mg (rIndexD mg.K) (arg1 dIndex) := opM1_of fun W H a b x y d Q ha hb tr e k => by
  unfold dIndex at e
  split at e
  · split at e
    · rename_i o xs ps p hp hq
      split at e
      · rename_i hs
        rw [Bool.and_eq_true] at hs
        obtain ⟨j, e1, rfl⟩ := Option.map_eq_some_iff.mp e
        obtain ⟨hj, z1, z2⟩ := List.findIdx?_eq_some_iff_getElem.mp e1
        obtain ⟨a, us, rfl, h1, _, h2, _⟩ := ha.lst0
        refine ⟨a, y, p, ps, j, ps[j], rfl, rfl, .lst (SqL.of h1) (Rs.dp _ _ _ _ h2 hp), R.dp _ _ _ _ hb hq, hs.1, hs.2, by simp, z1, fun m z' hm e => ?_, k.old ⟨rfl, rfl⟩⟩
        obtain ⟨hm', rfl⟩ := List.getElem?_eq_some_iff.mp e
        simpa using z2 m hm
      · cases e
    · cases e
  · cases e

/-! ### the words for a generated proof -/
section
variable {X : Cx} {Wi : WX} {pos p p2 apos : Pos} {a b c o e : Expr} {ma mb mo m : M D} {es : List Expr} {ms : M (List D)}
theorem pm_add (ha : PM X Wi a ma) (hb : PM X Wi b mb) : PM X Wi (.BinOp a .Add b pos) (m2 dAdd ma mb) := pm_bin opr_add ok_add ha hb
theorem pm_sub (ha : PM X Wi a ma) (hb : PM X Wi b mb) : PM X Wi (.BinOp a .Sub b pos) (m2 dSub ma mb) := pm_bin op_sub ok_sub ha hb
theorem pm_mul (ha : PM X Wi a ma) (hb : PM X Wi b mb) : PM X Wi (.BinOp a .Mult b pos) (m2 dMul ma mb) := pm_bin opr_mul ok_mul ha hb
theorem pm_div (ha : PM X Wi a ma) (hb : PM X Wi b mb) : PM X Wi (.BinOp a .FloorDiv b pos) (m2 dDiv ma mb) := pm_bin op_fdiv ok_div ha hb
theorem pm_mod (ha : PM X Wi a ma) (hb : PM X Wi b mb) : PM X Wi (.BinOp a .Mod b pos) (m2 dMod ma mb) := pm_bin op_mod ok_mod ha hb
theorem pm_lt (ha : PM X Wi a ma) (hb : PM X Wi b mb) (hm : behindInMarks .Lt b = false := by rfl) : PM X Wi (.Compare a [.Lt] [b] pos) (m2 dLt ma mb) := pm_cmp op_lt ok_lt ha hb hm
theorem pm_le (ha : PM X Wi a ma) (hb : PM X Wi b mb) (hm : behindInMarks .LtE b = false := by rfl) : PM X Wi (.Compare a [.LtE] [b] pos) (m2 dLe ma mb) := pm_cmp op_le ok_le ha hb hm
theorem pm_gt (ha : PM X Wi a ma) (hb : PM X Wi b mb) (hm : behindInMarks .Gt b = false := by rfl) : PM X Wi (.Compare a [.Gt] [b] pos) (m2 dGt ma mb) := pm_cmp op_gt ok_gt ha hb hm
theorem pm_ge (ha : PM X Wi a ma) (hb : PM X Wi b mb) (hm : behindInMarks .GtE b = false := by rfl) : PM X Wi (.Compare a [.GtE] [b] pos) (m2 dGe ma mb) := pm_cmp op_ge ok_ge ha hb hm
theorem pm_eq (hu : X.A.units + 65 < cLine) (ha : PM X Wi a ma) (hb : PM X Wi b mb) (hm : behindInMarks .Eq b = false := by rfl) : PM X Wi (.Compare a [.Eq] [b] pos) (m2 dEq ma mb) := pm_cmp (opr_eq (by omega)) ok_eq ha hb hm
theorem pm_ne (hu : X.A.units + 65 < cLine) (ha : PM X Wi a ma) (hb : PM X Wi b mb) (hm : behindInMarks .NotEq b = false := by rfl) : PM X Wi (.Compare a [.NotEq] [b] pos) (m2 dNe ma mb) := pm_cmp (opr_ne (by omega)) ok_ne ha hb hm
theorem pm_in (hu : X.A.units + 65 < cLine) (ha : PM X Wi a ma) (hb : PM X Wi b mb) (hm : behindInMarks .In b = false := by rfl) : PM X Wi (.Compare a [.In] [b] pos) (m2 dIn ma mb) := pm_cmp (opr_in hu) ok_in ha hb hm
theorem pm_notIn (hu : X.A.units + 65 < cLine) (ha : PM X Wi a ma) (hb : PM X Wi b mb) (hm : behindInMarks .NotIn b = false := by rfl) : PM X Wi (.Compare a [.NotIn] [b] pos) (m2 dNotIn ma mb) := pm_cmp (opr_notIn hu) ok_notIn ha hb hm
theorem pm_is (ha : PM X Wi a ma) (hb : PM X Wi b mb) (hm : behindInMarks .Is b = false := by rfl) : PM X Wi (.Compare a [.Is] [b] pos) (m2 dIs ma mb) := pm_cmp opr_is ok_is ha hb hm
theorem pm_isNot (ha : PM X Wi a ma) (hb : PM X Wi b mb) (hm : behindInMarks .IsNot b = false := by rfl) : PM X Wi (.Compare a [.IsNot] [b] pos) (m2 dIsNot ma mb) := pm_cmp opr_isNot ok_isNot ha hb hm
theorem pm_at (ha : PM X Wi a ma) (hb : PM X Wi b mb) (hs : PlainIx b := by exact fun _ _ => rfl) : PM X Wi (.Subscript a b pos) (m2 dIx ma mb) := pm_ix ix_seq ok_ix ha hb hs
theorem pm_len (hg : Gl X "len") (hm : X.mg "len" = none) (ha : PMA X Wi (a :: es) ms) (hv : bootBuiltins "len" = some (.builtin "len") := by rfl)
    (he : starEach (a :: es) X.env = (false, eval a X.env) :: starEach es X.env := by rfl) (hpl : (backTo pos (starEach es X.env)).any (·.1) = false := by rfl) : PM X Wi (.Call (.Name "len" p) (a :: es) [] pos) (mCall (one dLen) ms) := pm_callB cr_len ok_len hg hm hv ha (by decide) (by decide) he hpl
theorem pm_all (hc : X.calm = true) (hg : Gl X "all") (hm : X.mg "all" = none) (ha : PMA X Wi (a :: es) ms) (hv : bootBuiltins "all" = some (.builtin "all") := by rfl)
    (he : starEach (a :: es) X.env = (false, eval a X.env) :: starEach es X.env := by rfl) (hpl : (backTo pos (starEach es X.env)).any (·.1) = false := by rfl) : PM X Wi (.Call (.Name "all" p) (a :: es) [] pos) (mCall (one dAll) ms) := pm_callB (cr_all hc) ok_all hg hm hv ha (by decide) (by decide) he hpl
theorem pm_any (hc : X.calm = true) (hg : Gl X "any") (hm : X.mg "any" = none) (ha : PMA X Wi (a :: es) ms) (hv : bootBuiltins "any" = some (.builtin "any") := by rfl)
    (he : starEach (a :: es) X.env = (false, eval a X.env) :: starEach es X.env := by rfl) (hpl : (backTo pos (starEach es X.env)).any (·.1) = false := by rfl) : PM X Wi (.Call (.Name "any" p) (a :: es) [] pos) (mCall (one dAny) ms) := pm_callB (cr_any hc) ok_any hg hm hv ha (by decide) (by decide) he hpl
theorem pm_sum (hc : X.calm = true) (hg : Gl X "sum") (hm : X.mg "sum" = none) (ha : PMA X Wi (a :: es) ms) (hv : bootBuiltins "sum" = some (.builtin "sum") := by rfl)
    (he : starEach (a :: es) X.env = (false, eval a X.env) :: starEach es X.env := by rfl) (hpl : (backTo pos (starEach es X.env)).any (·.1) = false := by rfl) : PM X Wi (.Call (.Name "sum" p) (a :: es) [] pos) (mCall (one dSum) ms) := pm_callB (cr_sum hc) ok_sum hg hm hv ha (by decide) (by decide) he hpl
theorem pm_abs (hg : Gl X "abs") (hm : X.mg "abs" = none) (ha : PMA X Wi (a :: es) ms) (hv : bootBuiltins "abs" = some (.builtin "abs") := by rfl)
    (he : starEach (a :: es) X.env = (false, eval a X.env) :: starEach es X.env := by rfl) (hpl : (backTo pos (starEach es X.env)).any (·.1) = false := by rfl) : PM X Wi (.Call (.Name "abs" p) (a :: es) [] pos) (mCall (one dAbs) ms) := pm_callB cr_abs ok_abs hg hm hv ha (by decide) (by decide) he hpl
theorem pm_list (hg : Gl X "list") (hm : X.mg "list" = none) (ha : PMA X Wi (a :: es) ms) (hv : bootBuiltins "list" = some (.type "list") := by rfl)
    (he : starEach (a :: es) X.env = (false, eval a X.env) :: starEach es X.env := by rfl) (hpl : (backTo pos (starEach es X.env)).any (·.1) = false := by rfl) : PM X Wi (.Call (.Name "list" p) (a :: es) [] pos) (mCall (one dList) ms) := pm_callTy cr_list ok_list hg hm hv ha (by decide) (by decide) he hpl
theorem pm_tuple (hg : Gl X "tuple") (hm : X.mg "tuple" = none) (ha : PMA X Wi (a :: es) ms) (hv : bootBuiltins "tuple" = some (.type "tuple") := by rfl)
    (he : starEach (a :: es) X.env = (false, eval a X.env) :: starEach es X.env := by rfl) (hpl : (backTo pos (starEach es X.env)).any (·.1) = false := by rfl) : PM X Wi (.Call (.Name "tuple" p) (a :: es) [] pos) (mCall (one dTuple) ms) := pm_callTy cr_tuple ok_tuple hg hm hv ha (by decide) (by decide) he hpl
theorem pm_toInt (hg : Gl X "int") (hm : X.mg "int" = none) (ha : PMA X Wi (a :: es) ms) (hv : bootBuiltins "int" = some (.type "int") := by rfl)
    (he : starEach (a :: es) X.env = (false, eval a X.env) :: starEach es X.env := by rfl) (hpl : (backTo pos (starEach es X.env)).any (·.1) = false := by rfl) : PM X Wi (.Call (.Name "int" p) (a :: es) [] pos) (mCall (one dInt) ms) := pm_callTy cr_int ok_int hg hm hv ha (by decide) (by decide) he hpl
theorem pm_toStr (hg : Gl X "str") (hm : X.mg "str" = none) (ha : PMA X Wi (a :: es) ms) (hv : bootBuiltins "str" = some (.type "str") := by rfl)
    (he : starEach (a :: es) X.env = (false, eval a X.env) :: starEach es X.env := by rfl) (hpl : (backTo pos (starEach es X.env)).any (·.1) = false := by rfl) : PM X Wi (.Call (.Name "str" p) (a :: es) [] pos) (mCall (one dStr) ms) := pm_callTy cr_str ok_str hg hm hv ha (by decide) (by decide) he hpl
theorem pm_isi {x : Str} {T : String} {pT : Pos} (hT : isiOk T) (hg : Gl X "isinstance") (hm : X.mg "isinstance" = none) (hgT : Gl X x) (hmT : X.mg x = none) (hbT : bootBuiltins x = some (.type T)) (ha : PM X Wi a ma) (hv : bootBuiltins "isinstance" = some (.builtin "isinstance") := by rfl)
    (hxn : x ≠ "__name__" := by decide) (hxd : (x == ("__debug__" : Str)) = false := by decide)
    (he : starEach [a, .Name x pT] X.env = (false, eval a X.env) :: starEach [.Name x pT] X.env := by rfl) (he2 : starEach [.Name x pT] X.env = (false, eval (.Name x pT) X.env) :: starEach [] X.env := by rfl) (hpl : (backTo pos (starEach [.Name x pT] X.env)).any (·.1) = false := by rfl) : PM X Wi (.Call (.Name "isinstance" p) [a, .Name x pT] [] pos) (m1 (dIsi T) ma) :=
  pe_imp (pe_callB call_isi hg hm hv (pa_cons ha (pa_cons (pe_bltn (v := .ty T) (u := .type T) hgT hmT hbT rfl hxn hxd) pa_nil he2) he) (by decide) (by decide) he hpl) fun σ H Q ⟨W0, env, fe, I, k⟩ =>
    show tM X.gg Wi ma σ H fun x H1 => rIsi X.K [x, .ty T] H1 Q from m1_run (ok_isi hT) I k
end
end VL


set_option Elab.async false
set_option linter.all false
set_option maxRecDepth 100000
set_option maxHeartbeats 4000000
namespace VL
open PySem PySem.Spec L2
open PyProof.Rows hiding St

theorem room65 {k : Nat} {A : Around} (r : Room k A) : A.units + 65 < cLine := by have := r.un; omega
theorem takesF {X : Cx} : Takes X WF := fun u s' ⟨_, _, _, _, _, _, _, _, _, _, _, _, _, _, _, _, w⟩ => w.elim
/-- a def of the text, where it stands -/
def DA (K : PySem.W.Frag) (mg : Str → Option Value) (x qual : Str) (st : Stmt) (ps : List Str) : Prop :=
  ∃ f fd, Fun K x qual st f fd ∧ mg x = some (.ref f) ∧ Binds K fd ps []
/-- a def that computes F -/
def DF (P : Program) (w : World) (K : PySem.W.Frag) (mg : Str → Option Value) (base : Heap) (x : Str) (n k : Nat) (io : Option Nat) (F : Fn) : Prop :=
  ∃ f fd ps, ps.length = n ∧ FnOk P w K mg base (L2.CX P w) k f fd ps (spF ⟨K, mg⟩ n io F) ∧ mg x = some (.ref f) ∧ PySem.W.keepIn K (.ref f) = true ∧ Binds K fd ps []
abbrev DX (X : Cx) := DF X.prog X.w X.K X.mg X.base
section
variable {P : Program} {w : World} {K : PySem.W.Frag} {mg : Str → Option Value} {base : Heap} {x qual : Str} {st : Stmt} {N ps : List Str} {k : Nat}
theorem df_of (D : DA K mg x qual st ps) (S : FnScope N ps (defScope st)) (io : Option Nat) (ms : MS) (hio : ∀ j, io = some j → j < ps.length)
    (hb : ∀ (f : Addr) (cdv : Value) (A : Around) (outer : List PySem.Env) (s : Shared) (H : Hp) (E : XK), Room k (A.deeper (envOfC qual (defScope st) s.heap.objs.size f cdv)) →
      PSSM (cxOf (L2.CX P w) P w K mg base N qual (defScope st) f cdv A outer s H E) (fun cls d _ H => E cls d H) io.toList (defBody st) ms) :
    DF P w K mg base x ps.length (k + 1) io (fnS N.length io ms) := by
  obtain ⟨f, fd, F, h1, h2⟩ := D
  exact ⟨f, fd, ps, rfl, fn_val F S io ms hio (hb f), h1, F.kp, h2⟩
theorem df_bad (D : DA K mg x qual st ps) (S : FnScope N ps (defScope st)) (io : Option Nat) : DF P w K mg base x ps.length (k + 1) io (fun _ => .bad) := by
  obtain ⟨f, fd, F, h1, h2⟩ := D
  refine ⟨f, fd, ps, rfl, ?_, h1, F.kp, h2⟩
  refine F.okX S (fun vs H Q E h => ?_) (fun cdv A outer s H vs Q E hr h => ?_)
  · obtain ⟨_, _, _, hn, _⟩ := h
    exact hn
  · obtain ⟨_, _, _, _, _, h⟩ := h
    exact h.elim
theorem DF.eq {F G : Fn} {n : Nat} {io : Option Nat} (h : DF P w K mg base x n k io F) (e : F = G) : DF P w K mg base x n k io G := e ▸ h
end
section
variable {X : Cx} {Wi : WX} {pos p p2 apos : Pos} {a b c o e : Expr} {ma mb mo m : M D} {es : List Expr} {ms : M (List D)} {x : Str} {n k r i j : Nat} {F : Fn}
theorem pm_cl (D : DX X x n k none F) (hr : Room r X.A) (tk : Takes X Wi) (ha : PMA X Wi (a :: es) ms) (hk : k ≤ r := by decide) (hg : Gl X x := by rfl) (hdb : (x == ("__debug__" : Str)) = false := by decide)
    (he : starEach (a :: es) X.env = (false, eval a X.env) :: starEach es X.env := by rfl) (hpl : (backTo pos (starEach es X.env)).any (·.1) = false := by rfl) : PM X Wi (.Call (.Name x p) (a :: es) [] pos) (mCall' n F ms) := by
  obtain ⟨f, fd, ps, rfl, h1, h2, h3, h4⟩ := D
  exact pm_call h1 (hr.mono hk) hg h2 h3 h4 tk ha hdb he hpl
theorem pm_clIO (D : DX X x n k (some j) F) (hr : Room r X.A) (tk : Takes X Wi) (ha : PAI X Wi i j (a :: es) ms) (hk : k ≤ r := by decide) (hg : Gl X x := by rfl) (hdb : (x == ("__debug__" : Str)) = false := by decide)
    (he : starEach (a :: es) X.env = (false, eval a X.env) :: starEach es X.env := by rfl) (hpl : (backTo pos (starEach es X.env)).any (·.1) = false := by rfl) : PM X Wi (.Call (.Name x p) (a :: es) [] pos) (mCallIO n F i j ms) := by
  obtain ⟨f, fd, ps, rfl, h1, h2, h3, h4⟩ := D
  exact pm_callIO h1 (hr.mono hk) hg h2 h3 h4 tk ha hdb he hpl
/-- a written int, text -/
def IsInt (mg : Str → Option Value) (x : Str) (i : Int) : Prop := ∃ t, mg x = some (.int i t)
def IsStr (mg : Str → Option Value) (x : Str) (i : Str) : Prop := ∃ t, mg x = some (.str i t)
theorem pm_gint {i : Int} (h : IsInt X.mg x i) (hg : Gl X x := by rfl) (hd : (x == ("__debug__" : Str)) = false := by decide) : PM X Wi (.Name x pos) (mC (.int i)) := by
  obtain ⟨t, h⟩ := h
  exact pm_c (pe_glob (v := .int i) hg h ⟨t, rfl⟩ hd) fun _ _ => ⟨rfl, rfl⟩
theorem pm_gstr {i : Str} (h : IsStr X.mg x i) (hg : Gl X x := by rfl) (hd : (x == ("__debug__" : Str)) = false := by decide) : PM X Wi (.Name x pos) (mC (.str i)) := by
  obtain ⟨t, h⟩ := h
  exact pm_c (pe_glob (v := .str i) hg h ⟨t, rfl⟩ hd) fun _ _ => ⟨rfl, rfl⟩
/-- a written dict of texts -/
def dTab (tbl : List (Str × Str)) : D → Option D
  | .str s => (tbl.lookup s).map .str
  | _ => none
def IsTab (K : PySem.W.Frag) (w : World) (mg : Str → Option Value) (x : Str) (tbl : List (Str × Str)) : Prop := ∃ d, mg x = some (.ref d) ∧ ∀ s v, tbl.lookup s = some v → KDct K w d s (.str v)
theorem pm_gtab {tbl : List (Str × Str)} (h : IsTab X.K X.w X.mg x tbl) (he : PM X Wi a ma) (hg : Gl X x := by rfl) (hd : (x == ("__debug__" : Str)) = false := by decide) (hs : PlainIx a := by exact fun _ _ => rfl) :
    PM X Wi (.Subscript (.Name x p) a pos) (m1 (dTab tbl) ma) := by
  obtain ⟨d, h1, h2⟩ := h
  refine pe_imp (pe_ix ix_kdict (pe_glob (v := .ref d) hg h1 rfl hd) he hs) fun σ H Q ⟨W0, env, fe, I, k⟩ => ?_
  have o : Op1 X.gg (fun y H Q => rIxD X.K X.w (.ref d) y H Q) (dTab tbl) := op1_of fun W H a y d' Q ha tr e k => by
    unfold dTab at e
    split at e
    · obtain ⟨_, rfl⟩ := ha
      obtain ⟨v, e1, rfl⟩ := Option.map_eq_some_iff.mp e
      exact ⟨d, _, .str v, rfl, rfl, h2 _ _ e1, k.old ⟨rfl, rfl⟩⟩
    · cases e
  exact m1_run o I k
end

/-! ### a dict of texts, written where it is asked -/
section
variable {X : Cx} {Wi : WX} {pos p p2 : Pos} {a : Expr} {ma : M D}
theorem valV_lookup {tbl : List (Str × Str)} {s v : Str} (e : tbl.lookup s = some v) : valV (tbl.map fun p => ((Sum.inr p.1 : Key), V.str p.2)) (.inr s) = some (.str v) := by
  induction tbl with
  | nil => simp at e
  | cons p r ih =>
    obtain ⟨x, y⟩ := p
    by_cases h : s = x
    · subst h
      simp at e
      subst e
      exact valV_pos rfl
    · have hb : (s == x) = false := by simpa using h
      simp only [List.lookup_cons, hb] at e
      rw [List.map_cons, valV_neg (by intro z; exact h (Sum.inr.inj z).symm)]
      exact ih e
theorem mergeK_new : ∀ (more acc : List (Key × V)), (acc ++ more).Pairwise (fun a b => a.1 ≠ b.1) → mergeK acc more = acc ++ more
  | [], acc, _ => by simp [mergeK]
  | p :: more, acc, h => by
    have e : putK acc p.1 p.2 = acc ++ [p] := by
      unfold putK
      rw [if_neg]
      intro z
      obtain ⟨q, hq, e⟩ := List.any_eq_true.mp z
      exact (List.pairwise_append.mp h).2.2 q hq p List.mem_cons_self (of_decide_eq_true e)
    show mergeK (putK acc p.1 p.2) more = _
    rw [e, mergeK_new more (acc ++ [p]) (by rw [List.append_assoc]; exact h), List.append_assoc]
    rfl
/-- pairs of written texts -/
structure PTab (X : Cx) (pos : Pos) (keys : List (Option Expr)) (values : List Expr) (tbl : List (Str × Str)) : Prop where
  run : ∃ trs, PPs X pos keys values trs ∧ ∀ σ H Q, tPairs trs σ H Q ↔ Q (tbl.map fun p => (V.str p.1, V.str p.2)) H
theorem ptab_nil : PTab X pos [] [] [] := ⟨[], pps_nil, fun _ _ _ => Iff.rfl⟩
theorem ptab_cons {ks : List (Option Expr)} {vs : List Expr} {tbl : List (Str × Str)} {x y : Str} {j j2 : Nat} (h : PTab X pos ks vs tbl) :
    PTab X pos (some (.Constant (.str x) j p) :: ks) (.Constant (.str y) j2 p2 :: vs) ((x, y) :: tbl) := by
  obtain ⟨trs, h1, h2⟩ := h.run
  exact ⟨_, pps_cons pe_str pe_str h1, fun σ H Q => h2 σ H _⟩
theorem pm_disp {keys : List (Option Expr)} {values : List Expr} {tbl : List (Str × Str)} (h : PTab X pos keys values tbl) (hu : X.A.units + 65 < cLine) (he : PM X Wi a ma) (hn : (tbl.map (·.1)).Nodup := by decide) (h15 : tbl.length ≤ 15 := by decide)
    (hall : keys.all (·.isSome) = true := by rfl) (hl : keys.length = values.length := by rfl) (h0 : keys ≠ [] := by simp) (hk : keys.length ≤ 15 := by decide) (hs : NoSl a := by exact fun _ _ => rfl) :
    PM X Wi (.Subscript (.Dict keys values pos) a p) (m1 (dTab tbl) ma) := by
  obtain ⟨trs, h1, h2⟩ := h.run
  refine pe_imp (pe_dget (by omega) (pe_disp h1 hall hl h0 hk) he hs) fun σ H Q ⟨W0, env, fe, I, k⟩ => ?_
  intro q hq
  refine (h2 _ _ _).mpr ⟨upd_same, tbl.map fun p => (Sum.inr p.1, V.str p.2), by rw [List.map_map]; rfl, by rw [List.length_map]; exact h15, ?_⟩
  rw [mergeK_new _ [] (by
    rw [List.nil_append, List.pairwise_map]
    have := List.pairwise_map.mp hn
    exact this.imp fun h z => h (Sum.inr.inj z)), List.nil_append]
  have kp : Same H (upd (upd H q (.dK [])) q (.dK (tbl.map fun p => (Sum.inr p.1, V.str p.2)))) := fun b x z => by
    rw [upd_ne (ne_of_none z hq), upd_ne (ne_of_none z hq)]; exact z
  have T := I.grow (ds := []) (fd := []) (vs := []) kp (fun b z => absurd z (by simp)) List.nodup_nil ⟨rfl, rfl⟩
  have hqf : q ∉ fe := fun z => I.tr q (.inr (.inl z)) hq
  unfold m1 M.bind at k
  refine tM_run T (fun d1 env1 e1 v H1 fe1 fd fr nw T1 => ?_) (fun x env1 e1 => ?_) (fun e1 => ?_) <;> simp only [e1] at k
  · have fr0 := (Fr.kp (fe := fe) kp).trans Nw.refl fr
    have nw0 := Nw.trans (Fr.kp (fe := fe) kp) Nw.refl nw
    cases eg : dTab tbl d1.fz with
    | none => rw [eg] at k; exact k.elim
    | some d =>
      rw [eg] at k
      have o : Op1 X.gg (fun y H Q => ∃ s v, y = .str s ∧ tbl.lookup s = some v ∧ Q (.str v) H) (dTab tbl) := op1_of fun W H a y d' Q ha tr e k => by
        unfold dTab at e
        split at e
        · obtain ⟨_, rfl⟩ := ha
          obtain ⟨v, e1, rfl⟩ := Option.map_eq_some_iff.mp e
          exact ⟨_, v, rfl, e1, k.old ⟨rfl, rfl⟩⟩
        · cases e
      obtain ⟨y, e3, s, u, e4, e5, q5⟩ := T1.op o (d := d) (Q := Q) eg fr0 nw0.left k
      simp only [List.cons.injEq, and_true] at e3
      subst e3 e4
      refine ⟨q, _, rfl, ?_, q5⟩
      have hH1 := fr q _ upd_same hqf
      have := DGet.k (k := (Sum.inr s : Key)) hH1
      rw [valV_lookup e5] at this
      exact this
  · exact fun cls dd H2 fe' fr' nw' T2 ex => k cls dd H2 fe' ((Fr.kp kp).trans Nw.refl fr') (Nw.trans (Fr.kp kp) Nw.refl nw') T2 ex
  · exact k
end
end VL


set_option Elab.async false
set_option linter.all false
set_option maxRecDepth 100000
set_option maxHeartbeats 4000000
namespace VL
open PySem PySem.Spec L2
open PyProof.Rows hiding St
section
variable {X : Cx} {Wi : WX} {pos p p2 apos : Pos} {a b c o e : Expr} {ma mb mc mo m : M D} {es : List Expr} {ms : M (List D)} {ta tb : M Bool} {rest : List Expr}
theorem pmt_lt (ha : PM X Wi a ma) (hb : PM X Wi b mb) (hm : behindInMarks .Lt b = false := by rfl) : PMT X Wi (.Compare a [.Lt] [b] pos) (mBl (m2 dLt ma mb)) := pmt_cmp op_lt ok_lt ha hb hm
theorem pmt_le (ha : PM X Wi a ma) (hb : PM X Wi b mb) (hm : behindInMarks .LtE b = false := by rfl) : PMT X Wi (.Compare a [.LtE] [b] pos) (mBl (m2 dLe ma mb)) := pmt_cmp op_le ok_le ha hb hm
theorem pmt_gt (ha : PM X Wi a ma) (hb : PM X Wi b mb) (hm : behindInMarks .Gt b = false := by rfl) : PMT X Wi (.Compare a [.Gt] [b] pos) (mBl (m2 dGt ma mb)) := pmt_cmp op_gt ok_gt ha hb hm
theorem pmt_ge (ha : PM X Wi a ma) (hb : PM X Wi b mb) (hm : behindInMarks .GtE b = false := by rfl) : PMT X Wi (.Compare a [.GtE] [b] pos) (mBl (m2 dGe ma mb)) := pmt_cmp op_ge ok_ge ha hb hm
theorem pmt_is (ha : PM X Wi a ma) (hb : PM X Wi b mb) (hm : behindInMarks .Is b = false := by rfl) : PMT X Wi (.Compare a [.Is] [b] pos) (mBl (m2 dIs ma mb)) := pmt_cmp opr_is ok_is ha hb hm
theorem pmt_isNot (ha : PM X Wi a ma) (hb : PM X Wi b mb) (hm : behindInMarks .IsNot b = false := by rfl) : PMT X Wi (.Compare a [.IsNot] [b] pos) (mBl (m2 dIsNot ma mb)) := pmt_cmp opr_isNot ok_isNot ha hb hm
theorem pmt_eq (hu : X.A.units + 65 < cLine) (ha : PM X Wi a ma) (hb : PM X Wi b mb) (hm : behindInMarks .Eq b = false := by rfl) : PMT X Wi (.Compare a [.Eq] [b] pos) (mBl (m2 dEq ma mb)) := pmt_cmp (opr_eq (by omega)) ok_eq ha hb hm
theorem pmt_ne (hu : X.A.units + 65 < cLine) (ha : PM X Wi a ma) (hb : PM X Wi b mb) (hm : behindInMarks .NotEq b = false := by rfl) : PMT X Wi (.Compare a [.NotEq] [b] pos) (mBl (m2 dNe ma mb)) := pmt_cmp (opr_ne (by omega)) ok_ne ha hb hm
theorem pmt_in (hu : X.A.units + 65 < cLine) (ha : PM X Wi a ma) (hb : PM X Wi b mb) (hm : behindInMarks .In b = false := by rfl) : PMT X Wi (.Compare a [.In] [b] pos) (mBl (m2 dIn ma mb)) := pmt_cmp (opr_in hu) ok_in ha hb hm
theorem pmt_notIn (hu : X.A.units + 65 < cLine) (ha : PM X Wi a ma) (hb : PM X Wi b mb) (hm : behindInMarks .NotIn b = false := by rfl) : PMT X Wi (.Compare a [.NotIn] [b] pos) (mBl (m2 dNotIn ma mb)) := pmt_cmp (opr_notIn hu) ok_notIn ha hb hm
theorem pm_le_lt (ha : PM X Wi a ma) (hb : PM X Wi b mb) (hc : PM X Wi c mc) (hm : lastMarks [.LtE, .Lt] [b, c] = false := by with_unfolding_all rfl) : PM X Wi (.Compare a [.LtE, .Lt] [b, c] pos) (mChain (fun i j => decide (i ≤ j)) (fun i j => decide (i < j)) ma mb mc) := pm_chain (g := fun i j => decide (i ≤ j)) (g' := fun i j => decide (i < j)) op_le op_lt ha hb hc hm
theorem pmt_le_lt (ha : PM X Wi a ma) (hb : PM X Wi b mb) (hc : PM X Wi c mc) (hm : lastMarks [.LtE, .Lt] [b, c] = false := by with_unfolding_all rfl) : PMT X Wi (.Compare a [.LtE, .Lt] [b, c] pos) (mBl (mChain (fun i j => decide (i ≤ j)) (fun i j => decide (i < j)) ma mb mc)) := pmt_chain (g := fun i j => decide (i ≤ j)) (g' := fun i j => decide (i < j)) op_le op_lt ha hb hc hm
theorem pm_le_le (ha : PM X Wi a ma) (hb : PM X Wi b mb) (hc : PM X Wi c mc) (hm : lastMarks [.LtE, .LtE] [b, c] = false := by with_unfolding_all rfl) : PM X Wi (.Compare a [.LtE, .LtE] [b, c] pos) (mChain (fun i j => decide (i ≤ j)) (fun i j => decide (i ≤ j)) ma mb mc) := pm_chain (g := fun i j => decide (i ≤ j)) (g' := fun i j => decide (i ≤ j)) op_le op_le ha hb hc hm
theorem pmt_le_le (ha : PM X Wi a ma) (hb : PM X Wi b mb) (hc : PM X Wi c mc) (hm : lastMarks [.LtE, .LtE] [b, c] = false := by with_unfolding_all rfl) : PMT X Wi (.Compare a [.LtE, .LtE] [b, c] pos) (mBl (mChain (fun i j => decide (i ≤ j)) (fun i j => decide (i ≤ j)) ma mb mc)) := pmt_chain (g := fun i j => decide (i ≤ j)) (g' := fun i j => decide (i ≤ j)) op_le op_le ha hb hc hm
theorem pm_lt_lt (ha : PM X Wi a ma) (hb : PM X Wi b mb) (hc : PM X Wi c mc) (hm : lastMarks [.Lt, .Lt] [b, c] = false := by with_unfolding_all rfl) : PM X Wi (.Compare a [.Lt, .Lt] [b, c] pos) (mChain (fun i j => decide (i < j)) (fun i j => decide (i < j)) ma mb mc) := pm_chain (g := fun i j => decide (i < j)) (g' := fun i j => decide (i < j)) op_lt op_lt ha hb hc hm
theorem pmt_lt_lt (ha : PM X Wi a ma) (hb : PM X Wi b mb) (hc : PM X Wi c mc) (hm : lastMarks [.Lt, .Lt] [b, c] = false := by with_unfolding_all rfl) : PMT X Wi (.Compare a [.Lt, .Lt] [b, c] pos) (mBl (mChain (fun i j => decide (i < j)) (fun i j => decide (i < j)) ma mb mc)) := pmt_chain (g := fun i j => decide (i < j)) (g' := fun i j => decide (i < j)) op_lt op_lt ha hb hc hm
def dNeg : D → Option D
  | .int i => some (.int (-i))
  | _ => none
theorem ok_neg {mg : G} : Op1 mg (rU fun i => .int (-i)) dNeg := op1_of fun W H a x d Q ha tr e k => by
  unfold dNeg at e
  split at e
  · obtain ⟨_, rfl⟩ := ha
    obtain rfl := Option.some.inj e
    exact ⟨_, rfl, k.old ⟨rfl, rfl⟩⟩
  · cases e
theorem pm_neg (ha : PM X Wi a ma) : PM X Wi (.UnaryOp .USub a pos) (m1 dNeg ma) := pm_un un_neg ok_neg ha
theorem pm_sl {lo hi : Option Expr} {ml mh : M (Option Int)} (he : PM X Wi a ma) (hl : PMO X Wi lo ml) (hu : PMO X Wi hi mh) : PM X Wi (.Subscript a (.Slice lo hi none p2) pos) (mSlice dSl ma ml mh) := pm_slice slr_v ok_sl he hl hu
theorem pm_starts (ho : PM X Wi o mo) (ha : PMA X Wi (a :: es) ms)
    (hbase : attributeBase o "startswith" X.env (eval o X.env) = eval o X.env := by rfl)
    (hfew : ((backTo pos (starEach (a :: es) X.env)).all (fun x => !x.1) && (backToKw pos (keywordEach [] X.env)).all (fun x => x.1.isSome)
      && decide ((a :: es).length + ([] : List Keyword).length + (if ([] : List Keyword).isEmpty then 0 else 1) < 30)) = true := by rfl)
    (hline : (apos.endLine == pos.line) = true := by rfl) (hs : starEach (a :: es) X.env = (false, eval a X.env) :: starEach es X.env := by rfl) (hplain : (backTo pos (starEach es X.env)).any (·.1) = false := by rfl) :
    PM X Wi (.Call (.Attribute o "startswith" apos) (a :: es) [] pos) (mMeth "str" (arg1 dStarts) mo ms) := pm_bm PySem.F.plainAttrs_str PySem.F.slot_str_startswith PySem.F.type_str_startswith mr_starts ok_starts ho ha hbase hfew hline hs hplain
theorem pm_split (ho : PM X Wi o mo) (ha : PMA X Wi (a :: es) ms)
    (hbase : attributeBase o "split" X.env (eval o X.env) = eval o X.env := by rfl)
    (hfew : ((backTo pos (starEach (a :: es) X.env)).all (fun x => !x.1) && (backToKw pos (keywordEach [] X.env)).all (fun x => x.1.isSome)
      && decide ((a :: es).length + ([] : List Keyword).length + (if ([] : List Keyword).isEmpty then 0 else 1) < 30)) = true := by rfl)
    (hline : (apos.endLine == pos.line) = true := by rfl) (hs : starEach (a :: es) X.env = (false, eval a X.env) :: starEach es X.env := by rfl) (hplain : (backTo pos (starEach es X.env)).any (·.1) = false := by rfl) :
    PM X Wi (.Call (.Attribute o "split" apos) (a :: es) [] pos) (mMeth "str" (arg1 dSplit) mo ms) := pm_bm PySem.F.plainAttrs_str PySem.F.slot_str_split PySem.F.type_str_split mr_split ok_split ho ha hbase hfew hline hs hplain
theorem pm_join (ho : PM X Wi o mo) (ha : PMA X Wi (a :: es) ms)
    (hbase : attributeBase o "join" X.env (eval o X.env) = eval o X.env := by rfl)
    (hfew : ((backTo pos (starEach (a :: es) X.env)).all (fun x => !x.1) && (backToKw pos (keywordEach [] X.env)).all (fun x => x.1.isSome)
      && decide ((a :: es).length + ([] : List Keyword).length + (if ([] : List Keyword).isEmpty then 0 else 1) < 30)) = true := by rfl)
    (hline : (apos.endLine == pos.line) = true := by rfl) (hs : starEach (a :: es) X.env = (false, eval a X.env) :: starEach es X.env := by rfl) (hplain : (backTo pos (starEach es X.env)).any (·.1) = false := by rfl) :
    PM X Wi (.Call (.Attribute o "join" apos) (a :: es) [] pos) (mMeth "str" (arg1 dJoin) mo ms) := pm_bm PySem.F.plainAttrs_str PySem.F.slot_str_join PySem.F.type_str_join mr_join ok_join ho ha hbase hfew hline hs hplain
theorem pm_count (ho : PM X Wi o mo) (ha : PMA X Wi (a :: es) ms)
    (hbase : attributeBase o "count" X.env (eval o X.env) = eval o X.env := by rfl)
    (hfew : ((backTo pos (starEach (a :: es) X.env)).all (fun x => !x.1) && (backToKw pos (keywordEach [] X.env)).all (fun x => x.1.isSome)
      && decide ((a :: es).length + ([] : List Keyword).length + (if ([] : List Keyword).isEmpty then 0 else 1) < 30)) = true := by rfl)
    (hline : (apos.endLine == pos.line) = true := by rfl) (hs : starEach (a :: es) X.env = (false, eval a X.env) :: starEach es X.env := by rfl) (hplain : (backTo pos (starEach es X.env)).any (·.1) = false := by rfl) :
    PM X Wi (.Call (.Attribute o "count" apos) (a :: es) [] pos) (mMeth "list" (arg1 dCount) mo ms) := pm_bm PySem.F.plainAttrs_list PySem.F.slot_list_count PySem.F.type_list_count mr_count ok_count ho ha hbase hfew hline hs hplain
theorem pm_index (hu : X.A.units + 65 < cLine) (ho : PM X Wi o mo) (ha : PMA X Wi (a :: es) ms)
    (hbase : attributeBase o "index" X.env (eval o X.env) = eval o X.env := by rfl)
    (hfew : ((backTo pos (starEach (a :: es) X.env)).all (fun x => !x.1) && (backToKw pos (keywordEach [] X.env)).all (fun x => x.1.isSome)
      && decide ((a :: es).length + ([] : List Keyword).length + (if ([] : List Keyword).isEmpty then 0 else 1) < 30)) = true := by rfl)
    (hline : (apos.endLine == pos.line) = true := by rfl) (hs : starEach (a :: es) X.env = (false, eval a X.env) :: starEach es X.env := by rfl) (hplain : (backTo pos (starEach es X.env)).any (·.1) = false := by rfl) :
    PM X Wi (.Call (.Attribute o "index" apos) (a :: es) [] pos) (mMeth "list" (arg1 dIndex) mo ms) := pm_bm PySem.F.plainAttrs_list PySem.F.slot_list_index PySem.F.type_list_index (mr_index hu) ok_index ho ha hbase hfew hline hs hplain
theorem pm_append {i : Nat} (ho : PE X o (tVar i)) (ha : PMA X Wi (a :: es) ms)
    (hbase : attributeBase o "append" X.env (eval o X.env) = eval o X.env := by rfl)
    (hfew : ((backTo pos (starEach (a :: es) X.env)).all (fun x => !x.1) && (backToKw pos (keywordEach [] X.env)).all (fun x => x.1.isSome)
      && decide ((a :: es).length + ([] : List Keyword).length + (if ([] : List Keyword).isEmpty then 0 else 1) < 30)) = true := by rfl)
    (hline : (apos.endLine == pos.line) = true := by rfl) (hs : starEach (a :: es) X.env = (false, eval a X.env) :: starEach es X.env := by rfl) (hplain : (backTo pos (starEach es X.env)).any (·.1) = false := by rfl) :
    PM X Wi (.Call (.Attribute o "append" apos) (a :: es) [] pos) (mMutL fAppend i ms) := pm_mutL PySem.F.slot_list_append PySem.F.type_list_append mt_append ok_append ho ha hbase hfew hline hs hplain
theorem pm_extend {i : Nat} (ho : PE X o (tVar i)) (ha : PMA X Wi (a :: es) ms)
    (hbase : attributeBase o "extend" X.env (eval o X.env) = eval o X.env := by rfl)
    (hfew : ((backTo pos (starEach (a :: es) X.env)).all (fun x => !x.1) && (backToKw pos (keywordEach [] X.env)).all (fun x => x.1.isSome)
      && decide ((a :: es).length + ([] : List Keyword).length + (if ([] : List Keyword).isEmpty then 0 else 1) < 30)) = true := by rfl)
    (hline : (apos.endLine == pos.line) = true := by rfl) (hs : starEach (a :: es) X.env = (false, eval a X.env) :: starEach es X.env := by rfl) (hplain : (backTo pos (starEach es X.env)).any (·.1) = false := by rfl) :
    PM X Wi (.Call (.Attribute o "extend" apos) (a :: es) [] pos) (mMutL fExtend i ms) := pm_mutL PySem.F.slot_list_extend PySem.F.type_list_extend mt_extend ok_extend ho ha hbase hfew hline hs hplain
theorem pm_popAt {i : Nat} (ho : PE X o (tVar i)) (ha : PMA X Wi (a :: es) ms)
    (hbase : attributeBase o "pop" X.env (eval o X.env) = eval o X.env := by rfl)
    (hfew : ((backTo pos (starEach (a :: es) X.env)).all (fun x => !x.1) && (backToKw pos (keywordEach [] X.env)).all (fun x => x.1.isSome)
      && decide ((a :: es).length + ([] : List Keyword).length + (if ([] : List Keyword).isEmpty then 0 else 1) < 30)) = true := by rfl)
    (hline : (apos.endLine == pos.line) = true := by rfl) (hs : starEach (a :: es) X.env = (false, eval a X.env) :: starEach es X.env := by rfl) (hplain : (backTo pos (starEach es X.env)).any (·.1) = false := by rfl) :
    PM X Wi (.Call (.Attribute o "pop" apos) (a :: es) [] pos) (mMutL fPopAt i ms) := pm_mutL PySem.F.slot_list_pop PySem.F.type_list_pop mt_popAt ok_popAt ho ha hbase hfew hline hs hplain
theorem pm_pop {i : Nat} (ho : PE X o (tVar i)) (hbase : attributeBase o "pop" X.env (eval o X.env) = eval o X.env := by rfl) (hline : (apos.endLine == pos.line) = true := by rfl) : PM X Wi (.Call (.Attribute o "pop" apos) [] [] pos) (mMutL fPop i mNil) := pm_mutL0 PySem.F.slot_list_pop PySem.F.type_list_pop mt_pop ok_pop ho hbase hline
end
end VL


set_option Elab.async false
set_option linter.all false
set_option maxRecDepth 100000
set_option maxHeartbeats 4000000
namespace VL
open PySem PySem.Spec L2
open PyProof.Rows hiding St

/-! ### own exceptions: made with a text, caught by name -/
/-- x is a class of the text, under ValueError, without an __init__ of its own -/
def XC (K : PySem.W.Frag) (mg : Str → Option Value) (x : Str) : Prop :=
  ∃ C, mg x = some (.ref C) ∧ PySem.W.excIn K C [.type "ValueError", .type "Exception", .type "BaseException", .type "object"] "ValueError.__new__" = true ∧ PySem.W.keepIn K (.ref C) = true ∧
    PySem.W.subIn K (.ref C) (.type "BaseException") = some true ∧ PySem.W.typeIn K (.ref C) = some (.type "type")
/-- what a clause takes -/
def isX (ys ns : List Str) (n : Str) : Option Bool := if n ∈ ys then some true else if n ∈ ns then some false else none
def HC (K : PySem.W.Frag) (mg : Str → Option Value) (x : Str) (ys ns : List Str) : Prop :=
  ∃ cv, mg x = some cv ∧ ∀ n D b, mg n = some (.ref D) → isX ys ns n = some b → PySem.W.exmOne K (.ref D) cv = some b
theorem hc_of {K : PySem.W.Frag} {mg : Str → Option Value} {x : Str} {cv : Value} {ys ns : List Str} (h : mg x = some cv) (h1 : ∀ n ∈ ys, ∃ D, mg n = some (.ref D) ∧ PySem.W.exmOne K (.ref D) cv = some true) (h2 : ∀ n ∈ ns, ∃ D, mg n = some (.ref D) ∧ PySem.W.exmOne K (.ref D) cv = some false) : HC K mg x ys ns := by
  refine ⟨cv, h, fun n D b hn e => ?_⟩
  unfold isX at e
  split at e
  · rename_i hy
    obtain ⟨D', e1, e2⟩ := h1 n hy
    rw [hn] at e1
    cases e1
    cases e
    exact e2
  · split at e
    · rename_i hy
      obtain ⟨D', e1, e2⟩ := h2 n hy
      rw [hn] at e1
      cases e1
      cases e
      exact e2
    · cases e
section
variable {X : Cx} {Wi : WX} {pin : List Nat} {x m : Str} {j : Nat} {p p2 pos pos' np : Pos} {body suite : List Stmt} {b₀ : Stmt} {sb ss : MS}
def sRaise (x : Str) : MS := fun env => .exc ⟨x, [], []⟩ env
theorem psm_raiseC (hc : X.calm = true) (tk : Takes X Wi) (h : XC X.K X.mg x) (hg : Gl X x := by rfl) (hdb : (x == ("__debug__" : Str)) = false := by decide) :
    PSM X Wi pin (.Raise (some (.Call (.Name x p) [.Constant (.str m) j p2] [] pos)) none pos') (sRaise x) := by
  obtain ⟨C, h1, h2, h3, h4, h5⟩ := h
  exact psm_raise hc tk (pmk_own PySem.F.excBase_ValueError h2 h1 h3 (raises_own h4 h5) hg hdb) h1
theorem psm_tryC {ys ns : List Str} (hc : HC X.K X.mg x ys ns) (tk : Takes X Wi)
    (hb : ∀ (W : WX) (pn : List (Addr × Obj)) (xe : Value → Shared → Prop), Takes (X.tr pn xe) W → PassesOwn (model X.prog X.w) X.A X.env xe → PSSM (X.tr pn xe) W pin body sb)
    (hsu : ∀ (a : Addr) (oe : Obj) (cls : Value) (d : Option Addr) (pn : List (Addr × Obj)), Zc cls d oe → (∃ vs, oe.data = .fields vs) → PSSM (X.suite a ((a, oe) :: pn)) WF pin (b₀ :: suite) ss)
    (hs : X.stack = X.env :: X.outer := by rfl) (hf : X.env.frame = some X.env.locals := by rfl) (hg : Gl X x := by rfl) (hdb : (x == ("__debug__" : Str)) = false := by decide) :
    PSM X Wi pin (.Try body [.ExceptHandler (some (.Name x np)) none (b₀ :: suite) pos'] [] [] pos) (sTry (isX ys ns) sb ss) := by
  obtain ⟨cv, h1, h2⟩ := hc
  exact psm_try hs hf ⟨hg, hdb, .inl h1⟩ tk h2 hb hsu
end

/-! ### x += e -/
def rIAddV : R2 := fun x y H Q => (∃ i j, x = .int i ∧ y = .int j ∧ Q (.int (i + j)) H) ∨ (∃ i j, x = .str i ∧ y = .str j ∧ i.length + j.length ≤ sizeLine ∧ Q (.str (i ++ j)) H)
theorem opr_iadd {X : Cx} : OpR X (inplaceOp .Add) rIAddV := iop_add.or iop_add_str
def dIAdd : D → D → Option D
  | .int i, .int j => some (.int (i + j))
  | .str s, .str t => if s.length + t.length ≤ sizeLine then some (.str (s ++ t)) else none
  | _, _ => none
theorem ok_iadd {mg : G} : Op2 mg rIAddV dIAdd := op2_of fun W H a b x y d Q ha hb tr e k => by
  unfold dIAdd at e
  split at e
  · obtain ⟨_, rfl⟩ := ha; obtain ⟨_, rfl⟩ := hb
    obtain rfl := Option.some.inj e
    exact .inl ⟨_, _, rfl, rfl, k.old ⟨rfl, rfl⟩⟩
  · obtain ⟨_, rfl⟩ := ha; obtain ⟨_, rfl⟩ := hb
    split at e
    · obtain rfl := Option.some.inj e
      exact .inr ⟨_, _, rfl, rfl, by assumption, k.old ⟨rfl, rfl⟩⟩
    · cases e
  · cases e
def dIMul : D → D → Option D
  | .int i, .int j => if (-(2 ^ 64) < i ∧ i < 2 ^ 64) ∨ (-(2 ^ 64) < j ∧ j < 2 ^ 64) then some (.int (i * j)) else none
  | _, _ => none
theorem ok_imul {mg : G} : Op2 mg (rI CMul fun i j => .int (i * j)) dIMul := op2_of fun W H a b x y d Q ha hb tr e k => by
  unfold dIMul at e
  split at e
  · split at e
    · obtain ⟨_, rfl⟩ := ha; obtain ⟨_, rfl⟩ := hb
      obtain rfl := Option.some.inj e
      exact ⟨_, _, rfl, rfl, by assumption, k.old ⟨rfl, rfl⟩⟩
    · cases e
  · cases e
section
variable {X : Cx} {Wi : WX} {pin : List Nat} {x : Str} {i : Nat} {pos pos' : Pos} {e : Expr} {m : M D}
theorem psm_iadd (hN : X.N.Nodup) (hi : X.N[i]? = some x) (hx : Loc X.env.scope x) (he : PM X Wi e m) (hp : i ∉ pin := by decide) (hf : X.fn x = true ∨ X.env.scope.names.lookup x = some .local := by first | exact .inl rfl | exact .inr rfl | assumption) :
    PSM X Wi pin (.AugAssign (.Name x pos') .Add e pos) (sAug i dIAdd m) := psm_aug hN hi hx he (ti := rIAddV) opr_iadd ok_iadd hp hf
theorem psm_isub (hN : X.N.Nodup) (hi : X.N[i]? = some x) (hx : Loc X.env.scope x) (he : PM X Wi e m) (hp : i ∉ pin := by decide) (hf : X.fn x = true ∨ X.env.scope.names.lookup x = some .local := by first | exact .inl rfl | exact .inr rfl | assumption) :
    PSM X Wi pin (.AugAssign (.Name x pos') .Sub e pos) (sAug i dSub m) := psm_aug hN hi hx he (ti := rI0 fun i j => .int (i - j)) iop_sub ok_sub hp hf
theorem psm_imul (hN : X.N.Nodup) (hi : X.N[i]? = some x) (hx : Loc X.env.scope x) (he : PM X Wi e m) (hp : i ∉ pin := by decide) (hf : X.fn x = true ∨ X.env.scope.names.lookup x = some .local := by first | exact .inl rfl | exact .inr rfl | assumption) :
    PSM X Wi pin (.AugAssign (.Name x pos') .Mult e pos) (sAug i dIMul m) := psm_aug hN hi hx he (ti := rI CMul fun i j => .int (i * j)) iop_mul ok_imul hp hf
end
end VL


set_option Elab.async false
set_option linter.all false
set_option maxRecDepth 100000
set_option maxHeartbeats 4000000
namespace VL
open PySem PySem.Spec L2
open PyProof.Rows hiding St

/-! ### a comprehension whose element may raise -/
section
variable {M : Model} {A : Around} {E : Value → Shared → Prop} {s : Shared} {base : Heap} {env : PySem.Env} {outer l : List PySem.Env} {e L Lc C : Addr} {Z : Obj → Prop}
/-- an exception that another frame's hand bears is noted -/
theorem noteHeld {Q : Unit → Shared → Prop} (hZ : HandSPX.Steady Z) (hfr : A.frames = some (env :: outer)) (hf : env.frame = some L) (hne : Lc ≠ L) (hh : HandSPX.HeldZ base (env :: outer) e Z Lc s.heap)
    (hQ : ∀ h', HandSPX.HeldZ base (env :: outer) e Z L h' → s.heap.UpToSlots h' → Q () { s with heap := h' }) : wpAny M A (noteFrame (.ref e) env) Q E s := by
  obtain ⟨st, en, ff, oe, vs, T, oT, ts, ge, z, de, v1, bT, Te, gT, dT, t3⟩ := hh
  have off : ∀ b, b ≠ T → (s.heap.update T (Obj.mapFields (·.setIfInBounds 3 Value.none))).get? b = s.heap.get? b := fun b hb => Heap.get?_update_other _ _ (Ne.symm hb)
  have notT : ∀ b o, s.heap.get? b = some o → (∀ vs, o.data ≠ .fields vs) → b ≠ T := fun b o hb nf q => by
    subst q
    rw [gT] at hb
    cases hb
    exact nf ts dT
  unfold noteFrame
  simp only [hf]
  refine wpAny_bind (wpAny_field ge de v1 ?_)
  rw [if_pos (show (Value.ref T != Value.none) = true from by simp)]
  refine wpAny_bind (wpAny_field gT dT t3 ?_)
  have nq : ¬ (rawInt (Lc : Int) == rawInt (L : Int)) = true := by
    intro q
    have q1 : rawInt (Lc : Int) = rawInt (L : Int) := eq_of_beq q
    unfold rawInt at q1
    injection q1 with q2
    exact hne (by exact_mod_cast q2)
  rw [if_neg nq]
  refine wpAny_bind (wpAny_setField gT dT (Array.getElem?_eq_some_iff.mp t3).1 ?_)
  refine HandSPX.wpAny_entryZ hZ hfr (ff.of_keeps fun b o hb nf => ⟨o, (off b (notT b o hb nf)).trans hb, rfl⟩) hf ((off e (Ne.symm Te)).trans ge)
    (fun b o hb => (off b fun q => by rw [q, bT] at hb; cases hb).trans (st b o hb)) en de (Array.getElem?_eq_some_iff.mp v1).1 z fun h' ⟨y1, y2, y3, y4⟩ => ?_
  exact hQ h' ⟨y1, en, y2, y3⟩ fun b o hb nf => y4 b o ((off b (notT b o hb nf)).trans hb) nf
/-- whatever stage it is at, it is noted by the frame -/
theorem sky_noted {Q : Unit → Shared → Prop} (hZ : HandSPX.Steady Z) (hfr : A.frames = some (env :: outer)) (hf : env.frame = some L) (hne : Lc ≠ L) (k : Sky base (env :: outer) e Z Lc s.heap)
    (hQ : ∀ h', HandSPX.HeldZ base (env :: outer) e Z L h' → s.heap.UpToSlots h' → Q () { s with heap := h' }) : wpAny M A (noteFrame (.ref e) env) Q E s := by
  rcases k with ⟨hB, hn, hl, oe, vs, he, hz, hd, h1⟩ | fl | hh
  · exact HandSPX.look_newZ hZ hfr hl hf he hB hn hd h1 hz hQ
  · exact HandSPX.looks_onZ hZ hfr hf fl hQ
  · exact noteHeld hZ hfr hf hne hh hQ
/-- another ground, without one object that is no part of it -/
theorem held_less {h : Heap} (hh : HandSPX.HeldZ base l e Z L h) : ∃ G : Heap, (∀ b, b ≠ C → G.get? b = base.get? b) ∧ G.get? C = none ∧ HandSPX.HeldZ G l e Z L h := by
  obtain ⟨G, g1, g2⟩ := restrict base fun b => decide (b ≠ C)
  have gn : ∀ b, base.get? b = none → G.get? b = none := fun b hb => by
    by_cases q : b = C
    · exact g2 b (by simpa using q)
    · rw [g1 b (by simpa using q), hb]
  refine ⟨G, fun b hb => g1 b (by simpa using hb), g2 C (by simp), ?_⟩
  obtain ⟨st, en, ff, oe, vs, T, oT, ts, ge, z, de, v1, bT, Te, gT, dT, t3⟩ := hh
  refine ⟨fun b o hb => ?_, gn e en, funFrames_none ff fun b hb => gn b (ff.mem hb).1, oe, vs, T, oT, ts, ge, z, de, v1, gn T bT, Te, gT, dT, t3⟩
  by_cases q : b = C
  · rw [q, g2 C (by simp)] at hb; cases hb
  · rw [g1 b (by simpa using q)] at hb
    exact st b o hb
/-- only C has changed, which is no part of it -/
theorem held_but {h h' : Heap} {m : Str → Option Value} (hh : HandSPX.HeldZ base l e Z L h) (bC : base.get? C = none) (hs : Heap.SameBut C h h') (hn : h'.Ns C m) (heC : e ≠ C) (hfC : ∀ oC, h.get? C = some oC → ∀ vs, oC.data ≠ .fields vs) : HandSPX.HeldZ base l e Z L h' := by
  obtain ⟨st, en, ff, oe, vs, T, oT, ts, ge, z, de, v1, bT, Te, gT, dT, t3⟩ := hh
  have TC : T ≠ C := fun q => by
    subst q
    exact hfC oT gT ts dT
  exact ⟨fun b o hb => (hs.2 b fun q => by rw [q, bC] at hb; cases hb).trans (st b o hb), en, Heap.FunFrames.sameBut hs hn ff, oe, vs, T, oT, ts, (hs.2 e heC).trans ge, z, de, v1, bT, Te, (hs.2 T TC).trans gT, dT, t3⟩
end

section
variable {X : Cx}
/-- the wish of a comprehension's element, at the slots of the def around -/
abbrev Wat (Wi : WX) (σ : L2.St) : WX := fun cls d _ H => Wi cls d σ H
theorem pe_lcX {elt tg iter : Expr} {ifs : List Expr} {scope : Scope} {own : List (Str × Nat)} {pos : Pos} {wi : TI} {g : TG} {tt : TT} {te : L2.St → TE} {Wi : WX}
    (hc : X.calm = true) (hN : X.N.Nodup) (hst : X.stack = X.env :: X.outer) (hfr : X.env.frame = some X.env.locals) (tk : Takes X Wi) (hi : PI X tg iter wi) (ok : BlkOk X.N X.env.scope scope own)
    (hg : ∀ (s : Shared) (H : Hp) (C : Addr) (cl : List (Str × Addr)) (fp : List Addr), PG (X.blk s H scope (compEnvC scope cl C X.env) fp) tg g) (ht : ∀ (s : Shared) (H : Hp) (C : Addr) (cl : List (Str × Addr)) (fp : List Addr), PTs (X.blk s H scope (compEnvC scope cl C X.env) fp) ifs tt)
    (he : ∀ (σ : L2.St) (s : Shared) (H : Hp) (C : Addr) (cl : List (Str × Addr)) (fp : List Addr) (pn : List (Addr × Obj)) (xe : Value → Shared → Prop), Takes ((X.blk s H scope (compEnvC scope cl C X.env) fp).tr pn xe) (Wat Wi σ) → PE ((X.blk s H scope (compEnvC scope cl C X.env) fp).tr pn xe) elt (te σ))
    (hs : ∀ x, foldedSetIterable iter X.env x = pure x := by intro _; rfl) :
    PE X (.ListComp elt [⟨tg, iter, ifs, 0⟩] scope pos) (fun σ H Q => tLc wi g tt (te σ) (own.map (·.2)) σ H Q) := by
  refine ⟨fun pins s σ H Q I h => ?_⟩
  rw [eval_ListComp]
  have hfree : ∀ y ∈ scope.names, y.2 = .free → ∃ c, X.env.cells.lookup y.1 = some c := fun y hy e => (ok.free y hy e).elim (fun k => I.ok.has _ (.inl k)) fun k => I.ok.has _ (.inr k)
  refine comprehension_at (use := none) rfl hs (closure_ok hfree) ok.kind (fun y hy e => by rw [ok.uniq y hy, e]) (thn (hi.run pins s σ H _ I h) fun xv s1 hx => thn hx fun itv s2 h2 => ?_)
  obtain ⟨it, fp, tn, J, H2, rfl, I2, T, st2, f2, q⟩ := h2
  refine wpAny_newObj_type (newEnv_comp ?_) (by show 0 ≤ sizeLine; decide)
  have hDn : H2 s2.heap.objs.size = none := I2.hok.fresh (Nat.le_refl _)
  obtain ⟨W, ⟨m0, w0⟩, turn⟩ := q _ hDn
  generalize hD : s2.heap.objs.size = D at *
  generalize hs3 : ({ s2 with heap := s2.heap.push { cls := .type "list", data := .seq ([] : List Value).toArray } } : Shared) = s3
  have I3 : Inv X pins σ (upd H2 D (.lst [])) s3 := by
    subst hs3
    exact I2.laid (t' := s2.toks) (fun b o e => Heap.get?_push_of_some _ e) (Nat.le_of_eq hD) ⟨Nat.zero_le _, [], 0, .nil, by rw [← hD]; exact Heap.get?_push_size _ rfl⟩
  have p3 : ∀ b o, s2.heap.get? b = some o → s3.heap.get? b = some o := fun b o e => by subst hs3; exact Heap.get?_push_of_some _ e
  have z3 : s3.heap.objs.size = s2.heap.objs.size + 1 := by subst hs3; exact Heap.size_push _ _
  have lt2 : ∀ b ∈ fp, b < s2.heap.objs.size := fun b hb => let ⟨o, e, _⟩ := T.obj _ _ st2 b hb; Heap.lt_size e
  have f3 : ∀ b ∈ fp, FpOk X pins (upd H2 D (.lst [])) b ∧ b < s3.heap.objs.size := fun b hb =>
    ⟨⟨by rw [upd_ne (by have := lt2 b hb; rw [hD] at this; exact Nat.ne_of_lt this)]; exact (f2 b hb).1, (f2 b hb).2⟩, by rw [z3]; exact Nat.lt_succ_of_lt (lt2 b hb)⟩
  have st3 : tn 0 s3.heap := T.keep _ _ _ st2 fun b _ o e => p3 b o e
  have I4 := block_start I3 ok hN f3
  have pg := hg s3 (upd H2 D (.lst [])) s3.heap.objs.size (cellsFrom (s3.heap.objs.size + 1) scope.names (cloFrom X.env.cells scope.names [])) fp
  have pt := ht s3 (upd H2 D (.lst [])) s3.heap.objs.size (cellsFrom (s3.heap.objs.size + 1) scope.names (cloFrom X.env.cells scope.names [])) fp
  have pe := he σ s3 (upd H2 D (.lst [])) s3.heap.objs.size (cellsFrom (s3.heap.objs.size + 1) scope.names (cloFrom X.env.cells scope.names [])) fp
  show codeAny _ _ (.compStart (.ListComp elt [⟨tg, iter, ifs, 0⟩] scope pos) 0 (.ref it) (.ref D) (compEnvC scope (cellsFrom (s3.heap.objs.size + 1) scope.names (cloFrom X.env.cells scope.names [])) s3.heap.objs.size X.env))
    (compEnds (model X.prog X.w) X.A X.xe none (EP X pins σ Q) (.ref D) (compEnvC scope (cellsFrom (s3.heap.objs.size + 1) scope.names (cloFrom X.env.cells scope.names [])) s3.heap.objs.size X.env)) { s3 with heap := pushCells (s3.heap.push { cls := .type "dict", data := .dict #[] }) scope.names }
  have nfp : ∀ b ∈ fp, (upd H2 D (.lst [])) b = none := fun b hb => (f3 b hb).1.1
  generalize hce : compEnvC scope (cellsFrom (s3.heap.objs.size + 1) scope.names (cloFrom X.env.cells scope.names [])) s3.heap.objs.size X.env = ce at *
  have cL : ce.locals = s3.heap.objs.size := by subst hce; rfl
  have cF : ce.frame = X.env.frame := by subst hce; rfl
  generalize hH3 : upd H2 D (.lst []) = H3 at *
  generalize hs4 : ({ s3 with heap := pushCells (s3.heap.push { cls := .type "dict", data := .dict #[] }) scope.names } : Shared) = s4 at *
  have st4 : tn 0 s4.heap := T.keep _ _ _ st3 fun b _ o e => by subst hs4; exact pushCells_keeps _ _ _ _ (Heap.get?_push_of_some _ e)
  have cLn : ce.locals ≠ X.env.locals := fun z => by
    have := I3.lt
    rw [← z, cL] at this
    exact absurd this (Nat.lt_irrefl _)
  generalize hR : compEnds (model X.prog X.w) X.A X.xe none (EP X pins σ Q) (.ref D) ce = R
  have stat : ∀ {σ' : L2.St} {H' : Hp} {s' : Shared}, Inv (X.blk s3 H3 scope ce fp) [] σ' H' s' → (∀ b ∈ fp, H' b = none) → ∀ b ∈ fp, FpOk (X.blk s3 H3 scope ce fp) [] H' b := fun {σ' H' s'} I' hn b hb =>
    ⟨hn b hb, (I'.ok.exf b hb).1, I'.ok.exfs b hb, .inl hb, fun x c e => (I'.ok.exf b hb).2 x c e, fun p hp => absurd (show p ∈ ([] : List (Addr × Obj)) ++ [] from hp) (by simp)⟩
  -- back in the def's context
  have back : ∀ {pn : List (Addr × Obj)} {xe : Value → Shared → Prop} {pins' : List (Addr × Obj)} {σ' : L2.St} {H' : Hp} {s' : Shared}, Inv ((X.blk s3 H3 scope ce fp).tr pn xe) pins' σ' H' s' → Inv X pins σ H' s' ∧ ∃ m, s'.heap.Ns ce.locals m := fun {pn xe pins' σ' H' s'} I' =>
    ⟨I3.call' (ch := fp) I'.os I'.base I'.hok I'.bare fun b hb => ⟨(f3 b hb).1.2.2.2.1, (f3 b hb).1.2.1, (f3 b hb).1.2.2.2.2.1, (f3 b hb).1.2.2.2.2.2⟩, let ⟨m, hn, _⟩ := I'.loc; ⟨m, hn⟩⟩
  have fpC : ∀ {H' : Hp}, H' ce.locals = none → FpOk X pins H' ce.locals := fun {H'} z => I3.fpOk (Nat.le_of_eq cL.symm) z
  -- what the element lets out
  have take : ∀ (pn : List (Addr × Obj)), Takes ((X.blk s3 H3 scope ce fp).tr pn (notedBy (model X.prog X.w) X.A ce fun e s' => R (.error e) s')) (Wat Wi σ) := fun pn u s' x => by
    obtain ⟨a, B, sI, pins', σ', H', cls, d, rfl, I', nb, up, sky, na, os, ag, w⟩ := x
    show wpAny (model X.prog X.w) X.A (noteFrame (.ref a) ce) _ _ s'
    rw [noteFrame_env _ cF]
    have hA : X.A.frames = some (X.env :: X.outer) := by rw [I.ok.frames, hst]
    have sky' : Sky B (X.env :: X.outer) a (Zc cls d) ce.locals s'.heap := by rw [← hst]; exact sky
    have fin : ∀ h1, HandSPX.HeldZ B (X.env :: X.outer) a (Zc cls d) X.env.locals h1 → s'.heap.UpToSlots h1 → R (.error (.ref a)) { s' with heap := h1 } := fun h1 hh up1 => by
      obtain ⟨J, m, hn⟩ := back I'
      have nC : H' ce.locals = none := I'.free
      obtain ⟨oC, esC, epC, goC, dC, rC⟩ := id hn
      have nfC : ∀ vs, oC.data ≠ .fields vs := fun vs q => by rw [dC] at q; cases q
      have up2 := up.trans up1
      obtain ⟨sl, g1C⟩ := up2 _ _ goC nfC
      have CnF : ce.locals ∉ frs X.stack := fun hm => by
        rw [hst] at hm
        rcases List.mem_cons.mp (show ce.locals ∈ X.env.locals :: frs X.outer by simpa [frs, hfr] using hm) with z | z
        · exact cLn z
        · obtain ⟨_, o, ho, _⟩ := I3.ok.funs.mem (show ce.locals ∈ frs X.outer from z)
          have := Nat.lt_of_lt_of_le (Heap.lt_size ho) I3.sz
          rw [cL] at this
          exact absurd this (Nat.lt_irrefl _)
      have bC : B.get? ce.locals = some oC := nb _ _ goC CnF
      have aC : a ≠ ce.locals := fun q => by
        have := hh.2.1
        rw [q, bC] at this
        cases this
      obtain ⟨G, gg, gC, hh2⟩ := held_less (C := ce.locals) hh
      subst hR
      show CompFails (model X.prog X.w) X.A X.xe ce (.ref a) { s' with heap := h1 }
      refine ⟨m, ⟨_, esC, epC, g1C, dC, rC⟩, fun h2 m2 hn2 sb => ?_⟩
      have hh3 := held_but hh2 gC sb hn2 aC fun o q => by
        have q : h1.get? ce.locals = some o := q
        rw [g1C] at q
        cases q
        exact nfC
      obtain ⟨st, en, ff, oe, vs, Tb, oT, ts, ge, z, de, v1, bT, Te, gT, dT, t3⟩ := id hh3
      unfold PySem.passOn
      refine wpAny_bind (wpAny_field ge de v1 ?_)
      rw [if_neg (show ¬ ((Value.ref Tb == Value.none) = true) from by simp), cF, hfr]
      refine wpAny_bind (HandSPX.setFlight_onZ hh3 fun h3 hh4 up4 => ?_)
      refine wpAny_throw ?_
      -- the state without the block of names
      obtain ⟨hI, i1, i2⟩ := restrict sI.heap fun b => decide (b ≠ ce.locals)
      obtain ⟨f0, f1, f4, f5, f6, f7⟩ := fpC nC
      have JI : Inv X pins σ H' { sI with heap := hI, toks := sI.toks } := J.turned (fun b o hb e => by rw [i1 b (by simpa using hb)]; exact e) f0 f1 f5 f6 f7
      have of : ∀ b o, hI.get? b = some o → b ≠ ce.locals ∧ sI.heap.get? b = some o := fun b o e => by
        by_cases q : b = ce.locals
        · rw [q, i2 _ (by simp)] at e; cases e
        · rw [i1 b (by simpa using q)] at e
          exact ⟨q, e⟩
      refine tk _ _ ⟨a, G, { sI with heap := hI, toks := sI.toks }, pins, σ, H', cls, d, rfl, JI, fun b o e hb => ?_, fun b o e nf => ?_, .inr (.inr ?_), na, os, ag, w⟩
      · obtain ⟨q, e⟩ := of b o e
        rw [gg b q]
        exact nb b o e hb
      · obtain ⟨q, e⟩ := of b o e
        obtain ⟨sl1, e1⟩ := up2 b o e nf
        have e2 : h2.get? b = some { o with slots := sl1 } := (sb.2 b q).trans e1
        obtain ⟨sl2, e3⟩ := up4 b { o with slots := sl1 } e2 nf
        exact ⟨sl2, e3⟩
      · rw [hst]; exact hh4
    exact sky_noted Zc.steady hA hfr cLn sky' fun h1 hh up1 => fin h1 hh up1
  have loop : codeAny (model X.prog X.w) X.A (.compLoop (.ListComp elt [⟨tg, iter, ifs, 0⟩] scope pos) 0 (.ref it) (.ref D) ce) R s4 := by
    refine compLoop_any (fun n s' => ∃ i H', Inv (X.blk s3 H3 scope ce fp) [] (wipe σ (own.map (·.2))) H' s' ∧ tn i s'.heap ∧ (∀ b ∈ fp, H' b = none) ∧ W i n H') ?_ m0 ⟨0, H3, I4, st4, nfp, w0⟩
    rintro n s5 ⟨i, H5, I5, st5, n5, w5⟩
    rcases turn i n H5 w5 with ⟨stop, qq⟩ | ⟨go, Nx, hNx, step⟩
    · refine thnF (T.done (X.blk s3 H3 scope ce fp) rfl rfl rfl hc i [] s5 _ H5 (fun _ _ => False) I5 (stat I5 n5) st5 stop) fun r s6 ⟨hr, I6⟩ => ?_
      subst hr
      obtain ⟨I7, m, hn⟩ := back (I6.toTry fun _ _ => False)
      obtain ⟨f0, f1, f4, f5, f6, f7⟩ := fpC (show H5 ce.locals = none from I6.free)
      subst hR
      exact ⟨m, hn, fun h' sb => ⟨.ref D, H5, I7.turned (t' := s6.toks) (fun b o hb e => (sb.2 b hb).trans e) f0 f1 f5 f6 f7, rfl, qq⟩⟩
    · refine thnF (T.item (X.blk s3 H3 scope ce fp) rfl rfl rfl hc i [] s5 _ H5 (fun _ _ => False) I5 (stat I5 n5) st5 go) fun r s6 ⟨u, hr, h6⟩ => ?_
      subst hr
      refine thnF h6 fun _ s7 ⟨x, H7, I7, r7, y7, st7, n7⟩ => ?_
      have I7' := I7.pinned (stat I7 n7) (T.obj _ _ st7)
      refine thnF (pg.run _ s7 _ H7 x u _ I7' r7 (step x H7 y7)) fun _ s8 ⟨σ8, H8, I8, hw8, q8⟩ => ?_
      refine thnF (pt.run _ s8 σ8 H8 _ I8 q8) fun b s9 ⟨H9, I9, q9⟩ => ?_
      have done : ∀ {s' : Shared} {H' : Hp}, Inv (X.blk s3 H3 scope ce fp) ([] ++ pinsAt fp s7.heap) σ8 H' s' → Nx H' → ∃ m, m < n ∧ ∃ i H', Inv (X.blk s3 H3 scope ce fp) [] (wipe σ (own.map (·.2))) H' s' ∧ tn i s'.heap ∧ (∀ b ∈ fp, H' b = none) ∧ W i m H' := fun {s' H'} I' nx => by
        obtain ⟨m', hm, w'⟩ := hNx H' nx
        have at7 : ∀ b ∈ fp, ∀ o, s7.heap.get? b = some o → s'.heap.get? b = some o ∧ H' b = none := fun b hb o e =>
          let k := I'.pin (b, o) (List.mem_append_right _ (List.mem_append_right _ (mem_pinsAt hb e))); ⟨k.1, k.2.1⟩
        refine ⟨m', hm, i + 1, H', (I'.unpinned (pins := [])).weak (by rw [← hw8, wipe_length]) (fun j v e => (wipe_some (hw8 ▸ e)).1), T.keep _ _ _ st7 fun b hb o e => (at7 b hb o e).1, fun b hb => ?_, w'⟩
        obtain ⟨o, e, _⟩ := T.obj _ _ st7 b hb
        exact (at7 b hb o e).2
      cases b with
      | false =>
        simp only [Bool.false_eq_true, if_false] at q9 ⊢
        exact done I9 q9
      | true =>
        simp only [if_true] at q9 ⊢
        have I9t := I9.toTry (notedBy (model X.prog X.w) X.A ce fun e s' => R (.error e) s')
        refine thn ((pe _ _ (take _)).run [] s9 σ8 H9 _ I9t q9) fun z s10 ⟨yv, H10, I10, r10, acc, hD10, hz10, nx⟩ => ?_
        have I10' : Inv (X.blk s3 H3 scope ce fp) ([] ++ pinsAt fp s7.heap) σ8 H10 s10 := I10.ofTry I9.ok
        exact app_ok (X := X.blk s3 H3 scope ce fp) I10' hD10 hz10 r10 fun s11 I11 => done I11 nx
  exact codeAny_compStart_list loop (T.self X.A 0 _ _ _ st4 loop)
end
end VL


set_option Elab.async false
set_option linter.all false
set_option maxRecDepth 100000
set_option maxHeartbeats 4000000
namespace VL
open PySem PySem.Spec L2
open PyProof.Rows hiding St

/-! a comprehension whose element may raise, over data -/
def compLX (g : D → Env → Option Env) (tt : M Bool) (te : M D) (vs : List Nat) : List D → List D → M D
  | [], acc, env => .ok (.lst true acc) env
  | d :: ds, acc, env => match g d env with
    | none => .bad
    | some e1 => match tt e1 with
      | .ok b e2 => if b then (match te e2 with
        | .ok y e3 => if acc.length < sizeLine then compLX g tt te vs ds (acc ++ [y]) (wipeE e3 vs) else .bad
        | .exc x e3 => .exc x (wipeE e3 vs)
        | .bad => .bad) else compLX g tt te vs ds acc (wipeE e2 vs)
      | _ => .bad
def mCompX (mi : M (List D)) (g : D → Env → Option Env) (tt : M Bool) (te : M D) (vs : List Nat) : M D := mi.bind fun items => fun env => compLX g tt te vs items [] (wipeE env vs)
section
variable {X : Cx} {Wi : WX}
theorem mCompX_run {wi : TI} {g : D → Env → Option Env} {tt : M Bool} {te : M D} {vs : List Nat} {mi : M (List D)} {W0 : Addr → Prop} {env : Env} {fe : List Addr} {σ : L2.St} {H : Hp} {Q : VK}
    (hgl : ∀ d e e', g d e = some e' → e'.length = e.length) (hw : ∀ σ H Rr, tI X.gg Wi mi σ H Rr → wi σ H Rr) (I : Top X.gg W0 env fe σ [] [] [] H) (k : EndE X.gg Wi W0 fe σ H Q (mCompX mi g tt te vs env)) :
    tLc wi (tG X.gg (butS env.length vs) g) (tT X.gg WF tt) (tM X.gg (Wat Wi σ) te) vs σ H Q := by
  unfold mCompX M.bind at k
  refine hw _ _ _ ⟨W0, env, fe, I, ?_⟩
  cases e1 : mi env with
  | exc x env1 => rw [e1] at k; exact k
  | bad => rw [e1] at k; exact k
  | ok items env1 =>
    simp only [e1] at k
    intro J H1 fe1 xs fr nw T rs ⟨S, s1, s2, s3, s4⟩ C hC
    have hl := rs.len
    have kp1 : Same H1 (upd H1 C (.lst [])) := fun b x q => by rw [upd_ne (ne_of_none q hC)]; exact q
    obtain ⟨fe2, sub2, T2, T2'⟩ := top_wipe T vs
    have hlen : env.length = σ.length := I.e.len
    -- the new list at hand
    have T3 : Top X.gg W0 (wipeE env1 vs) fe2 (wipe σ vs) [.lst true []] [C] [.ref C] (upd H1 C (.lst [])) :=
      T2.grow kp1 (fun b hb => by rw [List.mem_singleton.mp hb]; exact hC) (by simp) (Rs.one (by simp only [R]; exact ⟨C, [], [], rfl, rfl, upd_same, rfl, rfl⟩))
    refine ⟨fun i m H' => i ≤ items.length ∧ m = items.length - i ∧ ∃ acc env' fe' fd', Fr fe1 H1 H' ∧ Nw H1 fe1 (fe' ++ fd') ∧ Top X.gg W0 env' fe' (wipe σ vs) [.lst true acc] fd' [.ref C] H' ∧ EndE X.gg Wi W0 fe1 σ H1 Q (compLX g tt te vs (items.drop i) acc env') ∧ (∀ (v : Nat) (d : D), v ∈ vs → env'[v]? ≠ some (some d)),
      ⟨items.length, Nat.zero_le _, by omega, [], wipeE env1 vs, fe2, [C], Fr.kp kp1, fun b hb => ?_, T3, by simpa using k.from fr nw, fun v d hv e => (wipeE_get e).2 hv⟩, ?_⟩
    · rcases List.mem_append.mp hb with hb | hb
      · exact .inl (sub2 b hb)
      · rw [List.mem_singleton.mp hb]; exact .inr hC
    rintro i m H2 ⟨hi, rfl, acc, env2, fe3, fd2, fr2, nw2, T4, k2, nv⟩
    have S2 : S H2 := s2 _ _ s1 fun b x q hb => fr2 b x q fun z => hb (.inr (.inl z))
    by_cases hlt : i < items.length
    rotate_left
    · have e : i = items.length := by omega
      subst e
      rw [List.drop_length] at k2
      refine .inl ⟨by rw [hl]; exact s4 H2 S2, k2 _ H2 fe3 fd2 fr2 nw2 (T4.anyS (wipe_length σ vs) fun i d e => ?_)⟩
      exact (wipe_ne fun hv => nv i d hv e).symm
    obtain ⟨x, hx⟩ : ∃ x, xs[i]? = some x := ⟨xs[i]'(by omega), List.getElem?_eq_getElem (by omega)⟩
    obtain ⟨go, yl⟩ := s3 H2 i x S2 hx
    refine .inr ⟨go, fun H' => ∃ acc env' fe' fd', Fr fe1 H1 H' ∧ Nw H1 fe1 (fe' ++ fd') ∧ Top X.gg W0 env' fe' (wipe σ vs) [.lst true acc] fd' [.ref C] H' ∧ EndE X.gg Wi W0 fe1 σ H1 Q (compLX g tt te vs (items.drop (i + 1)) acc env') ∧ (∀ (v : Nat) (d : D), v ∈ vs → env'[v]? ≠ some (some d)),
      fun H' z => ⟨items.length - (i + 1), by omega, by omega, rfl, z⟩, fun x' H' y => ?_⟩
    obtain ⟨rfl, rfl⟩ := yl x' H' y
    rw [List.drop_eq_getElem_cons hlt] at k2
    have T5 := T4.lift
    have rd : R X.gg H' (Wx (fun b => W0 b ∨ b ∈ fd2) fe3 []) items[i] [] x' := by
      refine R.mono _ _ _ (rs_get rs hlt hx) (fun b x q z => fr2 b x q fun hb => ?_) fun b h t z => ?_
      · rcases z with z | z
        · exact z (.inr (.inl hb))
        · simp at z
      · rcases z with (z | z) | z | z
        · exact h (.inl z)
        · rcases nw2 b (List.mem_append_right _ z) with q | q
          · exact h (.inr (.inl q))
          · exact t q
        · rcases nw2 b (List.mem_append_left _ z) with q | q
          · exact h (.inr (.inl q))
          · exact t q
        · simp at z
    have T6 : Top X.gg (fun b => W0 b ∨ b ∈ fd2) env2 fe3 (wipe σ vs) [items[i]] [] [x'] H' := T5.grow (Same.refl _) (fun b z => absurd z (by simp)) List.nodup_nil (Rs.one (R.mono _ _ _ rd (fun _ _ q _ => q) fun b h _ z => h (z.resolve_right (by simp))))
    simp only [compLX] at k2
    refine ⟨_, env2, fe3, _, [], T6, ?_⟩
    cases eg : g items[i] env2 with
    | none => rw [eg] at k2; exact k2
    | some env3 =>
      simp only [eg] at k2
      intro σ4 fe4 sub4 pn4 T7
      have sub4' : ∀ b ∈ fe4, b ∈ fe3 := fun b hb => by have := sub4 b hb; simpa using this
      have hl4 : σ4.length = σ.length := by
        have a1 := T7.e.len
        have a3 : env3.length = env2.length := by
          have a2 := T6.e.len
          rw [wipe_length] at a2
          rw [hgl _ _ _ eg]
        have a2 := T6.e.len
        rw [wipe_length] at a2
        omega
      have ew : wipe σ4 vs = wipe σ vs := wipe_eq hl4 fun j hj => by
        by_cases hn : j < env.length
        · rw [pn4 j (List.mem_filter.mpr ⟨List.mem_range.mpr hn, by simpa using hj⟩), wipe_ne hj]
        · rw [List.getElem?_eq_none (by omega), List.getElem?_eq_none (by omega)]
      refine ⟨ew, _, env3, fe4, T7, ?_⟩
      cases et : tt env3 with
      | exc x e2 => simp only [et] at k2; exact k2.elim
      | bad => simp only [et] at k2; exact k2
      | ok b e2 =>
        simp only [et] at k2
        intro H3 fe5 fr5 nw5 T8
        have fr35 : Fr fe3 H' H3 := Fr.trans Fr.refl (fun b hb => .inl (sub4' b hb)) fr5
        have nw35 : Nw H' fe3 fe5 := Nw.trans Fr.refl (fun b hb => .inl (sub4' b hb)) nw5
        cases b with
        | false =>
          simp only [Bool.false_eq_true, if_false] at k2 ⊢
          have B := T4.back (fd' := []) fr35 (by rw [List.append_nil]; exact nw35) T8
          simp only [List.append_nil] at B
          obtain ⟨g6, sub6, T9, _⟩ := top_wipe B vs
          rw [ew] at T9
          refine ⟨acc, wipeE e2 vs, g6, fd2, fr2.trans nw2.left fr35, ?_, T9, k2, fun v d hv e => (wipeE_get e).2 hv⟩
          refine (Nw.trans fr2 nw2.left (l := g6) fun b hb => nw35 b (sub6 b hb)).app nw2.right
        | true =>
          simp only [if_true] at k2 ⊢
          refine ⟨_, e2, fe5, T8, ?_⟩
          cases ee : te e2 with
          | exc x e3 =>
            simp only [ee] at k2
            intro cls dd H4 fe6 fr6 nw6 T9 ex
            have fr36 : Fr fe3 H' H4 := fr35.trans nw35 fr6
            have nw36 : Nw H' fe3 fe6 := Nw.trans fr35 nw35 nw6
            have B := (T4.back (fd' := []) fr36 (by rw [List.append_nil]; exact nw36) T9).drop
            obtain ⟨g6, sub6, T10, T11⟩ := top_wipe B vs
            have T12 := T11.anyS (σ' := σ) (by have := T11.e.len; have := T9.e.len; rw [hl4]) fun i d e => by
              have h1 := (wipeE_get e).2
              have h2 := congrArg (fun l => l[i]?) ew
              simp only [wipe_ne h1] at h2
              exact h2.symm
            refine k2 cls dd H4 g6 (fr2.trans nw2.left fr36) ((Nw.trans fr2 nw2.left nw36).sub sub6) T12 ?_
            obtain ⟨C', h1, h2, h3⟩ := ex
            refine ⟨C', h1, h2, fun hn => ?_⟩
            obtain ⟨d, fs, x1, x2, x3, x4⟩ := h3 hn
            refine ⟨d, fs, x1, x2, x3, Rs.mono _ _ _ x4 (fun _ _ q _ => q) fun b h _ z => ?_⟩
            rcases z with z | z | z
            · exact h (.inl (.inl z))
            · exact h (.inr (.inl (sub6 b z)))
            · simp at z
          | bad => simp only [ee] at k2; exact k2
          | ok y e3 =>
            simp only [ee] at k2
            intro v H4 fe6 fd6 fr6 nw6 T9
            have fr36 : Fr fe3 H' H4 := fr35.trans nw35 fr6
            have nw36 : Nw H' fe3 (fe6 ++ fd6) := Nw.trans fr35 nw35 nw6
            have B := T4.back fr36 nw36 T9
            obtain ⟨av, q1, q2, T10⟩ := Top.append B
            by_cases hz : acc.length < sizeLine
            · rw [if_pos hz] at k2
              refine ⟨av, q1, by rw [q2]; exact hz, ?_⟩
              obtain ⟨g6, sub6, T11, _⟩ := top_wipe T10 vs
              rw [ew] at T11
              -- the new list is none of what stood ahead
              have hCfd : C ∈ fd2 := by
                obtain ⟨v', e5, h5⟩ := T4.val1
                simp only [List.cons.injEq, and_true] at e5
                subst e5
                simp only [R] at h5
                obtain ⟨a, us, f1, e6, e7, _⟩ := h5
                cases e6
                rw [e7]; exact List.mem_cons_self
              have frC : Fr fe1 H1 (upd H4 C (.lst (av ++ [v]))) := fun b z q hb => by
                have hne : b ≠ C := ne_of_none q hC
                rw [upd_ne hne]
                exact (fr2.trans nw2.left fr36) b z q hb
              refine ⟨acc ++ [y], wipeE e3 vs, g6, fd2 ++ fd6, frC, ?_, T11, k2, fun v d hv e => (wipeE_get e).2 hv⟩
              have n1 := Nw.trans fr2 nw2.left nw36
              refine (n1.left.sub sub6).app fun b hb => ?_
              rcases List.mem_append.mp hb with hb | hb
              · exact nw2 b (List.mem_append_right _ hb)
              · exact n1 b (List.mem_append_right _ hb)
            · rw [if_neg hz] at k2; exact k2.elim
variable {elt tg iter : Expr} {scope : Scope} {own : List (Str × Nat)} {pos : Pos} {mi : M (List D)} {g : D → Env → Option Env} {tt : M Bool} {te : M D} {ifs : List Expr}
theorem pm_lcX (hc : X.calm = true) (hN : X.N.Nodup) (hst : X.stack = X.env :: X.outer) (hfr : X.env.frame = some X.env.locals) (tk : Takes X Wi) (hi : PMI X Wi tg iter mi) (ok : BlkOk X.N X.env.scope scope own) (n : Nat) (hn : X.N.length = n)
    (hg : ∀ (s : Shared) (H : Hp) (C : Addr) (cl : List (Str × Addr)) (fp : List Addr), PG (X.blk s H scope (compEnvC scope cl C X.env) fp) tg (tG X.gg (butS n (own.map (·.2))) g)) (ht : ∀ (s : Shared) (H : Hp) (C : Addr) (cl : List (Str × Addr)) (fp : List Addr), PTs (X.blk s H scope (compEnvC scope cl C X.env) fp) ifs (tT X.gg WF tt))
    (he : ∀ (W : WX) (s : Shared) (H : Hp) (C : Addr) (cl : List (Str × Addr)) (fp : List Addr) (pn : List (Addr × Obj)) (xe : Value → Shared → Prop), Takes ((X.blk s H scope (compEnvC scope cl C X.env) fp).tr pn xe) W → PE ((X.blk s H scope (compEnvC scope cl C X.env) fp).tr pn xe) elt (tM X.gg W te))
    (hgl : GLen g) (hs : ∀ x, foldedSetIterable iter X.env x = pure x := by intro _; rfl) :
    PM X Wi (.ListComp elt [⟨tg, iter, ifs, 0⟩] scope pos) (mCompX mi g tt te (own.map (·.2))) := by
  refine ⟨fun pins s σ H Q I h => (pe_lcX (te := fun σ => tM X.gg (Wat Wi σ) te) hc hN hst hfr tk hi ok hg ht (fun σ s H C cl fp pn xe tk' => he _ s H C cl fp pn xe tk') hs).run pins s σ H Q I ?_⟩
  obtain ⟨W0, env, fe, T, k⟩ := h
  have e : env.length = n := by rw [T.e.len, I.len, hn]
  rw [← e]
  exact mCompX_run hgl (fun _ _ _ h => h) T k
end
end VL


set_option Elab.async false
set_option linter.all false
set_option maxRecDepth 100000
set_option maxHeartbeats 4000000
namespace VL
open PySem PySem.Spec L2
open PyProof.Rows hiding St

/-! ### x.replace(y, z), y and z written; a token must be out ahead of it -/
/-- as PE, and behind it a token is out -/
def PE1 (X : Cx) (e : Expr) (t : TE) : Prop := ∀ (pins : List (Addr × Obj)) (s : Shared) (σ : L2.St) (H : Hp) (Q : VK), Inv X pins σ H s → t σ H Q →
  wpAny (model X.prog X.w) X.A (eval e X.env) (fun v s' => EP X pins σ Q v s' ∧ 1 ≤ s'.toks) X.xe s
section
variable {X : Cx} {Wi : WX} {a b o : Expr} {ta tb : TE} {ma mb mo : M D} {pos p apos c0 c1 : Pos} {c y z : Str} {j k : Nat}
theorem pe1_str : PE1 X (.Constant (.str c) j p) (tC (.str c)) := fun pins s σ H Q I h => Calls.Constant_str ⟨⟨.str c, H, I.tok _, ⟨_, rfl⟩, h⟩, by show 1 ≤ s.toks + 1; omega⟩
theorem pe1_op {op : Operator} {r : R2} (ho : OpR X (binaryOp op) r) (ha : PE1 X a ta) (hb : PE X b tb) : PE1 X (.BinOp a op b pos) (tOp r ta tb) := by
  intro pins s σ H Q I h
  refine wpAny_BinOp (wpAny_mono (ha pins s σ H _ I h) (fun v s1 q => ?_) fun _ _ x => x)
  obtain ⟨⟨x, H1, I1, r1, q1⟩, h1⟩ := q
  refine wpAny_mono (PySem.wpAny_toks (hb.run pins s1 σ H1 _ I1 q1)) (fun u s2 q => ?_) fun _ _ z => z.2
  obtain ⟨hk, y, H2, I2, r2, q2⟩ := q
  refine wpAny_mono (PySem.wpAny_toks (ho pins s2 σ H2 x y v u Q I2 r1 r2 q2)) (fun w s3 q => ?_) fun _ _ z => z.2
  exact ⟨q.2, Nat.le_trans h1 (Nat.le_trans hk q.1)⟩
theorem pe_op1 {op : Operator} {r : R2} (ho : OpR X (binaryOp op) r) (ha : PE1 X a ta) (hb : PET X b tb) : PE1 X (.BinOp a op b pos) (tOp r ta tb) := by
  intro pins s σ H Q I h
  refine wpAny_BinOp (wpAny_mono (ha pins s σ H _ I h) (fun v s1 q => ?_) fun _ _ x => x)
  obtain ⟨⟨x, H1, I1, r1, q1⟩, h1⟩ := q
  refine wpAny_mono (PySem.wpAny_toks (hb pins s1 σ H1 _ h1 I1 q1)) (fun u s2 q => ?_) fun _ _ z => z.2
  obtain ⟨hk, y, H2, I2, r2, q2⟩ := q
  refine wpAny_mono (PySem.wpAny_toks (ho pins s2 σ H2 x y v u Q I2 r1 r2 q2)) (fun w s3 q => ?_) fun _ _ z => z.2
  exact ⟨q.2, Nat.le_trans h1 (Nat.le_trans hk q.1)⟩
theorem PE1.pe (h : PE1 X a ta) : PE X a ta := ⟨fun pins s σ H Q I q => thn (h pins s σ H Q I q) fun _ _ x => x.1⟩
theorem PE1.imp {t' : TE} (h : PE1 X a ta) (k : ∀ σ H Q, t' σ H Q → ta σ H Q) : PE1 X a t' := fun pins s σ H Q I q => h pins s σ H Q I (k σ H Q q)
abbrev PM1 (X : Cx) (Wi : WX) (e : Expr) (m : M D) : Prop := PE1 X e (tM X.gg Wi m)
abbrev PMt (X : Cx) (Wi : WX) (e : Expr) (m : M D) : Prop := PET X e (tM X.gg Wi m)
theorem pm1_str : PM1 X Wi (.Constant (.str c) j p) (mC (.str c)) := pe1_str.imp fun σ H Q ⟨W0, env, fe, I, k⟩ => k (.str c) H fe [] Fr.refl (by rw [List.append_nil]; exact Nw.refl) (top_c I fun W => ⟨rfl, rfl⟩)
theorem pm1_add (ha : PM1 X Wi a ma) (hb : PM X Wi b mb) : PM1 X Wi (.BinOp a .Add b pos) (m2 dAdd ma mb) := (pe1_op opr_add ha hb).imp fun _ _ _ ⟨_, _, _, I, k⟩ => m2_run ok_add I k
theorem pm1_mul (ha : PM1 X Wi a ma) (hb : PM X Wi b mb) : PM1 X Wi (.BinOp a .Mult b pos) (m2 dMul ma mb) := (pe1_op opr_mul ha hb).imp fun _ _ _ ⟨_, _, _, I, k⟩ => m2_run ok_mul I k
theorem pm1_addT (ha : PM1 X Wi a ma) (hb : PMt X Wi b mb) : PM1 X Wi (.BinOp a .Add b pos) (m2 dAdd ma mb) := (pe_op1 opr_add ha hb).imp fun _ _ _ ⟨_, _, _, I, k⟩ => m2_run ok_add I k
/-- the text replaced -/
def dRepl (y z : Str) : D → Option D
  | .str x => if x.length + (x.length + 1) * z.length ≤ 16777216 then some (.str (Txt.replace x y z)) else none
  | _ => none
def rRepl (y z : Str) : V → Hp → VK → Prop := fun v H Q => ∃ x, v = .str x ∧ x.length + (x.length + 1) * z.length ≤ 16777216 ∧ Q (.str (Txt.replace x y z)) H
theorem ok_repl {mg : G} : Op1 mg (rRepl y z) (dRepl y z) := op1_of fun W H a x d Q ha tr e k => by
  unfold dRepl at e
  split at e
  · obtain ⟨_, rfl⟩ := ha
    split at e
    · obtain rfl := Option.some.inj e
      exact ⟨_, rfl, by assumption, k.old ⟨rfl, rfl⟩⟩
    · cases e
  · cases e
theorem pmt_repl (ho : PM X Wi o mo) (hyz : (y == z) = false := by decide)
    (hst : starEach [.Constant (.str y) j c0, .Constant (.str z) k c1] X.env = [(false, eval (.Constant (.str y) j c0) X.env), (false, eval (.Constant (.str z) k c1) X.env)] := by rfl)
    (hbase : attributeBase o "replace" X.env (eval o X.env) = eval o X.env := by rfl) (hline : (apos.endLine == pos.line) = true := by rfl) :
    PMt X Wi (.Call (.Attribute o "replace" apos) [.Constant (.str y) j c0, .Constant (.str z) k c1] [] pos) (m1 (dRepl y z) mo) := fun pins s σ H Q h0 I ⟨W0, env, fe, T, q⟩ =>
  CwR.pet_replC ho hyz hst hbase hline pins s σ H Q h0 I (m1_run ok_repl T q)
theorem pmt_replT (ho : PMt X Wi o mo) (hyz : (y == z) = false := by decide)
    (hst : starEach [.Constant (.str y) j c0, .Constant (.str z) k c1] X.env = [(false, eval (.Constant (.str y) j c0) X.env), (false, eval (.Constant (.str z) k c1) X.env)] := by rfl)
    (hbase : attributeBase o "replace" X.env (eval o X.env) = eval o X.env := by rfl) (hline : (apos.endLine == pos.line) = true := by rfl) :
    PMt X Wi (.Call (.Attribute o "replace" apos) [.Constant (.str y) j c0, .Constant (.str z) k c1] [] pos) (m1 (dRepl y z) mo) := fun pins s σ H Q h0 I ⟨W0, env, fe, T, q⟩ =>
  CwR.pet_replT ho hyz hst hbase hline pins s σ H Q h0 I (m1_run ok_repl T q)
end
end VL


set_option Elab.async false
set_option linter.all false
set_option maxRecDepth 100000
set_option maxHeartbeats 4000000
namespace VL
open PySem PySem.Spec L2
open PyProof.Rows hiding St

/-! ### the law's end -/
def spLaw (n : Nat) (K : PySem.W.Frag) : Sp := fun vs H Q _ => ∃ (a : Addr) (ns : List Int), vs = [.ref a] ∧ SqL K H a (ns.map V.int) ∧ ns.length ≤ n ∧ Only H ∧ ∀ H', Q (.bl true) H'
theorem law_end {n : Nat} {K : PySem.W.Frag} {mg : Str → Option Value} {F : Fn} (hF : ∀ ns : List Int, ns.length ≤ n → ∃ o, F [.scr ns] = .ok (.bl true) o) (vs : List V) (H : Hp) (Q : VK) (E : XK) (h : spLaw n K vs H Q E) : spF ⟨K, mg⟩ 1 none F vs H Q E := by
  obtain ⟨a, ns, rfl, hs, hl, hO, q⟩ := h
  refine ⟨fun _ => False, [.scr ns], [], rfl, ⟨⟨rfl, rfl⟩, Rs.one ?_, List.nodup_nil, fun b h => h.elim, fun b hb => absurd hb (by simp)⟩, ?_⟩
  · refine ⟨rfl, a, rfl, ?_⟩
    rcases hs with (h | ⟨o, h⟩) | h
    · rcases hO a with h' | ⟨o, xs, h'⟩ <;> rw [h] at h' <;> cases h'
    · exact .inl ⟨o, h, fun z => by rcases z with z | z | z <;> simp at z⟩
    · exact .inr h
  · obtain ⟨o, e⟩ := hF ns hl
    rw [e]
    intro v H' fr _ _ T
    obtain ⟨f1, f2, u, us, _, e2, ⟨_, h1⟩, _⟩ := T.t
    simp only [IoV, List.cons.injEq] at e2
    obtain ⟨rfl, _⟩ := e2
    rw [h1]
    exact q H'
theorem law_fn {P : Program} {w : World} {K : PySem.W.Frag} {mg : Str → Option Value} {base : Heap} {n k : Nat} {f : Addr} {fd : FuncData} {ps : List Str} {F : Fn} (o : FnOk P w K mg base (L2.CX P w) k f fd ps (spF ⟨K, mg⟩ 1 none F)) (hF : ∀ ns : List Int, ns.length ≤ n → ∃ o, F [.scr ns] = .ok (.bl true) o) :
    FnOk P w K mg base (L2.CX P w) k f fd ps (spLaw n K) := o.imp fun vs H Q E h => law_end hF vs H Q E h
theorem cx_no {P : Program} (w : World) (H : Hp) (s : Shared) (e : Value) (s' : Shared) (h : L2.CX P w [] H s (fun _ _ _ => False) e s') : False := by
  obtain ⟨_, _, _, _, _, _, _, _, _, _, _, _, h⟩ := h
  exact h

/-! ### what the top has left -/
section
variable {P : Program} {w : World} {K : PySem.W.Frag} {h : Heap} {mg : Str → Option Value} {x qual : Str} {st : Stmt} {ps : List Str}
theorem da_of (X : K.In h) (G : h.Ns mainGlobals mg) {f : Addr} {od an : Option Addr} {oc kV dc pm cd ct : Value} {sl : Array (Option Value)} (a : PySem.W.nsIn K mainGlobals x = some (some (.ref f)))
    (l : K.lookup f = some ⟨oc, od, .func (PySem.W.fnOf x qual (defArgs st) (defBody st) (defScope st) .none kV dc pm an cd ct), sl⟩) (c : PySem.W.codeIn K cd qual = true) (k : PySem.W.keepIn K (.ref f) = true)
    (hb : ∀ (kV doc pm : Value) (an : Option Addr) (cdv ct : Value) (us : List Value), us.length = ps.length → bindArgs (PySem.W.fnOf x qual (defArgs st) (defBody st) (defScope st) .none kV doc pm an cdv ct) ⟨us, []⟩ = pure (ps.zip us)) : DA K mg x qual st ps :=
  ⟨f, _, fun_mk (st := st) l c k, PySem.W.mg_of X G a, (fun_mk (st := st) l c k).binds hb⟩
theorem int_of (X : K.In h) (G : h.Ns mainGlobals mg) {i : Int} {t : Tok} (a : PySem.W.nsIn K mainGlobals x = some (some (.int i t))) : IsInt mg x i := ⟨t, PySem.W.mg_of X G a⟩
theorem str_of (X : K.In h) (G : h.Ns mainGlobals mg) {i : Str} {t : Tok} (a : PySem.W.nsIn K mainGlobals x = some (some (.str i t))) : IsStr mg x i := ⟨t, PySem.W.mg_of X G a⟩
theorem xc_of (X : K.In h) (G : h.Ns mainGlobals mg) {C : Addr} (a : PySem.W.nsIn K mainGlobals x = some (some (.ref C))) (e : PySem.W.excIn K C [.type "ValueError", .type "Exception", .type "BaseException", .type "object"] "ValueError.__new__" = true)
    (k : PySem.W.keepIn K (.ref C) = true) (s : PySem.W.subIn K (.ref C) (.type "BaseException") = some true) (t : PySem.W.typeIn K (.ref C) = some (.type "type")) : XC K mg x := ⟨C, PySem.W.mg_of X G a, e, k, s, t⟩
theorem cls_of (X : K.In h) (G : h.Ns mainGlobals mg) {C : Addr} {cv : Value} {b : Bool} (a : PySem.W.nsIn K mainGlobals x = some (some (.ref C))) (e : PySem.W.exmOne K (.ref C) cv = some b) : ∃ D, mg x = some (.ref D) ∧ PySem.W.exmOne K (.ref D) cv = some b := ⟨C, PySem.W.mg_of X G a, e⟩
theorem exm_of {D S : Addr} {b : Bool} (h1 : PySem.W.subIn K (.ref S) (.type "BaseException") = some true) (h2 : PySem.W.isClsIn K S = true) (h3 : PySem.W.typeIn K (.ref S) = some (.type "type")) (h5 : PySem.W.subIn K (.ref D) (.type "BaseException") = some true) (h4 : PySem.W.subIn K (.ref D) (.ref S) = some b) :
    PySem.W.exmOne K (.ref D) (.ref S) = some b := by
  have h2' : (PySem.W.clsIn K S).isSome = true := h2
  unfold PySem.W.exmOne
  rw [if_pos (by rw [h1]; rfl)]
  unfold PySem.W.kitCls
  simp only []
  rw [if_pos (by rw [h2', h3]; rfl)]
  exact h4
theorem tab_of (X : K.In h) (G : h.Ns mainGlobals mg) {d : Addr} {es : Array DictEntry} {n : Nat} {tbl : List (Str × Str)} (a : PySem.W.nsIn K mainGlobals x = some (some (.ref d))) (l : K.lookup d = some ⟨.type "dict", none, .dict es n, #[]⟩) (k : PySem.W.KeysLit w.params es.toList)
    (e : ∀ p ∈ tbl, ∃ t, PySem.W.nsIn K d p.1 = some (some (.str p.2 t))) : IsTab K w mg x tbl := by
  refine ⟨d, PySem.W.mg_of X G a, fun s v hl => ?_⟩
  have hm : (s, v) ∈ tbl := by
    clear e
    induction tbl with
    | nil => simp at hl
    | cons p r ih =>
      obtain ⟨x, y⟩ := p
      by_cases q : s = x
      · subst q
        simp at hl
        subst hl
        exact List.mem_cons_self
      · have hb : (s == x) = false := by simpa using q
        simp only [List.lookup_cons, hb] at hl
        exact List.mem_cons_of_mem _ (ih hl)
  obtain ⟨t, e1⟩ := e _ hm
  exact ⟨es, n, _, l, k, e1, ⟨t, rfl⟩⟩
end
end VL


set_option Elab.async false
set_option linter.all false
set_option maxRecDepth 100000
set_option maxHeartbeats 4000000
namespace VL
open PySem PySem.Spec L2
open PyProof.Rows hiding St
def b__law_stream_1 : MS := (sSet (gNm 1) (m2 dMod (mCall (one dInt) (mCons (m2 dAdd (m2 dAdd (m2 dMul (mV 1) (mC (.int 48271))) (m2 dMod (mCall (one dInt) (mCons (mV 2) mNil)) (mC (.int 65521)))) (mC (.int 1))) mNil)) (mC (.int 2147483647))))
def m__law_stream : MS := (sSeq (sSet (gNm 1) (mC (.int 17))) (sSeq (sFor (mItems (mV 0)) (gNm 2) b__law_stream_1) (sRet (mLst (mCons (mCall (one dList) (mCons (mV 0) mNil)) (mCons (mC (.int 0)) (mCons (mC (.int 0)) (mCons (mV 1) mNil))))))))
def f__law_stream : Fn := fnS 3 none m__law_stream
def m__law_draw : MS := (sSeq (sIf (mBorT (mAnd (mBl (m2 dEq (m2 dIx (mV 0) (mC (.int 1))) (mC (.int 0)))) (mBl (m2 dLt (m2 dIx (mV 0) (mC (.int 2))) (mCall (one dLen) (mCons (m2 dIx (mV 0) (mC (.int 0))) mNil)))))) (sSeq (sSetIx 0 (mBor (mCall (one dAbs) (mCons (mCall (one dInt) (mCons (m2 dIx (m2 dIx (mV 0) (mC (.int 0))) (m2 dIx (mV 0) (mC (.int 2)))) mNil)) mNil))) (mC (.int 1))) (sSetIx 0 (m2 dAdd (mBor (m2 dIx (mV 0) (mC (.int 2)))) (mC (.int 1))) (mC (.int 2)))) .nx) (sSeq (sIf (mBorT (mBl (m2 dEq (m2 dIx (mV 0) (mC (.int 1))) (mC (.int 0))))) (sSeq (sSetIx 0 (m2 dMod (mCall (one dInt) (mCons (m2 dAdd (m2 dMul (mBor (m2 dIx (mV 0) (mC (.int 3)))) (mC (.int 48271))) (mC (.int 11))) mNil)) (mC (.int 2147483647))) (mC (.int 3))) (sRet (m2 dMod (mCall (one dInt) (mCons (m2 dDiv (mBor (m2 dIx (mV 0) (mC (.int 3)))) (mC (.int 97))) mNil)) (mV 1)))) .nx) (sSeq (sSet (gNm 2) (m2 dMod (mBor (mCall (one dInt) (mCons (m2 dIx (mV 0) (mC (.int 1))) mNil))) (mV 1))) (sSeq (sSetIx 0 (m2 dDiv (mBor (m2 dIx (mV 0) (mC (.int 1)))) (mV 1)) (mC (.int 1))) (sRetV 2)))))
def f__law_draw : Fn := fnS 3 (some 0) m__law_draw
def m__law_pick : MS := (sRet (m2 dIx (mV 1) (mCallIO 2 f__law_draw 0 0 (mGuard 0 (mCons (mCall (one dLen) (mCons (mV 1) mNil)) mNil)))))
def f__law_pick : Fn := fnS 2 (some 0) m__law_pick
def b__law_marks_1 : MS := (sSeq (sSet (gNm 6) (mAndV (mV 2) (m2 dEq (mCallIO 2 f__law_draw 0 0 (mGuard 0 (mCons (mC (.int 3)) mNil))) (mC (.int 1))))) (sEx (mMutL fAppend 3 (mCons (mIf (mTru (mV 6)) (mTup (mCons (mC (.str "pull")) (mCons (mCallIO 2 f__law_pick 0 0 (mGuard 0 (mCons (mV 2) mNil))) mNil))) (mTup (mCons (mC (.str "want")) (mCons (mCallIO 2 f__law_pick 0 0 (mGuard 0 (mCons (mV 1) mNil))) mNil)))) mNil))))
def q__law_marks_1 : M D := (mComp (mRange1 (mCallIO 2 f__law_pick 0 0 (mGuard 0 (mCons (mLst (mCons (mC (.int 0)) (mCons (mC (.int 1)) (mCons (mC (.int 0)) (mCons (mC (.int 2)) mNil))))) mNil)))) (gNm 4) (M.pure true) (mTup (mCons (mC (.str "go")) (mCons (mCallIO 2 f__law_pick 0 0 (mGuard 0 (mCons (mV 2) mNil))) mNil))) [4])
def m__law_marks : MS := (sSeq (sSet (gNm 3) (mLst mNil)) (sSeq (sFor (mRange1 (mCallIO 2 f__law_draw 0 0 (mGuard 0 (mCons (mC (.int 4)) mNil)))) (gNm 4) b__law_marks_1) (sSeq (sSet (gNm 5) (mIf (mTru (mV 2)) q__law_marks_1 (mLst mNil))) (sRet (mCall (one dTuple) (mCons (m2 dAdd (m2 dAdd (mV 3) (mLst (mCons (mTup (mCons (mC (.str "be")) (mCons (mCallIO 2 f__law_pick 0 0 (mGuard 0 (mCons (mV 1) mNil))) mNil))) mNil))) (mV 5)) mNil))))))
def f__law_marks : Fn := fnS 7 (some 0) m__law_marks
def q__law_same_1 (F : Fn) : M D := (mComp (mRange1 (mCall (one dLen) (mCons (mV 1) mNil))) (gNm 2) (M.pure true) (mCall' 2 F (mCons (m2 dIx (mV 0) (mV 2)) (mCons (m2 dIx (mV 1) (mV 2)) mNil))) [2])
def m__law_same (F : Fn) : MS := (sSeq (sIf (mOr (mTru (m1 (dIsi "tuple") (mV 1))) (mTru (m1 (dIsi "list") (mV 1)))) (sSeq (sIf (mOr (mBl (m2 dNe (m1 (dIsi "tuple") (mV 0)) (m1 (dIsi "tuple") (mV 1)))) (mBl (m2 dNe (m1 (dIsi "list") (mV 0)) (m1 (dIsi "list") (mV 1))))) (sRet (mC (.bl false))) .nx) (sRet (mAndV (m2 dEq (mCall (one dLen) (mCons (mV 0) mNil)) (mCall (one dLen) (mCons (mV 1) mNil))) (mCall (one dAll) (mCons (q__law_same_1 F) mNil))))) .nx) (sSeq (sIf (mBl (m2 dIs (mV 1) (mC .non))) (sRet (m2 dIs (mV 0) (mC .non))) .nx) (sSeq (sIf (mTru (m1 (dIsi "str") (mV 1))) (sRet (mAndV (m1 (dIsi "str") (mV 0)) (m2 dEq (mV 0) (mV 1)))) .nx) (sRet (mAndV (m1 (dIsi "int") (mV 0)) (mAndV (m2 dEq (m1 (dIsi "bool") (mV 0)) (m1 (dIsi "bool") (mV 1))) (m2 dEq (mV 0) (mV 1))))))))
def f__law_same : Nat → Fn
  | 0 => fun _ => .bad
  | k + 1 => fnS 3 none (m__law_same (f__law_same k))
def m_is_letter : MS := (sRet (mAndV (m2 dEq (mCall (one dLen) (mCons (mV 0) mNil)) (mC (.int 1))) (m2 dIn (mV 0) (mC (.str "abcdefghijklmnopqrstuvwxyz")))))
def f_is_letter : Fn := fnS 1 none m_is_letter
def q_is_name_1 : M D := (mComp (mSigns (mV 0)) (gNm 1) (M.pure true) (mOrV (mCall' 1 f_is_letter (mCons (mV 1) mNil)) (m2 dIn (mV 1) (mC (.str "0123456789")))) [1])
def m_is_name : MS := (sSeq (sIf (mOr (mNot (mBl (mChain (fun i j => decide (i ≤ j)) (fun i j => decide (i ≤ j)) (mC (.int 1)) (mCall (one dLen) (mCons (mV 0) mNil)) (mC (.int 8))))) (mNot (mTru (mCall' 1 f_is_letter (mCons (m2 dIx (mV 0) (mC (.int 0))) mNil))))) (sRet (mC (.bl false))) .nx) (sRet (mCall (one dAll) (mCons q_is_name_1 mNil))))
def f_is_name : Fn := fnS 2 none m_is_name
def q_are_marks_1 : M D := (mComp (mItems (mV 0)) (gNm 3) (M.pure true) (m2 dIx (mV 3) (mC (.int 0))) [3])
def q_are_marks_2 : M D := (mComp (mItems (mV 0)) (gNm 3) (M.pure true) (mCall' 1 f_is_name (mCons (m2 dIx (mV 3) (mC (.int 1))) mNil)) [3])
def q_are_marks_3 : M D := (mComp (mItems (mSlice dSl (mV 1) (M.pure none) ((mI (mV 2)).bind fun i => M.pure (some i)))) (gNm 4) (M.pure true) (m2 dIn (mV 4) (mTup (mCons (mC (.str "want")) (mCons (mC (.str "pull")) mNil)))) [4])
def q_are_marks_4 : M D := (mComp (mItems (mSlice dSl (mV 1) ((mI (m2 dAdd (mV 2) (mC (.int 1)))).bind fun i => M.pure (some i)) (M.pure none))) (gNm 4) (M.pure true) (m2 dEq (mV 4) (mC (.str "go"))) [4])
def m_are_marks : MS := (sSeq (sSet (gNm 1) q_are_marks_1) (sSeq (sIf (mOr (mBl (m2 dNe (mMeth "list" (arg1 dCount) (mV 1) (mCons (mC (.str "be")) mNil)) (mC (.int 1)))) (mOr (mBl (m2 dGt (mCall (one dLen) (mCons (mV 0) mNil)) (mC (.int 10)))) (mNot (mTru (mCall (one dAll) (mCons q_are_marks_2 mNil)))))) (sRet (mC (.bl false))) .nx) (sSeq (sSet (gNm 2) (mMeth "list" (arg1 dIndex) (mV 1) (mCons (mC (.str "be")) mNil))) (sSeq (sIf (mNot (mTru (mCall (one dAll) (mCons q_are_marks_3 mNil)))) (sRet (mC (.bl false))) .nx) (sRet (mCall (one dAll) (mCons q_are_marks_4 mNil)))))))
def f_are_marks : Fn := fnS 5 none m_are_marks
def q_is_rest_1 : M D := (mComp (mItems (mV 0)) (gNm 2) (M.pure true) (m2 dIx (mV 2) (mC (.int 0))) [2])
def q_is_rest_2 : M D := (mComp (mItems (mV 0)) (gNm 2) (M.pure true) (mAndV (m2 dEq (m2 dIx (mV 2) (mC (.int 0))) (mC (.str "go"))) (mCall' 1 f_is_name (mCons (m2 dIx (mV 2) (mC (.int 1))) mNil))) [2])
def m_is_rest : MS := (sSeq (sSet (gNm 1) q_is_rest_1) (sSeq (sIf (mOr (mBl (m2 dEq (mCall (one dLen) (mCons (mV 0) mNil)) (mC (.int 0)))) (mBl (m2 dGt (mMeth "list" (arg1 dCount) (mV 1) (mCons (mC (.str "be")) mNil)) (mC (.int 1))))) (sRet (mC (.bl false))) .nx) (sSeq (sIf (mBl (m2 dEq (mMeth "list" (arg1 dCount) (mV 1) (mCons (mC (.str "be")) mNil)) (mC (.int 1)))) (sRet (mCall' 1 f_are_marks (mCons (mV 0) mNil))) .nx) (sRet (mAndV (m2 dLt (mCall (one dLen) (mCons (mV 0) mNil)) (mC (.int 10))) (mCall (one dAll) (mCons q_is_rest_2 mNil)))))))
def f_is_rest : Fn := fnS 3 none m_is_rest
def m__law_mark_text : MS := (sRet (m2 dAdd (m1 (dTab [("want", "="), ("be", ""), ("pull", "+"), ("go", "-")]) (m2 dIx (mV 0) (mC (.int 0)))) (m2 dIx (mV 0) (mC (.int 1)))))
def f__law_mark_text : Fn := fnS 1 none m__law_mark_text
def b_read_mark_1 : MS := (sIf (mAnd (mTru (mMeth "str" (arg1 dStarts) (mV 0) (mCons (m1 (dTab [("want", "="), ("be", ""), ("pull", "+"), ("go", "-")]) (mV 1)) mNil))) (mTru (mCall' 1 f_is_name (mCons (mSlice dSl (mV 0) ((mI (mC (.int 1))).bind fun i => M.pure (some i)) (M.pure none)) mNil)))) (sRet (mTup (mCons (mV 1) (mCons (mSlice dSl (mV 0) ((mI (mC (.int 1))).bind fun i => M.pure (some i)) (M.pure none)) mNil)))) .nx)
def m_read_mark : MS := (sSeq (sFor (mItems (mTup (mCons (mC (.str "want")) (mCons (mC (.str "pull")) (mCons (mC (.str "go")) mNil))))) (gNm 1) b_read_mark_1) (sSeq (sIf (mNot (mTru (mCall' 1 f_is_name (mCons (mV 0) mNil)))) (sRaise "BadMarks") .nx) (sRet (mTup (mCons (mC (.str "be")) (mCons (mV 0) mNil))))))
def f_read_mark : Fn := fnS 2 none m_read_mark
def q_read_marks_1 : M D := (mCompX (mItems (mMeth "str" (arg1 dSplit) (mV 0) (mCons (mC (.str " ")) mNil))) (gNm 2) (mBl (m2 dNe (mV 2) (mC (.str "")))) (mCall' 1 f_read_mark (mCons (mV 2) mNil)) [2])
def m_read_marks : MS := (sSeq (sSet (gNm 1) (mCall (one dTuple) (mCons q_read_marks_1 mNil))) (sSeq (sIf (mNot (mTru (mCall' 1 f_are_marks (mCons (mV 1) mNil)))) (sRaise "BadMarks") .nx) (sRetV 1)))
def f_read_marks : Fn := fnS 3 none m_read_marks
def m__law_refused : MS := (sTry (isX ["BadMarks"] ["MoveError"]) (sSeq (sIf (mBl (m2 dEq (mV 0) (mC (.int 0)))) (sEx (mCall' 1 f_read_mark (mCons (mV 1) mNil))) (sEx (mCall' 1 f_read_marks (mCons (mV 1) mNil)))) (sRet (mC (.bl false)))) (sRet (mC (.bl true))))
def f__law_refused : Fn := fnS 2 none m__law_refused
def m_mark_text : MS := (sRet (m2 dAdd (m1 (dTab [("want", "="), ("be", ""), ("pull", "+"), ("go", "-")]) (m2 dIx (mV 0) (mC (.int 0)))) (m2 dIx (mV 0) (mC (.int 1)))))
def f_mark_text : Fn := fnS 1 none m_mark_text
def q_marks_text_1 : M D := (mComp (mItems (mV 0)) (gNm 1) (M.pure true) (mCall' 1 f_mark_text (mCons (mV 1) mNil)) [1])
def m_marks_text : MS := (sRet (mMeth "str" (arg1 dJoin) (mC (.str " ")) (mCons q_marks_text_1 mNil)))
def f_marks_text : Fn := fnS 2 none m_marks_text
def q_goings_1 : M D := (mComp (mItems (mV 0)) (gTp [(gNm 1), (gNm 2)]) (mBl (m2 dEq (mV 1) (mC (.str "go")))) (mV 2) [1, 2])
def m_goings : MS := (sRet q_goings_1)
def f_goings : Fn := fnS 3 none m_goings
def b_be_name_1 : MS := (sIf (mBl (m2 dEq (mV 1) (mC (.str "be")))) (sRetV 2) .nx)
def m_be_name : MS := (sSeq (sFor (mItems (mV 0)) (gTp [(gNm 1), (gNm 2)]) b_be_name_1) (sRet (mC (.str ""))))
def f_be_name : Fn := fnS 3 none m_be_name
def q_law_1 : M D := (mComp (mRange1 (mCallIO 2 f__law_draw 1 0 (mGuard 1 (mCons (mC (.int 6)) mNil)))) (gNm 15) (M.pure true) (mTup (mCons (mCallIO 2 f__law_pick 1 0 (mGuard 1 (mCons (mLst (mCons (mC (.str "want")) (mCons (mC (.str "be")) (mCons (mC (.str "pull")) (mCons (mC (.str "go")) mNil))))) mNil))) (mCons (mCallIO 2 f__law_pick 1 0 (mGuard 1 (mCons (mV 2) mNil))) mNil))) [15])
def q_law_2 : M D := (mComp (mItems (mV 5)) (gNm 14) (M.pure true) (m2 dIx (mV 14) (mC (.int 0))) [14])
def q_law_3 : M D := (mComp (mItems (mSlice dSl (mV 8) (M.pure none) ((mI (mV 9)).bind fun i => M.pure (some i)))) (gNm 16) (M.pure true) (m2 dIn (mV 16) (mLst (mCons (mC (.str "want")) (mCons (mC (.str "pull")) mNil)))) [16])
def q_law_4 : M D := (mComp (mItems (mSlice dSl (mV 8) ((mI (m2 dAdd (mV 9) (mC (.int 1)))).bind fun i => M.pure (some i)) (M.pure none))) (gNm 16) (M.pure true) (m2 dEq (mV 16) (mC (.str "go"))) [16])
def q_law_5 : M D := (mComp (mItems (mV 8)) (gNm 16) (M.pure true) (m2 dEq (mV 16) (mC (.str "go"))) [16])
def q_law_6 : M D := (mComp (mItems (mV 5)) (gNm 14) (M.pure true) (mCall' 1 f__law_mark_text (mCons (mV 14) mNil)) [14])
def q_law_7 : M D := (mComp (mItems (mV 5)) (gTp [(gNm 16), (gNm 17)]) (mBl (m2 dEq (mV 16) (mC (.str "be")))) (mV 17) [16, 17])
def q_law_8 : M D := (mComp (mItems (mV 5)) (gTp [(gNm 16), (gNm 17)]) (mBl (m2 dEq (mV 16) (mC (.str "go")))) (mV 17) [16, 17])
def b_law_1 : MS := (sIf (mNot (mTru (mCall' 2 (f__law_same 70) (mCons (mCall' 1 f_read_mark (mCons (mCall' 1 f_mark_text (mCons (mV 14) mNil)) mNil)) (mCons (mV 14) mNil))))) (sRet (mC (.bl false))) .nx)
def b_law_2 : MS := (sSeq (sSet (gNm 8) q_law_2) (sSeq (sSet (gNm 9) (mIf (mBl (m2 dIn (mC (.str "be")) (mV 8))) (mMeth "list" (arg1 dIndex) (mV 8) (mCons (mC (.str "be")) mNil)) (mC (.int 0)))) (sSeq (sSet (gNm 10) (mAndV (m2 dEq (mMeth "list" (arg1 dCount) (mV 8) (mCons (mC (.str "be")) mNil)) (mC (.int 1))) (mAndV (m2 dNotIn (mTup (mCons (mC (.str "be")) (mCons (mC (.str "A")) mNil))) (mV 5)) (mAndV (m2 dLe (mCall (one dLen) (mCons (mV 5) mNil)) (mC (.int 10))) (mAndV (mCall (one dAll) (mCons q_law_3 mNil)) (mCall (one dAll) (mCons q_law_4 mNil))))))) (sSeq (sSet (gNm 11) (mAndV (m2 dGt (mCall (one dLen) (mCons (mV 5) mNil)) (mC (.int 0))) (mOrV (mV 10) (mAndV (m2 dLt (mCall (one dLen) (mCons (mV 5) mNil)) (mC (.int 10))) (mCall (one dAll) (mCons q_law_5 mNil)))))) (sSeq (sIf (mNot (mTru (mCall' 2 (f__law_same 70) (mCons (mCall' 1 f_are_marks (mCons (mV 5) mNil)) (mCons (mV 10) mNil))))) (sRet (mC (.bl false))) .nx) (sSeq (sIf (mBl (m2 dIn (mTup (mCons (mC (.str "be")) (mCons (mC (.str "A")) mNil))) (mV 5))) .ct .nx) (sSeq (sIf (mNot (mTru (mCall' 2 (f__law_same 70) (mCons (mCall' 1 f_is_rest (mCons (mV 5) mNil)) (mCons (mV 11) mNil))))) (sRet (mC (.bl false))) .nx) (sSeq (sSet (gNm 12) (mMeth "str" (arg1 dJoin) (mC (.str " ")) (mCons q_law_6 mNil))) (sSeq (sIf (mOr (mNot (mTru (mCall' 2 (f__law_same 70) (mCons (mCall' 1 f_marks_text (mCons (mV 5) mNil)) (mCons (mV 12) mNil))))) (mNot (mTru (mCall' 2 (f__law_same 70) (mCons (mCall' 2 f__law_refused (mCons (mC (.int 1)) (mCons (mV 12) mNil))) (mCons (mNotV (mV 10)) mNil)))))) (sRet (mC (.bl false))) .nx) (sSeq (sIf (mAnd (mTru (mV 10)) (mNot (mTru (mCall' 2 (f__law_same 70) (mCons (mCall' 1 f_read_marks (mCons (m2 dAdd (m2 dAdd (mC (.str "  ")) (m1 (dRepl " " "   ") (mV 12))) (mC (.str " "))) mNil)) (mCons (mV 5) mNil)))))) (sRet (mC (.bl false))) .nx) (sSeq (sSet (gNm 13) (m2 dAdd q_law_7 (mLst (mCons (mC (.str "")) mNil)))) (sSeq (sIf (mOr (mAnd (mBl (m2 dLt (mCall (one dLen) (mCons (mV 13) mNil)) (mC (.int 3)))) (mNot (mTru (mCall' 2 (f__law_same 70) (mCons (mCall' 1 f_be_name (mCons (mV 5) mNil)) (mCons (m2 dIx (mV 13) (mC (.int 0))) mNil)))))) (mNot (mTru (mCall' 2 (f__law_same 70) (mCons (mCall' 1 f_goings (mCons (mV 5) mNil)) (mCons q_law_8 mNil)))))) (sRet (mC (.bl false))) .nx) (sFor (mItems (mV 5)) (gNm 14) b_law_1)))))))))))))
def b_law_3 : MS := (sIf (mBl (m2 dIsNot (mCall' 1 f_is_rest (mCons (mSlice dSl (mV 4) ((mI (m2 dSub (mV 6) (mC (.int 1)))).bind fun i => M.pure (some i)) (M.pure none)) mNil)) (mC (.bl true)))) (sRet (mC (.bl false))) .nx)
def q_law_9 : M D := (mComp (mItems (mV 7)) (gNm 12) (M.pure true) (mCall' 2 f__law_refused (mCons (mC (.int 0)) (mCons (mV 12) mNil))) [12])
def q_law_10 : M D := (mComp (mItems (mLst (mCons (mC (.str "")) (mCons (mC (.str "9")) (mCons (mC (.str "A")) (mCons (mC (.str "a1234567z")) (mCons (mC (.str "a b")) (mCons (mC (.str "=a")) mNil)))))))) (gNm 12) (M.pure true) (mCall' 1 f_is_name (mCons (mV 12) mNil)) [12])
def m_law : MS := (sSeq (sSet (gNm 1) (mCall' 1 f__law_stream (mCons (mV 0) mNil))) (sSeq (sSet (gNm 2) (mLst (mCons (mC (.str "a")) (mCons (mC (.str "b9")) (mCons (mC (.str "c")) (mCons (mSlice dSl (mC (.str "q12345678")) (M.pure none) ((mI (mC (.int 8))).bind fun i => M.pure (some i))) mNil)))))) (sSeq (sSet (gNm 3) (mCall (one dTuple) (mCons q_law_1 mNil))) (sSeq (sSet (gNm 4) (mCallIO 3 f__law_marks 1 0 (mGuard 1 (mCons (mV 2) (mCons (mV 2) mNil))))) (sSeq (sFor (mItems (mLst (mCons (mV 3) (mCons (mV 4) (mCons (mSlice dSl (mV 4) (M.pure none) ((mI (mC (.int 0))).bind fun i => M.pure (some i))) (mCons (m2 dAdd (mV 4) (mV 4)) (mCons (m2 dMul (mTup (mCons (mTup (mCons (mC (.str "go")) (mCons (mC (.str "a")) mNil))) mNil)) (mCallIO 2 f__law_pick 1 0 (mGuard 1 (mCons (mLst (mCons (mC (.int 9)) (mCons (mC (.int 10)) mNil))) mNil)))) (mCons (mTup (mCons (mTup (mCons (mC (.str "be")) (mCons (mC (.str "A")) mNil))) mNil)) (mCons (m2 dAdd (m2 dMul (mTup (mCons (mTup (mCons (mC (.str "want")) (mCons (mC (.str "a")) mNil))) mNil)) (mCallIO 2 f__law_pick 1 0 (mGuard 1 (mCons (mLst (mCons (mC (.int 9)) (mCons (mC (.int 10)) mNil))) mNil)))) (mTup (mCons (mTup (mCons (mC (.str "be")) (mCons (mC (.str "a")) mNil))) mNil))) mNil))))))))) (gNm 5) b_law_2) (sSeq (sFor (mRange2 (mC (.int 1)) (m2 dAdd (mCall (one dLen) (mCons (mV 4) mNil)) (mC (.int 1)))) (gNm 6) b_law_3) (sSeq (sSet (gNm 7) (mLst (mCons (mC (.str "")) (mCons (mC (.str "=")) (mCons (mC (.str "+")) (mCons (mC (.str "-")) (mCons (mC (.str "==a")) (mCons (mC (.str "=A")) (mCons (mC (.str "*a")) (mCons (mC (.str "9")) (mCons (mC (.str "a b")) (mCons (mC (.str "a1234567z")) (mCons (mC (.str "=a ")) (mCons (mC (.str "~")) (mCons (mC (.str "a-b")) mNil))))))))))))))) (sRet (mAndV (mCall (one dAll) (mCons q_law_9 mNil)) (mAndV (m2 dIs (mCall' 1 f_is_name (mCons (mC (.str "a1234567")) mNil)) (mC (.bl true))) (mNotV (mCall (one dAny) (mCons q_law_10 mNil)))))))))))))
def f_law : Fn := fnS 18 none m_law
end VL


set_option Elab.async false
set_option linter.all false
set_option maxRecDepth 100000
set_option maxHeartbeats 4000000
namespace VL
open PySem PySem.Spec L2
open PyProof.Rows hiding St
def top (i : Nat) : Stmt := PySem.Challenge.pw_mergeandmove_k01_whole_marks.main.body.getD i (.Pass ⟨0, 0, 0, 0⟩)
abbrev s__law_stream : Stmt := (top 18)
abbrev s__law_draw : Stmt := (top 19)
abbrev s__law_pick : Stmt := (top 20)
abbrev s__law_marks : Stmt := (top 23)
abbrev s__law_same : Stmt := (top 21)
abbrev s_is_letter : Stmt := (top 7)
abbrev s_is_name : Stmt := (top 8)
abbrev s_are_marks : Stmt := (top 11)
abbrev s_is_rest : Stmt := (top 14)
abbrev s__law_mark_text : Stmt := (top 22)
abbrev s_read_mark : Stmt := (top 10)
abbrev s_read_marks : Stmt := (top 13)
abbrev s__law_refused : Stmt := (top 24)
abbrev s_mark_text : Stmt := (top 9)
abbrev s_marks_text : Stmt := (top 12)
abbrev s_goings : Stmt := (top 16)
abbrev s_be_name : Stmt := (top 15)
abbrev s_law : Stmt := (top 25)
structure Tx (w : World) (K : PySem.W.Frag) (mg : Str → Option Value) : Prop where
  d__law_stream : DA K mg "_law_stream" "_law_stream" s__law_stream ["script"]
  d__law_draw : DA K mg "_law_draw" "_law_draw" s__law_draw ["stream", "many"]
  d__law_pick : DA K mg "_law_pick" "_law_pick" s__law_pick ["stream", "rows"]
  d__law_marks : DA K mg "_law_marks" "_law_marks" s__law_marks ["stream", "names", "goers"]
  d__law_same : DA K mg "_law_same" "_law_same" s__law_same ["value", "due"]
  d_is_letter : DA K mg "is_letter" "is_letter" s_is_letter ["sign"]
  d_is_name : DA K mg "is_name" "is_name" s_is_name ["text"]
  d_are_marks : DA K mg "are_marks" "are_marks" s_are_marks ["marks"]
  d_is_rest : DA K mg "is_rest" "is_rest" s_is_rest ["marks"]
  d__law_mark_text : DA K mg "_law_mark_text" "_law_mark_text" s__law_mark_text ["mark"]
  d_read_mark : DA K mg "read_mark" "read_mark" s_read_mark ["text"]
  d_read_marks : DA K mg "read_marks" "read_marks" s_read_marks ["text"]
  d__law_refused : DA K mg "_law_refused" "_law_refused" s__law_refused ["which", "text"]
  d_mark_text : DA K mg "mark_text" "mark_text" s_mark_text ["mark"]
  d_marks_text : DA K mg "marks_text" "marks_text" s_marks_text ["marks"]
  d_goings : DA K mg "goings" "goings" s_goings ["marks"]
  d_be_name : DA K mg "be_name" "be_name" s_be_name ["marks"]
  d_law : DA K mg "law" "law" s_law ["script"]
  x_BadMarks : XC K mg "BadMarks"
  h_BadMarks : HC K mg "BadMarks" ["BadMarks"] ["MoveError"]
  c_MOST_MARKS : IsInt mg "MOST_MARKS" 10
  c_MOST_NAME : IsInt mg "MOST_NAME" 8
  z_abs : mg "abs" = none
  z_all : mg "all" = none
  z_any : mg "any" = none
  z_bool : mg "bool" = none
  z_int : mg "int" = none
  z_isinstance : mg "isinstance" = none
  z_len : mg "len" = none
  z_list : mg "list" = none
  z_range : mg "range" = none
  z_str : mg "str" = none
  z_tuple : mg "tuple" = none
  c_SIGNS : IsTab K w mg "SIGNS" [("want", "="), ("be", ""), ("pull", "+"), ("go", "-")]
section
variable {P : Program} {w : World} {K : PySem.W.Frag} {mg : Str → Option Value} {base : Heap}
theorem sc__law_stream : FnScope ["script", "mixed", "cell"] ["script"] (defScope s__law_stream) := ⟨rfl, rfl, rfl, by decide +kernel, rfl, by decide +kernel, by decide +kernel⟩
theorem ok__law_stream (T : Tx w K mg)  : DF P w K mg base "_law_stream" 1 1 none f__law_stream :=
  have S := sc__law_stream
  df_of (k := 0) T.d__law_stream S none m__law_stream (fun j h => by cases h) fun f cdv A outer s H E hr => have hu := room65 hr
    (pssm_cons (psm_set S.nd rfl (by first | exact Or.inl rfl | exact Or.inr rfl) pm_int) (pssm_cons (psm_for (passes_of rfl) rfl (pmi_seq (pm_var (pv 0))) (pgm_name S.nd rfl (by first | exact Or.inl rfl | exact Or.inr rfl)) (pssm_one (psm_set S.nd rfl (by first | exact Or.inl rfl | exact Or.inr rfl) (pm_mod (pm_toInt (by rfl) T.z_int (pma_cons (pm_add (pm_add (pm_mul (pm_var (pv 1)) pm_int) (pm_mod (pm_toInt (by rfl) T.z_int (pma_cons (pm_var (pv 2)) pma_nil)) pm_int)) pm_int) pma_nil)) pm_int)))) (pssm_one (psm_ret (pm_lst (pma_cons (pm_list (by rfl) T.z_list (pma_cons (pm_var (pv 0)) pma_nil)) (pma_cons pm_int (pma_cons pm_int (pma_cons (pm_var (pv 1)) pma_nil)))))))))
theorem sc__law_draw : FnScope ["stream", "many", "value"] ["stream", "many"] (defScope s__law_draw) := ⟨rfl, rfl, rfl, by decide +kernel, rfl, by decide +kernel, by decide +kernel⟩
theorem ok__law_draw (T : Tx w K mg)  : DF P w K mg base "_law_draw" 2 1 (some 0) f__law_draw :=
  have S := sc__law_draw
  df_of (k := 0) T.d__law_draw S (some 0) m__law_draw (fun j h => by cases h; decide) fun f cdv A outer s H E hr => have hu := room65 hr
    (pssm_cons (psm_if (pmt_bor (pmw_and (pmt_eq hu (pm_at (pm_var (pv 0)) pm_int) pm_int) (pmw_and1 (pmt_lt (pm_at (pm_var (pv 0)) pm_int) (pm_len (by rfl) T.z_len (pma_cons (pm_at (pm_var (pv 0)) pm_int) pma_nil))))).pt (pu_and (pu_bl (pu_m2 (pu_m2 (pu_v 0) (pu_c _)) (pu_c _))) (pu_bl (pu_m2 (pu_m2 (pu_v 0) (pu_c _)) (pu_call (pu_cons (pu_m2 (pu_v 0) (pu_c _)) pu_nil)))))) (pssm_cons (psm_setIx (pm_bor (pm_abs (by rfl) T.z_abs (pma_cons (pm_toInt (by rfl) T.z_int (pma_cons (pm_at (pm_at (pm_var (pv 0)) pm_int) (pm_at (pm_var (pv 0)) pm_int)) pma_nil)) pma_nil)) (pu_call (pu_cons (pu_call (pu_cons (pu_m2 (pu_m2 (pu_v 0) (pu_c _)) (pu_m2 (pu_v 0) (pu_c _))) pu_nil)) pu_nil))) (pv 0) pm_int) (pssm_one (psm_setIx (pm_add (pm_bor (pm_at (pm_var (pv 0)) pm_int) (pu_m2 (pu_v 0) (pu_c _))) pm_int) (pv 0) pm_int))) pssm_nil) (pssm_cons (psm_if (pmt_bor (pmt_eq hu (pm_at (pm_var (pv 0)) pm_int) pm_int) (pu_bl (pu_m2 (pu_m2 (pu_v 0) (pu_c _)) (pu_c _)))) (pssm_cons (psm_setIx (pm_mod (pm_toInt (by rfl) T.z_int (pma_cons (pm_add (pm_mul (pm_bor (pm_at (pm_var (pv 0)) pm_int) (pu_m2 (pu_v 0) (pu_c _))) pm_int) pm_int) pma_nil)) pm_int) (pv 0) pm_int) (pssm_one (psm_ret (pm_mod (pm_toInt (by rfl) T.z_int (pma_cons (pm_div (pm_bor (pm_at (pm_var (pv 0)) pm_int) (pu_m2 (pu_v 0) (pu_c _))) pm_int) pma_nil)) (pm_var (pv 1)))))) pssm_nil) (pssm_cons (psm_set S.nd rfl (by first | exact Or.inl rfl | exact Or.inr rfl) (pm_mod (pm_bor (pm_toInt (by rfl) T.z_int (pma_cons (pm_at (pm_var (pv 0)) pm_int) pma_nil)) (pu_call (pu_cons (pu_m2 (pu_v 0) (pu_c _)) pu_nil))) (pm_var (pv 1)))) (pssm_cons (psm_setIx (pm_div (pm_bor (pm_at (pm_var (pv 0)) pm_int) (pu_m2 (pu_v 0) (pu_c _))) (pm_var (pv 1))) (pv 0) pm_int) (pssm_one (psm_retV (pv 2)))))))
theorem sc__law_pick : FnScope ["stream", "rows"] ["stream", "rows"] (defScope s__law_pick) := ⟨rfl, rfl, rfl, by decide +kernel, rfl, by decide +kernel, by decide +kernel⟩
theorem ok__law_pick (T : Tx w K mg) (d__law_draw : DF P w K mg base "_law_draw" 2 1 (some 0) f__law_draw) : DF P w K mg base "_law_pick" 2 2 (some 0) f__law_pick :=
  have S := sc__law_pick
  df_of (k := 1) T.d__law_pick S (some 0) m__law_pick (fun j h => by cases h; decide) fun f cdv A outer s H E hr => have hu := room65 hr
    (pssm_one (psm_ret (pm_at (pm_var (pv 1)) (pm_clIO d__law_draw hr (takes_of rfl rfl rfl rfl) (pai_here (pv 0) (pma_cons (pm_len (by rfl) T.z_len (pma_cons (pm_var (pv 1)) pma_nil)) pma_nil))))))
theorem sc__law_marks : FnScope ["stream", "names", "goers", "front", "again", "behind", "is_pull"] ["stream", "names", "goers"] (defScope s__law_marks) := ⟨rfl, rfl, rfl, by decide +kernel, rfl, by decide +kernel, by decide +kernel⟩
theorem ok__law_marks (T : Tx w K mg) (d__law_draw : DF P w K mg base "_law_draw" 2 1 (some 0) f__law_draw) (d__law_pick : DF P w K mg base "_law_pick" 2 2 (some 0) f__law_pick) : DF P w K mg base "_law_marks" 3 3 (some 0) f__law_marks :=
  have S := sc__law_marks
  df_of (k := 2) T.d__law_marks S (some 0) m__law_marks (fun j h => by cases h; decide) fun f cdv A outer s H E hr => have hu := room65 hr
    (pssm_cons (psm_set S.nd rfl (by first | exact Or.inl rfl | exact Or.inr rfl) (pm_lst pma_nil)) (pssm_cons (psm_for (passes_of rfl) rfl (pmi_range1 (by rfl) T.z_range (pm_clIO d__law_draw hr (takes_of rfl rfl rfl rfl) (pai_here (pv 0) (pma_cons pm_int pma_nil)))) (pgm_name S.nd rfl (by first | exact Or.inl rfl | exact Or.inr rfl)) (pssm_cons (psm_set S.nd rfl (by first | exact Or.inl rfl | exact Or.inr rfl) (pm_and (pm_var (pv 2)) (pm_one (pm_eq hu (pm_clIO d__law_draw hr (takes_of rfl rfl rfl rfl) (pai_here (pv 0) (pma_cons pm_int pma_nil))) pm_int)))) (pssm_one (psm_expr (pm_append (pv 3) (pma_cons (pm_ifExp (pmt_val (pm_var (pv 6))) (pm_tup (pma_cons pm_str (pma_cons (pm_clIO d__law_pick hr (takes_of rfl rfl rfl rfl) (pai_here (pv 0) (pma_cons (pm_var (pv 2)) pma_nil))) pma_nil))) (pm_tup (pma_cons pm_str (pma_cons (pm_clIO d__law_pick hr (takes_of rfl rfl rfl rfl) (pai_here (pv 0) (pma_cons (pm_var (pv 1)) pma_nil))) pma_nil)))) pma_nil)))))) (pssm_cons (psm_set S.nd rfl (by first | exact Or.inl rfl | exact Or.inr rfl) (pm_ifExp (pmt_val (pm_var (pv 2))) (pm_lc (own := [("again", 4)]) rfl S.nd (pmi_range1 (by rfl) T.z_range (pm_clIO d__law_pick hr (takes_of rfl rfl rfl rfl) (pai_here (pv 0) (pma_cons (pm_lst (pma_cons pm_int (pma_cons pm_int (pma_cons pm_int (pma_cons pm_int pma_nil))))) pma_nil)))) (blkOk_by (by rfl)) 7 rfl (fun _ _ _ _ _ => (pgm_name S.nd rfl (by first | exact Or.inl rfl | exact Or.inr rfl))) (fun _ _ _ _ _ => ptm_nil) (fun _ _ _ _ _ => (pm_tup (pma_cons pm_str (pma_cons (pm_clIO d__law_pick hr takesF (pai_here (pv 0) (pma_cons (pm_var (pv 2)) pma_nil))) pma_nil)))) glen_nm) (pm_lst pma_nil))) (pssm_one (psm_ret (pm_tuple (by rfl) T.z_tuple (pma_cons (pm_add (pm_add (pm_var (pv 3)) (pm_lst (pma_cons (pm_tup (pma_cons pm_str (pma_cons (pm_clIO d__law_pick hr (takes_of rfl rfl rfl rfl) (pai_here (pv 0) (pma_cons (pm_var (pv 1)) pma_nil))) pma_nil))) pma_nil))) (pm_var (pv 5))) pma_nil)))))))
theorem sc__law_same : FnScope ["value", "due", "k"] ["value", "due"] (defScope s__law_same) := ⟨rfl, rfl, rfl, by decide +kernel, rfl, by decide +kernel, by decide +kernel⟩
theorem ok__law_same (T : Tx w K mg)  : ∀ n : Nat, DF P w K mg base "_law_same" 2 (0 + n + 1) none (f__law_same n)
  | 0 => df_bad T.d__law_same sc__law_same none
  | n + 1 =>
    have S := sc__law_same
    have d__law_same := ok__law_same T  n
    df_of (k := 0 + n + 1) T.d__law_same S none (m__law_same (f__law_same n)) (fun j h => by cases h) fun f cdv A outer s H E hr => have hu := room65 hr
      (pssm_cons (psm_if (pmw_or (pmt_val (pm_isi isi_tuple (by rfl) T.z_isinstance (by rfl) T.z_tuple (by rfl) (pm_var (pv 1)))) (pmw_or1 (pmt_val (pm_isi isi_list (by rfl) T.z_isinstance (by rfl) T.z_list (by rfl) (pm_var (pv 1)))))).pt (pssm_cons (psm_if (pmw_or (pmt_ne hu (pm_isi isi_tuple (by rfl) T.z_isinstance (by rfl) T.z_tuple (by rfl) (pm_var (pv 0))) (pm_isi isi_tuple (by rfl) T.z_isinstance (by rfl) T.z_tuple (by rfl) (pm_var (pv 1)))) (pmw_or1 (pmt_ne hu (pm_isi isi_list (by rfl) T.z_isinstance (by rfl) T.z_list (by rfl) (pm_var (pv 0))) (pm_isi isi_list (by rfl) T.z_isinstance (by rfl) T.z_list (by rfl) (pm_var (pv 1)))))).pt (pssm_one (psm_ret pm_bl)) pssm_nil) (pssm_one (psm_ret (pm_and (pm_eq hu (pm_len (by rfl) T.z_len (pma_cons (pm_var (pv 0)) pma_nil)) (pm_len (by rfl) T.z_len (pma_cons (pm_var (pv 1)) pma_nil))) (pm_one (pm_all rfl (by rfl) T.z_all (pma_cons (pm_lc (own := [("k", 2)]) rfl S.nd (pmi_range1 (by rfl) T.z_range (pm_len (by rfl) T.z_len (pma_cons (pm_var (pv 1)) pma_nil))) (blkOk_by (by rfl)) 3 rfl (fun _ _ _ _ _ => (pgm_name S.nd rfl (by first | exact Or.inl rfl | exact Or.inr rfl))) (fun _ _ _ _ _ => ptm_nil) (fun _ _ _ _ _ => (pm_cl (hk := Nat.le_refl _) d__law_same hr takesF (pma_cons (pm_at (pm_var (pv 0)) (pm_var (pv 2))) (pma_cons (pm_at (pm_var (pv 1)) (pm_var (pv 2))) pma_nil)))) glen_nm) pma_nil))))))) pssm_nil) (pssm_cons (psm_if (pmt_is (pm_var (pv 1)) pm_non) (pssm_one (psm_ret (pm_is (pm_var (pv 0)) pm_non))) pssm_nil) (pssm_cons (psm_if (pmt_val (pm_isi isi_str (by rfl) T.z_isinstance (by rfl) T.z_str (by rfl) (pm_var (pv 1)))) (pssm_one (psm_ret (pm_and (pm_isi isi_str (by rfl) T.z_isinstance (by rfl) T.z_str (by rfl) (pm_var (pv 0))) (pm_one (pm_eq hu (pm_var (pv 0)) (pm_var (pv 1))))))) pssm_nil) (pssm_one (psm_ret (pm_and (pm_isi isi_int (by rfl) T.z_isinstance (by rfl) T.z_int (by rfl) (pm_var (pv 0))) (pm_and (pm_eq hu (pm_isi isi_bool (by rfl) T.z_isinstance (by rfl) T.z_bool (by rfl) (pm_var (pv 0))) (pm_isi isi_bool (by rfl) T.z_isinstance (by rfl) T.z_bool (by rfl) (pm_var (pv 1)))) (pm_one (pm_eq hu (pm_var (pv 0)) (pm_var (pv 1)))))))))))
theorem sc_is_letter : FnScope ["sign"] ["sign"] (defScope s_is_letter) := ⟨rfl, rfl, rfl, by decide +kernel, rfl, by decide +kernel, by decide +kernel⟩
theorem ok_is_letter (T : Tx w K mg)  : DF P w K mg base "is_letter" 1 1 none f_is_letter :=
  have S := sc_is_letter
  df_of (k := 0) T.d_is_letter S none m_is_letter (fun j h => by cases h) fun f cdv A outer s H E hr => have hu := room65 hr
    (pssm_one (psm_ret (pm_and (pm_eq hu (pm_len (by rfl) T.z_len (pma_cons (pm_var (pv 0)) pma_nil)) pm_int) (pm_one (pm_in hu (pm_var (pv 0)) pm_str)))))
theorem sc_is_name : FnScope ["text", "sign"] ["text"] (defScope s_is_name) := ⟨rfl, rfl, rfl, by decide +kernel, rfl, by decide +kernel, by decide +kernel⟩
theorem ok_is_name (T : Tx w K mg) (d_is_letter : DF P w K mg base "is_letter" 1 1 none f_is_letter) : DF P w K mg base "is_name" 1 2 none f_is_name :=
  have S := sc_is_name
  df_of (k := 1) T.d_is_name S none m_is_name (fun j h => by cases h) fun f cdv A outer s H E hr => have hu := room65 hr
    (pssm_cons (psm_if (pmw_or (pmt_not (pmt_le_le pm_int (pm_len (by rfl) T.z_len (pma_cons (pm_var (pv 0)) pma_nil)) (pm_gint T.c_MOST_NAME))) (pmw_or1 (pmt_not (pmt_val (pm_cl d_is_letter hr (takes_of rfl rfl rfl rfl) (pma_cons (pm_at (pm_var (pv 0)) pm_int) pma_nil)))))).pt (pssm_one (psm_ret pm_bl)) pssm_nil) (pssm_one (psm_ret (pm_all rfl (by rfl) T.z_all (pma_cons (pm_lc (own := [("sign", 1)]) rfl S.nd (pmi_str (pm_var (pv 0))) (blkOk_by (by rfl)) 2 rfl (fun _ _ _ _ _ => (pgm_name S.nd rfl (by first | exact Or.inl rfl | exact Or.inr rfl))) (fun _ _ _ _ _ => ptm_nil) (fun _ _ _ _ _ => (pm_or (pm_cl d_is_letter hr takesF (pma_cons (pm_var (pv 1)) pma_nil)) (pm_one (pm_in hu (pm_var (pv 1)) pm_str)))) glen_nm) pma_nil)))))
theorem sc_are_marks : FnScope ["marks", "words", "at", "mark", "word"] ["marks"] (defScope s_are_marks) := ⟨rfl, rfl, rfl, by decide +kernel, rfl, by decide +kernel, by decide +kernel⟩
theorem ok_are_marks (T : Tx w K mg) (d_is_name : DF P w K mg base "is_name" 1 2 none f_is_name) : DF P w K mg base "are_marks" 1 3 none f_are_marks :=
  have S := sc_are_marks
  df_of (k := 2) T.d_are_marks S none m_are_marks (fun j h => by cases h) fun f cdv A outer s H E hr => have hu := room65 hr
    (pssm_cons (psm_setLc (own := [("mark", 3)]) rfl S.nd rfl rfl (by decide) (sw_true rfl rfl rfl rfl) (pmi_seq (pm_var (pv 0))) (blkOk_by (by rfl)) 5 rfl (fun _ _ _ _ _ => (pgm_name S.nd rfl (by first | exact Or.inl rfl | exact Or.inr rfl))) (fun _ _ _ _ _ => ptm_nil) (fun _ _ _ _ _ => (pm_at (pm_var (pv 3)) pm_int)) glen_nm) (pssm_cons (psm_if (pmw_or (pmt_ne hu (pm_count (pm_var (pv 1)) (pma_cons pm_str pma_nil)) pm_int) (pmw_or (pmt_gt (pm_len (by rfl) T.z_len (pma_cons (pm_var (pv 0)) pma_nil)) (pm_gint T.c_MOST_MARKS)) (pmw_or1 (pmt_not (pmt_val (pm_all rfl (by rfl) T.z_all (pma_cons (pm_lc (own := [("mark", 3)]) rfl S.nd (pmi_seq (pm_var (pv 0))) (blkOk_by (by rfl)) 5 rfl (fun _ _ _ _ _ => (pgm_name S.nd rfl (by first | exact Or.inl rfl | exact Or.inr rfl))) (fun _ _ _ _ _ => ptm_nil) (fun _ _ _ _ _ => (pm_cl d_is_name hr takesF (pma_cons (pm_at (pm_var (pv 3)) pm_int) pma_nil))) glen_nm) pma_nil))))))).pt (pssm_one (psm_ret pm_bl)) pssm_nil) (pssm_cons (psm_set S.nd rfl (by first | exact Or.inl rfl | exact Or.inr rfl) (pm_index hu (pm_var (pv 1)) (pma_cons pm_str pma_nil))) (pssm_cons (psm_if (pmt_not (pmt_val (pm_all rfl (by rfl) T.z_all (pma_cons (pm_lc (own := [("word", 4)]) rfl S.nd (pmi_seq (pm_sl (pm_var (pv 1)) pmo_none (pmo_some (pm_var (pv 2))))) (blkOk_by (by rfl)) 5 rfl (fun _ _ _ _ _ => (pgm_name S.nd rfl (by first | exact Or.inl rfl | exact Or.inr rfl))) (fun _ _ _ _ _ => ptm_nil) (fun _ _ _ _ _ => (pm_in hu (pm_var (pv 4)) (pm_tup (pma_cons pm_str (pma_cons pm_str pma_nil))))) glen_nm) pma_nil)))) (pssm_one (psm_ret pm_bl)) pssm_nil) (pssm_one (psm_ret (pm_all rfl (by rfl) T.z_all (pma_cons (pm_lc (own := [("word", 4)]) rfl S.nd (pmi_seq (pm_sl (pm_var (pv 1)) (pmo_some (pm_add (pm_var (pv 2)) pm_int)) pmo_none)) (blkOk_by (by rfl)) 5 rfl (fun _ _ _ _ _ => (pgm_name S.nd rfl (by first | exact Or.inl rfl | exact Or.inr rfl))) (fun _ _ _ _ _ => ptm_nil) (fun _ _ _ _ _ => (pm_eq hu (pm_var (pv 4)) pm_str)) glen_nm) pma_nil))))))))
theorem sc_is_rest : FnScope ["marks", "words", "mark"] ["marks"] (defScope s_is_rest) := ⟨rfl, rfl, rfl, by decide +kernel, rfl, by decide +kernel, by decide +kernel⟩
theorem ok_is_rest (T : Tx w K mg) (d_are_marks : DF P w K mg base "are_marks" 1 3 none f_are_marks) (d_is_name : DF P w K mg base "is_name" 1 2 none f_is_name) : DF P w K mg base "is_rest" 1 4 none f_is_rest :=
  have S := sc_is_rest
  df_of (k := 3) T.d_is_rest S none m_is_rest (fun j h => by cases h) fun f cdv A outer s H E hr => have hu := room65 hr
    (pssm_cons (psm_setLc (own := [("mark", 2)]) rfl S.nd rfl rfl (by decide) (sw_true rfl rfl rfl rfl) (pmi_seq (pm_var (pv 0))) (blkOk_by (by rfl)) 3 rfl (fun _ _ _ _ _ => (pgm_name S.nd rfl (by first | exact Or.inl rfl | exact Or.inr rfl))) (fun _ _ _ _ _ => ptm_nil) (fun _ _ _ _ _ => (pm_at (pm_var (pv 2)) pm_int)) glen_nm) (pssm_cons (psm_if (pmw_or (pmt_eq hu (pm_len (by rfl) T.z_len (pma_cons (pm_var (pv 0)) pma_nil)) pm_int) (pmw_or1 (pmt_gt (pm_count (pm_var (pv 1)) (pma_cons pm_str pma_nil)) pm_int))).pt (pssm_one (psm_ret pm_bl)) pssm_nil) (pssm_cons (psm_if (pmt_eq hu (pm_count (pm_var (pv 1)) (pma_cons pm_str pma_nil)) pm_int) (pssm_one (psm_ret (pm_cl d_are_marks hr (takes_of rfl rfl rfl rfl) (pma_cons (pm_var (pv 0)) pma_nil)))) pssm_nil) (pssm_one (psm_ret (pm_and (pm_lt (pm_len (by rfl) T.z_len (pma_cons (pm_var (pv 0)) pma_nil)) (pm_gint T.c_MOST_MARKS)) (pm_one (pm_all rfl (by rfl) T.z_all (pma_cons (pm_lc (own := [("mark", 2)]) rfl S.nd (pmi_seq (pm_var (pv 0))) (blkOk_by (by rfl)) 3 rfl (fun _ _ _ _ _ => (pgm_name S.nd rfl (by first | exact Or.inl rfl | exact Or.inr rfl))) (fun _ _ _ _ _ => ptm_nil) (fun _ _ _ _ _ => (pm_and (pm_eq hu (pm_at (pm_var (pv 2)) pm_int) pm_str) (pm_one (pm_cl d_is_name hr takesF (pma_cons (pm_at (pm_var (pv 2)) pm_int) pma_nil))))) glen_nm) pma_nil)))))))))
theorem sc__law_mark_text : FnScope ["mark"] ["mark"] (defScope s__law_mark_text) := ⟨rfl, rfl, rfl, by decide +kernel, rfl, by decide +kernel, by decide +kernel⟩
theorem ok__law_mark_text (T : Tx w K mg)  : DF P w K mg base "_law_mark_text" 1 1 none f__law_mark_text :=
  have S := sc__law_mark_text
  df_of (k := 0) T.d__law_mark_text S none m__law_mark_text (fun j h => by cases h) fun f cdv A outer s H E hr => have hu := room65 hr
    (pssm_one (psm_ret (pm_add (pm_disp (ptab_cons (ptab_cons (ptab_cons (ptab_cons ptab_nil)))) hu (pm_at (pm_var (pv 0)) pm_int)) (pm_at (pm_var (pv 0)) pm_int))))
theorem sc_read_mark : FnScope ["text", "word"] ["text"] (defScope s_read_mark) := ⟨rfl, rfl, rfl, by decide +kernel, rfl, by decide +kernel, by decide +kernel⟩
theorem ok_read_mark (T : Tx w K mg) (d_is_name : DF P w K mg base "is_name" 1 2 none f_is_name) : DF P w K mg base "read_mark" 1 3 none f_read_mark :=
  have S := sc_read_mark
  df_of (k := 2) T.d_read_mark S none m_read_mark (fun j h => by cases h) fun f cdv A outer s H E hr => have hu := room65 hr
    (pssm_cons (psm_for (passes_of rfl) rfl (pmi_seq (pm_tup (pma_cons pm_str (pma_cons pm_str (pma_cons pm_str pma_nil))))) (pgm_name S.nd rfl (by first | exact Or.inl rfl | exact Or.inr rfl)) (pssm_one (psm_if (pmw_and (pmt_val (pm_starts (pm_var (pv 0)) (pma_cons (pm_gtab T.c_SIGNS (pm_var (pv 1))) pma_nil))) (pmw_and1 (pmt_val (pm_cl d_is_name hr (takes_of rfl rfl rfl rfl) (pma_cons (pm_sl (pm_var (pv 0)) (pmo_some pm_int) pmo_none) pma_nil))))).pt (pssm_one (psm_ret (pm_tup (pma_cons (pm_var (pv 1)) (pma_cons (pm_sl (pm_var (pv 0)) (pmo_some pm_int) pmo_none) pma_nil))))) pssm_nil))) (pssm_cons (psm_if (pmt_not (pmt_val (pm_cl d_is_name hr (takes_of rfl rfl rfl rfl) (pma_cons (pm_var (pv 0)) pma_nil)))) (pssm_one (psm_raiseC rfl (takes_of rfl rfl rfl rfl) T.x_BadMarks)) pssm_nil) (pssm_one (psm_ret (pm_tup (pma_cons pm_str (pma_cons (pm_var (pv 0)) pma_nil)))))))
theorem sc_read_marks : FnScope ["text", "marks", "word"] ["text"] (defScope s_read_marks) := ⟨rfl, rfl, rfl, by decide +kernel, rfl, by decide +kernel, by decide +kernel⟩
theorem ok_read_marks (T : Tx w K mg) (d_are_marks : DF P w K mg base "are_marks" 1 3 none f_are_marks) (d_read_mark : DF P w K mg base "read_mark" 1 3 none f_read_mark) : DF P w K mg base "read_marks" 1 4 none f_read_marks :=
  have S := sc_read_marks
  df_of (k := 3) T.d_read_marks S none m_read_marks (fun j h => by cases h) fun f cdv A outer s H E hr => have hu := room65 hr
    (pssm_cons (psm_set S.nd rfl (by first | exact Or.inl rfl | exact Or.inr rfl) (pm_tuple (by rfl) T.z_tuple (pma_cons (pm_lcX (own := [("word", 2)]) rfl S.nd rfl rfl (takes_of rfl rfl rfl rfl) (pmi_seq (pm_split (pm_var (pv 0)) (pma_cons pm_str pma_nil))) (blkOk_by (by rfl)) 3 rfl (fun _ _ _ _ _ => (pgm_name S.nd rfl (by first | exact Or.inl rfl | exact Or.inr rfl))) (fun _ _ _ _ _ => (ptm_one (pmt_ne hu (pm_var (pv 2)) pm_str))) (fun W _ _ _ _ _ pn xe tk => (pm_cl d_read_mark hr tk (pma_cons (pm_var (pv 2)) pma_nil))) glen_nm) pma_nil))) (pssm_cons (psm_if (pmt_not (pmt_val (pm_cl d_are_marks hr (takes_of rfl rfl rfl rfl) (pma_cons (pm_var (pv 1)) pma_nil)))) (pssm_one (psm_raiseC rfl (takes_of rfl rfl rfl rfl) T.x_BadMarks)) pssm_nil) (pssm_one (psm_retV (pv 1)))))
theorem sc__law_refused : FnScope ["which", "text"] ["which", "text"] (defScope s__law_refused) := ⟨rfl, rfl, rfl, by decide +kernel, rfl, by decide +kernel, by decide +kernel⟩
theorem ok__law_refused (T : Tx w K mg) (d_read_mark : DF P w K mg base "read_mark" 1 3 none f_read_mark) (d_read_marks : DF P w K mg base "read_marks" 1 4 none f_read_marks) : DF P w K mg base "_law_refused" 2 5 none f__law_refused :=
  have S := sc__law_refused
  df_of (k := 4) T.d__law_refused S none m__law_refused (fun j h => by cases h) fun f cdv A outer s H E hr => have hu := room65 hr
    (pssm_one (psm_tryC T.h_BadMarks (takes_of rfl rfl rfl rfl) (fun W pn xe tk hp => (pssm_cons (psm_if (pmt_eq hu (pm_var (pv 0)) pm_int) (pssm_one (psm_expr (pm_cl d_read_mark hr tk (pma_cons (pm_var (pv 1)) pma_nil)))) (pssm_one (psm_expr (pm_cl d_read_marks hr tk (pma_cons (pm_var (pv 1)) pma_nil))))) (pssm_one (psm_ret pm_bl)))) (fun a oe cls d pn _ _ => (pssm_one (psm_ret pm_bl)))))
theorem sc_mark_text : FnScope ["mark"] ["mark"] (defScope s_mark_text) := ⟨rfl, rfl, rfl, by decide +kernel, rfl, by decide +kernel, by decide +kernel⟩
theorem ok_mark_text (T : Tx w K mg)  : DF P w K mg base "mark_text" 1 1 none f_mark_text :=
  have S := sc_mark_text
  df_of (k := 0) T.d_mark_text S none m_mark_text (fun j h => by cases h) fun f cdv A outer s H E hr => have hu := room65 hr
    (pssm_one (psm_ret (pm_add (pm_gtab T.c_SIGNS (pm_at (pm_var (pv 0)) pm_int)) (pm_at (pm_var (pv 0)) pm_int))))
theorem sc_marks_text : FnScope ["marks", "mark"] ["marks"] (defScope s_marks_text) := ⟨rfl, rfl, rfl, by decide +kernel, rfl, by decide +kernel, by decide +kernel⟩
theorem ok_marks_text (T : Tx w K mg) (d_mark_text : DF P w K mg base "mark_text" 1 1 none f_mark_text) : DF P w K mg base "marks_text" 1 2 none f_marks_text :=
  have S := sc_marks_text
  df_of (k := 1) T.d_marks_text S none m_marks_text (fun j h => by cases h) fun f cdv A outer s H E hr => have hu := room65 hr
    (pssm_one (psm_ret (pm_join pm_str (pma_cons (pm_lc (own := [("mark", 1)]) rfl S.nd (pmi_seq (pm_var (pv 0))) (blkOk_by (by rfl)) 2 rfl (fun _ _ _ _ _ => (pgm_name S.nd rfl (by first | exact Or.inl rfl | exact Or.inr rfl))) (fun _ _ _ _ _ => ptm_nil) (fun _ _ _ _ _ => (pm_cl d_mark_text hr takesF (pma_cons (pm_var (pv 1)) pma_nil))) glen_nm) pma_nil))))
theorem sc_goings : FnScope ["marks", "word", "name"] ["marks"] (defScope s_goings) := ⟨rfl, rfl, rfl, by decide +kernel, rfl, by decide +kernel, by decide +kernel⟩
theorem ok_goings (T : Tx w K mg)  : DF P w K mg base "goings" 1 1 none f_goings :=
  have S := sc_goings
  df_of (k := 0) T.d_goings S none m_goings (fun j h => by cases h) fun f cdv A outer s H E hr => have hu := room65 hr
    (pssm_one (psm_ret (pm_lc (own := [("word", 1), ("name", 2)]) rfl S.nd (pmi_seq (pm_var (pv 0))) (blkOk_by (by rfl)) 3 rfl (fun _ _ _ _ _ => (pgm_tup rfl (pgm_cons (pgm_name S.nd rfl (by first | exact Or.inl rfl | exact Or.inr rfl)) (pgm_cons (pgm_name S.nd rfl (by first | exact Or.inl rfl | exact Or.inr rfl)) pgm_nil)))) (fun _ _ _ _ _ => (ptm_one (pmt_eq hu (pm_var (pv 1)) pm_str))) (fun _ _ _ _ _ => (pm_var (pv 2))) (glen_tp (by intro g hg; simp only [List.mem_cons, List.not_mem_nil, or_false] at hg; rcases hg with rfl | rfl <;> first | exact glen_nm)))))
theorem sc_be_name : FnScope ["marks", "word", "name"] ["marks"] (defScope s_be_name) := ⟨rfl, rfl, rfl, by decide +kernel, rfl, by decide +kernel, by decide +kernel⟩
theorem ok_be_name (T : Tx w K mg)  : DF P w K mg base "be_name" 1 1 none f_be_name :=
  have S := sc_be_name
  df_of (k := 0) T.d_be_name S none m_be_name (fun j h => by cases h) fun f cdv A outer s H E hr => have hu := room65 hr
    (pssm_cons (psm_for (passes_of rfl) rfl (pmi_seq (pm_var (pv 0))) (pgm_tup rfl (pgm_cons (pgm_name S.nd rfl (by first | exact Or.inl rfl | exact Or.inr rfl)) (pgm_cons (pgm_name S.nd rfl (by first | exact Or.inl rfl | exact Or.inr rfl)) pgm_nil))) (pssm_one (psm_if (pmt_eq hu (pm_var (pv 1)) pm_str) (pssm_one (psm_retV (pv 2))) pssm_nil))) (pssm_one (psm_ret pm_str)))
theorem sc_law : FnScope ["script", "stream", "names", "marks", "good", "row", "cut", "wrong", "words", "at", "due", "rest", "text", "bes", "mark", "k", "word", "name"] ["script"] (defScope s_law) := ⟨rfl, rfl, rfl, by decide +kernel, rfl, by decide +kernel, by decide +kernel⟩
theorem fn_law (T : Tx w K mg) (D : DF P w K mg base "_law_stream" 1 1 none f__law_stream ∧ DF P w K mg base "_law_marks" 3 3 (some 0) f__law_marks ∧ DF P w K mg base "_law_pick" 2 2 (some 0) f__law_pick ∧ DF P w K mg base "_law_same" 2 71 none (f__law_same 70) ∧ DF P w K mg base "is_rest" 1 4 none f_is_rest ∧ DF P w K mg base "is_name" 1 2 none f_is_name ∧ DF P w K mg base "are_marks" 1 3 none f_are_marks ∧ DF P w K mg base "_law_mark_text" 1 1 none f__law_mark_text ∧ DF P w K mg base "_law_refused" 2 5 none f__law_refused ∧ DF P w K mg base "_law_draw" 2 1 (some 0) f__law_draw ∧ DF P w K mg base "marks_text" 1 2 none f_marks_text ∧ DF P w K mg base "read_marks" 1 4 none f_read_marks ∧ DF P w K mg base "goings" 1 1 none f_goings ∧ DF P w K mg base "read_mark" 1 3 none f_read_mark ∧ DF P w K mg base "be_name" 1 1 none f_be_name ∧ DF P w K mg base "mark_text" 1 1 none f_mark_text) {f : Addr} {fd : FuncData} (F : Fun K "law" "law" s_law f fd) : FnOk P w K mg base (L2.CX P w) 72 f fd ["script"] (spF ⟨K, mg⟩ 1 none f_law) := by
  have S := sc_law
  obtain ⟨d__law_stream, d__law_marks, d__law_pick, d__law_same, d_is_rest, d_is_name, d_are_marks, d__law_mark_text, d__law_refused, d__law_draw, d_marks_text, d_read_marks, d_goings, d_read_mark, d_be_name, d_mark_text⟩ := D
  exact fn_val (k := 71) F S none m_law (fun j h => by cases h) fun cdv A outer s H E hr => have hu := room65 hr
    (pssm_cons (psm_set S.nd rfl (by first | exact Or.inl rfl | exact Or.inr rfl) (pm_cl d__law_stream hr (takes_of rfl rfl rfl rfl) (pma_cons (pm_var (pv 0)) pma_nil))) (pssm_cons (psm_set S.nd rfl (by first | exact Or.inl rfl | exact Or.inr rfl) (pm_lst (pma_cons pm_str (pma_cons pm_str (pma_cons pm_str (pma_cons (pm_sl pm_str pmo_none (pmo_some pm_int)) pma_nil)))))) (pssm_cons (psm_set S.nd rfl (by first | exact Or.inl rfl | exact Or.inr rfl) (pm_tuple (by rfl) T.z_tuple (pma_cons (pm_lc (own := [("k", 15)]) rfl S.nd (pmi_range1 (by rfl) T.z_range (pm_clIO d__law_draw hr (takes_of rfl rfl rfl rfl) (pai_here (pv 1) (pma_cons pm_int pma_nil)))) (blkOk_by (by rfl)) 18 rfl (fun _ _ _ _ _ => (pgm_name S.nd rfl (by first | exact Or.inl rfl | exact Or.inr rfl))) (fun _ _ _ _ _ => ptm_nil) (fun _ _ _ _ _ => (pm_tup (pma_cons (pm_clIO d__law_pick hr takesF (pai_here (pv 1) (pma_cons (pm_lst (pma_cons pm_str (pma_cons pm_str (pma_cons pm_str (pma_cons pm_str pma_nil))))) pma_nil))) (pma_cons (pm_clIO d__law_pick hr takesF (pai_here (pv 1) (pma_cons (pm_var (pv 2)) pma_nil))) pma_nil)))) glen_nm) pma_nil))) (pssm_cons (psm_set S.nd rfl (by first | exact Or.inl rfl | exact Or.inr rfl) (pm_clIO d__law_marks hr (takes_of rfl rfl rfl rfl) (pai_here (pv 1) (pma_cons (pm_var (pv 2)) (pma_cons (pm_var (pv 2)) pma_nil))))) (pssm_cons (psm_for (passes_of rfl) rfl (pmi_seq (pm_lst (pma_cons (pm_var (pv 3)) (pma_cons (pm_var (pv 4)) (pma_cons (pm_sl (pm_var (pv 4)) pmo_none (pmo_some pm_int)) (pma_cons (pm_add (pm_var (pv 4)) (pm_var (pv 4))) (pma_cons (pm_mul (pm_tup (pma_cons (pm_tup (pma_cons pm_str (pma_cons pm_str pma_nil))) pma_nil)) (pm_clIO d__law_pick hr (takes_of rfl rfl rfl rfl) (pai_here (pv 1) (pma_cons (pm_lst (pma_cons pm_int (pma_cons pm_int pma_nil))) pma_nil)))) (pma_cons (pm_tup (pma_cons (pm_tup (pma_cons pm_str (pma_cons pm_str pma_nil))) pma_nil)) (pma_cons (pm_add (pm_mul (pm_tup (pma_cons (pm_tup (pma_cons pm_str (pma_cons pm_str pma_nil))) pma_nil)) (pm_clIO d__law_pick hr (takes_of rfl rfl rfl rfl) (pai_here (pv 1) (pma_cons (pm_lst (pma_cons pm_int (pma_cons pm_int pma_nil))) pma_nil)))) (pm_tup (pma_cons (pm_tup (pma_cons pm_str (pma_cons pm_str pma_nil))) pma_nil))) pma_nil))))))))) (pgm_name S.nd rfl (by first | exact Or.inl rfl | exact Or.inr rfl)) (pssm_cons (psm_setLc (own := [("mark", 14)]) rfl S.nd rfl rfl (by decide) (sw_true rfl rfl rfl rfl) (pmi_seq (pm_var (pv 5))) (blkOk_by (by rfl)) 18 rfl (fun _ _ _ _ _ => (pgm_name S.nd rfl (by first | exact Or.inl rfl | exact Or.inr rfl))) (fun _ _ _ _ _ => ptm_nil) (fun _ _ _ _ _ => (pm_at (pm_var (pv 14)) pm_int)) glen_nm) (pssm_cons (psm_set S.nd rfl (by first | exact Or.inl rfl | exact Or.inr rfl) (pm_ifExp (pmt_in hu pm_str (pm_var (pv 8))) (pm_index hu (pm_var (pv 8)) (pma_cons pm_str pma_nil)) pm_int)) (pssm_cons (psm_set S.nd rfl (by first | exact Or.inl rfl | exact Or.inr rfl) (pm_and (pm_eq hu (pm_count (pm_var (pv 8)) (pma_cons pm_str pma_nil)) pm_int) (pm_and (pm_notIn hu (pm_tup (pma_cons pm_str (pma_cons pm_str pma_nil))) (pm_var (pv 5))) (pm_and (pm_le (pm_len (by rfl) T.z_len (pma_cons (pm_var (pv 5)) pma_nil)) pm_int) (pm_and (pm_all rfl (by rfl) T.z_all (pma_cons (pm_lc (own := [("word", 16)]) rfl S.nd (pmi_seq (pm_sl (pm_var (pv 8)) pmo_none (pmo_some (pm_var (pv 9))))) (blkOk_by (by rfl)) 18 rfl (fun _ _ _ _ _ => (pgm_name S.nd rfl (by first | exact Or.inl rfl | exact Or.inr rfl))) (fun _ _ _ _ _ => ptm_nil) (fun _ _ _ _ _ => (pm_in hu (pm_var (pv 16)) (pm_lst (pma_cons pm_str (pma_cons pm_str pma_nil))))) glen_nm) pma_nil)) (pm_one (pm_all rfl (by rfl) T.z_all (pma_cons (pm_lc (own := [("word", 16)]) rfl S.nd (pmi_seq (pm_sl (pm_var (pv 8)) (pmo_some (pm_add (pm_var (pv 9)) pm_int)) pmo_none)) (blkOk_by (by rfl)) 18 rfl (fun _ _ _ _ _ => (pgm_name S.nd rfl (by first | exact Or.inl rfl | exact Or.inr rfl))) (fun _ _ _ _ _ => ptm_nil) (fun _ _ _ _ _ => (pm_eq hu (pm_var (pv 16)) pm_str)) glen_nm) pma_nil)))))))) (pssm_cons (psm_set S.nd rfl (by first | exact Or.inl rfl | exact Or.inr rfl) (pm_and (pm_gt (pm_len (by rfl) T.z_len (pma_cons (pm_var (pv 5)) pma_nil)) pm_int) (pm_one (pm_or (pm_var (pv 10)) (pm_one (pm_and (pm_lt (pm_len (by rfl) T.z_len (pma_cons (pm_var (pv 5)) pma_nil)) pm_int) (pm_one (pm_all rfl (by rfl) T.z_all (pma_cons (pm_lc (own := [("word", 16)]) rfl S.nd (pmi_seq (pm_var (pv 8))) (blkOk_by (by rfl)) 18 rfl (fun _ _ _ _ _ => (pgm_name S.nd rfl (by first | exact Or.inl rfl | exact Or.inr rfl))) (fun _ _ _ _ _ => ptm_nil) (fun _ _ _ _ _ => (pm_eq hu (pm_var (pv 16)) pm_str)) glen_nm) pma_nil))))))))) (pssm_cons (psm_if (pmt_not (pmt_val (pm_cl d__law_same hr (takes_of rfl rfl rfl rfl) (pma_cons (pm_cl d_are_marks hr (takes_of rfl rfl rfl rfl) (pma_cons (pm_var (pv 5)) pma_nil)) (pma_cons (pm_var (pv 10)) pma_nil))))) (pssm_one (psm_ret pm_bl)) pssm_nil) (pssm_cons (psm_if (pmt_in hu (pm_tup (pma_cons pm_str (pma_cons pm_str pma_nil))) (pm_var (pv 5))) (pssm_one psm_continue) pssm_nil) (pssm_cons (psm_if (pmt_not (pmt_val (pm_cl d__law_same hr (takes_of rfl rfl rfl rfl) (pma_cons (pm_cl d_is_rest hr (takes_of rfl rfl rfl rfl) (pma_cons (pm_var (pv 5)) pma_nil)) (pma_cons (pm_var (pv 11)) pma_nil))))) (pssm_one (psm_ret pm_bl)) pssm_nil) (pssm_cons (psm_set S.nd rfl (by first | exact Or.inl rfl | exact Or.inr rfl) (pm_join pm_str (pma_cons (pm_lc (own := [("mark", 14)]) rfl S.nd (pmi_seq (pm_var (pv 5))) (blkOk_by (by rfl)) 18 rfl (fun _ _ _ _ _ => (pgm_name S.nd rfl (by first | exact Or.inl rfl | exact Or.inr rfl))) (fun _ _ _ _ _ => ptm_nil) (fun _ _ _ _ _ => (pm_cl d__law_mark_text hr takesF (pma_cons (pm_var (pv 14)) pma_nil))) glen_nm) pma_nil))) (pssm_cons (psm_if (pmw_or (pmt_not (pmt_val (pm_cl d__law_same hr (takes_of rfl rfl rfl rfl) (pma_cons (pm_cl d_marks_text hr (takes_of rfl rfl rfl rfl) (pma_cons (pm_var (pv 5)) pma_nil)) (pma_cons (pm_var (pv 12)) pma_nil))))) (pmw_or1 (pmt_not (pmt_val (pm_cl d__law_same hr (takes_of rfl rfl rfl rfl) (pma_cons (pm_cl d__law_refused hr (takes_of rfl rfl rfl rfl) (pma_cons pm_int (pma_cons (pm_var (pv 12)) pma_nil))) (pma_cons (pm_not (pm_var (pv 10))) pma_nil))))))).pt (pssm_one (psm_ret pm_bl)) pssm_nil) (pssm_cons (psm_if (pmw_and (pmt_val (pm_var (pv 10))) (pmw_and1 (pmt_not (pmt_val (pm_cl d__law_same hr (takes_of rfl rfl rfl rfl) (pma_cons (pm_cl d_read_marks hr (takes_of rfl rfl rfl rfl) (pma_cons (pm1_add (pm1_addT pm1_str (pmt_repl (pm_var (pv 12)))) pm_str).pe pma_nil)) (pma_cons (pm_var (pv 5)) pma_nil))))))).pt (pssm_one (psm_ret pm_bl)) pssm_nil) (pssm_cons (psm_set S.nd rfl (by first | exact Or.inl rfl | exact Or.inr rfl) (pm_add (pm_lc (own := [("word", 16), ("name", 17)]) rfl S.nd (pmi_seq (pm_var (pv 5))) (blkOk_by (by rfl)) 18 rfl (fun _ _ _ _ _ => (pgm_tup rfl (pgm_cons (pgm_name S.nd rfl (by first | exact Or.inl rfl | exact Or.inr rfl)) (pgm_cons (pgm_name S.nd rfl (by first | exact Or.inl rfl | exact Or.inr rfl)) pgm_nil)))) (fun _ _ _ _ _ => (ptm_one (pmt_eq hu (pm_var (pv 16)) pm_str))) (fun _ _ _ _ _ => (pm_var (pv 17))) (glen_tp (by intro g hg; simp only [List.mem_cons, List.not_mem_nil, or_false] at hg; rcases hg with rfl | rfl <;> first | exact glen_nm))) (pm_lst (pma_cons pm_str pma_nil)))) (pssm_cons (psm_if (pmw_or (pmw_and (pmt_lt (pm_len (by rfl) T.z_len (pma_cons (pm_var (pv 13)) pma_nil)) pm_int) (pmw_and1 (pmt_not (pmt_val (pm_cl d__law_same hr (takes_of rfl rfl rfl rfl) (pma_cons (pm_cl d_be_name hr (takes_of rfl rfl rfl rfl) (pma_cons (pm_var (pv 5)) pma_nil)) (pma_cons (pm_at (pm_var (pv 13)) pm_int) pma_nil))))))).pt (pmw_or1 (pmt_not (pmt_val (pm_cl d__law_same hr (takes_of rfl rfl rfl rfl) (pma_cons (pm_cl d_goings hr (takes_of rfl rfl rfl rfl) (pma_cons (pm_var (pv 5)) pma_nil)) (pma_cons (pm_lc (own := [("word", 16), ("name", 17)]) rfl S.nd (pmi_seq (pm_var (pv 5))) (blkOk_by (by rfl)) 18 rfl (fun _ _ _ _ _ => (pgm_tup rfl (pgm_cons (pgm_name S.nd rfl (by first | exact Or.inl rfl | exact Or.inr rfl)) (pgm_cons (pgm_name S.nd rfl (by first | exact Or.inl rfl | exact Or.inr rfl)) pgm_nil)))) (fun _ _ _ _ _ => (ptm_one (pmt_eq hu (pm_var (pv 16)) pm_str))) (fun _ _ _ _ _ => (pm_var (pv 17))) (glen_tp (by intro g hg; simp only [List.mem_cons, List.not_mem_nil, or_false] at hg; rcases hg with rfl | rfl <;> first | exact glen_nm))) pma_nil))))))).pt (pssm_one (psm_ret pm_bl)) pssm_nil) (pssm_one (psm_for (passes_of rfl) rfl (pmi_seq (pm_var (pv 5))) (pgm_name S.nd rfl (by first | exact Or.inl rfl | exact Or.inr rfl)) (pssm_one (psm_if (pmt_not (pmt_val (pm_cl d__law_same hr (takes_of rfl rfl rfl rfl) (pma_cons (pm_cl d_read_mark hr (takes_of rfl rfl rfl rfl) (pma_cons (pm_cl d_mark_text hr (takes_of rfl rfl rfl rfl) (pma_cons (pm_var (pv 14)) pma_nil)) pma_nil)) (pma_cons (pm_var (pv 14)) pma_nil))))) (pssm_one (psm_ret pm_bl)) pssm_nil))))))))))))))))) (pssm_cons (psm_for (passes_of rfl) rfl (pmi_range2 (by rfl) T.z_range pm_int (pm_add (pm_len (by rfl) T.z_len (pma_cons (pm_var (pv 4)) pma_nil)) pm_int)) (pgm_name S.nd rfl (by first | exact Or.inl rfl | exact Or.inr rfl)) (pssm_one (psm_if (pmt_isNot (pm_cl d_is_rest hr (takes_of rfl rfl rfl rfl) (pma_cons (pm_sl (pm_var (pv 4)) (pmo_some (pm_sub (pm_var (pv 6)) pm_int)) pmo_none) pma_nil)) pm_bl) (pssm_one (psm_ret pm_bl)) pssm_nil))) (pssm_cons (psm_set S.nd rfl (by first | exact Or.inl rfl | exact Or.inr rfl) (pm_lst (pma_cons pm_str (pma_cons pm_str (pma_cons pm_str (pma_cons pm_str (pma_cons pm_str (pma_cons pm_str (pma_cons pm_str (pma_cons pm_str (pma_cons pm_str (pma_cons pm_str (pma_cons pm_str (pma_cons pm_str (pma_cons pm_str pma_nil))))))))))))))) (pssm_one (psm_ret (pm_and (pm_all rfl (by rfl) T.z_all (pma_cons (pm_lc (own := [("text", 12)]) rfl S.nd (pmi_seq (pm_var (pv 7))) (blkOk_by (by rfl)) 18 rfl (fun _ _ _ _ _ => (pgm_name S.nd rfl (by first | exact Or.inl rfl | exact Or.inr rfl))) (fun _ _ _ _ _ => ptm_nil) (fun _ _ _ _ _ => (pm_cl d__law_refused hr takesF (pma_cons pm_int (pma_cons (pm_var (pv 12)) pma_nil)))) glen_nm) pma_nil)) (pm_and (pm_is (pm_cl d_is_name hr (takes_of rfl rfl rfl rfl) (pma_cons pm_str pma_nil)) pm_bl) (pm_one (pm_not (pm_any rfl (by rfl) T.z_any (pma_cons (pm_lc (own := [("text", 12)]) rfl S.nd (pmi_seq (pm_lst (pma_cons pm_str (pma_cons pm_str (pma_cons pm_str (pma_cons pm_str (pma_cons pm_str (pma_cons pm_str pma_nil)))))))) (blkOk_by (by rfl)) 18 rfl (fun _ _ _ _ _ => (pgm_name S.nd rfl (by first | exact Or.inl rfl | exact Or.inr rfl))) (fun _ _ _ _ _ => ptm_nil) (fun _ _ _ _ _ => (pm_cl d_is_name hr takesF (pma_cons (pm_var (pv 12)) pma_nil))) glen_nm) pma_nil)))))))))))))))
theorem deps_law (T : Tx w K mg) : DF P w K mg base "_law_stream" 1 1 none f__law_stream ∧ DF P w K mg base "_law_marks" 3 3 (some 0) f__law_marks ∧ DF P w K mg base "_law_pick" 2 2 (some 0) f__law_pick ∧ DF P w K mg base "_law_same" 2 71 none (f__law_same 70) ∧ DF P w K mg base "is_rest" 1 4 none f_is_rest ∧ DF P w K mg base "is_name" 1 2 none f_is_name ∧ DF P w K mg base "are_marks" 1 3 none f_are_marks ∧ DF P w K mg base "_law_mark_text" 1 1 none f__law_mark_text ∧ DF P w K mg base "_law_refused" 2 5 none f__law_refused ∧ DF P w K mg base "_law_draw" 2 1 (some 0) f__law_draw ∧ DF P w K mg base "marks_text" 1 2 none f_marks_text ∧ DF P w K mg base "read_marks" 1 4 none f_read_marks ∧ DF P w K mg base "goings" 1 1 none f_goings ∧ DF P w K mg base "read_mark" 1 3 none f_read_mark ∧ DF P w K mg base "be_name" 1 1 none f_be_name ∧ DF P w K mg base "mark_text" 1 1 none f_mark_text := by
  have d__law_stream := ok__law_stream (P := P) (base := base) T 
  have d__law_draw := ok__law_draw (P := P) (base := base) T 
  have d__law_pick := ok__law_pick (P := P) (base := base) T d__law_draw
  have d__law_marks := ok__law_marks (P := P) (base := base) T d__law_draw d__law_pick
  have d__law_same := ok__law_same (P := P) (base := base) T  70
  have d_is_letter := ok_is_letter (P := P) (base := base) T 
  have d_is_name := ok_is_name (P := P) (base := base) T d_is_letter
  have d_are_marks := ok_are_marks (P := P) (base := base) T d_is_name
  have d_is_rest := ok_is_rest (P := P) (base := base) T d_are_marks d_is_name
  have d__law_mark_text := ok__law_mark_text (P := P) (base := base) T 
  have d_read_mark := ok_read_mark (P := P) (base := base) T d_is_name
  have d_read_marks := ok_read_marks (P := P) (base := base) T d_are_marks d_read_mark
  have d__law_refused := ok__law_refused (P := P) (base := base) T d_read_mark d_read_marks
  have d_mark_text := ok_mark_text (P := P) (base := base) T 
  have d_marks_text := ok_marks_text (P := P) (base := base) T d_mark_text
  have d_goings := ok_goings (P := P) (base := base) T 
  have d_be_name := ok_be_name (P := P) (base := base) T 
  exact ⟨d__law_stream, d__law_marks, d__law_pick, d__law_same, d_is_rest, d_is_name, d_are_marks, d__law_mark_text, d__law_refused, d__law_draw, d_marks_text, d_read_marks, d_goings, d_read_mark, d_be_name, d_mark_text⟩
end
end VL


set_option Elab.async false
set_option linter.all false
set_option maxRecDepth 100000
set_option maxHeartbeats 4000000
namespace VL
open PySem PySem.Spec L2
open PyProof.Rows hiding St
theorem all_mk {P : Program} {w : World} {K : PySem.W.Frag} {h : Heap} {mg : Str → Option Value} {fa : Addr} {f1 : Addr} {od1 an1 : Option Addr} {sl1 : Array (Option Value)} {oc1 kV1 dc1 pm1 cd1 ct1 : Value} {f2 : Addr} {od2 an2 : Option Addr} {sl2 : Array (Option Value)} {oc2 kV2 dc2 pm2 cd2 ct2 : Value} {f3 : Addr} {od3 an3 : Option Addr} {sl3 : Array (Option Value)} {oc3 kV3 dc3 pm3 cd3 ct3 : Value} {f4 : Addr} {od4 an4 : Option Addr} {sl4 : Array (Option Value)} {oc4 kV4 dc4 pm4 cd4 ct4 : Value} {f5 : Addr} {od5 an5 : Option Addr} {sl5 : Array (Option Value)} {oc5 kV5 dc5 pm5 cd5 ct5 : Value} {f6 : Addr} {od6 an6 : Option Addr} {sl6 : Array (Option Value)} {oc6 kV6 dc6 pm6 cd6 ct6 : Value} {f7 : Addr} {od7 an7 : Option Addr} {sl7 : Array (Option Value)} {oc7 kV7 dc7 pm7 cd7 ct7 : Value} {f8 : Addr} {od8 an8 : Option Addr} {sl8 : Array (Option Value)} {oc8 kV8 dc8 pm8 cd8 ct8 : Value} {f9 : Addr} {od9 an9 : Option Addr} {sl9 : Array (Option Value)} {oc9 kV9 dc9 pm9 cd9 ct9 : Value} {f10 : Addr} {od10 an10 : Option Addr} {sl10 : Array (Option Value)} {oc10 kV10 dc10 pm10 cd10 ct10 : Value} {f11 : Addr} {od11 an11 : Option Addr} {sl11 : Array (Option Value)} {oc11 kV11 dc11 pm11 cd11 ct11 : Value} {f12 : Addr} {od12 an12 : Option Addr} {sl12 : Array (Option Value)} {oc12 kV12 dc12 pm12 cd12 ct12 : Value} {f13 : Addr} {od13 an13 : Option Addr} {sl13 : Array (Option Value)} {oc13 kV13 dc13 pm13 cd13 ct13 : Value} {f14 : Addr} {od14 an14 : Option Addr} {sl14 : Array (Option Value)} {oc14 kV14 dc14 pm14 cd14 ct14 : Value} {f15 : Addr} {od15 an15 : Option Addr} {sl15 : Array (Option Value)} {oc15 kV15 dc15 pm15 cd15 ct15 : Value} {f16 : Addr} {od16 an16 : Option Addr} {sl16 : Array (Option Value)} {oc16 kV16 dc16 pm16 cd16 ct16 : Value} {f17 : Addr} {od17 an17 : Option Addr} {sl17 : Array (Option Value)} {oc17 kV17 dc17 pm17 cd17 ct17 : Value} {f18 : Addr} {od18 an18 : Option Addr} {sl18 : Array (Option Value)} {oc18 kV18 dc18 pm18 cd18 ct18 : Value} {C_MoveError : Addr} {C_BadMarks : Addr} {t_MOST_MARKS : Tok} {t_MOST_NAME : Tok} {d_SIGNS : Addr} {es_SIGNS : Array DictEntry} {n_SIGNS : Nat} {t_SIGNS0 t_SIGNS1 t_SIGNS2 t_SIGNS3 : Tok} (X : K.In h) (G : h.Ns mainGlobals mg) (hfa : mg "law" = some (.ref fa))
  (a1 : PySem.W.nsIn K mainGlobals "_law_stream" = some (some (.ref f1))) (l1 : K.lookup f1 = some ⟨oc1, od1, .func (PySem.W.fnOf "_law_stream" "_law_stream" (defArgs s__law_stream) (defBody s__law_stream) (defScope s__law_stream) .none kV1 dc1 pm1 an1 cd1 ct1), sl1⟩) (c1 : PySem.W.codeIn K cd1 "_law_stream" = true) (k1 : PySem.W.keepIn K (.ref f1) = true)
  (a2 : PySem.W.nsIn K mainGlobals "_law_draw" = some (some (.ref f2))) (l2 : K.lookup f2 = some ⟨oc2, od2, .func (PySem.W.fnOf "_law_draw" "_law_draw" (defArgs s__law_draw) (defBody s__law_draw) (defScope s__law_draw) .none kV2 dc2 pm2 an2 cd2 ct2), sl2⟩) (c2 : PySem.W.codeIn K cd2 "_law_draw" = true) (k2 : PySem.W.keepIn K (.ref f2) = true)
  (a3 : PySem.W.nsIn K mainGlobals "_law_pick" = some (some (.ref f3))) (l3 : K.lookup f3 = some ⟨oc3, od3, .func (PySem.W.fnOf "_law_pick" "_law_pick" (defArgs s__law_pick) (defBody s__law_pick) (defScope s__law_pick) .none kV3 dc3 pm3 an3 cd3 ct3), sl3⟩) (c3 : PySem.W.codeIn K cd3 "_law_pick" = true) (k3 : PySem.W.keepIn K (.ref f3) = true)
  (a4 : PySem.W.nsIn K mainGlobals "_law_marks" = some (some (.ref f4))) (l4 : K.lookup f4 = some ⟨oc4, od4, .func (PySem.W.fnOf "_law_marks" "_law_marks" (defArgs s__law_marks) (defBody s__law_marks) (defScope s__law_marks) .none kV4 dc4 pm4 an4 cd4 ct4), sl4⟩) (c4 : PySem.W.codeIn K cd4 "_law_marks" = true) (k4 : PySem.W.keepIn K (.ref f4) = true)
  (a5 : PySem.W.nsIn K mainGlobals "_law_same" = some (some (.ref f5))) (l5 : K.lookup f5 = some ⟨oc5, od5, .func (PySem.W.fnOf "_law_same" "_law_same" (defArgs s__law_same) (defBody s__law_same) (defScope s__law_same) .none kV5 dc5 pm5 an5 cd5 ct5), sl5⟩) (c5 : PySem.W.codeIn K cd5 "_law_same" = true) (k5 : PySem.W.keepIn K (.ref f5) = true)
  (a6 : PySem.W.nsIn K mainGlobals "is_letter" = some (some (.ref f6))) (l6 : K.lookup f6 = some ⟨oc6, od6, .func (PySem.W.fnOf "is_letter" "is_letter" (defArgs s_is_letter) (defBody s_is_letter) (defScope s_is_letter) .none kV6 dc6 pm6 an6 cd6 ct6), sl6⟩) (c6 : PySem.W.codeIn K cd6 "is_letter" = true) (k6 : PySem.W.keepIn K (.ref f6) = true)
  (a7 : PySem.W.nsIn K mainGlobals "is_name" = some (some (.ref f7))) (l7 : K.lookup f7 = some ⟨oc7, od7, .func (PySem.W.fnOf "is_name" "is_name" (defArgs s_is_name) (defBody s_is_name) (defScope s_is_name) .none kV7 dc7 pm7 an7 cd7 ct7), sl7⟩) (c7 : PySem.W.codeIn K cd7 "is_name" = true) (k7 : PySem.W.keepIn K (.ref f7) = true)
  (a8 : PySem.W.nsIn K mainGlobals "are_marks" = some (some (.ref f8))) (l8 : K.lookup f8 = some ⟨oc8, od8, .func (PySem.W.fnOf "are_marks" "are_marks" (defArgs s_are_marks) (defBody s_are_marks) (defScope s_are_marks) .none kV8 dc8 pm8 an8 cd8 ct8), sl8⟩) (c8 : PySem.W.codeIn K cd8 "are_marks" = true) (k8 : PySem.W.keepIn K (.ref f8) = true)
  (a9 : PySem.W.nsIn K mainGlobals "is_rest" = some (some (.ref f9))) (l9 : K.lookup f9 = some ⟨oc9, od9, .func (PySem.W.fnOf "is_rest" "is_rest" (defArgs s_is_rest) (defBody s_is_rest) (defScope s_is_rest) .none kV9 dc9 pm9 an9 cd9 ct9), sl9⟩) (c9 : PySem.W.codeIn K cd9 "is_rest" = true) (k9 : PySem.W.keepIn K (.ref f9) = true)
  (a10 : PySem.W.nsIn K mainGlobals "_law_mark_text" = some (some (.ref f10))) (l10 : K.lookup f10 = some ⟨oc10, od10, .func (PySem.W.fnOf "_law_mark_text" "_law_mark_text" (defArgs s__law_mark_text) (defBody s__law_mark_text) (defScope s__law_mark_text) .none kV10 dc10 pm10 an10 cd10 ct10), sl10⟩) (c10 : PySem.W.codeIn K cd10 "_law_mark_text" = true) (k10 : PySem.W.keepIn K (.ref f10) = true)
  (a11 : PySem.W.nsIn K mainGlobals "read_mark" = some (some (.ref f11))) (l11 : K.lookup f11 = some ⟨oc11, od11, .func (PySem.W.fnOf "read_mark" "read_mark" (defArgs s_read_mark) (defBody s_read_mark) (defScope s_read_mark) .none kV11 dc11 pm11 an11 cd11 ct11), sl11⟩) (c11 : PySem.W.codeIn K cd11 "read_mark" = true) (k11 : PySem.W.keepIn K (.ref f11) = true)
  (a12 : PySem.W.nsIn K mainGlobals "read_marks" = some (some (.ref f12))) (l12 : K.lookup f12 = some ⟨oc12, od12, .func (PySem.W.fnOf "read_marks" "read_marks" (defArgs s_read_marks) (defBody s_read_marks) (defScope s_read_marks) .none kV12 dc12 pm12 an12 cd12 ct12), sl12⟩) (c12 : PySem.W.codeIn K cd12 "read_marks" = true) (k12 : PySem.W.keepIn K (.ref f12) = true)
  (a13 : PySem.W.nsIn K mainGlobals "_law_refused" = some (some (.ref f13))) (l13 : K.lookup f13 = some ⟨oc13, od13, .func (PySem.W.fnOf "_law_refused" "_law_refused" (defArgs s__law_refused) (defBody s__law_refused) (defScope s__law_refused) .none kV13 dc13 pm13 an13 cd13 ct13), sl13⟩) (c13 : PySem.W.codeIn K cd13 "_law_refused" = true) (k13 : PySem.W.keepIn K (.ref f13) = true)
  (a14 : PySem.W.nsIn K mainGlobals "mark_text" = some (some (.ref f14))) (l14 : K.lookup f14 = some ⟨oc14, od14, .func (PySem.W.fnOf "mark_text" "mark_text" (defArgs s_mark_text) (defBody s_mark_text) (defScope s_mark_text) .none kV14 dc14 pm14 an14 cd14 ct14), sl14⟩) (c14 : PySem.W.codeIn K cd14 "mark_text" = true) (k14 : PySem.W.keepIn K (.ref f14) = true)
  (a15 : PySem.W.nsIn K mainGlobals "marks_text" = some (some (.ref f15))) (l15 : K.lookup f15 = some ⟨oc15, od15, .func (PySem.W.fnOf "marks_text" "marks_text" (defArgs s_marks_text) (defBody s_marks_text) (defScope s_marks_text) .none kV15 dc15 pm15 an15 cd15 ct15), sl15⟩) (c15 : PySem.W.codeIn K cd15 "marks_text" = true) (k15 : PySem.W.keepIn K (.ref f15) = true)
  (a16 : PySem.W.nsIn K mainGlobals "goings" = some (some (.ref f16))) (l16 : K.lookup f16 = some ⟨oc16, od16, .func (PySem.W.fnOf "goings" "goings" (defArgs s_goings) (defBody s_goings) (defScope s_goings) .none kV16 dc16 pm16 an16 cd16 ct16), sl16⟩) (c16 : PySem.W.codeIn K cd16 "goings" = true) (k16 : PySem.W.keepIn K (.ref f16) = true)
  (a17 : PySem.W.nsIn K mainGlobals "be_name" = some (some (.ref f17))) (l17 : K.lookup f17 = some ⟨oc17, od17, .func (PySem.W.fnOf "be_name" "be_name" (defArgs s_be_name) (defBody s_be_name) (defScope s_be_name) .none kV17 dc17 pm17 an17 cd17 ct17), sl17⟩) (c17 : PySem.W.codeIn K cd17 "be_name" = true) (k17 : PySem.W.keepIn K (.ref f17) = true)
  (a18 : PySem.W.nsIn K mainGlobals "law" = some (some (.ref f18))) (l18 : K.lookup f18 = some ⟨oc18, od18, .func (PySem.W.fnOf "law" "law" (defArgs s_law) (defBody s_law) (defScope s_law) .none kV18 dc18 pm18 an18 cd18 ct18), sl18⟩) (c18 : PySem.W.codeIn K cd18 "law" = true) (k18 : PySem.W.keepIn K (.ref f18) = true)
  (b_MoveError : PySem.W.nsIn K mainGlobals "MoveError" = some (some (.ref C_MoveError)))
  (b_BadMarks : PySem.W.nsIn K mainGlobals "BadMarks" = some (some (.ref C_BadMarks)))
  (e1_BadMarks : PySem.W.excIn K C_BadMarks [.type "ValueError", .type "Exception", .type "BaseException", .type "object"] "ValueError.__new__" = true) (e2_BadMarks : PySem.W.keepIn K (.ref C_BadMarks) = true) (e3_BadMarks : PySem.W.subIn K (.ref C_BadMarks) (.type "BaseException") = some true) (e4_BadMarks : PySem.W.typeIn K (.ref C_BadMarks) = some (.type "type"))
  (hb_BadMarks : PySem.W.subIn K (.ref C_BadMarks) (.type "BaseException") = some true) (hi_BadMarks : PySem.W.isClsIn K C_BadMarks = true) (ht_BadMarks : PySem.W.typeIn K (.ref C_BadMarks) = some (.type "type"))
  (h_BadMarks_MoveError : PySem.W.subIn K (.ref C_MoveError) (.ref C_BadMarks) = some false) (hc_BadMarks_MoveError : PySem.W.subIn K (.ref C_MoveError) (.type "BaseException") = some true)
  (h_BadMarks_BadMarks : PySem.W.subIn K (.ref C_BadMarks) (.ref C_BadMarks) = some true) (hc_BadMarks_BadMarks : PySem.W.subIn K (.ref C_BadMarks) (.type "BaseException") = some true)
  (g_MOST_MARKS : PySem.W.nsIn K mainGlobals "MOST_MARKS" = some (some (.int 10 t_MOST_MARKS)))
  (g_MOST_NAME : PySem.W.nsIn K mainGlobals "MOST_NAME" = some (some (.int 8 t_MOST_NAME)))
  (z_abs : PySem.W.nsIn K mainGlobals "abs" = some none)
  (z_all : PySem.W.nsIn K mainGlobals "all" = some none)
  (z_any : PySem.W.nsIn K mainGlobals "any" = some none)
  (z_bool : PySem.W.nsIn K mainGlobals "bool" = some none)
  (z_int : PySem.W.nsIn K mainGlobals "int" = some none)
  (z_isinstance : PySem.W.nsIn K mainGlobals "isinstance" = some none)
  (z_len : PySem.W.nsIn K mainGlobals "len" = some none)
  (z_list : PySem.W.nsIn K mainGlobals "list" = some none)
  (z_range : PySem.W.nsIn K mainGlobals "range" = some none)
  (z_str : PySem.W.nsIn K mainGlobals "str" = some none)
  (z_tuple : PySem.W.nsIn K mainGlobals "tuple" = some none)
  (g_SIGNS : PySem.W.nsIn K mainGlobals "SIGNS" = some (some (.ref d_SIGNS))) (gl_SIGNS : K.lookup d_SIGNS = some ⟨.type "dict", none, .dict es_SIGNS n_SIGNS, #[]⟩) (gk_SIGNS : PySem.W.KeysLit w.params es_SIGNS.toList)
  (ge_SIGNS0 : PySem.W.nsIn K d_SIGNS "want" = some (some (.str "=" t_SIGNS0)))
  (ge_SIGNS1 : PySem.W.nsIn K d_SIGNS "be" = some (some (.str "" t_SIGNS1)))
  (ge_SIGNS2 : PySem.W.nsIn K d_SIGNS "pull" = some (some (.str "+" t_SIGNS2)))
  (ge_SIGNS3 : PySem.W.nsIn K d_SIGNS "go" = some (some (.str "-" t_SIGNS3)))
  (hlaw : ∀ ns : List Int, ns.length ≤ 63 → ∃ o, f_law [.scr ns] = .ok (.bl true) o) :
  ∃ fd : FuncData, (∀ (s : Shared) (v : Value), BindsTo s fd ⟨[v], []⟩ [("script", v)]) ∧ ∀ base : Heap, K.In base → base.Ns mainGlobals mg → FnOk P w K mg base (L2.CX P w) 72 fa fd ["script"] (spLaw 63 K) := by
  have e := hfa.symm.trans (PySem.W.mg_of X G a18)
  cases e
  have T : Tx w K mg := {
    d__law_stream := da_of X G a1 l1 c1 k1 fun _ _ _ _ _ _ us hl => match us, hl with | [_], _ => rfl
    d__law_draw := da_of X G a2 l2 c2 k2 fun _ _ _ _ _ _ us hl => match us, hl with | [_, _], _ => rfl
    d__law_pick := da_of X G a3 l3 c3 k3 fun _ _ _ _ _ _ us hl => match us, hl with | [_, _], _ => rfl
    d__law_marks := da_of X G a4 l4 c4 k4 fun _ _ _ _ _ _ us hl => match us, hl with | [_, _, _], _ => rfl
    d__law_same := da_of X G a5 l5 c5 k5 fun _ _ _ _ _ _ us hl => match us, hl with | [_, _], _ => rfl
    d_is_letter := da_of X G a6 l6 c6 k6 fun _ _ _ _ _ _ us hl => match us, hl with | [_], _ => rfl
    d_is_name := da_of X G a7 l7 c7 k7 fun _ _ _ _ _ _ us hl => match us, hl with | [_], _ => rfl
    d_are_marks := da_of X G a8 l8 c8 k8 fun _ _ _ _ _ _ us hl => match us, hl with | [_], _ => rfl
    d_is_rest := da_of X G a9 l9 c9 k9 fun _ _ _ _ _ _ us hl => match us, hl with | [_], _ => rfl
    d__law_mark_text := da_of X G a10 l10 c10 k10 fun _ _ _ _ _ _ us hl => match us, hl with | [_], _ => rfl
    d_read_mark := da_of X G a11 l11 c11 k11 fun _ _ _ _ _ _ us hl => match us, hl with | [_], _ => rfl
    d_read_marks := da_of X G a12 l12 c12 k12 fun _ _ _ _ _ _ us hl => match us, hl with | [_], _ => rfl
    d__law_refused := da_of X G a13 l13 c13 k13 fun _ _ _ _ _ _ us hl => match us, hl with | [_, _], _ => rfl
    d_mark_text := da_of X G a14 l14 c14 k14 fun _ _ _ _ _ _ us hl => match us, hl with | [_], _ => rfl
    d_marks_text := da_of X G a15 l15 c15 k15 fun _ _ _ _ _ _ us hl => match us, hl with | [_], _ => rfl
    d_goings := da_of X G a16 l16 c16 k16 fun _ _ _ _ _ _ us hl => match us, hl with | [_], _ => rfl
    d_be_name := da_of X G a17 l17 c17 k17 fun _ _ _ _ _ _ us hl => match us, hl with | [_], _ => rfl
    d_law := da_of X G a18 l18 c18 k18 fun _ _ _ _ _ _ us hl => match us, hl with | [_], _ => rfl
    x_BadMarks := xc_of X G b_BadMarks e1_BadMarks e2_BadMarks e3_BadMarks e4_BadMarks
    h_BadMarks := hc_of (PySem.W.mg_of X G b_BadMarks) (by intro n hn; simp only [List.mem_cons, List.not_mem_nil, or_false] at hn; rcases hn with rfl; exact cls_of X G b_BadMarks (exm_of hb_BadMarks hi_BadMarks ht_BadMarks hc_BadMarks_BadMarks h_BadMarks_BadMarks)) (by intro n hn; simp only [List.mem_cons, List.not_mem_nil, or_false] at hn; rcases hn with rfl; exact cls_of X G b_MoveError (exm_of hb_BadMarks hi_BadMarks ht_BadMarks hc_BadMarks_MoveError h_BadMarks_MoveError))
    c_MOST_MARKS := int_of X G g_MOST_MARKS
    c_MOST_NAME := int_of X G g_MOST_NAME
    z_abs := PySem.W.mg_none_of X G z_abs
    z_all := PySem.W.mg_none_of X G z_all
    z_any := PySem.W.mg_none_of X G z_any
    z_bool := PySem.W.mg_none_of X G z_bool
    z_int := PySem.W.mg_none_of X G z_int
    z_isinstance := PySem.W.mg_none_of X G z_isinstance
    z_len := PySem.W.mg_none_of X G z_len
    z_list := PySem.W.mg_none_of X G z_list
    z_range := PySem.W.mg_none_of X G z_range
    z_str := PySem.W.mg_none_of X G z_str
    z_tuple := PySem.W.mg_none_of X G z_tuple
    c_SIGNS := tab_of X G g_SIGNS gl_SIGNS gk_SIGNS (by intro p hp; simp only [List.mem_cons, List.not_mem_nil, or_false] at hp; rcases hp with rfl | rfl | rfl | rfl; exact ⟨_, ge_SIGNS0⟩; exact ⟨_, ge_SIGNS1⟩; exact ⟨_, ge_SIGNS2⟩; exact ⟨_, ge_SIGNS3⟩) }
  exact ⟨PySem.W.fnOf "law" "law" (defArgs s_law) (defBody s_law) (defScope s_law) .none kV18 dc18 pm18 an18 cd18 ct18, fun s v => .of_eq rfl, fun base KB GB => law_fn (fn_law T (deps_law T) (fun_mk (st := s_law) l18 c18 k18)) hlaw⟩
theorem walk {l : PySem.W.OpenLaw} {q : Program} {loose : List Str} {XP : (Str → Option Value) → Heap → Prop} {YP : World → Heap → Prop} {d : DefRec} {K : Params → PySem.W.Frag} (hn : l.most = some 63) (hdf : d.params.defaults = [])
    (hY : ∀ (w : World) (h : Heap), YP w h → (K w.params).In h)
    (F : ∀ (w : World) (mg : Str → Option Value) (fa : Addr) (h : Heap), (K w.params).In h → h.Ns mainGlobals mg → mg d.name = some (.ref fa) →
      ∃ fd : FuncData, (∀ (s : Shared) (u : Value), BindsTo s fd ⟨[u], []⟩ [("script", u)]) ∧ ∀ base : Heap, (K w.params).In base → base.Ns mainGlobals mg → FnOk l.prog w (K w.params) mg base (L2.CX l.prog w) 72 fa fd ["script"] (spLaw 63 (K w.params))) :
    PySem.W.WalkO q loose XP YP l.row.toRowW d [] (fun f vs => PySem.call f vs) :=
  L2.walk_of (n := 63) (k := 72) (x := "script") (CX := fun w => L2.CX l.prog w) (sp := fun w => spLaw 63 (K w.params)) hn (by decide) hdf ⟨rfl, by decide, by decide⟩ hY F (fun _ _ a ns hl hO hS => ⟨a, ns, rfl, hS, hl, hO, fun _ => rfl⟩) cx_no
end VL


set_option Elab.async false
set_option linter.all false
set_option maxRecDepth 100000
set_option maxHeartbeats 4000000
namespace VL
open PySem PySem.Spec L2
open PyProof.Rows hiding St

/-! ### plain: how readings are reckoned -/
@[simp] theorem mC_ap (d : D) (e : Env) : mC d e = .ok d e := rfl
theorem bind_ok {α β : Type} {m : M α} {f : α → M β} {e e' : Env} {a : α} (h : m e = .ok a e') : M.bind m f e = f a e' := by unfold M.bind; rw [h]
theorem bind_exc {α β : Type} {m : M α} {f : α → M β} {e e' : Env} {x : Ex} (h : m e = .exc x e') : M.bind m f e = .exc x e' := by unfold M.bind; rw [h]
@[simp] theorem bind_ap {α β : Type} (m : M α) (f : α → M β) (e : Env) : M.bind m f e = match m e with | .ok a e' => f a e' | .exc x e' => .exc x e' | .bad => .bad := rfl
@[simp] theorem pure_ap {α : Type} (a : α) (e : Env) : M.pure a e = .ok a e := rfl
@[simp] theorem bad_ap {α : Type} (e : Env) : (M.bad : M α) e = .bad := rfl
@[simp] theorem ofO_some {α : Type} (a : α) (e : Env) : M.ofO (some a) e = .ok a e := rfl
@[simp] theorem ofO_none {α : Type} (e : Env) : M.ofO (none : Option α) e = .bad := rfl
@[simp] theorem mCons_ap (m : M D) (ms : M (List D)) (e : Env) : mCons m ms e = match m e with | .ok d e1 => (match ms e1 with | .ok ds e2 => .ok (d :: ds) e2 | .exc x e2 => .exc x e2 | .bad => .bad) | .exc x e1 => .exc x e1 | .bad => .bad := rfl
@[simp] theorem mNil_ap (e : Env) : mNil e = .ok [] e := rfl
@[simp] theorem mV_ap (i : Nat) (e : Env) : mV i e = match e[i]? with | some (some d) => .ok d.fz (e.set i (some d.fz)) | _ => .bad := rfl
@[simp] theorem ite_ap {α : Type} {c : Prop} [Decidable c] (a b : M α) (e : Env) : (if c then a else b) e = if c then a e else b e := by split <;> rfl
/-- the words for reckoning -/
@[simp] theorem sSeq_ap (s1 s2 : MS) (e : Env) : sSeq s1 s2 e = match s1 e with | .nx e' => s2 e' | r => r := by unfold sSeq; rfl
@[simp] theorem sIf_ap (t : M Bool) (s1 s2 : MS) (e : Env) : sIf t s1 s2 e = match t e with | .ok b e' => if b then s1 e' else s2 e' | .exc x e' => .exc x e' | .bad => .bad := rfl
@[simp] theorem gNm_ap (i : Nat) (d : D) (e : Env) : gNm i d e = if i < e.length then some (e.set i (some d)) else none := rfl

/-- a comprehension over things that the tests and the element only read -/
theorem compL_of {α : Type} {i : Nat} {tt : M Bool} {te : M D} {enc : α → D} {p : α → Bool} {f : α → D} {env : Env} (hi : i < env.length) (hn : env.set i none = env) : ∀ (items : List α) (acc : List D),
    (∀ x ∈ items, ∃ e1, tt (env.set i (some (enc x))) = .ok (p x) e1 ∧ wipeE e1 [i] = env ∧ (p x = true → ∃ e2, te e1 = .ok (f x) e2 ∧ wipeE e2 [i] = env)) → acc.length + items.length ≤ sizeLine →
    compL (gNm i) tt te [i] (items.map enc) acc env = .ok (.lst true (acc ++ (items.filter p).map f)) env
  | [], acc, _, _ => by simp [compL]
  | x :: items, acc, h, hz => by
    obtain ⟨e1, h1, h2, h3⟩ := h x List.mem_cons_self
    have ih := fun acc' hz' => compL_of hi hn items acc' (fun y hy => h y (List.mem_cons_of_mem _ hy)) hz'
    rw [List.map_cons]
    unfold compL
    rw [gNm_ap, if_pos hi]
    simp only [h1]
    simp only [List.length_cons] at hz
    cases hp : p x with
    | false =>
      simp only [Bool.false_eq_true, if_false, h2]
      rw [ih acc (by omega), List.filter_cons_of_neg (by simp [hp])]
    | true =>
      obtain ⟨e2, h4, h5⟩ := h3 hp
      simp only [if_true, h4]
      rw [if_pos (by omega), h5, ih (acc ++ [f x]) (by rw [List.length_append, List.length_singleton]; omega), List.filter_cons_of_pos (by simp [hp])]
      simp
theorem mComp_of {α : Type} {i : Nat} {mi : M (List D)} {tt : M Bool} {te : M D} {enc : α → D} {p : α → Bool} {f : α → D} {env env1 : Env} {items : List α} (hm : mi env = .ok (items.map enc) env1) (hi : i < env1.length)
    (h : ∀ x ∈ items, ∃ e1, tt (env1.set i (some (enc x))) = .ok (p x) e1 ∧ wipeE e1 [i] = env1.set i none ∧ (p x = true → ∃ e2, te e1 = .ok (f x) e2 ∧ wipeE e2 [i] = env1.set i none)) (hz : items.length ≤ sizeLine) :
    mComp mi (gNm i) tt te [i] env = .ok (.lst true ((items.filter p).map f)) (env1.set i none) := by
  unfold mComp
  rw [bind_ok hm]
  show compL _ _ _ _ _ _ (wipeE env1 [i]) = _
  have hw : wipeE env1 [i] = env1.set i none := rfl
  rw [hw, compL_of (α := α) (p := p) (f := f) (env := env1.set i none) (by simpa using hi) (by simp) items [] (fun x hx => by simpa using h x hx) (by simpa using hz)]
  rfl
/-- without a test -/
theorem mComp_all {α : Type} {i : Nat} {mi : M (List D)} {te : M D} {enc : α → D} {f : α → D} {env env1 : Env} {items : List α} (hm : mi env = .ok (items.map enc) env1) (hi : i < env1.length)
    (h : ∀ x ∈ items, ∃ e2, te (env1.set i (some (enc x))) = .ok (f x) e2 ∧ wipeE e2 [i] = env1.set i none) (hz : items.length ≤ sizeLine) :
    mComp mi (gNm i) (M.pure true) te [i] env = .ok (.lst true (items.map f)) (env1.set i none) := by
  have := mComp_of (p := fun _ => true) (f := f) hm hi (tt := M.pure true) (te := te) (fun x hx => by
    obtain ⟨e2, h1, h2⟩ := h x hx
    exact ⟨_, rfl, by show (env1.set i _).set i none = _; simp, fun _ => ⟨e2, h1, h2⟩⟩) hz
  rw [List.filter_eq_self.mpr (by simp)] at this
  exact this
/-- any target -/
theorem compL_gen {α : Type} {g : D → Env → Option Env} {vs : List Nat} {tt : M Bool} {te : M D} {enc : α → D} {p : α → Bool} {f : α → D} {env : Env} : ∀ (items : List α) (acc : List D),
    (∀ x ∈ items, ∃ e0 e1, g (enc x) env = some e0 ∧ tt e0 = .ok (p x) e1 ∧ wipeE e1 vs = env ∧ (p x = true → ∃ e2, te e1 = .ok (f x) e2 ∧ wipeE e2 vs = env)) → acc.length + items.length ≤ 16777216 →
    compL g tt te vs (items.map enc) acc env = .ok (.lst true (acc ++ (items.filter p).map f)) env
  | [], acc, _, _ => by simp [compL]
  | x :: items, acc, h, hz => by
    obtain ⟨e0, e1, h0, h1, h2, h3⟩ := h x List.mem_cons_self
    have ih := fun acc' hz' => compL_gen items acc' (fun y hy => h y (List.mem_cons_of_mem _ hy)) hz'
    rw [List.map_cons]
    unfold compL
    simp only [h0, h1]
    simp only [List.length_cons] at hz
    cases hp : p x with
    | false =>
      simp only [Bool.false_eq_true, if_false, h2]
      rw [ih acc (by omega), List.filter_cons_of_neg (by simp [hp])]
    | true =>
      obtain ⟨e2, h4, h5⟩ := h3 hp
      simp only [if_true, h4]
      rw [if_pos (by rw [sizeLine_eq]; omega), h5, ih (acc ++ [f x]) (by rw [List.length_append, List.length_singleton]; omega), List.filter_cons_of_pos (by simp [hp])]
      simp
theorem mComp_gen {α : Type} {g : D → Env → Option Env} {vs : List Nat} {mi : M (List D)} {tt : M Bool} {te : M D} {enc : α → D} {p : α → Bool} {f : α → D} {env env1 : Env} {items : List α} (hm : mi env = .ok (items.map enc) env1)
    (h : ∀ x ∈ items, ∃ e0 e1, g (enc x) (wipeE env1 vs) = some e0 ∧ tt e0 = .ok (p x) e1 ∧ wipeE e1 vs = wipeE env1 vs ∧ (p x = true → ∃ e2, te e1 = .ok (f x) e2 ∧ wipeE e2 vs = wipeE env1 vs)) (hz : items.length ≤ 16777216) :
    mComp mi g tt te vs env = .ok (.lst true ((items.filter p).map f)) (wipeE env1 vs) := by
  unfold mComp
  rw [bind_ok hm]
  exact compL_gen items [] h (by simpa using hz)
/-- a comprehension that changes what it uses: an invariant over the slots and what is found -/
theorem compL_inv {α : Type} {g : D → Env → Option Env} {vs : List Nat} {tt : M Bool} {te : M D} {enc : α → D} (P : List α → Env → List D → Prop) : ∀ (items : List α) (done : List α) (acc : List D) (env : Env), P done env acc →
    (∀ d x env acc, x ∈ items → d.length < done.length + items.length → P d env acc → ∃ e0 e1 b, g (enc x) env = some e0 ∧ tt e0 = .ok b e1 ∧ (b = false → P (d ++ [x]) (wipeE e1 vs) acc) ∧ (b = true → ∃ y e2, te e1 = .ok y e2 ∧ P (d ++ [x]) (wipeE e2 vs) (acc ++ [y]))) →
    acc.length + items.length ≤ 16777216 → ∃ acc' env', compL g tt te vs (items.map enc) acc env = .ok (.lst true acc') env' ∧ P (done ++ items) env' acc'
  | [], done, acc, env, p, _, _ => ⟨acc, env, rfl, by simpa using p⟩
  | x :: items, done, acc, env, p, h, hz => by
    obtain ⟨e0, e1, b, h0, h1, h2, h3⟩ := h done x env acc List.mem_cons_self (by simp) p
    simp only [List.length_cons] at hz
    rw [List.map_cons]
    unfold compL
    simp only [h0, h1]
    have hh : ∀ d y env acc, y ∈ items → d.length < (done ++ [x]).length + items.length → P d env acc → ∃ e0 e1 b, g (enc y) env = some e0 ∧ tt e0 = .ok b e1 ∧ (b = false → P (d ++ [y]) (wipeE e1 vs) acc) ∧ (b = true → ∃ z e2, te e1 = .ok z e2 ∧ P (d ++ [y]) (wipeE e2 vs) (acc ++ [z])) := fun d y e a hy hd => h d y e a (List.mem_cons_of_mem _ hy) (by simp at hd ⊢; omega)
    have ha : done ++ x :: items = (done ++ [x]) ++ items := by simp
    rw [ha]
    cases b with
    | false =>
      simp only [Bool.false_eq_true, if_false]
      exact compL_inv P items _ acc _ (h2 rfl) hh (by omega)
    | true =>
      obtain ⟨y, e2, h4, h5⟩ := h3 rfl
      simp only [if_true, h4]
      rw [if_pos (by rw [sizeLine_eq]; omega)]
      exact compL_inv P items _ _ _ h5 hh (by rw [List.length_append, List.length_singleton]; omega)
/-- a for: an invariant over the slots, every turn goes on -/
theorem forS_inv {α : Type} {g : D → Env → Option Env} {b : MS} {enc : α → D} (P : List α → Env → Prop) : ∀ (items : List α) (done : List α) (env : Env), P done env →
    (∀ d x env, x ∈ items → d.length < done.length + items.length → P d env → ∃ e0 e1, g (enc x) env = some e0 ∧ (b e0 = .nx e1 ∨ b e0 = .ct e1) ∧ P (d ++ [x]) e1) → ∃ env', forS g b (items.map enc) env = .nx env' ∧ P (done ++ items) env'
  | [], done, env, p, _ => ⟨env, rfl, by simpa using p⟩
  | x :: items, done, env, p, h => by
    obtain ⟨e0, e1, h0, h1, h2⟩ := h done x env List.mem_cons_self (by simp) p
    have ha : done ++ x :: items = (done ++ [x]) ++ items := by simp
    obtain ⟨env', q1, q2⟩ := forS_inv P items (done ++ [x]) e1 h2 fun d y e hy hd => h d y e (List.mem_cons_of_mem _ hy) (by simp at hd ⊢; omega)
    refine ⟨env', ?_, by rw [ha]; exact q2⟩
    rw [List.map_cons]
    unfold forS
    simp only [h0]
    rcases h1 with h1 | h1 <;> simp only [h1] <;> exact q1
theorem mComp_p1 {α : Type} {i : Nat} {mi : M (List D)} {tt : M Bool} {te : M D} {enc : α → D} {p : α → Bool} {f : α → D} {env env1 : Env} {items : List α} (hm : mi env = .ok (items.map enc) env1) (hi : i < env1.length)
    (ht : ∀ x ∈ items, tt (env1.set i (some (enc x))) = .ok (p x) (env1.set i (some (enc x)))) (he : ∀ x ∈ items, p x = true → te (env1.set i (some (enc x))) = .ok (f x) (env1.set i (some (enc x)))) (hz : items.length ≤ 16777216) :
    mComp mi (gNm i) tt te [i] env = .ok (.lst true ((items.filter p).map f)) (env1.set i none) :=
  mComp_of hm hi (fun x hx => ⟨_, ht x hx, by show (env1.set i _).set i none = _; simp, fun hp => ⟨_, he x hx hp, by show (env1.set i _).set i none = _; simp⟩⟩) (by rw [sizeLine_eq]; exact hz)
theorem mComp_a1 {α : Type} {i : Nat} {mi : M (List D)} {te : M D} {enc : α → D} {f : α → D} {env env1 : Env} {items : List α} (hm : mi env = .ok (items.map enc) env1) (hi : i < env1.length)
    (he : ∀ x ∈ items, te (env1.set i (some (enc x))) = .ok (f x) (env1.set i (some (enc x)))) (hz : items.length ≤ 16777216) :
    mComp mi (gNm i) (M.pure true) te [i] env = .ok (.lst true (items.map f)) (env1.set i none) :=
  mComp_all hm hi (fun x hx => ⟨_, he x hx, by show (env1.set i _).set i none = _; simp⟩) (by rw [sizeLine_eq]; exact hz)
theorem count_map_inj {α β : Type} [DecidableEq α] [DecidableEq β] {f : α → β} (hf : ∀ a b, f a = f b → a = b) (k : α) : ∀ l : List α, (l.map f).count (f k) = l.count k
  | [] => rfl
  | x :: l => by
    rw [List.map_cons, List.count_cons, List.count_cons, count_map_inj hf k l]
    by_cases h : x = k
    · simp [h]
    · have : ¬ f x = f k := fun z => h (hf _ _ z)
      simp [h, this]
theorem sSeq_nx {s1 s2 : MS} {e e' : Env} (h : s1 e = .nx e') : sSeq s1 s2 e = s2 e' := by rw [sSeq_ap, h]
theorem sSeq_rt {s1 s2 : MS} {e e' : Env} {d : D} (h : s1 e = .rt d e') : sSeq s1 s2 e = .rt d e' := by rw [sSeq_ap, h]
theorem sSeq_ct {s1 s2 : MS} {e e' : Env} (h : s1 e = .ct e') : sSeq s1 s2 e = .ct e' := by rw [sSeq_ap, h]
theorem sSeq_exc {s1 s2 : MS} {e e' : Env} {x : Ex} (h : s1 e = .exc x e') : sSeq s1 s2 e = .exc x e' := by rw [sSeq_ap, h]
theorem sIf_t {t : M Bool} {a b : MS} {e e' : Env} (h : t e = .ok true e') : sIf t a b e = a e' := by rw [sIf_ap, h]; rfl
theorem sIf_f {t : M Bool} {a b : MS} {e e' : Env} (h : t e = .ok false e') : sIf t a b e = b e' := by rw [sIf_ap, h]; rfl
theorem sSet_nm {i : Nat} {m : M D} {e e' : Env} {d : D} (h : m e = .ok d e') (hi : i < e'.length) : sSet (gNm i) m e = .nx (e'.set i (some d)) := by
  show (match m e with | .ok d e1 => (match gNm i d e1 with | some e' => SRes.nx e' | none => .bad) | .exc x e1 => .exc x e1 | .bad => .bad) = _
  rw [h]
  simp only [gNm_ap, if_pos hi]
theorem sRet_of {m : M D} {e e' : Env} {d : D} (h : m e = .ok d e') : sRet m e = .rt d e' := by
  show (match m e with | .ok d e => SRes.rt d e | .exc x e => .exc x e | .bad => .bad) = _
  rw [h]
theorem sRet_c (d : D) (e : Env) : sRet (mC d) e = .rt d e := rfl
theorem fn_rt {n : Nat} {ms : MS} {ds : List D} {d : D} {e : Env} (h : ms (ds.map some ++ List.replicate (n - ds.length) none) = .rt d e) : fnS n none ms ds = .ok d .non := by
  unfold fnS; rw [h]; rfl
theorem fn_exc {n : Nat} {ms : MS} {ds : List D} {x : Ex} {e : Env} (h : ms (ds.map some ++ List.replicate (n - ds.length) none) = .exc x e) : fnS n none ms ds = .exc x .non := by
  unfold fnS; rw [h]; rfl
theorem fn_nx {n : Nat} {ms : MS} {ds : List D} {e : Env} (h : ms (ds.map some ++ List.replicate (n - ds.length) none) = .nx e) : fnS n none ms ds = .ok .non .non := by
  unfold fnS; rw [h]; rfl
theorem fnIO_rt {n i : Nat} {ms : MS} {ds : List D} {d o : D} {e : Env} (h : ms (ds.map some ++ List.replicate (n - ds.length) none) = .rt d e) (ho : e[i]? = some (some o)) : fnS n (some i) ms ds = .ok d o := by
  unfold fnS; rw [h]; simp [ioOut, ho]
theorem cut_to {α : Type} (xs : List α) (n : Nat) : cutL xs none (some (n : Int)) = xs.take n := by
  unfold cutL
  rw [HT.sIx_nat]
  simp only [HT.sIx_none, List.drop_zero, Nat.sub_zero]
  by_cases h : n ≤ xs.length
  · rw [Nat.min_eq_left h]
  · rw [Nat.min_eq_right (by omega), List.take_of_length_le (Nat.le_refl _), List.take_of_length_le (by omega)]
theorem cut_from {α : Type} (xs : List α) (n : Nat) : cutL xs (some (n : Int)) none = xs.drop n := by
  unfold cutL
  rw [HT.sIx_nat]
  simp only [HT.sIx_none]
  by_cases h : n ≤ xs.length
  · rw [Nat.min_eq_left h, List.take_of_length_le (by rw [List.length_drop]; omega)]
  · rw [Nat.min_eq_right (by omega), List.drop_of_length_le (Nat.le_refl _), List.drop_of_length_le (by omega)]
    simp
theorem atI_nat {α : Type} (xs : List α) (n : Nat) : atI xs (n : Int) = xs[n]? := by
  unfold atI ixN
  by_cases h : n < xs.length
  · simp [h]
  · rw [if_pos (by omega), if_neg (by omega), List.getElem?_eq_none (by omega)]; rfl
theorem pys_map {α : Type} {f : α → D} {h : α → PyData} (e : ∀ x, (f x).py = some (h x)) : ∀ l : List α, pys (l.map f) = some (l.map h)
  | [] => rfl
  | x :: l => by simp [pys, e x, pys_map e l]

/-! ### plain: operations on data of a known form -/
section
variable {o p : Bool} {i j k : Int} {s t : Str} {b c : Bool} {xs ys : List D} {d e : D} {ns : List Int}
@[simp] theorem fz_non : D.fz .non = .non := rfl
@[simp] theorem fz_bl : D.fz (.bl b) = .bl b := rfl
@[simp] theorem fz_int : D.fz (.int i) = .int i := rfl
@[simp] theorem fz_str : D.fz (.str s) = .str s := rfl
@[simp] theorem fz_scr : D.fz (.scr ns) = .scr ns := rfl
@[simp] theorem fz_tup : D.fz (.tup xs) = .tup (fzs xs) := rfl
@[simp] theorem fz_lst : D.fz (.lst o xs) = .lst false (fzs xs) := rfl
@[simp] theorem fzs_nil : fzs [] = [] := rfl
@[simp] theorem fzs_cons : fzs (d :: xs) = d.fz :: fzs xs := rfl
@[simp] theorem fzs_app : fzs (xs ++ ys) = fzs xs ++ fzs ys := by rw [fzs_map, fzs_map, fzs_map, List.map_append]
theorem fzs_take (n : Nat) (xs : List D) : fzs (xs.take n) = (fzs xs).take n := by rw [fzs_map, fzs_map, List.map_take]
theorem fzs_drop (n : Nat) (xs : List D) : fzs (xs.drop n) = (fzs xs).drop n := by rw [fzs_map, fzs_map, List.map_drop]
theorem fzs_mapE {α : Type} {f : α → D} (h : ∀ x, (f x).fz = f x) (l : List α) : fzs (l.map f) = l.map f := by
  rw [fzs_map, List.map_map]
  exact List.map_congr_left fun x _ => h x
@[simp] theorem truth_non : D.truth .non = some false := rfl
@[simp] theorem truth_bl : D.truth (.bl b) = some b := rfl
@[simp] theorem truth_int : D.truth (.int i) = some (i != 0) := rfl
@[simp] theorem truth_tup : D.truth (.tup xs) = some !xs.isEmpty := rfl
@[simp] theorem truth_lst : D.truth (.lst o xs) = some !xs.isEmpty := rfl
theorem truth_str (h : s.length ≤ 16777216) : D.truth (.str s) = some ((s.length : Int) != 0) := if_pos (show s.length ≤ sizeLine by rw [sizeLine_eq]; exact h)
@[simp] theorem add_int : dAdd (.int i) (.int j) = some (.int (i + j)) := rfl
theorem add_str (h : s.length + t.length ≤ 16777216) : dAdd (.str s) (.str t) = some (.str (s ++ t)) := if_pos (show s.length + t.length ≤ sizeLine by rw [sizeLine_eq]; exact h)
theorem add_tup (h : xs.length + ys.length ≤ 16777216) : dAdd (.tup xs) (.tup ys) = some (.tup (xs ++ ys)) := if_pos (show xs.length + ys.length ≤ sizeLine by rw [sizeLine_eq]; exact h)
theorem add_lst (h : xs.length + ys.length ≤ 16777216) : dAdd (.lst o xs) (.lst p ys) = some (.lst true (xs ++ ys)) := if_pos (show xs.length + ys.length ≤ sizeLine by rw [sizeLine_eq]; exact h)
@[simp] theorem sub_int : dSub (.int i) (.int j) = some (.int (i - j)) := rfl
theorem mul_int (h : -(2 ^ 64) < j ∧ j < 2 ^ 64) : dMul (.int i) (.int j) = some (.int (i * j)) := if_pos (.inr h)
theorem div_int (h : 0 < j ∧ j < 1073741824) : dDiv (.int i) (.int j) = some (.int (i / j)) := if_pos h
theorem mod_int (h : 0 < j) : dMod (.int i) (.int j) = some (.int (i % j)) := if_pos h
@[simp] theorem lt_int : dLt (.int i) (.int j) = some (.bl (decide (i < j))) := rfl
@[simp] theorem le_int : dLe (.int i) (.int j) = some (.bl (decide (i ≤ j))) := rfl
@[simp] theorem gt_int : dGt (.int i) (.int j) = some (.bl (decide (j < i))) := rfl
@[simp] theorem ge_int : dGe (.int i) (.int j) = some (.bl (decide (j ≤ i))) := rfl
@[simp] theorem eq_int : dEq (.int i) (.int j) = some (.bl (i == j)) := rfl
@[simp] theorem eq_str : dEq (.str s) (.str t) = some (.bl (s == t)) := rfl
@[simp] theorem eq_bl : dEq (.bl b) (.bl c) = some (.bl (b == c)) := rfl
@[simp] theorem eq_non : dEq .non .non = some (.bl true) := rfl
@[simp] theorem eq_strnon : dEq (.str s) .non = some (.bl false) := rfl
@[simp] theorem ne_int : dNe (.int i) (.int j) = some (.bl !(i == j)) := rfl
@[simp] theorem ne_str : dNe (.str s) (.str t) = some (.bl !(s == t)) := rfl
@[simp] theorem ne_bl : dNe (.bl b) (.bl c) = some (.bl !(b == c)) := rfl
theorem eq_py {x y : PyData} (hS : dEqS d e = none) (h1 : d.py = some x) (h2 : e.py = some y) (s1 : SeqAt.shaped x = true) (s2 : SeqAt.shaped y = true) : dEq d e = some (.bl (PyData.eqv x y)) := by
  simp [dEq, dEqB, hS, dEqP, h1, h2, s1, s2]
theorem ne_py {x y : PyData} (hS : dEqS d e = none) (h1 : d.py = some x) (h2 : e.py = some y) (s1 : SeqAt.shaped x = true) (s2 : SeqAt.shaped y = true) : dNe d e = some (.bl !(PyData.eqv x y)) := by
  simp [dNe, dEqB, hS, dEqP, h1, h2, s1, s2]
@[simp] theorem in_sign {n : Nat} : dIn (.str ⟨#[n]⟩) (.str t) = some (.bl (decide (n ∈ t.cps.toList))) := rfl
@[simp] theorem notIn_sign {n : Nat} : dNotIn (.str ⟨#[n]⟩) (.str t) = some (.bl !(decide (n ∈ t.cps.toList))) := rfl
theorem in_tup {x : PyData} {zs : List PyData} (h1 : d.py = some x) (h2 : pys xs = some zs) (s1 : SeqAt.shaped x = true) (s2 : SeqAt.shaped (.tuple zs) = true) : dIn d (.tup xs) = some (.bl (zs.any fun z => PyData.eqv z x)) := by
  unfold dIn dInB
  cases d <;> simp_all
theorem in_lst {x : PyData} {zs : List PyData} (h1 : d.py = some x) (h2 : pys xs = some zs) (s1 : SeqAt.shaped x = true) (s2 : SeqAt.shaped (.list zs) = true) : dIn d (.lst o xs) = some (.bl (zs.any fun z => PyData.eqv z x)) := by
  unfold dIn dInB
  cases d <;> simp_all
theorem notIn_tup {x : PyData} {zs : List PyData} (h1 : d.py = some x) (h2 : pys xs = some zs) (s1 : SeqAt.shaped x = true) (s2 : SeqAt.shaped (.tuple zs) = true) : dNotIn d (.tup xs) = some (.bl !(zs.any fun z => PyData.eqv z x)) := by
  unfold dNotIn dInB
  cases d <;> simp_all
theorem notIn_lst {x : PyData} {zs : List PyData} (h1 : d.py = some x) (h2 : pys xs = some zs) (s1 : SeqAt.shaped x = true) (s2 : SeqAt.shaped (.list zs) = true) : dNotIn d (.lst o xs) = some (.bl !(zs.any fun z => PyData.eqv z x)) := by
  unfold dNotIn dInB
  cases d <;> simp_all
@[simp] theorem is_non : dIs .non .non = some (.bl true) := rfl
@[simp] theorem is_bl : dIs (.bl b) (.bl c) = some (.bl (b == c)) := rfl
@[simp] theorem isNot_bl : dIsNot (.bl b) (.bl c) = some (.bl !(b == c)) := rfl
@[simp] theorem is_strnon : dIs (.str s) .non = some (.bl false) := rfl
@[simp] theorem is_intnon : dIs (.int i) .non = some (.bl false) := rfl
@[simp] theorem is_blnon : dIs (.bl b) .non = some (.bl false) := rfl
@[simp] theorem is_tupnon : dIs (.tup xs) .non = some (.bl false) := rfl
@[simp] theorem is_lstnon : dIs (.lst o xs) .non = some (.bl false) := rfl
@[simp] theorem ix_tup' : dIx (.tup xs) (.int i) = atI xs i := rfl
@[simp] theorem ix_lst' : dIx (.lst o xs) (.int i) = atI xs i := rfl
theorem ix_str' (h : s.length ≤ 16777216) : dIx (.str s) (.int i) = (atI s.cps.toList i).map fun c => .str ⟨#[c]⟩ := if_pos (show s.length ≤ sizeLine by rw [sizeLine_eq]; exact h)
theorem sl_str' {lo hi : Option Int} (h : s.length ≤ 16777216) : dSl (.str s) lo hi = some (.str (Txt.slice s lo hi)) := if_pos (show s.length ≤ sizeLine by rw [sizeLine_eq]; exact h)
@[simp] theorem sl_tup' {lo hi : Option Int} : dSl (.tup xs) lo hi = some (.tup (cutL xs lo hi)) := rfl
@[simp] theorem sl_lst' {lo hi : Option Int} : dSl (.lst o xs) lo hi = some (.lst true (cutL xs lo hi)) := rfl
theorem len_str' (h : s.length ≤ 16777216) : dLen (.str s) = some (.int s.length) := if_pos (show s.length ≤ sizeLine by rw [sizeLine_eq]; exact h)
@[simp] theorem len_tup' : dLen (.tup xs) = some (.int xs.length) := rfl
@[simp] theorem len_lst' : dLen (.lst o xs) = some (.int xs.length) := rfl
@[simp] theorem len_scr' : dLen (.scr ns) = some (.int ns.length) := rfl
theorem lsB_map {α : Type} (f : α → Bool) : ∀ l : List α, lsB (l.map fun x => .bl (f x)) = some (l.map f)
  | [] => rfl
  | x :: l => by simp [lsB, lsB_map f l]
theorem lsI_map {α : Type} (f : α → Int) : ∀ l : List α, lsI (l.map fun x => .int (f x)) = some (l.map f)
  | [] => rfl
  | x :: l => by simp [lsI, lsI_map f l]
theorem lsS_map {α : Type} (f : α → Str) : ∀ l : List α, lsS (l.map fun x => .str (f x)) = some (l.map f)
  | [] => rfl
  | x :: l => by simp [lsS, lsS_map f l]
@[simp] theorem all_map' {α : Type} (f : α → Bool) (l : List α) : dAll (.lst o (l.map fun x => .bl (f x))) = some (.bl (l.all f)) := by
  simp [dAll, D.sq, lsB_map, Function.comp_def]
@[simp] theorem any_map' {α : Type} (f : α → Bool) (l : List α) : dAny (.lst o (l.map fun x => .bl (f x))) = some (.bl (l.any f)) := by
  simp [dAny, D.sq, lsB_map, Function.comp_def]
@[simp] theorem fzs_bls {α : Type} (f : α → Bool) (l : List α) : fzs (l.map fun x => .bl (f x)) = l.map fun x => .bl (f x) := fzs_mapE (fun _ => rfl) l
@[simp] theorem fzs_strs {α : Type} (f : α → Str) (l : List α) : fzs (l.map fun x => .str (f x)) = l.map fun x => .str (f x) := fzs_mapE (fun _ => rfl) l
@[simp] theorem fzs_ints {α : Type} (f : α → Int) (l : List α) : fzs (l.map fun x => .int (f x)) = l.map fun x => .int (f x) := fzs_mapE (fun _ => rfl) l
@[simp] theorem fzs_ints' (l : List Int) : fzs (l.map D.int) = l.map D.int := fzs_mapE (fun _ => rfl) l
@[simp] theorem fzs_strs' (l : List Str) : fzs (l.map D.str) = l.map D.str := fzs_mapE (fun _ => rfl) l
@[simp] theorem all_cons' {α : Type} (f : α → Bool) (l : List α) : dAll (.lst o (.bl b :: l.map fun x => .bl (f x))) = some (.bl (b && l.all f)) := by
  simp [dAll, D.sq, lsB, lsB_map, Function.comp_def]
@[simp] theorem any_cons' {α : Type} (f : α → Bool) (l : List α) : dAny (.lst o (.bl b :: l.map fun x => .bl (f x))) = some (.bl (b || l.any f)) := by
  simp [dAny, D.sq, lsB, lsB_map, Function.comp_def]
@[simp] theorem all_nil' : dAll (.lst o []) = some (.bl true) := rfl
@[simp] theorem any_nil' : dAny (.lst o []) = some (.bl false) := rfl
@[simp] theorem list_lst : dList (.lst o xs) = some (.lst true xs) := rfl
@[simp] theorem list_tup : dList (.tup xs) = some (.lst true xs) := rfl
@[simp] theorem list_scr : dList (.scr ns) = some (.lst true (ns.map .int)) := rfl
@[simp] theorem tuple_lst : dTuple (.lst o xs) = some (.tup xs) := rfl
@[simp] theorem tuple_tup : dTuple (.tup xs) = some (.tup xs) := rfl
@[simp] theorem int_int : dInt (.int i) = some (.int i) := rfl
@[simp] theorem abs_int : dAbs (.int i) = some (.int (if i < 0 then -i else i)) := rfl
@[simp] theorem isi_d_tup {T : String} : dIsi T (.tup xs) = some (.bl (isiT T "tuple")) := rfl
@[simp] theorem isi_d_lst {T : String} : dIsi T (.lst o xs) = some (.bl (isiT T "list")) := rfl
@[simp] theorem isi_d_str {T : String} : dIsi T (.str s) = some (.bl (isiT T "str")) := rfl
@[simp] theorem isi_d_int {T : String} : dIsi T (.int i) = some (.bl (isiT T "int")) := rfl
@[simp] theorem isi_d_bl {T : String} : dIsi T (.bl b) = some (.bl (isiT T "bool")) := rfl
@[simp] theorem isi_d_non {T : String} : dIsi T .non = some (.bl (isiT T "NoneType")) := rfl
@[simp] theorem starts_str : dStarts (.str s) (.str t) = some (.bl (Txt.startswith s t)) := rfl
theorem split_str (h : (t.length == 0) = false) (h2 : s.length + 2 ≤ 16777216) : dSplit (.str s) (.str t) = some (.lst true ((Txt.split s t).map .str)) := if_pos (show (t.length == 0) = false ∧ s.length + 2 ≤ sizeLine by rw [sizeLine_eq]; exact ⟨h, h2⟩)
theorem join_lst {α : Type} {f : α → Str} {l : List α} (h : ((l.map f).map (·.length)).sum + (l.map f).length * s.length ≤ 16777216) : dJoin (.str s) (.lst o (l.map fun x => .str (f x))) = some (.str (Txt.join s (l.map f))) := by
  simp only [dJoin, D.xs, lsS_map, Option.bind_some]
  rw [if_pos h]
theorem count_lst {α : Type} {f : α → Str} {l : List α} : dCount (.lst o (l.map fun x => .str (f x))) (.str s) = some (.int ((l.map f).count s : Nat)) := by
  simp only [dCount, lsS_map, Option.map_some]
end

/-! ### plain: the words unfolded -/
@[simp] theorem m2_ap (g : D → D → Option D) (ma mb : M D) (e : Env) : m2 g ma mb e = match ma e with | .ok a e1 => (match mb e1 with | .ok b e2 => M.ofO (g a.fz b.fz) e2 | .exc x e2 => .exc x e2 | .bad => .bad) | .exc x e1 => .exc x e1 | .bad => .bad := by
  unfold m2 M.bind
  simp only [M.bind]
  cases ma e with
  | ok a e1 =>
    simp only []
    cases mb e1 <;> rfl
  | exc x e1 => rfl
  | bad => rfl
@[simp] theorem m1_ap (g : D → Option D) (ma : M D) (e : Env) : m1 g ma e = match ma e with | .ok a e1 => M.ofO (g a.fz) e1 | .exc x e1 => .exc x e1 | .bad => .bad := by
  unfold m1 M.bind
  cases ma e <;> rfl
@[simp] theorem mCall_ap (g : List D → Option D) (ms : M (List D)) (e : Env) : mCall g ms e = match ms e with | .ok ds e1 => M.ofO (g (fzs ds)) e1 | .exc x e1 => .exc x e1 | .bad => .bad := by
  unfold mCall M.bind
  cases ms e <;> rfl
@[simp] theorem one_ap (g : D → Option D) (d : D) : one g [d] = g d := rfl
@[simp] theorem arg1_ap (g : D → D → Option D) (a d : D) : arg1 g a [d] = g a d := rfl
@[simp] theorem mMeth_ap (T : String) (g : D → List D → Option D) (mo : M D) (ms : M (List D)) (e : Env) : mMeth T g mo ms e = match mo e with | .ok o e1 => if o.meth && o.ty == T then (match ms e1 with | .ok ds e2 => M.ofO (g o.fz (fzs ds)) e2 | .exc x e2 => .exc x e2 | .bad => .bad) else .bad | .exc x e1 => .exc x e1 | .bad => .bad := by
  unfold mMeth M.bind
  cases mo e with
  | ok o e1 =>
    simp only []
    split
    · simp only [M.bind]
      cases ms e1 <;> rfl
    · rfl
  | exc x e1 => rfl
  | bad => rfl
@[simp] theorem mTup_ap (ms : M (List D)) (e : Env) : mTup ms e = match ms e with | .ok ds e1 => if ds.length ≤ 16777216 then .ok (.tup ds) e1 else .bad | .exc x e1 => .exc x e1 | .bad => .bad := by
  unfold mTup M.bind
  cases ms e with
  | ok o e1 => simp only [sizeLine_eq]; split <;> rfl
  | exc x e1 => rfl
  | bad => rfl
@[simp] theorem mLst_ap (ms : M (List D)) (e : Env) : mLst ms e = match ms e with | .ok ds e1 => if ds.length ≤ 16777216 then .ok (.lst true ds) e1 else .bad | .exc x e1 => .exc x e1 | .bad => .bad := by
  unfold mLst M.bind
  cases ms e with
  | ok o e1 => simp only [sizeLine_eq]; split <;> rfl
  | exc x e1 => rfl
  | bad => rfl
@[simp] theorem mTru_ap (m : M D) (e : Env) : mTru m e = match m e with | .ok d e1 => M.ofO d.truth e1 | .exc x e1 => .exc x e1 | .bad => .bad := by
  unfold mTru M.bind
  cases m e <;> rfl
@[simp] theorem mBl_ap (m : M D) (e : Env) : mBl m e = match m e with | .ok d e1 => M.ofO d.toB e1 | .exc x e1 => .exc x e1 | .bad => .bad := by
  unfold mBl M.bind
  cases m e <;> rfl
@[simp] theorem toB_bl (b : Bool) : (D.bl b).toB = some b := rfl
@[simp] theorem mI_ap (m : M D) (e : Env) : mI m e = match m e with | .ok d e1 => M.ofO d.toI e1 | .exc x e1 => .exc x e1 | .bad => .bad := by
  unfold mI M.bind
  cases m e <;> rfl
@[simp] theorem toI_int (i : Int) : (D.int i).toI = some i := rfl
@[simp] theorem mAnd_ap (ta tb : M Bool) (e : Env) : mAnd ta tb e = match ta e with | .ok b e1 => (if b then tb e1 else .ok false e1) | .exc x e1 => .exc x e1 | .bad => .bad := by
  unfold mAnd M.bind
  cases ta e with
  | ok b e1 => cases b <;> rfl
  | exc x e1 => rfl
  | bad => rfl
@[simp] theorem mOr_ap (ta tb : M Bool) (e : Env) : mOr ta tb e = match ta e with | .ok b e1 => (if b then .ok true e1 else tb e1) | .exc x e1 => .exc x e1 | .bad => .bad := by
  unfold mOr M.bind
  cases ta e with
  | ok b e1 => cases b <;> rfl
  | exc x e1 => rfl
  | bad => rfl
@[simp] theorem mNot_ap (ta : M Bool) (e : Env) : mNot ta e = match ta e with | .ok b e1 => .ok (!b) e1 | .exc x e1 => .exc x e1 | .bad => .bad := by
  unfold mNot M.bind
  cases ta e <;> rfl
@[simp] theorem mIf_ap (t : M Bool) (ma mb : M D) (e : Env) : mIf t ma mb e = match t e with | .ok b e1 => (if b then ma e1 else mb e1) | .exc x e1 => .exc x e1 | .bad => .bad := by
  unfold mIf M.bind
  cases t e with
  | ok b e1 => cases b <;> rfl
  | exc x e1 => rfl
  | bad => rfl
@[simp] theorem mNotV_ap (m : M D) (e : Env) : mNotV m e = match m e with | .ok d e1 => M.ofO (d.truth.map fun k => .bl !k) e1 | .exc x e1 => .exc x e1 | .bad => .bad := by
  unfold mNotV M.bind
  cases m e <;> rfl
@[simp] theorem mAndV_ap (ma mb : M D) (e : Env) : mAndV ma mb e = match ma e with | .ok d e1 => (match d.truth with | some k => if k then mb e1 else .ok d e1 | none => .bad) | .exc x e1 => .exc x e1 | .bad => .bad := by
  unfold mAndV M.bind
  cases ma e with
  | ok b e1 =>
    simp only [M.bind]
    cases b.truth with
    | none => rfl
    | some k => cases k <;> rfl
  | exc x e1 => rfl
  | bad => rfl
@[simp] theorem mOrV_ap (ma mb : M D) (e : Env) : mOrV ma mb e = match ma e with | .ok d e1 => (match d.truth with | some k => if k then .ok d e1 else mb e1 | none => .bad) | .exc x e1 => .exc x e1 | .bad => .bad := by
  unfold mOrV M.bind
  cases ma e with
  | ok b e1 =>
    simp only [M.bind]
    cases b.truth with
    | none => rfl
    | some k => cases k <;> rfl
  | exc x e1 => rfl
  | bad => rfl
@[simp] theorem mChain_ap (g g' : Int → Int → Bool) (ma mb mc : M D) (e : Env) : mChain g g' ma mb mc e = match mI ma e with
    | .ok i e1 => (match mI mb e1 with
      | .ok j e2 => if g i j then (match mI mc e2 with | .ok l e3 => .ok (.bl (g' j l)) e3 | .exc x e3 => .exc x e3 | .bad => .bad) else .ok (.bl false) e2
      | .exc x e2 => .exc x e2 | .bad => .bad)
    | .exc x e1 => .exc x e1 | .bad => .bad := by
  unfold mChain M.bind
  cases mI ma e with
  | ok i e1 =>
    simp only [M.bind]
    cases mI mb e1 with
    | ok j e2 =>
      simp only []
      split
      · simp only [M.bind]
        cases mI mc e2 <;> rfl
      · rfl
    | exc x e1 => rfl
    | bad => rfl
  | exc x e1 => rfl
  | bad => rfl
@[simp] theorem mSlice_ap (g : D → Option Int → Option Int → Option D) (ma : M D) (ml mh : M (Option Int)) (e : Env) : mSlice g ma ml mh e = match ma e with
    | .ok d e1 => (match ml e1 with | .ok l e2 => (match mh e2 with | .ok h e3 => M.ofO (g d.fz l h) e3 | .exc x e3 => .exc x e3 | .bad => .bad) | .exc x e2 => .exc x e2 | .bad => .bad)
    | .exc x e1 => .exc x e1 | .bad => .bad := by
  unfold mSlice M.bind
  cases ma e with
  | ok d e1 =>
    simp only [M.bind]
    cases ml e1 with
    | ok l e2 =>
      simp only [M.bind]
      cases mh e2 <;> rfl
    | exc x e1 => rfl
    | bad => rfl
  | exc x e1 => rfl
  | bad => rfl
@[simp] theorem mCall'_ap (n : Nat) (F : Fn) (ms : M (List D)) (e : Env) : mCall' n F ms e = match ms e with | .ok ds e1 => if ds.length = n then callF F (fzs ds) e1 else .bad | .exc x e1 => .exc x e1 | .bad => .bad := by
  unfold mCall' M.bind
  cases ms e with
  | ok ds e1 => simp only []; split <;> rfl
  | exc x e1 => rfl
  | bad => rfl
@[simp] theorem callF_ap (F : Fn) (ds : List D) (e : Env) : callF F ds e = match F ds with | .ok d _ => .ok d e | .exc x _ => .exc x e | .bad => .bad := by
  unfold callF
  cases F ds <;> rfl
@[simp] theorem mGuard_ap {α : Type} (i : Nat) (m : M α) (e : Env) : mGuard i m e = match e[i]? with | some (some _) => m e | _ => .bad := rfl
@[simp] theorem mCallIO_ap (n : Nat) (F : Fn) (i j : Nat) (ms : M (List D)) (e : Env) : mCallIO n F i j ms e = match ms e with | .ok ds e1 => if ds.length + 1 = n then callIO F i j (fzs ds) e1 else .bad | .exc x e1 => .exc x e1 | .bad => .bad := by
  unfold mCallIO M.bind
  cases ms e with
  | ok ds e1 => simp only []; split <;> rfl
  | exc x e1 => rfl
  | bad => rfl
@[simp] theorem callIO_ap (F : Fn) (i j : Nat) (ds : List D) (e : Env) : callIO F i j ds e = match e[i]? with
  | some (some d0) => if j ≤ ds.length then (match F (ds.insertIdx j d0) with
    | .ok d o => .ok d (e.set i (some o))
    | .exc x o => .exc x (e.set i (some o))
    | .bad => .bad) else .bad
  | _ => .bad := rfl
@[simp] theorem mItems_ap (m : M D) (e : Env) : mItems m e = match m e with | .ok d e1 => (match d.fz with | .lst _ ds => .ok ds e1 | .tup ds => .ok ds e1 | .scr ns => .ok (ns.map .int) e1 | _ => .bad) | .exc x e1 => .exc x e1 | .bad => .bad := by
  unfold mItems M.bind
  cases m e with
  | ok d e1 => simp only []; cases d.fz <;> rfl
  | exc x e1 => rfl
  | bad => rfl
@[simp] theorem mSigns_ap (m : M D) (e : Env) : mSigns m e = match m e with | .ok d e1 => (match d with | .str s => .ok (s.cps.toList.map fun c => .str ⟨#[c]⟩) e1 | _ => .bad) | .exc x e1 => .exc x e1 | .bad => .bad := by
  unfold mSigns M.bind
  cases m e with
  | ok d e1 => simp only []; cases d <;> rfl
  | exc x e1 => rfl
  | bad => rfl
@[simp] theorem mRange1_ap (m : M D) (e : Env) : mRange1 m e = match mI m e with | .ok j e1 => if -(2 ^ 62) ≤ j ∧ j < 2 ^ 62 then .ok ((List.range j.toNat).map fun i => .int (i : Nat)) e1 else .bad | .exc x e1 => .exc x e1 | .bad => .bad := by
  unfold mRange1 M.bind
  cases mI m e with
  | ok j e1 => simp only []; split <;> rfl
  | exc x e1 => rfl
  | bad => rfl
@[simp] theorem mRange2_ap (ma mb : M D) (e : Env) : mRange2 ma mb e = match mI ma e with | .ok i e1 => (match mI mb e1 with | .ok j e2 => if -(2 ^ 62) ≤ i ∧ i < 2 ^ 62 ∧ -(2 ^ 62) ≤ j ∧ j < 2 ^ 62 then .ok ((List.range (j - i).toNat).map fun l => .int (i + (l : Nat))) e2 else .bad | .exc x e2 => .exc x e2 | .bad => .bad) | .exc x e1 => .exc x e1 | .bad => .bad := by
  unfold mRange2 M.bind
  cases mI ma e with
  | ok i e1 =>
    simp only [M.bind]
    cases mI mb e1 with
    | ok j e2 => simp only []; split <;> rfl
    | exc x e1 => rfl
    | bad => rfl
  | exc x e1 => rfl
  | bad => rfl
@[simp] theorem mBor_ap (m : M D) (e : Env) : mBor m e = match m (frzE e) with | .ok d _ => if d.imf then .ok d e else .bad | .exc x _ => if ims x.xs then .exc x e else .bad | .bad => .bad := rfl
@[simp] theorem mBorT_ap {α : Type} (m : M α) (e : Env) : mBorT m e = match m (frzE e) with | .ok d _ => .ok d e | .exc x _ => if ims x.xs then .exc x e else .bad | .bad => .bad := rfl
@[simp] theorem frzE_cons (d : D) (e : Env) : frzE (some d :: e) = some d.fz :: frzE e := rfl
@[simp] theorem frzE_cons0 (e : Env) : frzE (none :: e) = none :: frzE e := rfl
@[simp] theorem frzE_nil : frzE [] = [] := rfl
@[simp] theorem imf_int (i : Int) : (D.int i).imf = true := rfl
@[simp] theorem imf_bl (i : Bool) : (D.bl i).imf = true := rfl
@[simp] theorem imf_str (i : Str) : (D.str i).imf = true := rfl
@[simp] theorem imf_non : (D.non).imf = true := rfl
@[simp] theorem imf_tup (xs : List D) : (D.tup xs).imf = ims xs := rfl
@[simp] theorem ims_nil : ims [] = true := rfl
@[simp] theorem ims_cons (d : D) (xs : List D) : ims (d :: xs) = (d.im && ims xs) := rfl
@[simp] theorem im_int (i : Int) : (D.int i).im = true := rfl
@[simp] theorem im_bl (i : Bool) : (D.bl i).im = true := rfl
@[simp] theorem im_str (i : Str) : (D.str i).im = true := rfl
@[simp] theorem im_non : (D.non).im = true := rfl
@[simp] theorem im_tup (xs : List D) : (D.tup xs).im = ims xs := rfl
@[simp] theorem meth_str (s : Str) : (D.str s).meth = true := rfl
@[simp] theorem meth_lst (o : Bool) (xs : List D) : (D.lst o xs).meth = true := rfl
@[simp] theorem ty_str (s : Str) : (D.str s).ty = "str" := rfl
@[simp] theorem ty_lst (o : Bool) (xs : List D) : (D.lst o xs).ty = "list" := rfl
@[simp] theorem sSet_ap (g : D → Env → Option Env) (m : M D) (e : Env) : sSet g m e = match m e with | .ok d e1 => (match g d e1 with | some e' => .nx e' | none => .bad) | .exc x e1 => .exc x e1 | .bad => .bad := rfl
@[simp] theorem sEx_ap (m : M D) (e : Env) : sEx m e = match m e with | .ok _ e1 => .nx e1 | .exc x e1 => .exc x e1 | .bad => .bad := rfl
@[simp] theorem sRet_ap (m : M D) (e : Env) : sRet m e = match m e with | .ok d e1 => .rt d e1 | .exc x e1 => .exc x e1 | .bad => .bad := rfl
@[simp] theorem sRetV_ap (i : Nat) (e : Env) : sRetV i e = match e[i]? with | some (some d) => .rt d (e.set i none) | _ => .bad := rfl
@[simp] theorem sRaise_ap (x : Str) (e : Env) : sRaise x e = .exc ⟨x, [], []⟩ e := rfl
@[simp] theorem sFor_ap (mi : M (List D)) (g : D → Env → Option Env) (b : MS) (e : Env) : sFor mi g b e = match mi e with | .ok items e1 => forS g b items e1 | .exc x e1 => .exc x e1 | .bad => .bad := rfl
@[simp] theorem sTry_ap (is : Str → Option Bool) (sb ss : MS) (e : Env) : sTry is sb ss e = match sb e with
  | .exc x e1 => (match is x.cls with
    | some true => (match ss e1 with | .exc _ _ => .bad | r => r)
    | some false => .exc x e1
    | none => .bad)
  | r => r := by unfold sTry; rfl
@[simp] theorem gAll_nil (e : Env) : gAll [] [] e = some e := rfl
@[simp] theorem gAll_cons (g : D → Env → Option Env) (gs : List (D → Env → Option Env)) (d : D) (ds : List D) (e : Env) : gAll (g :: gs) (d :: ds) e = (g d e).bind (gAll gs ds) := rfl
@[simp] theorem gTp_ap (gs : List (D → Env → Option Env)) (ds : List D) (e : Env) : gTp gs (.tup ds) e = gAll gs ds e := rfl
theorem fnS_ap (n : Nat) (io : Option Nat) (ms : MS) (ds : List D) : fnS n io ms ds = (match ms (ds.map some ++ List.replicate (n - ds.length) none) with
  | .rt d e => (match ioOut io e with | some o => .ok d o | none => .bad)
  | .nx e => (match ioOut io e with | some o => .ok .non o | none => .bad)
  | .exc x e => (match ioOut io e with | some o => .exc x o | none => .bad)
  | _ => .bad) := rfl
end VL


set_option Elab.async false
set_option linter.all false
set_option maxRecDepth 100000
set_option maxHeartbeats 4000000
namespace VL
open PySem PySem.Spec L2 SX
open PyProof.Rows hiding St

/-! ### plain: texts by their codes -/
@[simp] theorem S_len' (l : List Nat) : (S l).length = l.length := SX.S_len l
@[simp] theorem S_cps (l : List Nat) : (S l).cps.toList = l := by simp [S]
theorem S_of (s : Str) : ∃ l, s = S l := ⟨s.cps.toList, (SX.S_tl s).symm⟩
@[simp] theorem S_eq (a b : List Nat) : (S a == S b) = decide (a = b) := SX.S_beq_eq
theorem S_ne {a b : List Nat} : S a = S b ↔ a = b := ⟨SX.S_inj, fun h => by rw [h]⟩
theorem add_S {a b : List Nat} (h : a.length + b.length ≤ 16777216) : dAdd (.str (S a)) (.str (S b)) = some (.str (S (a ++ b))) := by
  rw [add_str (by simpa using h), SX.S_cat]
theorem len_S {a : List Nat} (h : a.length ≤ 16777216) : dLen (.str (S a)) = some (.int a.length) := by rw [len_str' (by simpa using h)]; simp
theorem from_S {a : List Nat} {i : Int} (h : a.length ≤ 16777216) (hi : 0 ≤ i) : dSl (.str (S a)) (some i) none = some (.str (S (a.drop i.toNat))) := by
  rw [sl_str' (by simpa using h), SX.slice_from hi]
theorem to_S {a : List Nat} {i : Int} (h : a.length ≤ 16777216) (hi : 0 ≤ i) : dSl (.str (S a)) none (some i) = some (.str (S (a.take i.toNat))) := by
  rw [sl_str' (by simpa using h), SX.slice_to hi]
theorem ix0_S {c : Nat} {a : List Nat} (h : (c :: a).length ≤ 16777216) : dIx (.str (S (c :: a))) (.int 0) = some (.str ⟨#[c]⟩) := by
  rw [ix_str' (by simpa using h)]
  simp [atI, ixN]
theorem starts_S (a b : List Nat) : Txt.startswith (S a) (S b) = (a.take b.length == b) := by
  unfold Txt.startswith
  rw [StrLaws.subAt_eq]
  simp only [S_len', S_cps, Nat.zero_add, List.drop_zero]
  by_cases h : b.length ≤ a.length
  · simp [h]
  · simp only [h, decide_false, Bool.false_and]
    symm
    rw [beq_eq_false_iff_ne]
    intro e
    have := congrArg List.length e
    rw [List.length_take] at this
    omega
/-- the words of a text: what stands between blanks -/
def wordsA : List Nat → List Nat → List (List Nat)
  | acc, [] => if acc = [] then [] else [acc]
  | acc, c :: r => if c = 32 then (if acc = [] then wordsA [] r else acc :: wordsA [] r) else wordsA (acc ++ [c]) r
def wordsOf (l : List Nat) : List (List Nat) := wordsA [] l
theorem pre1 (c x : Nat) (r : List Nat) : TL.pre [c] (x :: r) = (x == c) := by
  simp [TL.pre]
theorem words_spl : ∀ (l acc : List Nat), (TL.spl [32] 0 acc l).filter (fun w => decide (w ≠ [])) = wordsA acc l
  | [], acc => by
    rw [TL.spl_nil]
    unfold wordsA
    by_cases h : acc = [] <;> simp [h]
  | c :: r, acc => by
    unfold wordsA
    by_cases h : c = 32
    · rw [TL.spl_hit (by rw [pre1]; simpa using h), if_pos h]
      show (List.filter _ (acc :: TL.spl [32] 0 [] r)) = _
      rw [List.filter_cons, words_spl r []]
      by_cases ha : acc = [] <;> simp [ha]
    · rw [TL.spl_miss (by rw [pre1]; simpa using h), if_neg h, words_spl r]
theorem wordsA_app {p : List Nat} (h : 32 ∉ p) : ∀ (acc l : List Nat), wordsA acc (p ++ l) = wordsA (acc ++ p) l := by
  induction p with
  | nil => intro acc l; simp
  | cons c p ih =>
    intro acc l
    simp only [List.mem_cons, not_or] at h
    rw [List.cons_append]
    show (if c = 32 then _ else wordsA (acc ++ [c]) (p ++ l)) = _
    rw [if_neg (fun z => h.1 z.symm), ih h.2]
    simp
theorem wordsA_blanks {z : List Nat} (h : ∀ c ∈ z, c = 32) (l : List Nat) : wordsA [] (z ++ l) = wordsA [] l := by
  induction z with
  | nil => rfl
  | cons c z ih =>
    have hc := h c List.mem_cons_self
    subst hc
    show (if (32 : Nat) = 32 then (if ([] : List Nat) = [] then wordsA [] (z ++ l) else _) else _) = _
    rw [if_pos rfl, if_pos rfl, ih fun c hc => h c (List.mem_cons_of_mem _ hc)]
theorem wordsA_end {acc z : List Nat} (ha : acc ≠ []) (hz : z ≠ []) (h : ∀ c ∈ z, c = 32) (l : List Nat) : wordsA acc (z ++ l) = acc :: wordsA [] l := by
  cases z with
  | nil => exact absurd rfl hz
  | cons c z =>
    have hc := h c List.mem_cons_self
    subst hc
    show (if (32 : Nat) = 32 then (if acc = [] then _ else acc :: wordsA [] (z ++ l)) else _) = _
    rw [if_pos rfl, if_neg ha, wordsA_blanks fun c hc => h c (List.mem_cons_of_mem _ hc)]
theorem words_join {z s : List Nat} (hz : z ≠ []) (h : ∀ c ∈ z, c = 32) (hs : ∀ c ∈ s, c = 32) : ∀ parts : List (List Nat), (∀ p ∈ parts, 32 ∉ p) → wordsOf (TL.joinL z parts ++ s) = parts.filter fun w => decide (w ≠ [])
  | [], _ => by
    show wordsA [] ([] ++ s) = _
    have := wordsA_blanks hs []
    simp only [List.append_nil, List.nil_append] at this ⊢
    rw [this]; rfl
  | [p], hp => by
    show wordsA [] (p ++ s) = _
    rw [wordsA_app (hp p List.mem_cons_self), List.nil_append]
    have hb := wordsA_blanks hs []
    rw [List.append_nil] at hb
    by_cases e : p = []
    · subst e
      rw [hb]; rfl
    · by_cases es : s = []
      · subst es
        simp [wordsA, e]
      · have := wordsA_end e es hs []
        rw [List.append_nil] at this
        rw [this]
        simp [wordsA, e]
  | p :: q :: r, hp => by
    show wordsA [] ((p ++ (z ++ TL.joinL z (q :: r))) ++ s) = _
    have ih : wordsA [] (TL.joinL z (q :: r) ++ s) = _ := words_join hz h hs (q :: r) fun x hx => hp x (List.mem_cons_of_mem _ hx)
    rw [List.append_assoc, List.append_assoc, wordsA_app (hp p List.mem_cons_self), List.nil_append]
    by_cases e : p = []
    · subst e
      rw [wordsA_blanks h, ih]
      simp
    · rw [wordsA_end e hz h, ih]
      simp [e]
theorem split_S32 (l : List Nat) : Txt.split (S l) (S [32]) = (TL.spl [32] 0 [] l).map S := SX.split_S (by simp) (by decide)
theorem spl_free1 (c : Nat) (l : List Nat) (hc : c < 256) : ∀ p ∈ TL.spl [c] 0 [] l, c ∉ p := fun p hp => by
  have e : Txt.split (S l) (S [c]) = (TL.spl [c] 0 [] l).map S := SX.split_S (by simp) (by simpa using hc)
  have := StrLaws.split_free (S l) c (S p) (by rw [show (⟨#[c]⟩ : Str) = S [c] from rfl, e]; exact List.mem_map_of_mem hp)
  simpa using this
theorem replace_S (l z : List Nat) (c : Nat) (hc : c < 256) : Txt.replace (S l) (S [c]) (S z) = S (TL.joinL z (TL.spl [c] 0 [] l)) := by
  rw [show S [c] = (⟨#[c]⟩ : Str) from rfl, StrLaws.replace_one, ← StrLaws.glued_eq_join]
  have e : Txt.split (S l) (S [c]) = (TL.spl [c] 0 [] l).map S := SX.split_S (by simp) (by simpa using hc)
  rw [show (⟨#[c]⟩ : Str) = S [c] from rfl, e]
  exact SX.join_S z _
end VL


set_option Elab.async false
set_option linter.all false
set_option maxRecDepth 100000
set_option maxHeartbeats 4000000
namespace VL
open PySem PySem.Spec L2 SX
open PyProof.Rows hiding St

/-! ### plain: what every law's own helpers do -/
@[simp] theorem isi_tuple_tuple : isiT "tuple" "tuple" = true := rfl
@[simp] theorem isi_tuple_list : isiT "tuple" "list" = false := rfl
@[simp] theorem isi_tuple_str : isiT "tuple" "str" = false := rfl
@[simp] theorem isi_tuple_int : isiT "tuple" "int" = false := rfl
@[simp] theorem isi_tuple_bool : isiT "tuple" "bool" = false := rfl
@[simp] theorem isi_tuple_NoneType : isiT "tuple" "NoneType" = false := rfl
@[simp] theorem isi_list_tuple : isiT "list" "tuple" = false := rfl
@[simp] theorem isi_list_list : isiT "list" "list" = true := rfl
@[simp] theorem isi_list_str : isiT "list" "str" = false := rfl
@[simp] theorem isi_list_int : isiT "list" "int" = false := rfl
@[simp] theorem isi_list_bool : isiT "list" "bool" = false := rfl
@[simp] theorem isi_list_NoneType : isiT "list" "NoneType" = false := rfl
@[simp] theorem isi_str_tuple : isiT "str" "tuple" = false := rfl
@[simp] theorem isi_str_list : isiT "str" "list" = false := rfl
@[simp] theorem isi_str_str : isiT "str" "str" = true := rfl
@[simp] theorem isi_str_int : isiT "str" "int" = false := rfl
@[simp] theorem isi_str_bool : isiT "str" "bool" = false := rfl
@[simp] theorem isi_str_NoneType : isiT "str" "NoneType" = false := rfl
@[simp] theorem isi_int_tuple : isiT "int" "tuple" = false := rfl
@[simp] theorem isi_int_list : isiT "int" "list" = false := rfl
@[simp] theorem isi_int_str : isiT "int" "str" = false := rfl
@[simp] theorem isi_int_int : isiT "int" "int" = true := rfl
@[simp] theorem isi_int_bool : isiT "int" "bool" = true := rfl
@[simp] theorem isi_int_NoneType : isiT "int" "NoneType" = false := rfl
@[simp] theorem isi_bool_tuple : isiT "bool" "tuple" = false := rfl
@[simp] theorem isi_bool_list : isiT "bool" "list" = false := rfl
@[simp] theorem isi_bool_str : isiT "bool" "str" = false := rfl
@[simp] theorem isi_bool_int : isiT "bool" "int" = false := rfl
@[simp] theorem isi_bool_bool : isiT "bool" "bool" = true := rfl
@[simp] theorem isi_bool_NoneType : isiT "bool" "NoneType" = false := rfl
/-- plain data, frozen, at most n deep -/
def PL : Nat → D → Prop
  | 0, _ => False
  | n + 1, .tup xs => xs.length ≤ 16777216 ∧ ∀ x ∈ xs, PL n x
  | n + 1, .lst false xs => xs.length ≤ 16777216 ∧ ∀ x ∈ xs, PL n x
  | _ + 1, .non => True
  | _ + 1, .bl _ => True
  | _ + 1, .int _ => True
  | _ + 1, .str _ => True
  | _ + 1, _ => False
theorem PL.mono : ∀ {n m : Nat} {d : D}, PL n d → n ≤ m → PL m d
  | 0, _, _, h, _ => h.elim
  | n + 1, 0, _, _, h => by omega
  | n + 1, m + 1, .tup xs, h, hm => ⟨h.1, fun x hx => PL.mono (h.2 x hx) (by omega)⟩
  | n + 1, m + 1, .lst false xs, h, hm => ⟨h.1, fun x hx => PL.mono (h.2 x hx) (by omega)⟩
  | n + 1, m + 1, .lst true xs, h, hm => h.elim
  | n + 1, m + 1, .non, h, hm => trivial
  | n + 1, m + 1, .bl _, h, hm => trivial
  | n + 1, m + 1, .int _, h, hm => trivial
  | n + 1, m + 1, .str _, h, hm => trivial
  | n + 1, m + 1, .ins _ _ _ _, h, hm => h.elim
  | n + 1, m + 1, .dic _ _ _, h, hm => h.elim
  | n + 1, m + 1, .scr _, h, hm => h.elim
theorem PL.fz : ∀ {n : Nat} {d : D}, PL n d → d.fz = d
  | 0, _, h => h.elim
  | n + 1, .tup xs, h => by
    have : fzs xs = xs := by rw [fzs_map]; exact (List.map_congr_left fun x hx => (h.2 x hx).fz).trans (List.map_id _)
    rw [fz_tup, this]
  | n + 1, .lst false xs, h => by
    have : fzs xs = xs := by rw [fzs_map]; exact (List.map_congr_left fun x hx => (h.2 x hx).fz).trans (List.map_id _)
    rw [fz_lst, this]
  | n + 1, .lst true xs, h => h.elim
  | n + 1, .non, h => rfl
  | n + 1, .bl _, h => rfl
  | n + 1, .int _, h => rfl
  | n + 1, .str _, h => rfl
  | n + 1, .ins _ _ _ _, h => h.elim
  | n + 1, .dic _ _ _, h => h.elim
  | n + 1, .scr _, h => h.elim
theorem same_items {n : Nat} {d : D} {xs : List D} (hd : d.fz = d) (hlen : dLen d = some (.int xs.length)) (hix : ∀ k : Nat, dIx d (.int k) = xs[k]?) (hz : xs.length ≤ 16777216) (hx : ∀ x ∈ xs, x.fz = x ∧ f__law_same n [x, x] = .ok (.bl true) .non) :
    q__law_same_1 (f__law_same n) [some d, some d, none] = .ok (.lst true ((List.range xs.length).map fun _ => .bl true)) [some d, some d, none] := by
  have it : mRange1 (mCall (one dLen) (mCons (mV 1) mNil)) [some d, some d, none] = .ok ((List.range xs.length).map fun k => .int (k : Nat)) [some d, some d, none] := by
    have e : -(2 ^ 62) ≤ (xs.length : Int) ∧ (xs.length : Int) < 2 ^ 62 := by omega
    simp [hd, hlen]
    omega
  exact mComp_a1 (i := 2) (enc := fun k : Nat => .int (k : Nat)) (f := fun _ => .bl true) it (by simp) (fun k hk => by
    have hk' : k < xs.length := List.mem_range.mp hk
    obtain ⟨h1, h2⟩ := hx xs[k] (List.getElem_mem _)
    simp [hd, hix, hk', h1, h2]) (by simpa using hz)
theorem same_refl (n : Nat) : ∀ d : D, PL n d → f__law_same n [d, d] = .ok (.bl true) .non := by
  induction n with
  | zero => intro d h; exact h.elim
  | succ n ih =>
    intro d h
    have hd := PL.fz h
    cases d with
    | tup xs =>
      have c := same_items (n := n) (d := .tup xs) (xs := xs) hd rfl (fun k => by rw [ix_tup', atI_nat]) h.1 fun x hx => ⟨(h.2 x hx).fz, ih x (h.2 x hx)⟩
      have hall : dAll (.lst false ((List.range xs.length).map fun _ => .bl true)) = some (.bl true) := by rw [all_map']; simp
      have hf : fzs ((List.range xs.length).map fun _ => D.bl true) = (List.range xs.length).map fun _ => D.bl true := fzs_bls _ _
      generalize (List.range xs.length).map (fun _ => D.bl true) = L at *
      unfold f__law_same
      generalize hE : D.tup xs = E at *
      have i1 : dIsi "tuple" E = some (.bl true) := by subst hE; rfl
      have i2 : dIsi "list" E = some (.bl false) := by subst hE; rfl
      have i3 : dLen E = some (.int xs.length) := by subst hE; rfl
      simp -implicitDefEqProofs [fnS_ap, m__law_same, hd, i1, i2, i3, c, hf, hall, ioOut]
    | lst o xs =>
      cases o with
      | true => exact h.elim
      | false =>
        have c := same_items (n := n) (d := .lst false xs) (xs := xs) hd rfl (fun k => by rw [ix_lst', atI_nat]) h.1 fun x hx => ⟨(h.2 x hx).fz, ih x (h.2 x hx)⟩
        have hall : dAll (.lst false ((List.range xs.length).map fun _ => .bl true)) = some (.bl true) := by rw [all_map']; simp
        have hf : fzs ((List.range xs.length).map fun _ => D.bl true) = (List.range xs.length).map fun _ => D.bl true := fzs_bls _ _
        generalize (List.range xs.length).map (fun _ => D.bl true) = L at *
        unfold f__law_same
        generalize hE : D.lst false xs = E at *
        have i1 : dIsi "tuple" E = some (.bl false) := by subst hE; rfl
        have i2 : dIsi "list" E = some (.bl true) := by subst hE; rfl
        have i3 : dLen E = some (.int xs.length) := by subst hE; rfl
        simp -implicitDefEqProofs [fnS_ap, m__law_same, hd, i1, i2, i3, c, hf, hall, ioOut]
    | non => unfold f__law_same; simp -implicitDefEqProofs [fnS_ap, m__law_same, ioOut]
    | bl b => unfold f__law_same; simp -implicitDefEqProofs [fnS_ap, m__law_same, ioOut]
    | int i => unfold f__law_same; simp -implicitDefEqProofs [fnS_ap, m__law_same, ioOut]
    | str s => unfold f__law_same; simp -implicitDefEqProofs [fnS_ap, m__law_same, ioOut]
    | ins _ _ _ _ => exact h.elim
    | dic _ _ _ => exact h.elim
    | scr _ => exact h.elim
theorem same_ok {d : D} {n : Nat} (h : PL n d) (hn : n ≤ 70) : f__law_same 70 [d, d] = .ok (.bl true) .non := same_refl 70 d (h.mono hn)

/-! ### drawn numbers -/
theorem m2_of {g : D → D → Option D} {ma mb : M D} {e e1 e2 : Env} {a b d : D} (ha : ma e = .ok a e1) (hb : mb e1 = .ok b e2) (hg : g a.fz b.fz = some d) : m2 g ma mb e = .ok d e2 := by
  rw [m2_ap, ha]; simp only [hb, hg, ofO_some]
theorem m1_of {g : D → Option D} {ma : M D} {e e1 : Env} {a d : D} (ha : ma e = .ok a e1) (hg : g a.fz = some d) : m1 g ma e = .ok d e1 := by
  rw [m1_ap, ha]; simp only [hg, ofO_some]
theorem call1_of {g : D → Option D} {ma : M D} {e e1 : Env} {a d : D} (ha : ma e = .ok a e1) (hg : g a.fz = some d) : mCall (one g) (mCons ma mNil) e = .ok d e1 := by
  rw [mCall_ap, mCons_ap, ha]; simp only [mNil_ap, fzs_cons, fzs_nil, one_ap, hg, ofO_some]
theorem mV_of {i : Nat} {e : Env} {d : D} (h : e[i]? = some (some d)) : mV i e = .ok d.fz (e.set i (some d.fz)) := by
  rw [mV_ap, h]
theorem mV_im {i : Nat} {e : Env} {d : D} (h : e[i]? = some (some d)) (hf : d.fz = d) : mV i e = .ok d e := by
  rw [mV_of h, hf]
  obtain ⟨h1, h2⟩ := List.getElem?_eq_some_iff.mp h
  rw [← h2, List.set_getElem_self]
theorem bor_of {m : M D} {e e1 : Env} {d : D} (h : m (frzE e) = .ok d e1) (hi : d.imf = true) : mBor m e = .ok d e := by
  rw [mBor_ap, h]; simp only [hi, if_true]
theorem borT_of {m : M Bool} {e e1 : Env} {d : Bool} (h : m (frzE e) = .ok d e1) : mBorT m e = .ok d e := by
  rw [mBorT_ap, h]
theorem mBl_of {m : M D} {e e1 : Env} {b : Bool} (h : m e = .ok (.bl b) e1) : mBl m e = .ok b e1 := by
  rw [mBl_ap, h]; rfl
theorem mAnd_t {ta tb : M Bool} {e e1 e2 : Env} {b : Bool} (h : ta e = .ok true e1) (h2 : tb e1 = .ok b e2) : mAnd ta tb e = .ok b e2 := by
  rw [mAnd_ap, h]; simp only [if_true, h2]
theorem mAnd_f {ta tb : M Bool} {e e1 : Env} (h : ta e = .ok false e1) : mAnd ta tb e = .ok false e1 := by
  rw [mAnd_ap, h]; rfl
theorem setIx_of {i : Nat} {mv mi : M D} {e e1 e2 : Env} {d : D} {j : Nat} {xs : List D} (h : mv e = .ok d e1) (h1 : e1[i]? = some (some (.lst true xs))) (h2 : mi e1 = .ok (.int (j : Nat)) e2) (h3 : e2[i]? = some (some (.lst true xs))) (hj : j < xs.length) :
    sSetIx i mv mi e = .nx (e2.set i (some (.lst true (xs.set j d)))) := by
  unfold sSetIx
  rw [h]
  simp only [h1, ownL, if_true, mI_ap, h2, toI_int, ofO_some, h3, Int.toNat_natCast]
  rw [if_pos (by omega)]
theorem mutL_of {f : LOp} {i : Nat} {ms : M (List D)} {e e1 : Env} {ds xs0 xs xs' : List D} {d : D} (h : e[i]? = some (some (.lst true xs0))) (hm : ms e = .ok ds e1) (h1 : e1[i]? = some (some (.lst true xs))) (hf : f xs ds = some (xs', d)) :
    mMutL f i ms e = .ok d (e1.set i (some (.lst true xs'))) := by
  unfold mMutL
  rw [h]
  simp only [ownL, if_true, hm, h1, hf]
theorem append_of {xs : List D} {d : D} (h : xs.length < 16777216) : fAppend xs [d] = some (xs ++ [d], .non) := if_pos (show xs.length < sizeLine by rw [sizeLine_eq]; exact h)
theorem extend_of {o : Bool} {xs ys : List D} (h : xs.length + ys.length ≤ 16777216) : fExtend xs [.lst o ys] = some (xs ++ ys, .non) := if_pos (show xs.length + ys.length ≤ sizeLine by rw [sizeLine_eq]; exact h)
theorem sEx_of {m : M D} {e e1 : Env} {d : D} (h : m e = .ok d e1) : sEx m e = .nx e1 := by rw [sEx_ap, h]
def encS (ns : List Int) (a p m : Nat) : D := .lst true [.lst true (ns.map .int), .int a, .int p, .int m]
def IsS (d : D) : Prop := ∃ ns a p m, d = encS ns a p m
theorem stream_step (x0 : Option D) (m : Nat) (c : Int) : ∃ m' : Nat, b__law_stream_1 [x0, some (.int m), some (.int c)] = .nx [x0, some (.int m'), some (.int c)] := by
  refine ⟨(((m : Int) * 48271 + c % 65521 + 1) % 2147483647).toNat, ?_⟩
  rw [Int.toNat_of_nonneg (Int.emod_nonneg _ (by omega))]
  have v1 : mV 1 [x0, some (.int m), some (.int c)] = .ok (.int m) [x0, some (.int m), some (.int c)] := mV_im rfl rfl
  have v2 : mV 2 [x0, some (.int m), some (.int c)] = .ok (.int c) [x0, some (.int m), some (.int c)] := mV_im rfl rfl
  have e1 := m2_of (g := dMul) v1 (mC_ap (.int 48271) _) (mul_int (by omega))
  have e2 := m2_of (g := dMod) (call1_of (g := dInt) v2 int_int) (mC_ap (.int 65521) _) (mod_int (by omega))
  have e3 := m2_of (g := dAdd) e1 e2 add_int
  have e4 := m2_of (g := dAdd) e3 (mC_ap (.int 1) _) add_int
  have e5 := m2_of (g := dMod) (call1_of (g := dInt) e4 int_int) (mC_ap (.int 2147483647) _) (mod_int (by omega))
  exact sSet_nm e5 (by simp)
theorem stream_eq (ns : List Int) : ∃ m, f__law_stream [.scr ns] = .ok (encS ns 0 0 m) .non := by
  have lp := forS_inv (g := gNm 2) (b := b__law_stream_1) (enc := D.int) (fun _ e => ∃ (m : Nat) (x : Option D), e = [some (.scr ns), some (.int m), x]) ns [] [some (.scr ns), some (.int 17), none] ⟨17, none, rfl⟩ (fun done c e hc _ ⟨m, x, he⟩ => by
    subst he
    obtain ⟨m', h⟩ := stream_step (some (.scr ns)) m c
    exact ⟨[some (.scr ns), some (.int m), some (.int c)], _, rfl, .inl h, m', _, rfl⟩)
  obtain ⟨e, h1, m, x, rfl⟩ := lp
  refine ⟨m, fn_rt (e := [some (.scr ns), some (.int m), x]) ?_⟩
  unfold m__law_stream
  refine (sSeq_nx (e' := [some (.scr ns), some (.int 17), none]) rfl).trans ((sSeq_nx (e' := [some (.scr ns), some (.int m), x]) ?_).trans (sRet_of ?_))
  · rw [sFor_ap]
    exact h1
  · simp [encS]
section
variable (ns : List Int) (a p m many : Nat) (x : Option D)
abbrev Dr : Env := [some (encS ns a p m), some (.int many), x]
theorem dr1 : mBor (m2 dIx (mV 0) (mC (.int 1))) (Dr ns a p m many x) = .ok (.int a) (Dr ns a p m many x) := by
  cases x <;> simp -implicitDefEqProofs [Dr, encS, atI, ixN]
theorem dr2 : mBor (m2 dIx (mV 0) (mC (.int 2))) (Dr ns a p m many x) = .ok (.int p) (Dr ns a p m many x) := by
  cases x <;> simp -implicitDefEqProofs [Dr, encS, atI, ixN]
theorem dr3 : mBor (m2 dIx (mV 0) (mC (.int 3))) (Dr ns a p m many x) = .ok (.int m) (Dr ns a p m many x) := by
  cases x <;> simp -implicitDefEqProofs [Dr, encS, atI, ixN]
theorem drT : mBorT (mBl (m2 dEq (m2 dIx (mV 0) (mC (.int 1))) (mC (.int 0)))) (Dr ns a p m many x) = .ok (a == 0) (Dr ns a p m many x) := by
  have : (((a : Nat) : Int) == 0) = (a == 0) := by rw [Bool.eq_iff_iff]; simp
  cases x <;> simp -implicitDefEqProofs [Dr, encS, atI, ixN, this]
theorem drS (i : Nat) (j : Nat) (v : Nat) (mv : M D) (h : mv (Dr ns a p m many x) = .ok (.int v) (Dr ns a p m many x)) (hi : i = 1 ∨ i = 2 ∨ i = 3) :
    sSetIx 0 mv (mC (.int (i : Nat))) (Dr ns a p m many x) = .nx (Dr ns (if i = 1 then v else a) (if i = 2 then v else p) (if i = 3 then v else m) many x) := by
  rw [setIx_of (j := i) (xs := [.lst true (ns.map .int), .int a, .int p, .int m]) h rfl (mC_ap _ _) rfl (by simp; omega)]
  rcases hi with rfl | rfl | rfl <;> rfl
end
theorem draw_eq (d : D) (hd : IsS d) (many : Nat) (h0 : 0 < many) (h1 : many < 1073741824) : ∃ (v : Nat) (d' : D), v < many ∧ IsS d' ∧ f__law_draw [d, .int many] = .ok (.int v) d' := by
  obtain ⟨ns, a, p, m, rfl⟩ := hd
  have vm : ∀ a p m x, mV 1 (Dr ns a p m many x) = .ok (.int many) (Dr ns a p m many x) := fun a p m x => mV_im rfl rfl
  -- behind the first if
  have s1 : ∃ a' p', sIf (mBorT (mAnd (mBl (m2 dEq (m2 dIx (mV 0) (mC (.int 1))) (mC (.int 0)))) (mBl (m2 dLt (m2 dIx (mV 0) (mC (.int 2))) (mCall (one dLen) (mCons (m2 dIx (mV 0) (mC (.int 0))) mNil)))))) (sSeq (sSetIx 0 (mBor (mCall (one dAbs) (mCons (mCall (one dInt) (mCons (m2 dIx (m2 dIx (mV 0) (mC (.int 0))) (m2 dIx (mV 0) (mC (.int 2)))) mNil)) mNil))) (mC (.int 1))) (sSetIx 0 (m2 dAdd (mBor (m2 dIx (mV 0) (mC (.int 2)))) (mC (.int 1))) (mC (.int 2)))) .nx (Dr ns a p m many none) = .nx (Dr ns a' p' m many none) := by
    by_cases q : a = 0 ∧ p < ns.length
    · have t : mBorT (mAnd (mBl (m2 dEq (m2 dIx (mV 0) (mC (.int 1))) (mC (.int 0)))) (mBl (m2 dLt (m2 dIx (mV 0) (mC (.int 2))) (mCall (one dLen) (mCons (m2 dIx (mV 0) (mC (.int 0))) mNil))))) (Dr ns a p m many none) = .ok true (Dr ns a p m many none) := by
        simp -implicitDefEqProofs [Dr, encS, atI, ixN, q.1, q.2]
      have w : mBor (mCall (one dAbs) (mCons (mCall (one dInt) (mCons (m2 dIx (m2 dIx (mV 0) (mC (.int 0))) (m2 dIx (mV 0) (mC (.int 2)))) mNil)) mNil)) (Dr ns a p m many none) = .ok (.int (ns[p].natAbs : Nat)) (Dr ns a p m many none) := by
        have e : (if ns[p] < 0 then -ns[p] else ns[p]) = ((ns[p].natAbs : Nat) : Int) := by split <;> omega
        have hp : (p : Int) < ns.length := by omega
        simp -implicitDefEqProofs [Dr, encS, atI, ixN, q.2, e]
      have n1 := drS ns a p m many none 1 0 (ns[p].natAbs) _ w (.inl rfl)
      have a2 : m2 dAdd (mBor (m2 dIx (mV 0) (mC (.int 2)))) (mC (.int 1)) (Dr ns ns[p].natAbs p m many none) = .ok (.int ((p + 1 : Nat) : Int)) (Dr ns ns[p].natAbs p m many none) := m2_of (dr2 ns _ p m many none) (mC_ap _ _) (by simp)
      have n2 := drS ns ns[p].natAbs p m many none 2 0 (p + 1) _ a2 (.inr (.inl rfl))
      exact ⟨ns[p].natAbs, p + 1, (sIf_t t).trans ((sSeq_nx n1).trans n2)⟩
    · have t : mBorT (mAnd (mBl (m2 dEq (m2 dIx (mV 0) (mC (.int 1))) (mC (.int 0)))) (mBl (m2 dLt (m2 dIx (mV 0) (mC (.int 2))) (mCall (one dLen) (mCons (m2 dIx (mV 0) (mC (.int 0))) mNil))))) (Dr ns a p m many none) = .ok false (Dr ns a p m many none) := by
        by_cases q0 : a = 0
        · have q1 : ¬ p < ns.length := fun z => q ⟨q0, z⟩
          simp -implicitDefEqProofs [Dr, encS, atI, ixN, q0, q1]
        · have q0' : ¬ (a : Int) = 0 := by omega
          simp -implicitDefEqProofs [Dr, encS, atI, ixN, q0, q0']
      exact ⟨a, p, (sIf_f t).trans rfl⟩
  obtain ⟨a', p', s1⟩ := s1
  have hdv : many ≠ 0 := by omega
  by_cases q : a' = 0
  · -- from the mixed number
    have hm : ∃ m' : Nat, sSetIx 0 (m2 dMod (mCall (one dInt) (mCons (m2 dAdd (m2 dMul (mBor (m2 dIx (mV 0) (mC (.int 3)))) (mC (.int 48271))) (mC (.int 11))) mNil)) (mC (.int 2147483647))) (mC (.int 3)) (Dr ns a' p' m many none) = .nx (Dr ns a' p' m' many none) := by
      refine ⟨(((m : Int) * 48271 + 11) % 2147483647).toNat, ?_⟩
      have e1 := m2_of (g := dMul) (dr3 ns a' p' m many none) (mC_ap (.int 48271) _) (mul_int (by omega))
      have e2 := m2_of (g := dAdd) e1 (mC_ap (.int 11) _) add_int
      have e3 := m2_of (g := dMod) (call1_of (g := dInt) e2 int_int) (mC_ap (.int 2147483647) _) (mod_int (by omega))
      rw [← Int.toNat_of_nonneg (Int.emod_nonneg ((m : Int) * 48271 + 11) (by omega : (2147483647 : Int) ≠ 0))] at e3
      exact drS ns a' p' m many none 3 0 _ _ e3 (.inr (.inr rfl))
    obtain ⟨m', hm⟩ := hm
    have hr : m2 dMod (mCall (one dInt) (mCons (m2 dDiv (mBor (m2 dIx (mV 0) (mC (.int 3)))) (mC (.int 97))) mNil)) (mV 1) (Dr ns a' p' m' many none) = .ok (.int (((m' / 97) % many : Nat) : Int)) (Dr ns a' p' m' many none) := by
      have e1 := m2_of (g := dDiv) (dr3 ns a' p' m' many none) (mC_ap (.int 97) _) (div_int (by omega))
      have e2 := m2_of (g := dMod) (call1_of (g := dInt) e1 int_int) (vm a' p' m' none) (mod_int (by show (0 : Int) < (many : Nat); omega))
      rw [e2]
      congr 2
    refine ⟨(m' / 97) % many, encS ns a' p' m', Nat.mod_lt _ h0, ⟨_, _, _, _, rfl⟩, fnIO_rt (e := Dr ns a' p' m' many none) ?_ rfl⟩
    unfold m__law_draw
    refine (sSeq_nx s1).trans ((sSeq_rt (d := .int (((m' / 97) % many : Nat) : Int)) (e' := Dr ns a' p' m' many none) ?_).trans rfl)
    refine (sIf_t (e' := Dr ns a' p' m many none) ?_).trans ((sSeq_nx hm).trans (sRet_of hr))
    rw [drT, q]; rfl
  · have hv : m2 dMod (mBor (mCall (one dInt) (mCons (m2 dIx (mV 0) (mC (.int 1))) mNil))) (mV 1) (Dr ns a' p' m many none) = .ok (.int ((a' % many : Nat) : Int)) (Dr ns a' p' m many none) := by
      have e0 : mBor (mCall (one dInt) (mCons (m2 dIx (mV 0) (mC (.int 1))) mNil)) (Dr ns a' p' m many none) = .ok (.int a') (Dr ns a' p' m many none) := by
        simp -implicitDefEqProofs [Dr, encS, atI, ixN]
      have e1 := m2_of (g := dMod) e0 (vm a' p' m none) (mod_int (by show (0 : Int) < (many : Nat); omega))
      rw [e1]
      congr 2
    have hq : m2 dDiv (mBor (m2 dIx (mV 0) (mC (.int 1)))) (mV 1) (Dr ns a' p' m many (some (.int ((a' % many : Nat) : Int)))) = .ok (.int ((a' / many : Nat) : Int)) (Dr ns a' p' m many (some (.int ((a' % many : Nat) : Int)))) := by
      have e1 := m2_of (g := dDiv) (dr1 ns a' p' m many (some (.int ((a' % many : Nat) : Int)))) (vm a' p' m _) (div_int (by show (0 : Int) < (many : Nat) ∧ ((many : Nat) : Int) < _; omega))
      rw [e1]
      congr 2
    refine ⟨a' % many, encS ns (a' / many) p' m, Nat.mod_lt _ h0, ⟨_, _, _, _, rfl⟩, fnIO_rt (e := Dr ns (a' / many) p' m many none) ?_ rfl⟩
    unfold m__law_draw
    refine (sSeq_nx s1).trans ((sSeq_nx (e' := Dr ns a' p' m many none) ?_).trans ((sSeq_nx (sSet_nm hv (by simp))).trans ((sSeq_nx (drS ns a' p' m many _ 1 0 (a' / many) _ hq (.inl rfl))).trans rfl)))
    refine (sIf_f (e' := Dr ns a' p' m many none) ?_).trans rfl
    rw [drT, show (a' == 0) = false by simpa using q]
/-- one of the rows -/
theorem pick_eq (d : D) (hd : IsS d) (r : D) (rows : List D) (hf : r.fz = r) (hr : r = .lst false rows ∨ r = .tup rows) (h0 : rows ≠ []) (h1 : rows.length < 1073741824) : ∃ (x : D) (d' : D), x ∈ rows ∧ IsS d' ∧ f__law_pick [d, r] = .ok x d' := by
  have hlen : dLen r = some (.int rows.length) := by rcases hr with rfl | rfl <;> rfl
  have hix : ∀ k : Nat, dIx r (.int k) = rows[k]? := fun k => by rcases hr with rfl | rfl <;> simp [atI_nat]
  obtain ⟨v, d', hv, hd', e⟩ := draw_eq d hd rows.length (List.length_pos_iff.mpr h0) h1
  refine ⟨rows[v], d', List.getElem_mem _, hd', fnIO_rt (e := [some d', some r]) (sRet_of ?_) rfl⟩
  have h2 : (mCallIO 2 f__law_draw 0 0 (mGuard 0 (mCons (mCall (one dLen) (mCons (mV 1) mNil)) mNil))) [some d, some r] = .ok (.int v) [some d', some r] := by
    simp -implicitDefEqProofs [hf, hlen, e]
  exact m2_of (mV_im (d := r) rfl hf) h2 (by rw [hf, fz_int, hix, List.getElem?_eq_getElem hv])
end VL


set_option Elab.async false
set_option linter.all false
set_option maxRecDepth 100000
set_option maxHeartbeats 4000000
namespace VL
open PySem PySem.Spec L2 SX
open PyProof.Rows hiding St
def lets : List Nat := ("abcdefghijklmnopqrstuvwxyz" : Str).cps.toList
def digs : List Nat := ("0123456789" : Str).cps.toList
def isLet (c : Nat) : Bool := decide (c ∈ lets)
def isDig (c : Nat) : Bool := decide (c ∈ digs)
theorem letter_eq (c : Nat) : f_is_letter [.str ⟨#[c]⟩] = .ok (.bl (isLet c)) .non := by
  have h1 : dLen (.str ⟨#[c]⟩) = some (.int 1) := len_str' (by show 1 ≤ 16777216; omega)
  simp [f_is_letter, fnS_ap, m_is_letter, h1, ioOut, isLet, lets]
def isName (l : List Nat) : Bool := decide (1 ≤ l.length ∧ l.length ≤ 8) && isLet (l.headD 0) && l.all fun c => isLet c || isDig c
theorem name_eq (l : List Nat) (h : l.length ≤ 16777216) : f_is_name [.str (S l)] = .ok (.bl (isName l)) .non := by
  have h1 : dLen (.str (S l)) = some (.int l.length) := by rw [len_str' (by simpa using h)]; simp
  unfold f_is_name
  rw [fnS_ap]
  unfold m_is_name
  have hc : q_is_name_1 [some (.str (S l)), none] =
      .ok (.lst true (l.map fun c => .bl (isLet c || isDig c))) [some (.str (S l)), none] := by
    refine mComp_all (enc := fun c => .str ⟨#[c]⟩) (f := fun c => .bl (isLet c || isDig c)) (env1 := [some (.str (S l)), none]) (items := l) (by simp) (by simp) (fun c hc => ?_) (by rw [sizeLine_eq]; exact h)
    cases q : isLet c with
    | true => exact ⟨[some (.str (S l)), some (.str ⟨#[c]⟩)], by simp [letter_eq, q], rfl⟩
    | false => exact ⟨[some (.str (S l)), some (.str ⟨#[c]⟩)], by simp [letter_eq, q, isDig, digs], rfl⟩
  cases l with
  | nil => simp [h1, ioOut, isName]
  | cons c l =>
    have h2 : dIx (.str (S (c :: l))) (.int 0) = some (.str ⟨#[c]⟩) := by
      rw [ix_str' (by simpa using h)]
      simp [atI, ixN]
    have h0 : (1 : Int) ≤ l.length + 1 := by omega
    have hd : isLet ((c :: l).headD 0) = isLet c := rfl
    by_cases q : (l.length : Int) + 1 ≤ 8
    · have q' : l.length + 1 ≤ 8 := by omega
      cases q2 : isLet c <;> simp [h0, h1, h2, letter_eq, hc, ioOut, isName, q, q', q2]
    · have q' : ¬ l.length + 1 ≤ 8 := by omega
      cases q2 : isLet c <;> simp [h0, h1, h2, letter_eq, hc, ioOut, isName, q, q', q2]
/-! ### marks -/
inductive K4 where
  | want | be | pull | go
  deriving DecidableEq
def K4.t : K4 → Str
  | .want => "want" | .be => "be" | .pull => "pull" | .go => "go"
def K4.s : K4 → List Nat
  | .want => [61] | .be => [] | .pull => [43] | .go => [45]
abbrev Mark := K4 × List Nat
def encM (m : Mark) : D := .tup [.str m.1.t, .str (S m.2)]
@[simp] theorem encM_fz (m : Mark) : (encM m).fz = encM m := rfl
@[simp] theorem encM_im (m : Mark) : (encM m).im = true := rfl
@[simp] theorem fzs_encM (l : List Mark) : fzs (l.map encM) = l.map encM := fzs_mapE encM_fz l
def mText (m : Mark) : List Nat := m.1.s ++ m.2
theorem tab_is {tbl : List (Str × Str)} {s t : Str} (h : tbl.lookup s = some t) : dTab tbl (.str s) = some (.str t) := by
  show (tbl.lookup s).map D.str = _
  rw [h]; rfl
theorem tab_eq (k : K4) : dTab [("want", "="), ("be", ""), ("pull", "+"), ("go", "-")] (.str k.t) = some (.str (S k.s)) := by cases k <;> exact tab_is (by decide +kernel)
theorem ixM0 (m : Mark) : dIx (encM m) (.int 0) = some (.str m.1.t) := rfl
theorem ixM1 (m : Mark) : dIx (encM m) (.int 1) = some (.str (S m.2)) := rfl
theorem s_len (k : K4) : k.s.length ≤ 1 := by cases k <;> decide
theorem mark_text_eq (m : Mark) (h : m.2.length ≤ 1000) : f_mark_text [encM m] = .ok (.str (S (mText m))) .non := by
  have h1 : dAdd (.str (S m.1.s)) (.str (S m.2)) = some (.str (S (mText m))) := add_S (by have := s_len m.1; omega)
  simp [f_mark_text, fnS_ap, m_mark_text, ixM0, ixM1, tab_eq, h1, ioOut]
theorem law_mark_text_eq (m : Mark) (h : m.2.length ≤ 1000) : f__law_mark_text [encM m] = .ok (.str (S (mText m))) .non := by
  have h1 : dAdd (.str (S m.1.s)) (.str (S m.2)) = some (.str (S (mText m))) := add_S (by have := s_len m.1; omega)
  simp [f__law_mark_text, fnS_ap, m__law_mark_text, ixM0, ixM1, tab_eq, h1, ioOut]
/-- what a text says as a mark -/
def readMark (l : List Nat) : Option Mark :=
  if l.head? = some 61 ∧ isName l.tail then some (.want, l.tail)
  else if l.head? = some 43 ∧ isName l.tail then some (.pull, l.tail)
  else if l.head? = some 45 ∧ isName l.tail then some (.go, l.tail)
  else if isName l then some (.be, l) else none
theorem head_take (l : List Nat) (c : Nat) : (l.take 1 == [c]) = decide (l.head? = some c) := by
  cases l with
  | nil => simp
  | cons x l =>
    simp only [List.take_succ_cons, List.take_zero, List.head?_cons, Option.some.injEq]
    by_cases h : x = c <;> simp [h]
theorem read_mark_eq (l : List Nat) (h : l.length ≤ 16777216) : f_read_mark [.str (S l)] = match readMark l with | some m => .ok (encM m) .non | none => .exc ⟨"BadMarks", [], []⟩ .non := by
  have h1 : dSl (.str (S l)) (some 1) none = some (.str (S l.tail)) := by rw [from_S h (by decide)]; simp
  have h2 : f_is_name [.str (S l.tail)] = .ok (.bl (isName l.tail)) .non := name_eq _ (by rw [List.length_tail]; omega)
  have h3 := name_eq l h
  have t1 : dTab [("want", "="), ("be", ""), ("pull", "+"), ("go", "-")] (.str "want") = some (.str (S [61])) := tab_is (by decide +kernel)
  have t2 : dTab [("want", "="), ("be", ""), ("pull", "+"), ("go", "-")] (.str "pull") = some (.str (S [43])) := tab_is (by decide +kernel)
  have t3 : dTab [("want", "="), ("be", ""), ("pull", "+"), ("go", "-")] (.str "go") = some (.str (S [45])) := tab_is (by decide +kernel)
  have s1 : Txt.startswith (S l) (S [61]) = decide (l.head? = some 61) := by rw [starts_S, ← head_take]; rfl
  have s2 : Txt.startswith (S l) (S [43]) = decide (l.head? = some 43) := by rw [starts_S, ← head_take]; rfl
  have s3 : Txt.startswith (S l) (S [45]) = decide (l.head? = some 45) := by rw [starts_S, ← head_take]; rfl
  unfold f_read_mark readMark
  rw [fnS_ap]
  unfold m_read_mark
  by_cases q1 : l.head? = some 61 ∧ isName l.tail = true
  · simp [forS, b_read_mark_1, t1, s1, q1.1, q1.2, h1, h2, ioOut, encM, K4.t]
  · rw [if_neg q1]
    by_cases q2 : l.head? = some 43 ∧ isName l.tail = true
    · simp [forS, b_read_mark_1, t1, t2, s1, s2, q2.1, q2.2, h1, h2, ioOut, encM, K4.t]
    · rw [if_neg q2]
      by_cases q3 : l.head? = some 45 ∧ isName l.tail = true
      · simp [forS, b_read_mark_1, t1, t2, t3, s1, s2, s3, q3.1, q3.2, h1, h2, ioOut, encM, K4.t]
      · rw [if_neg q3]
        cases q4 : isName l.tail with
        | true =>
          have a1 : ¬ l.head? = some 61 := fun z => q1 ⟨z, q4⟩
          have a2 : ¬ l.head? = some 43 := fun z => q2 ⟨z, q4⟩
          have a3 : ¬ l.head? = some 45 := fun z => q3 ⟨z, q4⟩
          cases q5 : isName l <;> simp [forS, b_read_mark_1, t1, t2, t3, s1, s2, s3, a1, a2, a3, h1, h2, h3, q4, q5, ioOut, encM, K4.t]
        | false =>
          by_cases a1 : l.head? = some 61
          · cases q5 : isName l <;> simp [forS, b_read_mark_1, t1, t2, t3, s1, s2, s3, a1, h1, h2, h3, q4, q5, ioOut, encM, K4.t]
          · by_cases a2 : l.head? = some 43
            · cases q5 : isName l <;> simp [forS, b_read_mark_1, t1, t2, t3, s1, s2, s3, a1, a2, h1, h2, h3, q4, q5, ioOut, encM, K4.t]
            · by_cases a3 : l.head? = some 45 <;> cases q5 : isName l <;> simp [forS, b_read_mark_1, t1, t2, t3, s1, s2, s3, a1, a2, a3, h1, h2, h3, q4, q5, ioOut, encM, K4.t]
theorem t_inj {a b : K4} (h : a.t = b.t) : a = b := by
  cases a <;> cases b <;> first | rfl | exact absurd h (by decide +kernel)
theorem t_ok (k : K4) : PyData.strOk k.t = true := by cases k <;> decide +kernel
def ks (ms : List Mark) : List K4 := ms.map (·.1)
def beAt (ms : List Mark) : Nat := (ks ms).findIdx (· == .be)
def areMarks (ms : List Mark) : Bool := ((ks ms).count .be == 1) && decide (ms.length ≤ 10) && (ms.all fun m => isName m.2) &&
  (((ks ms).take (beAt ms)).all fun k => k == .want || k == .pull) && (((ks ms).drop (beAt ms + 1)).all fun k => k == .go)
theorem count_t (ms : List Mark) (k : K4) : (ms.map fun m => m.1.t).count k.t = (ks ms).count k := by
  unfold ks
  rw [show (ms.map fun m => m.1.t) = (ms.map (·.1)).map K4.t by simp, count_map_inj (fun a b h => t_inj h)]
theorem sh_str {s : Str} (h : PyData.strOk s = true) : SeqAt.shaped (.str s) = true := by simp [SeqAt.shaped, PyData.canLay0, h, PyData.depth]
theorem sh_strs {α : Type} {f : α → Str} (h : ∀ x, PyData.strOk (f x) = true) (l : List α) : PyData.canLayAll0 (l.map fun x => .str (f x)) = true ∧ PyData.depthAll (l.map fun x => .str (f x)) = 0 := by
  induction l with
  | nil => exact ⟨rfl, rfl⟩
  | cons x l ih => simp [PyData.canLayAll0, PyData.canLay0, h, PyData.depthAll, PyData.depth, ih.1, ih.2]
theorem index_t {o : Bool} (ms : List Mark) (hm : K4.be ∈ ks ms) : dIndex (.lst o (ms.map fun m => .str m.1.t)) (.str "be") = some (.int (beAt ms : Nat)) := by
  obtain ⟨z1, z2⟩ := sh_strs (f := fun m : Mark => m.1.t) (fun m => t_ok m.1) ms
  have e1 : pys (ms.map fun m => D.str m.1.t) = some (ms.map fun m => .str m.1.t) := pys_map (fun _ => rfl) ms
  have e2 : SeqAt.shaped (.list (ms.map fun m => .str m.1.t)) = true := by simp [SeqAt.shaped, PyData.canLay0, z1, PyData.depth, z2]
  have e3 : SeqAt.shaped (.str "be") = true := sh_str (t_ok .be)
  have e4 : (ms.map fun m => PyData.str m.1.t).findIdx? (fun z => PyData.eqv z (.str "be")) = some (beAt ms) := by
    have : ∀ l : List Mark, K4.be ∈ ks l → (l.map fun m => PyData.str m.1.t).findIdx? (fun z => PyData.eqv z (.str "be")) = some (beAt l) := by
      intro l
      induction l with
      | nil => intro h; simp [ks] at h
      | cons m l ih =>
        intro h
        rw [List.map_cons, List.findIdx?_cons]
        unfold beAt ks
        rw [List.map_cons, List.findIdx_cons]
        by_cases q : m.1 = .be
        · have : PyData.eqv (.str m.1.t) (.str "be") = true := by rw [q]; decide +kernel
          rw [this]
          simp [q]
        · have : PyData.eqv (.str m.1.t) (.str "be") = false := by
            cases hk : m.1 with
            | be => exact absurd hk q
            | want => decide +kernel
            | pull => decide +kernel
            | go => decide +kernel
          have hl : K4.be ∈ ks l := by
            unfold ks at h ⊢
            rw [List.map_cons, List.mem_cons] at h
            exact h.resolve_left fun z => q z.symm
          have q' : (m.1 == K4.be) = false := by simpa using q
          rw [this, ih hl]
          simp [q', beAt, ks]
    exact this ms hm
  simp [dIndex, e1, D.py, e2, e3, e4]
theorem in_wp (k : K4) : dIn (.str k.t) (.tup [.str "want", .str "pull"]) = some (.bl (k == .want || k == .pull)) := by
  rw [in_tup (x := .str k.t) (zs := [.str "want", .str "pull"]) rfl rfl (sh_str (t_ok k)) (by decide +kernel)]
  exact congrArg (fun b => some (D.bl b)) (by cases k <;> decide +kernel)
theorem eq_t (k j : K4) : dEq (.str k.t) (.str j.t) = some (.bl (k == j)) := by
  rw [eq_str]
  exact congrArg (fun b => some (D.bl b)) (by cases k <;> cases j <;> decide +kernel)
theorem are_marks_eq (ms : List Mark) (hl : ms.length ≤ 1000) (hn : ∀ m ∈ ms, m.2.length ≤ 1000) : f_are_marks [.tup (ms.map encM)] = .ok (.bl (areMarks ms)) .non := by
  generalize hE : D.tup (ms.map encM) = E
  have hEf : E.fz = E := by subst hE; simp
  have it : ∀ x y : Option D, mItems (mV 0) [some E, x, y, none, none] = .ok (ms.map encM) [some E, x, y, none, none] := fun x y => by subst hE; simp
  have c1 : q_are_marks_1 [some E, none, none, none, none] = .ok (.lst true (ms.map fun m => .str m.1.t)) [some E, none, none, none, none] :=
    mComp_a1 (i := 3) (it _ _) (by simp) (fun m hm => by simp [ixM0, hEf]) (by omega)
  have c2 : ∀ x : Option D, q_are_marks_2 [some E, x, none, none, none] = .ok (.lst true (ms.map fun m => .bl (isName m.2))) [some E, x, none, none, none] := fun x =>
    mComp_a1 (i := 3) (it _ _) (by simp) (fun m hm => by simp [ixM1, hEf, name_eq m.2 (by have := hn m hm; omega)]) (by omega)
  have hlen : dLen E = some (.int ms.length) := by subst hE; simp
  have hcnt : dCount (.lst false (ms.map fun m => .str m.1.t)) (.str "be") = some (.int ((ks ms).count .be : Nat)) := by
    rw [count_lst, ← count_t]; rfl
  have hall : dAll (.lst false (ms.map fun m => .bl (isName m.2))) = some (.bl (ms.all fun m => isName m.2)) := all_map' _ _
  have hWm : (D.lst false (ms.map fun m => .str m.1.t)).meth = true := rfl
  have hWt : (D.lst false (ms.map fun m => .str m.1.t)).ty = "list" := rfl
  generalize hW : D.lst false (ms.map fun m => .str m.1.t) = W at *
  have hWf : W.fz = W := by subst hW; simp
  have hW2 : (D.lst true (ms.map fun m => .str m.1.t)).fz = W := by subst hW; simp
  have t1 : ∃ x, mOr (mBl (m2 dNe (mMeth "list" (arg1 dCount) (mV 1) (mCons (mC (.str "be")) mNil)) (mC (.int 1)))) (mOr (mBl (m2 dGt (mCall (one dLen) (mCons (mV 0) mNil)) (mC (.int 10)))) (mNot (mTru (mCall (one dAll) (mCons q_are_marks_2 mNil))))) [some E, some (D.lst true (ms.map fun m => .str m.1.t)), none, none, none] = .ok (!(((ks ms).count .be == 1) && decide (ms.length ≤ 10) && (ms.all fun m => isName m.2))) [some E, x, none, none, none] ∧ x = some W := by
    refine ⟨some W, ?_, rfl⟩
    by_cases k1 : (ks ms).count .be = 1
    · by_cases k2 : ms.length ≤ 10
      · have k2' : ¬ (10 : Int) < ms.length := by omega
        simp [hWm, hWt, hW2, hWf, hEf, hcnt, hlen, c2, hall, k1, k2, k2']
      · have k2' : (10 : Int) < ms.length := by omega
        simp [hWm, hWt, hW2, hWf, hEf, hcnt, hlen, k1, k2, k2']
    · have k1' : ¬ ((ks ms).count .be : Int) = 1 := by omega
      simp [hWm, hWt, hW2, hWf, hEf, hcnt, k1, k1']
  obtain ⟨x, t1, rfl⟩ := t1
  have fin : ∃ e, m_are_marks [some E, none, none, none, none] = .rt (.bl (areMarks ms)) e := by
    unfold m_are_marks
    rw [sSeq_nx (sSet_nm c1 (by simp))]
    simp only [List.set_cons_succ, List.set_cons_zero]
    cases k : ((ks ms).count .be == 1) && decide (ms.length ≤ 10) && (ms.all fun m => isName m.2) with
    | false =>
      rw [k] at t1
      rw [sSeq_rt ((sIf_t t1).trans (sRet_c _ _))]
      have : areMarks ms = false := by simp only [areMarks, k, Bool.false_and]
      exact ⟨_, by rw [this]⟩
    | true =>
      rw [k] at t1
      have k1 : (ks ms).count .be = 1 := by simp only [Bool.and_eq_true, beq_iff_eq] at k; exact k.1.1
      rw [sSeq_nx ((sIf_f t1).trans rfl)]
      have hix : dIndex W (.str "be") = some (.int (beAt ms : Nat)) := by subst hW; exact index_t ms (List.count_pos_iff.mp (by omega))
      rw [sSeq_nx (sSet_nm (d := .int (beAt ms : Nat)) (e' := [some E, some W, none, none, none]) (by subst hW; simp [hix]) (by simp))]
      simp only [List.set_cons_succ, List.set_cons_zero]
      have it3 : mItems (mSlice dSl (mV 1) (M.pure none) ((mI (mV 2)).bind fun i => M.pure (some i))) [some E, some W, some (.int (beAt ms : Nat)), none, none] = .ok ((ms.take (beAt ms)).map fun m => .str m.1.t) [some E, some W, some (.int (beAt ms : Nat)), none, none] := by
        subst hW
        simp [cut_to, List.map_take, fzs_take]
      have c3 : q_are_marks_3 [some E, some W, some (.int (beAt ms : Nat)), none, none] = .ok (.lst true ((ms.take (beAt ms)).map fun m => .bl (m.1 == .want || m.1 == .pull))) [some E, some W, some (.int (beAt ms : Nat)), none, none] :=
        mComp_a1 (i := 4) (enc := fun m : Mark => .str m.1.t) it3 (by simp) (fun m hm => by simp [in_wp]) (by rw [List.length_take]; omega)
      have it4 : mItems (mSlice dSl (mV 1) ((mI (m2 dAdd (mV 2) (mC (.int 1)))).bind fun i => M.pure (some i)) (M.pure none)) [some E, some W, some (.int (beAt ms : Nat)), none, none] = .ok ((ms.drop (beAt ms + 1)).map fun m => .str m.1.t) [some E, some W, some (.int (beAt ms : Nat)), none, none] := by
        have e : ((beAt ms : Nat) : Int) + 1 = ((beAt ms + 1 : Nat) : Int) := by omega
        subst hW
        simp only [mItems_ap, mSlice_ap, mV_ap, List.getElem?_cons_succ, List.getElem?_cons_zero, fz_lst, fzs_strs, List.set_cons_succ, List.set_cons_zero, bind_ap, mI_ap, m2_ap, mC_ap, fz_int, add_int, ofO_some, toI_int, pure_ap, e, sl_lst', cut_from, fzs_drop, List.map_drop]
      have c4 : q_are_marks_4 [some E, some W, some (.int (beAt ms : Nat)), none, none] = .ok (.lst true ((ms.drop (beAt ms + 1)).map fun m => .bl (m.1 == .go))) [some E, some W, some (.int (beAt ms : Nat)), none, none] :=
        mComp_a1 (i := 4) (enc := fun m : Mark => .str m.1.t) it4 (by simp) (fun m hm => by
          show m2 dEq (mV 4) (mC (.str "go")) [some E, some W, some (.int (beAt ms : Nat)), none, some (.str m.1.t)] = _
          simp only [m2_ap, mV_ap, mC_ap, List.getElem?_cons_succ, List.getElem?_cons_zero, fz_str, List.set_cons_succ, List.set_cons_zero]
          rw [show (D.str "go") = .str K4.go.t from rfl, eq_t]
          rfl) (by rw [List.length_drop]; omega)
      have e4 : (areMarks ms) = (((ms.take (beAt ms)).all fun m => m.1 == .want || m.1 == .pull) && ((ms.drop (beAt ms + 1)).all fun m => m.1 == .go)) := by
        unfold areMarks
        rw [k]
        simp only [Bool.true_and, ks, ← List.map_take, ← List.map_drop, List.all_map, Function.comp_def]
      cases k4 : (ms.take (beAt ms)).all fun m => m.1 == .want || m.1 == .pull with
      | false =>
        rw [sSeq_rt ((sIf_t (e' := [some E, some W, some (.int (beAt ms : Nat)), none, none]) (by simp only [mNot_ap, mTru_ap, mCall_ap, mCons_ap, mNil_ap, c3, fzs_cons, fzs_nil, fz_lst, fzs_bls, one_ap, all_map', ofO_some, truth_bl, k4, Bool.not_false, Bool.not_true])).trans (sRet_c _ _))]
        exact ⟨_, by rw [e4, k4]; rfl⟩
      | true =>
        rw [sSeq_nx ((sIf_f (e' := [some E, some W, some (.int (beAt ms : Nat)), none, none]) (by simp only [mNot_ap, mTru_ap, mCall_ap, mCons_ap, mNil_ap, c3, fzs_cons, fzs_nil, fz_lst, fzs_bls, one_ap, all_map', ofO_some, truth_bl, k4, Bool.not_false, Bool.not_true])).trans rfl)]
        exact ⟨_, sRet_of (by rw [e4, k4]; simp only [mCall_ap, mCons_ap, mNil_ap, c4, fzs_cons, fzs_nil, fz_lst, fzs_bls, one_ap, all_map', ofO_some, Bool.true_and]; rfl)⟩
  obtain ⟨e, h⟩ := fin
  exact fn_rt h
end VL


set_option Elab.async false
set_option linter.all false
set_option maxRecDepth 100000
set_option maxHeartbeats 4000000
namespace VL
open PySem PySem.Spec L2 SX
open PyProof.Rows hiding St
theorem t_beq (k j : K4) : (k.t == j.t) = (k == j) := by cases k <;> cases j <;> decide +kernel
theorem eq_go (k : K4) : dEq (.str k.t) (.str "go") = some (.bl (k == .go)) := eq_t k .go
def isRest (ms : List Mark) : Bool :=
  if ms = [] ∨ 1 < (ks ms).count .be then false else if (ks ms).count .be = 1 then areMarks ms else decide (ms.length < 10) && ms.all fun m => m.1 == .go && isName m.2
theorem is_rest_eq (ms : List Mark) (hl : ms.length ≤ 1000) (hn : ∀ m ∈ ms, m.2.length ≤ 1000) : f_is_rest [.tup (ms.map encM)] = .ok (.bl (isRest ms)) .non := by
  have ham := are_marks_eq ms hl hn
  generalize hE : D.tup (ms.map encM) = E at *
  have hEf : E.fz = E := by subst hE; simp
  have it : ∀ x : Option D, mItems (mV 0) [some E, x, none] = .ok (ms.map encM) [some E, x, none] := fun x => by subst hE; simp
  have c1 : q_is_rest_1 [some E, none, none] = .ok (.lst true (ms.map fun m => .str m.1.t)) [some E, none, none] :=
    mComp_a1 (i := 2) (it _) (by simp) (fun m hm => by simp [ixM0, hEf]) (by omega)
  have c2 : ∀ x : Option D, q_is_rest_2 [some E, x, none] = .ok (.lst true (ms.map fun m => .bl (m.1 == .go && isName m.2))) [some E, x, none] := fun x =>
    mComp_a1 (i := 2) (it _) (by simp) (fun m hm => by
      have h1 := name_eq m.2 (by have := hn m hm; omega)
      have h2 := eq_go m.1
      rw [eq_str] at h2
      cases k : m.1 == .go <;> rw [k] at h2 <;> simp only [Option.some.injEq, D.bl.injEq] at h2 <;> simp [ixM0, ixM1, hEf, h1, h2]) (by omega)
  have hlen : dLen E = some (.int ms.length) := by subst hE; simp
  have hcnt : dCount (.lst false (ms.map fun m => .str m.1.t)) (.str "be") = some (.int ((ks ms).count .be : Nat)) := by
    rw [count_lst, ← count_t]; rfl
  have hall : dAll (.lst false (ms.map fun m => .bl (m.1 == .go && isName m.2))) = some (.bl (ms.all fun m => m.1 == .go && isName m.2)) := all_map' _ _
  have hW2 : (D.lst true (ms.map fun m => .str m.1.t)).fz = .lst false (ms.map fun m => .str m.1.t) := by simp
  have hf3 : fzs (ms.map fun m => D.bl (m.1 == .go && isName m.2)) = ms.map fun m => D.bl (m.1 == .go && isName m.2) := fzs_bls _ _
  have hWm : (D.lst false (ms.map fun m => .str m.1.t)).meth = true := rfl
  have hWt : (D.lst false (ms.map fun m => .str m.1.t)).ty = "list" := rfl
  have hWf : (D.lst false (ms.map fun m => .str m.1.t)).fz = D.lst false (ms.map fun m => .str m.1.t) := by simp
  generalize D.lst false (ms.map fun m => .str m.1.t) = W at *
  generalize D.lst true (ms.map fun m => .str m.1.t) = W2 at *
  have fin : ∃ e, m_is_rest [some E, none, none] = .rt (.bl (isRest ms)) e := by
    unfold m_is_rest
    rw [sSeq_nx (sSet_nm c1 (by simp))]
    simp only [List.set_cons_succ, List.set_cons_zero]
    have hn0 : (ms.length : Int) = 0 ↔ ms = [] := by rw [← List.length_eq_zero_iff]; omega
    by_cases k0 : ms = []
    · have k0' : (ms.length : Int) = 0 := hn0.mpr k0
      rw [sSeq_rt ((sIf_t (e' := [some E, some W2, none]) (by simp [hEf, hlen, k0, k0'])).trans (sRet_c _ _))]
      exact ⟨_, by rw [show isRest ms = false by simp [isRest, k0]]⟩
    · have k0' : ¬ (ms.length : Int) = 0 := fun z => k0 (hn0.mp z)
      by_cases k1 : 1 < (ks ms).count .be
      · have k1' : (1 : Int) < ((ks ms).count .be : Nat) := by omega
        rw [sSeq_rt ((sIf_t (e' := [some E, some W, none]) (by simp [hEf, hlen, k0, k0', hWm, hWt, hW2, hWf, hcnt, k1, k1'])).trans (sRet_c _ _))]
        exact ⟨_, by rw [show isRest ms = false by simp [isRest, k1]]⟩
      · have k1' : ¬ (1 : Int) < ((ks ms).count .be : Nat) := by omega
        rw [sSeq_nx ((sIf_f (e' := [some E, some W, none]) (by simp [hEf, hlen, k0, k0', hWm, hWt, hW2, hWf, hcnt, k1, k1'])).trans rfl)]
        by_cases k2 : (ks ms).count .be = 1
        · have k2' : (((ks ms).count .be : Nat) : Int) = 1 := by omega
          rw [sSeq_rt ((sIf_t (e' := [some E, some W, none]) (by simp [hWm, hWt, hWf, hcnt, k2'])).trans (sRet_of (by simp [hEf, ham]; exact ⟨rfl, rfl⟩)))]
          exact ⟨_, by rw [show isRest ms = areMarks ms by simp [isRest, k0, k1, k2]]⟩
        · have k2' : ¬ (((ks ms).count .be : Nat) : Int) = 1 := by omega
          rw [sSeq_nx ((sIf_f (e' := [some E, some W, none]) (by simp [hWm, hWt, hWf, hcnt, k2'])).trans rfl)]
          have e : isRest ms = (decide (ms.length < 10) && ms.all fun m => m.1 == .go && isName m.2) := by simp [isRest, k0, k1, k2]
          rw [e]
          by_cases k3 : ms.length < 10
          · have k3' : (ms.length : Int) < 10 := by omega
            exact ⟨_, sRet_of (by simp only [mAndV_ap, m2_ap, mCall_ap, mCons_ap, mNil_ap, mV_ap, mC_ap, List.getElem?_cons_zero, List.set_cons_zero, hEf, fzs_cons, fzs_nil, one_ap, hlen, ofO_some, fz_int, lt_int, k3', decide_true, truth_bl, c2, if_true, fz_lst, hf3, hall, k3, Bool.true_and]; rfl)⟩
          · have k3' : ¬ (ms.length : Int) < 10 := by omega
            exact ⟨_, sRet_of (by simp only [mAndV_ap, m2_ap, mCall_ap, mCons_ap, mNil_ap, mV_ap, mC_ap, List.getElem?_cons_zero, List.set_cons_zero, hEf, fzs_cons, fzs_nil, one_ap, hlen, ofO_some, fz_int, lt_int, k3', decide_false, truth_bl, k3, Bool.false_and, Bool.false_eq_true, if_false]; rfl)⟩
  obtain ⟨e, h⟩ := fin
  exact fn_rt h
theorem goings_eq (ms : List Mark) (hl : ms.length ≤ 1000) : f_goings [.tup (ms.map encM)] = .ok (.lst true ((ms.filter fun m => m.1 == .go).map fun m => .str (S m.2))) .non := by
  have c : q_goings_1 [some (.tup (ms.map encM)), none, none] = .ok (.lst true ((ms.filter fun m => m.1 == .go).map fun m => .str (S m.2))) [some (.tup (ms.map encM)), none, none] :=
    mComp_gen (g := gTp [gNm 1, gNm 2]) (vs := [1, 2]) (enc := encM) (env1 := [some (.tup (ms.map encM)), none, none]) (by simp) (fun m hm => ⟨[some (.tup (ms.map encM)), some (.str m.1.t), some (.str (S m.2))], [some (.tup (ms.map encM)), some (.str m.1.t), some (.str (S m.2))], rfl, by
      have h2 := eq_go m.1
      rw [eq_str] at h2
      simp only [Option.some.injEq, D.bl.injEq] at h2
      simp [h2], rfl, fun _ => ⟨[some (.tup (ms.map encM)), some (.str m.1.t), some (.str (S m.2))], by simp, rfl⟩⟩) (by omega)
  exact fn_rt (sRet_of c)
def beName (ms : List Mark) : List Nat := match ms.find? (fun m => m.1 == .be) with | some m => m.2 | none => []
theorem be_name_eq (ms : List Mark) : f_be_name [.tup (ms.map encM)] = .ok (.str (S (beName ms))) .non := by
  have lp : ∀ (l : List Mark) (E : D) (x y : Option D), (∃ e, forS (gTp [gNm 1, gNm 2]) b_be_name_1 (l.map encM) [some E, x, y] = (match l.find? (fun m => m.1 == .be) with | some m => SRes.rt (.str (S m.2)) e | none => .nx e) ∧ (l.find? (fun m => m.1 == .be) = none → ∃ x y, e = [some E, x, y])) := by
    intro l
    induction l with
    | nil => intro E x y; exact ⟨_, rfl, fun _ => ⟨x, y, rfl⟩⟩
    | cons m l ih =>
      intro E x y
      have g0 : gTp [gNm 1, gNm 2] (encM m) [some E, x, y] = some [some E, some (.str m.1.t), some (.str (S m.2))] := rfl
      rw [List.map_cons]
      unfold forS
      simp only [g0]
      have h2 := eq_t m.1 .be
      rw [eq_str] at h2
      simp only [Option.some.injEq, D.bl.injEq] at h2
      have h2' : (m.1.t == Str.ofString "be") = (m.1 == .be) := h2
      cases k : m.1 == K4.be with
      | true =>
        have b0 : b_be_name_1 [some E, some (.str m.1.t), some (.str (S m.2))] = .rt (.str (S m.2)) [some E, some (.str m.1.t), none] := by
          simp [b_be_name_1, h2', k]
        simp only [b0, List.find?_cons, k]
        exact ⟨_, rfl, fun h => by cases h⟩
      | false =>
        have b0 : b_be_name_1 [some E, some (.str m.1.t), some (.str (S m.2))] = .nx [some E, some (.str m.1.t), some (.str (S m.2))] := by
          simp [b_be_name_1, h2', k]
        simp only [b0, List.find?_cons, k]
        exact ih E _ _
  obtain ⟨e, h1, h2⟩ := lp ms (.tup (ms.map encM)) none none
  have it : mItems (mV 0) [some (.tup (ms.map encM)), none, none] = .ok (ms.map encM) [some (.tup (ms.map encM)), none, none] := by simp
  unfold f_be_name
  cases k : ms.find? (fun m => m.1 == .be) with
  | some m =>
    rw [k] at h1
    rw [show beName ms = m.2 by simp [beName, k]]
    refine fn_rt (e := e) ?_
    unfold m_be_name
    exact sSeq_rt (by rw [sFor_ap]; simp only [List.map_cons, List.map_nil, List.length_cons, List.length_nil, List.replicate, List.cons_append, List.nil_append]; exact (show (match mItems (mV 0) [some (.tup (ms.map encM)), none, none] with | .ok items e => forS _ _ items e | .exc x e => .exc x e | .bad => .bad) = _ by rw [it]; exact h1))
  | none =>
    rw [k] at h1
    rw [show beName ms = [] by simp [beName, k]]
    obtain ⟨x, y, rfl⟩ := h2 k
    refine fn_rt (e := [some (.tup (ms.map encM)), x, y]) ?_
    unfold m_be_name
    refine (sSeq_nx (e' := [some (.tup (ms.map encM)), x, y]) ?_).trans rfl
    rw [sFor_ap]
    simp only [List.map_cons, List.map_nil, List.length_cons, List.length_nil, List.replicate, List.cons_append, List.nil_append]
    exact (show (match mItems (mV 0) [some (.tup (ms.map encM)), none, none] with | .ok items e => forS _ _ items e | .exc x e => .exc x e | .bad => .bad) = _ by rw [it]; exact h1)
theorem sum_le {l : List Nat} {k : Nat} (h : ∀ x ∈ l, x ≤ k) : l.sum ≤ l.length * k := by
  induction l with
  | nil => simp
  | cons x l ih =>
    have h1 := h x List.mem_cons_self
    have h2 := ih fun y hy => h y (List.mem_cons_of_mem _ hy)
    simp only [List.sum_cons, List.length_cons, Nat.add_mul, Nat.one_mul]
    omega
theorem mText_len (m : Mark) (h : m.2.length ≤ 1000) : (mText m).length ≤ 1001 := by
  have := s_len m.1
  simp only [mText, List.length_append]; omega
theorem join_marks (ms : List Mark) (hl : ms.length ≤ 1000) (hn : ∀ m ∈ ms, m.2.length ≤ 1000) : dJoin (.str " ") (.lst false (ms.map fun m => .str (S (mText m)))) = some (.str (S (TL.joinL [32] (ms.map mText)))) := by
  rw [show (D.str " ") = .str (S [32]) from rfl, join_lst]
  · rw [show (ms.map fun m => S (mText m)) = (ms.map mText).map S by rw [List.map_map]; rfl, SX.join_S]
  · have h1 : ((ms.map fun m => S (mText m)).map (·.length)).sum ≤ 1000 * 1001 := by
      rw [List.map_map]
      refine Nat.le_trans (sum_le (k := 1001) fun x hx => ?_) ?_
      · obtain ⟨m, hm, rfl⟩ := List.mem_map.mp hx
        simpa using mText_len m (hn m hm)
      · rw [List.length_map]; exact Nat.mul_le_mul_right _ hl
    simp only [List.length_map, S_len', List.length_cons, List.length_nil]
    omega
theorem marks_text_eq (ms : List Mark) (hl : ms.length ≤ 1000) (hn : ∀ m ∈ ms, m.2.length ≤ 1000) : f_marks_text [.tup (ms.map encM)] = .ok (.str (S (TL.joinL [32] (ms.map mText)))) .non := by
  have c : q_marks_text_1 [some (.tup (ms.map encM)), none] = .ok (.lst true (ms.map fun m => .str (S (mText m)))) [some (.tup (ms.map encM)), none] :=
    mComp_a1 (i := 1) (enc := encM) (env1 := [some (.tup (ms.map encM)), none]) (by simp) (by simp) (fun m hm => by simp [mark_text_eq m (hn m hm)]) (by omega)
  refine fn_rt (e := [some (.tup (ms.map encM)), none]) (sRet_of ?_)
  have hj := join_marks ms hl hn
  show mMeth "str" (arg1 dJoin) (mC (.str " ")) (mCons q_marks_text_1 mNil) [some (.tup (ms.map encM)), none] = _
  simp [c, hj]
end VL


set_option Elab.async false
set_option linter.all false
set_option maxRecDepth 100000
set_option maxHeartbeats 4000000
namespace VL
open PySem PySem.Spec L2 SX
open PyProof.Rows hiding St
/-- a comprehension whose element answers or raises -/
theorem compLX_opt {α β : Type} {i : Nat} {tt : M Bool} {te : M D} {enc : α → D} {p : α → Bool} {f : α → Option β} {encB : β → D} {X : Ex} {env : Env} (hi : i < env.length) (hn : env.set i none = env) : ∀ (items : List α) (acc : List D),
    (∀ x ∈ items, tt (env.set i (some (enc x))) = .ok (p x) (env.set i (some (enc x)))) → (∀ x ∈ items, p x = true → te (env.set i (some (enc x))) = match f x with | some y => .ok (encB y) (env.set i (some (enc x))) | none => .exc X (env.set i (some (enc x)))) → acc.length + items.length ≤ 16777216 →
    compLX (gNm i) tt te [i] (items.map enc) acc env = match (items.filter p).mapM f with | some ys => .ok (.lst true (acc ++ ys.map encB)) env | none => .exc X env
  | [], acc, _, _, _ => by simp [compLX]
  | x :: items, acc, ht, he, hz => by
    have ih := fun acc' hz' => compLX_opt hi hn items acc' (fun y hy => ht y (List.mem_cons_of_mem _ hy)) (fun y hy => he y (List.mem_cons_of_mem _ hy)) hz'
    have h1 := ht x List.mem_cons_self
    have w : wipeE (env.set i (some (enc x))) [i] = env := by show (env.set i _).set i none = env; simp [hn]
    simp only [List.length_cons] at hz
    rw [List.map_cons]
    unfold compLX
    rw [gNm_ap, if_pos hi]
    simp only [h1]
    cases hp : p x with
    | false =>
      simp only [Bool.false_eq_true, if_false, w]
      rw [ih acc (by omega), List.filter_cons_of_neg (by simp [hp])]
    | true =>
      have h2 := he x List.mem_cons_self hp
      rw [List.filter_cons_of_pos (by simp [hp])]
      simp only [if_true, h2]
      cases hf : f x with
      | none => simp [hf, w]
      | some y =>
        simp only [w]
        rw [if_pos (by rw [sizeLine_eq]; omega), ih _ (by rw [List.length_append, List.length_singleton]; omega)]
        simp only [List.mapM_cons, hf, Option.bind_eq_bind, Option.bind_some, Option.pure_def]
        cases (List.filter p items).mapM f <;> simp
theorem wordsA_len : ∀ (l acc : List Nat), (∀ w ∈ wordsA acc l, w.length ≤ acc.length + l.length) ∧ (wordsA acc l).length ≤ l.length + 1
  | [], acc => by
    unfold wordsA
    split <;> simp
  | c :: r, acc => by
    unfold wordsA
    split
    · obtain ⟨h1, h2⟩ := wordsA_len r []
      split
      · refine ⟨fun w hw => ?_, by simp; omega⟩
        have := h1 w hw
        simp at this ⊢; omega
      · refine ⟨fun w hw => ?_, by simp; omega⟩
        rcases List.mem_cons.mp hw with rfl | hw
        · simp
        · have := h1 w hw
          simp at this ⊢; omega
    · obtain ⟨h1, h2⟩ := wordsA_len r (acc ++ [c])
      refine ⟨fun w hw => ?_, by simp; omega⟩
      have := h1 w hw
      simp at this ⊢; omega
theorem readMark_len {l : List Nat} {m : Mark} (h : readMark l = some m) : m.2.length ≤ l.length := by
  unfold readMark at h
  split at h
  · cases h; simp
  · split at h
    · cases h; simp
    · split at h
      · cases h; simp
      · split at h
        · cases h; simp
        · cases h
/-- the marks that a text says -/
def readMarks (l : List Nat) : Option (List Mark) := ((wordsOf l).mapM readMark).bind fun ms => if areMarks ms then some ms else none
theorem mapM_len {α β : Type} {f : α → Option β} : ∀ {l : List α} {ys : List β}, l.mapM f = some ys → ys.length = l.length ∧ ∀ y ∈ ys, ∃ x ∈ l, f x = some y
  | [], ys, h => by simp at h; subst h; simp
  | x :: l, ys, h => by
    simp only [List.mapM_cons, Option.bind_eq_bind, Option.bind_eq_some_iff, Option.pure_def, Option.some.injEq] at h
    obtain ⟨y, h1, zs, h2, rfl⟩ := h
    obtain ⟨h3, h4⟩ := mapM_len h2
    refine ⟨by simp [h3], fun w hw => ?_⟩
    rcases List.mem_cons.mp hw with rfl | hw
    · exact ⟨x, List.mem_cons_self, h1⟩
    · obtain ⟨z, hz, e⟩ := h4 w hw
      exact ⟨z, List.mem_cons_of_mem _ hz, e⟩
theorem read_marks_eq (l : List Nat) (h : l.length ≤ 900) : f_read_marks [.str (S l)] = match readMarks l with | some ms => .ok (.tup (ms.map encM)) .non | none => .exc ⟨"BadMarks", [], []⟩ .non := by
  have hw : (TL.spl [32] 0 [] l).filter (fun w => decide (w ≠ [])) = wordsOf l := words_spl l []
  obtain ⟨wl1, wl2⟩ := wordsA_len l []
  have hsl : ∀ w ∈ TL.spl [32] 0 [] l, w.length ≤ 900 := fun w hw' => by
    by_cases e : w = []
    · subst e; simp
    · have : w ∈ wordsOf l := by rw [← hw]; exact List.mem_filter.mpr ⟨hw', by simpa using e⟩
      have := wl1 w this
      simp at this; omega
  have hnl : (TL.spl [32] 0 [] l).length ≤ 16777216 := by
    have : ∀ (l acc : List Nat), (TL.spl [32] 0 acc l).length ≤ l.length + 1 := by
      intro l
      induction l with
      | nil => intro acc; rw [TL.spl_nil]; simp
      | cons c r ih =>
        intro acc
        by_cases q : c = 32
        · rw [TL.spl_hit (by rw [pre1]; simpa using q)]
          have := ih []
          simp only [List.length_cons] at this ⊢
          show (TL.spl [32] 0 [] r).length + 1 ≤ _
          omega
        · rw [TL.spl_miss (by rw [pre1]; simpa using q)]
          have := ih (acc ++ [c])
          simp only [List.length_cons]; omega
    have := this l []
    omega
  have hsp : dSplit (.str (S l)) (.str " ") = some (.lst true ((TL.spl [32] 0 [] l).map fun w => .str (S w))) := by
    rw [show (D.str " ") = .str (S [32]) from rfl, split_str (by decide) (by simp; omega), split_S32, List.map_map]
    rfl
  let E : Env := [some (.str (S l)), none, none]
  have hit : mItems (mMeth "str" (arg1 dSplit) (mV 0) (mCons (mC (.str " ")) mNil)) E = .ok ((TL.spl [32] 0 [] l).map fun w => .str (S w)) E := by
    simp [E, hsp]
  have hc : q_read_marks_1 E = match (wordsOf l).mapM readMark with | some ms => .ok (.lst true (ms.map encM)) E | none => .exc ⟨"BadMarks", [], []⟩ E := by
    unfold q_read_marks_1 mCompX
    rw [bind_ok hit]
    show compLX (gNm 2) _ _ [2] _ [] E = _
    rw [compLX_opt (α := List Nat) (enc := fun w => .str (S w)) (p := fun w => decide (w ≠ [])) (f := readMark) (encB := encM) (X := ⟨"BadMarks", [], []⟩) (by simp [E]) (by simp [E]) _ []
      (fun w hw' => by
        show mBl (m2 dNe (mV 2) (mC (.str ""))) [some (.str (S l)), none, some (.str (S w))] = .ok (decide (w ≠ [])) [some (.str (S l)), none, some (.str (S w))]
        rw [show (D.str "") = .str (S []) from rfl]
        simp [ne_str])
      (fun w hw' _ => by
        show mCall' 1 f_read_mark (mCons (mV 2) mNil) [some (.str (S l)), none, some (.str (S w))] = _
        have := read_mark_eq w (by have := hsl w hw'; omega)
        simp only [mCall'_ap, mCons_ap, mNil_ap, mV_ap, List.getElem?_cons_succ, List.getElem?_cons_zero, fz_str, List.set_cons_succ, List.set_cons_zero, List.length_cons, List.length_nil, if_true, fzs_cons, fzs_nil, callF_ap, this]
        cases readMark w <;> rfl)
      (by simpa using hnl), hw]
    cases (wordsOf l).mapM readMark <;> simp
  unfold readMarks
  cases k : (wordsOf l).mapM readMark with
  | none =>
    rw [k] at hc
    refine fn_exc (e := E) ?_
    unfold m_read_marks
    exact sSeq_exc (by show sSet _ _ E = _; simp only [sSet_ap, mCall_ap, mCons_ap, hc])
  | some ms =>
    rw [k] at hc
    obtain ⟨k1, k2⟩ := mapM_len k
    have hb : ms.length ≤ 1000 := by rw [k1]; show (wordsA [] l).length ≤ 1000; omega
    have hn : ∀ m ∈ ms, m.2.length ≤ 1000 := fun m hm => by
      obtain ⟨w, hw', e⟩ := k2 m hm
      have h1 := readMark_len e
      have h2 := wl1 w hw'
      simp at h2; omega
    have ham := are_marks_eq ms hb hn
    have s1 : sSet (gNm 1) (mCall (one dTuple) (mCons q_read_marks_1 mNil)) E = .nx [some (.str (S l)), some (.tup (ms.map encM)), none] := by
      simp only [sSet_ap, mCall_ap, mCons_ap, mNil_ap, hc, fzs_cons, fzs_nil, fz_lst, fzs_encM, one_ap, tuple_lst, ofO_some, gNm_ap, E]
      rfl
    simp only [Option.bind_some]
    cases k3 : areMarks ms with
    | true =>
      simp only [if_true]
      refine fn_rt (e := [some (.str (S l)), none, none]) ?_
      unfold m_read_marks
      refine (sSeq_nx s1).trans ((sSeq_nx (e' := [some (.str (S l)), some (.tup (ms.map encM)), none]) ((sIf_f (e' := [some (.str (S l)), some (.tup (ms.map encM)), none]) (by simp [ham, k3])).trans rfl)).trans rfl)
    | false =>
      simp only [Bool.false_eq_true, if_false]
      refine fn_exc (e := [some (.str (S l)), some (.tup (ms.map encM)), none]) ?_
      unfold m_read_marks
      exact (sSeq_nx s1).trans (sSeq_exc ((sIf_t (e' := [some (.str (S l)), some (.tup (ms.map encM)), none]) (by simp [ham, k3])).trans rfl))
end VL


set_option Elab.async false
set_option linter.all false
set_option maxRecDepth 100000
set_option maxHeartbeats 4000000
namespace VL
open PySem PySem.Spec L2 SX
open PyProof.Rows hiding St
theorem isName_mem {n : List Nat} (h : isName n = true) : (∀ c ∈ n, isLet c = true ∨ isDig c = true) ∧ 1 ≤ n.length ∧ n.length ≤ 8 ∧ ∃ c r, n = c :: r ∧ isLet c = true := by
  simp only [isName, Bool.and_eq_true, decide_eq_true_eq, List.all_eq_true, Bool.or_eq_true] at h
  obtain ⟨⟨⟨h1, h2⟩, h3⟩, h4⟩ := h
  refine ⟨h4, h1, h2, ?_⟩
  cases n with
  | nil => simp at h1
  | cons c r => exact ⟨c, r, rfl, h3⟩
theorem isName_all {n : List Nat} (p : Nat → Bool) (hp : (lets.all p && digs.all p) = true) (h : isName n = true) : ∀ c ∈ n, p c = true := fun c hc => by
  rw [Bool.and_eq_true, List.all_eq_true, List.all_eq_true] at hp
  rcases (isName_mem h).1 c hc with q | q
  · exact hp.1 c (by simpa [isLet] using q)
  · exact hp.2 c (by simpa [isDig] using q)
theorem isName_free {n : List Nat} (h : isName n = true) : 32 ∉ n := fun z => by
  have := isName_all (fun c => c != 32) (by decide +kernel) h 32 z
  simp at this
theorem isName_ok {n : List Nat} (h : isName n = true) : PyData.strOk (S n) = true := by
  unfold PyData.strOk
  rw [← Array.all_toList, S_cps, List.all_eq_true]
  intro c hc
  exact isName_all (fun c => decide (c < 0x110000)) (by decide +kernel) h c hc
theorem isLet_ne {c : Nat} (h : isLet c = true) : c ≠ 61 ∧ c ≠ 43 ∧ c ≠ 45 := by
  have hp : (lets.all fun c => c != 61 && c != 43 && c != 45) = true := by decide +kernel
  have := List.all_eq_true.mp hp c (by simpa [isLet] using h)
  simp at this
  exact ⟨this.1.1, this.1.2, this.2⟩
theorem read_text (m : Mark) (h : isName m.2 = true) : readMark (mText m) = some m := by
  obtain ⟨k, n⟩ := m
  obtain ⟨_, _, _, c, r, rfl, hc⟩ := isName_mem h
  obtain ⟨n1, n2, n3⟩ := isLet_ne hc
  cases k <;> simp_all [readMark, mText, K4.s]
theorem text_free (m : Mark) (h : isName m.2 = true) : 32 ∉ mText m := by
  have := isName_free h
  cases hk : m.1 <;> simp [mText, hk, K4.s, this]
theorem text_ne (m : Mark) (h : isName m.2 = true) : mText m ≠ [] := by
  obtain ⟨_, h1, _⟩ := isName_mem h
  intro e
  have := (List.append_eq_nil_iff.mp e).2
  rw [this] at h1
  simp at h1
/-- rows whose names are names -/
def GoodN (ms : List Mark) : Prop := ∀ m ∈ ms, isName m.2 = true
theorem mapM_texts : ∀ {ms : List Mark}, GoodN ms → (ms.map mText).mapM readMark = some ms
  | [], _ => by simp
  | m :: ms, h => by
    simp [read_text m (h m List.mem_cons_self), mapM_texts fun x hx => h x (List.mem_cons_of_mem _ hx)]
theorem words_texts {ms : List Mark} (h : GoodN ms) {z s : List Nat} (hz : z ≠ []) (h1 : ∀ c ∈ z, c = 32) (hs : ∀ c ∈ s, c = 32) : wordsOf (TL.joinL z (ms.map mText) ++ s) = ms.map mText := by
  rw [words_join hz h1 hs _ (fun p hp => by obtain ⟨m, hm, rfl⟩ := List.mem_map.mp hp; exact text_free m (h m hm))]
  refine List.filter_eq_self.mpr fun p hp => ?_
  obtain ⟨m, hm, rfl⟩ := List.mem_map.mp hp
  simpa using text_ne m (h m hm)
theorem readMarks_texts {ms : List Mark} (h : GoodN ms) {l : List Nat} (hl : wordsOf l = ms.map mText) : readMarks l = if areMarks ms then some ms else none := by
  unfold readMarks
  rw [hl, mapM_texts h]
  rfl
theorem refused0 (l : List Nat) (h : l.length ≤ 16777216) : f__law_refused [.int 0, .str (S l)] = .ok (.bl (readMark l).isNone) .non := by
  have e := read_mark_eq l h
  cases k : readMark l with
  | none =>
    rw [k] at e
    simp -implicitDefEqProofs [f__law_refused, fnS_ap, m__law_refused, e, isX, ioOut]
  | some m =>
    rw [k] at e
    simp -implicitDefEqProofs [f__law_refused, fnS_ap, m__law_refused, e, isX, ioOut]
theorem refused1 (l : List Nat) (h : l.length ≤ 900) : f__law_refused [.int 1, .str (S l)] = .ok (.bl (readMarks l).isNone) .non := by
  have e := read_marks_eq l h
  cases k : readMarks l with
  | none =>
    rw [k] at e
    simp -implicitDefEqProofs [f__law_refused, fnS_ap, m__law_refused, e, isX, ioOut]
  | some m =>
    rw [k] at e
    simp -implicitDefEqProofs [f__law_refused, fnS_ap, m__law_refused, e, isX, ioOut]
/-- a row that can stand at a word: fronts, one be, goings -/
def Good (ms : List Mark) : Prop := GoodN ms ∧ ∃ f n g, ms = f ++ ((K4.be, n) :: g) ∧ f.length ≤ 3 ∧ g.length ≤ 2 ∧ (∀ m ∈ f, m.1 = .want ∨ m.1 = .pull) ∧ ∀ m ∈ g, m.1 = .go
def encN (l : List (List Nat)) : D := .lst false (l.map fun n => .str (S n))
@[simp] theorem encN_fz (l : List (List Nat)) : (encN l).fz = encN l := by simp [encN]
theorem pick_name (d : D) (hd : IsS d) (l : List (List Nat)) (h0 : l ≠ []) (h1 : l.length ≤ 1000) : ∃ n d', n ∈ l ∧ IsS d' ∧ f__law_pick [d, encN l] = .ok (.str (S n)) d' := by
  obtain ⟨x, d', hx, hd', e⟩ := pick_eq d hd (encN l) (l.map fun n => .str (S n)) (encN_fz l) (.inl rfl) (by simpa using h0) (by rw [List.length_map]; omega)
  obtain ⟨n, hn, rfl⟩ := List.mem_map.mp hx
  exact ⟨n, d', hn, hd', e⟩
theorem law_marks_eq (d : D) (hd : IsS d) (l : List (List Nat)) (h0 : l ≠ []) (h1 : l.length ≤ 1000) (hn : ∀ n ∈ l, isName n = true) : ∃ ms d', Good ms ∧ IsS d' ∧ f__law_marks [d, encN l, encN l] = .ok (.tup (ms.map encM)) d' := by
  have htr : (encN l).truth = some true := by
    cases l with
    | nil => exact absurd rfl h0
    | cons a l => rfl
  generalize hN : encN l = N at *
  have hNf : N.fz = N := by rw [← hN]; simp
  have pk : ∀ d, IsS d → ∃ n d', isName n = true ∧ IsS d' ∧ f__law_pick [d, N] = .ok (.str (S n)) d' := fun d hd => by
    obtain ⟨n, d', h2, h3, h4⟩ := pick_name d hd l h0 h1
    rw [hN] at h4
    exact ⟨n, d', hn n h2, h3, h4⟩
  -- the fronts
  obtain ⟨v, d1, hv, hd1, e1⟩ := draw_eq d hd 4 (by omega) (by omega)
  have lp := forS_inv (g := gNm 4) (b := b__law_marks_1) (enc := fun i : Nat => D.int (i : Nat))
    (fun done e => ∃ (f : List Mark) (d' : D) (x y z : Option D), e = [some d', some N, some N, some (.lst true (f.map encM)), x, y, z] ∧ IsS d' ∧ f.length = done.length ∧ GoodN f ∧ ∀ m ∈ f, m.1 = .want ∨ m.1 = .pull)
    (List.range v) [] [some d1, some N, some N, some (.lst true []), none, none, none] ⟨[], d1, none, none, none, rfl, hd1, rfl, fun m hm => by simp at hm, fun m hm => by simp at hm⟩
    (fun done i e hi hlt ⟨f, d', x, y, z, he, hd', hfl, hg, hw⟩ => by
      subst he
      obtain ⟨w, d2, hw2, hd2, e2⟩ := draw_eq d' hd' 3 (by omega) (by omega)
      obtain ⟨n, d3, hn3, hd3, e3⟩ := pk d2 hd2
      have hfn : f.length < sizeLine := by
        rw [hfl, sizeLine_eq]
        simp at hlt
        omega
      refine ⟨[some d', some N, some N, some (.lst true (f.map encM)), some (.int (i : Nat)), y, z], [some d3, some N, some N, some (.lst true ((f ++ [if w = 1 then (K4.pull, n) else (K4.want, n)]).map encM)), some (.int (i : Nat)), y, some (.bl (decide (w = 1)))], rfl, .inl ?_, f ++ [if w = 1 then (K4.pull, n) else (K4.want, n)], d3, _, _, _, rfl, hd3, by simp [hfl], ?_, ?_⟩
      · have b1 : sSet (gNm 6) (mAndV (mV 2) (m2 dEq (mCallIO 2 f__law_draw 0 0 (mGuard 0 (mCons (mC (.int 3)) mNil))) (mC (.int 1)))) [some d', some N, some N, some (.lst true (f.map encM)), some (.int (i : Nat)), y, z] = .nx [some d2, some N, some N, some (.lst true (f.map encM)), some (.int (i : Nat)), y, some (.bl (decide (w = 1)))] := by
          have e2' : f__law_draw [d', .int 3] = .ok (.int w) d2 := e2
          have hb : (((w : Nat) : Int) == 1) = decide (w = 1) := by rw [Bool.eq_iff_iff]; simp; omega
          simp -implicitDefEqProofs [hNf, htr, e2', hb]
        have b2 : sEx (mMutL fAppend 3 (mCons (mIf (mTru (mV 6)) (mTup (mCons (mC (.str "pull")) (mCons (mCallIO 2 f__law_pick 0 0 (mGuard 0 (mCons (mV 2) mNil))) mNil))) (mTup (mCons (mC (.str "want")) (mCons (mCallIO 2 f__law_pick 0 0 (mGuard 0 (mCons (mV 1) mNil))) mNil)))) mNil)) [some d2, some N, some N, some (.lst true (f.map encM)), some (.int (i : Nat)), y, some (.bl (decide (w = 1)))] = .nx [some d3, some N, some N, some (.lst true ((f ++ [if w = 1 then (K4.pull, n) else (K4.want, n)]).map encM)), some (.int (i : Nat)), y, some (.bl (decide (w = 1)))] := by
          have hms : (mCons (mIf (mTru (mV 6)) (mTup (mCons (mC (.str "pull")) (mCons (mCallIO 2 f__law_pick 0 0 (mGuard 0 (mCons (mV 2) mNil))) mNil))) (mTup (mCons (mC (.str "want")) (mCons (mCallIO 2 f__law_pick 0 0 (mGuard 0 (mCons (mV 1) mNil))) mNil)))) mNil) [some d2, some N, some N, some (.lst true (f.map encM)), some (.int (i : Nat)), y, some (.bl (decide (w = 1)))] = .ok [encM (if w = 1 then (K4.pull, n) else (K4.want, n))] [some d3, some N, some N, some (.lst true (f.map encM)), some (.int (i : Nat)), y, some (.bl (decide (w = 1)))] := by
            by_cases hw1 : w = 1 <;> simp -implicitDefEqProofs [hNf, e3, hw1, encM, K4.t]
          refine sEx_of (d := .non) ?_
          rw [mutL_of (xs0 := f.map encM) (xs := f.map encM) rfl hms rfl (append_of (by rw [List.length_map, ← sizeLine_eq]; exact hfn))]
          simp
        unfold b__law_marks_1
        exact (sSeq_nx b1).trans b2
      · intro m hm
        rcases List.mem_append.mp hm with hm | hm
        · exact hg m hm
        · simp only [List.mem_singleton] at hm
          subst hm
          split <;> exact hn3
      · intro m hm
        rcases List.mem_append.mp hm with hm | hm
        · exact hw m hm
        · simp only [List.mem_singleton] at hm
          subst hm
          split
          · exact .inr rfl
          · exact .inl rfl)
  obtain ⟨e, hfor, f, d2, x, y, z, rfl, hd2, hfl, hg, hw⟩ := lp
  simp only [List.nil_append, List.length_range] at hfl
  -- the goings
  have h4 : ∃ (u : Nat) (d3 : D), u ≤ 2 ∧ IsS d3 ∧ f__law_pick [d2, .lst false [.int 0, .int 1, .int 0, .int 2]] = .ok (.int u) d3 := by
    obtain ⟨r, d3, hr, hd3, e3⟩ := pick_eq d2 hd2 (.lst false [.int 0, .int 1, .int 0, .int 2]) [.int 0, .int 1, .int 0, .int 2] rfl (.inl rfl) (by simp) (by simp)
    simp only [List.mem_cons, List.not_mem_nil, or_false] at hr
    rcases hr with rfl | rfl | rfl | rfl
    · exact ⟨0, d3, by omega, hd3, e3⟩
    · exact ⟨1, d3, by omega, hd3, e3⟩
    · exact ⟨0, d3, by omega, hd3, e3⟩
    · exact ⟨2, d3, by omega, hd3, e3⟩
  obtain ⟨u, d3, hu, hd3, e3⟩ := h4
  have hit : mRange1 (mCallIO 2 f__law_pick 0 0 (mGuard 0 (mCons (mLst (mCons (mC (.int 0)) (mCons (mC (.int 1)) (mCons (mC (.int 0)) (mCons (mC (.int 2)) mNil))))) mNil))) [some d2, some N, some N, some (.lst true (f.map encM)), x, y, z] = .ok ((List.range u).map fun i => .int (i : Nat)) [some d3, some N, some N, some (.lst true (f.map encM)), x, y, z] := by
    have hb : -(2 ^ 62) ≤ (u : Int) ∧ (u : Int) < 2 ^ 62 := by omega
    simp -implicitDefEqProofs [e3]
    omega
  have lc := compL_inv (g := gNm 4) (vs := [4]) (tt := M.pure true) (te := mTup (mCons (mC (.str "go")) (mCons (mCallIO 2 f__law_pick 0 0 (mGuard 0 (mCons (mV 2) mNil))) mNil))) (enc := fun i : Nat => D.int (i : Nat))
    (fun done e acc => ∃ (g : List Mark) (d' : D), e = [some d', some N, some N, some (.lst true (f.map encM)), none, y, z] ∧ acc = g.map encM ∧ IsS d' ∧ g.length = done.length ∧ GoodN g ∧ ∀ m ∈ g, m.1 = .go)
    (List.range u) [] [] [some d3, some N, some N, some (.lst true (f.map encM)), none, y, z] ⟨[], d3, rfl, rfl, hd3, rfl, fun m hm => by simp at hm, fun m hm => by simp at hm⟩
    (fun done i e acc hi hlt ⟨g, d', he, ha, hd', hgl, hgg, hgo⟩ => by
      subst he ha
      obtain ⟨n, d4, hn4, hd4, e4⟩ := pk d' hd'
      refine ⟨[some d', some N, some N, some (.lst true (f.map encM)), some (.int (i : Nat)), y, z], _, true, rfl, rfl, (fun q => by cases q), fun _ => ⟨encM (.go, n), [some d4, some N, some N, some (.lst true (f.map encM)), some (.int (i : Nat)), y, z], ?_, g ++ [(.go, n)], d4, rfl, by simp, hd4, by simp [hgl], ?_, ?_⟩⟩
      · simp -implicitDefEqProofs [hNf, e4, encM, K4.t]
      · intro m hm
        rcases List.mem_append.mp hm with hm | hm
        · exact hgg m hm
        · simp only [List.mem_singleton] at hm
          subst hm; exact hn4
      · intro m hm
        rcases List.mem_append.mp hm with hm | hm
        · exact hgo m hm
        · simp only [List.mem_singleton] at hm
          subst hm; rfl)
    (by simp; omega)
  obtain ⟨acc, e, hcl, g, d4, rfl, rfl, hd4, hgl, hgg, hgo⟩ := lc
  simp only [List.nil_append, List.length_range] at hgl
  have hq : q__law_marks_1 [some d2, some N, some N, some (.lst true (f.map encM)), x, y, z] = .ok (.lst true (g.map encM)) [some d4, some N, some N, some (.lst true (f.map encM)), none, y, z] := by
    unfold q__law_marks_1 mComp
    rw [bind_ok hit]
    exact hcl
  obtain ⟨n, d5, hn5, hd5, e5⟩ := pk d4 hd4
  refine ⟨f ++ ((.be, n) :: g), d5, ⟨?_, f, n, g, rfl, by omega, by omega, hw, hgo⟩, hd5, fnIO_rt (e := [some d5, some N, some N, some (.lst false (f.map encM)), none, some (.lst false (g.map encM)), z]) ?_ rfl⟩
  · intro m hm
    rcases List.mem_append.mp hm with hm | hm
    · exact hg m hm
    · rcases List.mem_cons.mp hm with rfl | hm
      · exact hn5
      · exact hgg m hm
  · have hit0 : mRange1 (mCallIO 2 f__law_draw 0 0 (mGuard 0 (mCons (mC (.int 4)) mNil))) [some d, some N, some N, some (.lst true []), none, none, none] = .ok ((List.range v).map fun i => .int (i : Nat)) [some d1, some N, some N, some (.lst true []), none, none, none] := by
      have e1' : f__law_draw [d, .int 4] = .ok (.int v) d1 := e1
      have hb : -(2 ^ 62) ≤ (v : Int) ∧ (v : Int) < 2 ^ 62 := by omega
      simp -implicitDefEqProofs [e1']
      omega
    unfold m__law_marks
    refine (sSeq_nx (e' := [some d, some N, some N, some (.lst true []), none, none, none]) rfl).trans ?_
    refine (sSeq_nx (e' := [some d2, some N, some N, some (.lst true (f.map encM)), x, y, z]) ?_).trans ?_
    · rw [sFor_ap, hit0]
      exact hfor
    refine (sSeq_nx (e' := [some d4, some N, some N, some (.lst true (f.map encM)), none, some (.lst true (g.map encM)), z]) ?_).trans ?_
    · refine (sSet_nm (d := .lst true (g.map encM)) (e' := [some d4, some N, some N, some (.lst true (f.map encM)), none, y, z]) ?_ (by simp)).trans rfl
      rw [mIf_ap]
      have ht : mTru (mV 2) [some d2, some N, some N, some (.lst true (f.map encM)), x, y, z] = .ok true [some d2, some N, some N, some (.lst true (f.map encM)), x, y, z] := by
        simp -implicitDefEqProofs [hNf, htr]
      rw [ht]
      exact hq
    · refine sRet_of ?_
      have a1 : dAdd (.lst false (f.map encM)) (.lst false [encM (.be, n)]) = some (.lst true (f.map encM ++ [encM (.be, n)])) := add_lst (by simp; omega)
      have a2 : dAdd (.lst false (f.map encM ++ [encM (.be, n)])) (.lst false (g.map encM)) = some (.lst true (f.map encM ++ [encM (.be, n)] ++ g.map encM)) := add_lst (by simp; omega)
      have hbe : encM (.be, n) = .tup [.str "be", .str (S n)] := rfl
      have h1 : m2 dAdd (mV 3) (mLst (mCons (mTup (mCons (mC (.str "be")) (mCons (mCallIO 2 f__law_pick 0 0 (mGuard 0 (mCons (mV 1) mNil))) mNil))) mNil)) [some d4, some N, some N, some (.lst true (f.map encM)), none, some (.lst true (g.map encM)), z] = .ok (.lst true (f.map encM ++ [encM (.be, n)])) [some d5, some N, some N, some (.lst false (f.map encM)), none, some (.lst true (g.map encM)), z] := by
        rw [hbe] at a1 ⊢
        simp -implicitDefEqProofs [hNf, e5, a1]
      have h2 := m2_of (g := dAdd) h1 (mV_of (i := 5) (d := .lst true (g.map encM)) rfl) (d := .lst true (f.map encM ++ [encM (.be, n)] ++ g.map encM)) (by simpa using a2)
      rw [call1_of h2 (d := .tup ((f ++ ((K4.be, n) :: g)).map encM)) (by simp)]
      simp
end VL


set_option Elab.async false
set_option linter.all false
set_option maxRecDepth 100000
set_option maxHeartbeats 4000000
namespace VL
open PySem PySem.Spec L2 SX
open PyProof.Rows hiding St

/-! ### the law's own body: one row -/
def pyM (m : Mark) : PyData := .tuple [.str m.1.t, .str (S m.2)]
theorem encM_py (m : Mark) : (encM m).py = some (pyM m) := rfl
def okN (n : List Nat) : Bool := PyData.strOk (S n)
theorem pyM_sh {m : Mark} (h : okN m.2 = true) : PyData.canLay0 (pyM m) = true ∧ PyData.depth (pyM m) = 1 := by
  have h' : PyData.strOk (S m.2) = true := h
  simp [pyM, PyData.canLay0, PyData.canLayAll0, PyData.depth, PyData.depthAll, t_ok, h']
theorem pyMs_sh : ∀ {ms : List Mark}, (∀ m ∈ ms, okN m.2 = true) → PyData.canLayAll0 (ms.map pyM) = true ∧ PyData.depthAll (ms.map pyM) ≤ 1
  | [], _ => by simp [PyData.canLayAll0, PyData.depthAll]
  | m :: ms, h => by
    obtain ⟨h1, h2⟩ := pyM_sh (h m List.mem_cons_self)
    obtain ⟨h3, h4⟩ := pyMs_sh fun x hx => h x (List.mem_cons_of_mem _ hx)
    simp only [List.map_cons, PyData.canLayAll0, h1, h3, Bool.and_self, PyData.depthAll, h2, true_and]
    omega
theorem pyM_eqv (a b : Mark) : PyData.eqv (pyM a) (pyM b) = decide (a = b) := by
  obtain ⟨k, n⟩ := a
  obtain ⟨j, m⟩ := b
  have h1 : (k.t == j.t) = (k == j) := t_beq k j
  have h2 : ((S n) == (S m)) = decide (n = m) := S_eq n m
  simp only [pyM, PyData.eqv, PyData.eqvAll, h1, h2, Bool.and_true]
  rw [Bool.eq_iff_iff]
  simp
theorem notIn_row (a : Mark) (ms : List Mark) (ha : okN a.2 = true) (h : ∀ m ∈ ms, okN m.2 = true) : dNotIn (encM a) (.tup (ms.map encM)) = some (.bl !(decide (a ∈ ms))) ∧ dIn (encM a) (.tup (ms.map encM)) = some (.bl (decide (a ∈ ms))) := by
  obtain ⟨h1, h2⟩ := pyM_sh ha
  obtain ⟨h3, h4⟩ := pyMs_sh h
  have s1 : SeqAt.shaped (pyM a) = true := by simp [SeqAt.shaped, h1, h2]
  have s2 : SeqAt.shaped (.tuple (ms.map pyM)) = true := by
    have h5 : PyData.depthAll (ms.map pyM) + 1 ≤ 64 := by omega
    simp [SeqAt.shaped, PyData.canLay0, h3, PyData.depth, h5]
  have e : ((ms.map pyM).any fun z => PyData.eqv z (pyM a)) = decide (a ∈ ms) := by
    rw [Bool.eq_iff_iff, List.any_map, List.any_eq_true]
    simp only [Function.comp_apply, pyM_eqv, decide_eq_true_eq]
    exact ⟨fun ⟨m, hm, q⟩ => q ▸ hm, fun hm => ⟨a, hm, rfl⟩⟩
  exact ⟨by rw [notIn_tup (encM_py a) (pys_map encM_py ms) s1 s2, e], by rw [in_tup (encM_py a) (pys_map encM_py ms) s1 s2, e]⟩
theorem in_words {o : Bool} (ms : List Mark) : dIn (.str "be") (.lst o (ms.map fun m => .str m.1.t)) = some (.bl (decide (K4.be ∈ ks ms))) := by
  obtain ⟨z1, z2⟩ := sh_strs (f := fun m : Mark => m.1.t) (fun m => t_ok m.1) ms
  rw [in_lst (x := .str "be") (zs := ms.map fun m => .str m.1.t) rfl (pys_map (fun _ => rfl) ms) (sh_str (t_ok .be)) (by simp [SeqAt.shaped, PyData.canLay0, z1, PyData.depth, z2])]
  congr 2
  rw [Bool.eq_iff_iff, List.any_map, List.any_eq_true, decide_eq_true_eq]
  simp only [Function.comp_apply, ks, List.mem_map]
  constructor
  · rintro ⟨m, hm, q⟩
    refine ⟨m, hm, ?_⟩
    cases hk : m.1 with
    | be => rfl
    | want => rw [hk] at q; exact absurd q (by decide +kernel)
    | pull => rw [hk] at q; exact absurd q (by decide +kernel)
    | go => rw [hk] at q; exact absurd q (by decide +kernel)
  · rintro ⟨m, hm, q⟩
    exact ⟨m, hm, by rw [q]; decide +kernel⟩
theorem in_wpL {o : Bool} (k : K4) : dIn (.str k.t) (.lst o [.str "want", .str "pull"]) = some (.bl (k == .want || k == .pull)) := by
  rw [in_lst (x := .str k.t) (zs := [.str "want", .str "pull"]) rfl rfl (sh_str (t_ok k)) (by decide +kernel)]
  exact congrArg (fun b => some (D.bl b)) (by cases k <;> decide +kernel)
abbrev EvL (a0 a1 a2 a3 a4 : Option D) (R : D) (a6 a7 a8 a9 a10 a11 a12 a13 a14 a15 a16 a17 : Option D) : Env := [a0, a1, a2, a3, a4, some R, a6, a7, a8, a9, a10, a11, a12, a13, a14, a15, a16, a17]
section
variable (ms : List Mark) (hl : ms.length ≤ 100) (a0 a1 a2 a3 a4 a6 a7 a8 a9 a10 a11 a12 a13 a14 a15 a16 a17 : Option D)
abbrev Row : D := .tup (ms.map encM)
abbrev Wl (o : Bool) : D := .lst o (ms.map fun m => .str m.1.t)
theorem row_it (a5' : Option D) : mItems (mV 5) (EvL a0 a1 a2 a3 a4 (Row ms) a6 a7 a8 a9 a10 a11 a12 a13 a14 a15 a16 a17) = .ok (ms.map encM) (EvL a0 a1 a2 a3 a4 (Row ms) a6 a7 a8 a9 a10 a11 a12 a13 a14 a15 a16 a17) := by
  simp -implicitDefEqProofs
include hl in
theorem q2_eq : q_law_2 (EvL a0 a1 a2 a3 a4 (Row ms) a6 a7 a8 a9 a10 a11 a12 a13 a14 a15 a16 a17) = .ok (Wl ms true) (EvL a0 a1 a2 a3 a4 (Row ms) a6 a7 a8 a9 a10 a11 a12 a13 none a15 a16 a17) :=
  (mComp_a1 (i := 14) (enc := encM) (f := fun m => .str m.1.t) (row_it ms a0 a1 a2 a3 a4 a6 a7 a8 a9 a10 a11 a12 a13 a14 a15 a16 a17 none) (by simp) (fun m hm => by simp -implicitDefEqProofs [ixM0]) (by omega)).trans rfl
theorem mAndV_t {ma mb : M D} {e e1 : Env} {r : Res D} (h : ma e = .ok (.bl true) e1) (h2 : mb e1 = r) : mAndV ma mb e = r := by rw [mAndV_ap, h]; exact h2
theorem mAndV_f {ma mb : M D} {e e1 : Env} (h : ma e = .ok (.bl false) e1) : mAndV ma mb e = .ok (.bl false) e1 := by rw [mAndV_ap, h]; rfl
theorem mOrV_t {ma mb : M D} {e e1 : Env} (h : ma e = .ok (.bl true) e1) : mOrV ma mb e = .ok (.bl true) e1 := by rw [mOrV_ap, h]; rfl
theorem mOrV_f {ma mb : M D} {e e1 : Env} {r : Res D} (h : ma e = .ok (.bl false) e1) (h2 : mb e1 = r) : mOrV ma mb e = r := by rw [mOrV_ap, h]; exact h2
def at_ : Nat := if K4.be ∈ ks ms then beAt ms else 0
include hl in
theorem q3_eq : q_law_3 (EvL a0 a1 a2 a3 a4 (Row ms) a6 a7 (some (Wl ms false)) (some (.int (at_ ms : Nat))) a10 a11 a12 a13 a14 a15 a16 a17) = .ok (.lst true ((ms.take (at_ ms)).map fun m => .bl (m.1 == .want || m.1 == .pull))) (EvL a0 a1 a2 a3 a4 (Row ms) a6 a7 (some (Wl ms false)) (some (.int (at_ ms : Nat))) a10 a11 a12 a13 a14 a15 none a17) := by
  have it : mItems (mSlice dSl (mV 8) (M.pure none) ((mI (mV 9)).bind fun i => M.pure (some i))) (EvL a0 a1 a2 a3 a4 (Row ms) a6 a7 (some (Wl ms false)) (some (.int (at_ ms : Nat))) a10 a11 a12 a13 a14 a15 a16 a17) = .ok ((ms.take (at_ ms)).map fun m => .str m.1.t) (EvL a0 a1 a2 a3 a4 (Row ms) a6 a7 (some (Wl ms false)) (some (.int (at_ ms : Nat))) a10 a11 a12 a13 a14 a15 a16 a17) := by
    simp -implicitDefEqProofs [cut_to, fzs_take, List.map_take]
  exact (mComp_a1 (i := 16) (enc := fun m : Mark => .str m.1.t) (f := fun m => .bl (m.1 == .want || m.1 == .pull)) it (by simp) (fun m hm => by simp -implicitDefEqProofs [in_wpL]) (by rw [List.length_take]; omega)).trans rfl
include hl in
theorem q4_eq : q_law_4 (EvL a0 a1 a2 a3 a4 (Row ms) a6 a7 (some (Wl ms false)) (some (.int (at_ ms : Nat))) a10 a11 a12 a13 a14 a15 a16 a17) = .ok (.lst true ((ms.drop (at_ ms + 1)).map fun m => .bl (m.1 == .go))) (EvL a0 a1 a2 a3 a4 (Row ms) a6 a7 (some (Wl ms false)) (some (.int (at_ ms : Nat))) a10 a11 a12 a13 a14 a15 none a17) := by
  have e : ((at_ ms : Nat) : Int) + 1 = ((at_ ms + 1 : Nat) : Int) := by omega
  have it : mItems (mSlice dSl (mV 8) ((mI (m2 dAdd (mV 9) (mC (.int 1)))).bind fun i => M.pure (some i)) (M.pure none)) (EvL a0 a1 a2 a3 a4 (Row ms) a6 a7 (some (Wl ms false)) (some (.int (at_ ms : Nat))) a10 a11 a12 a13 a14 a15 a16 a17) = .ok ((ms.drop (at_ ms + 1)).map fun m => .str m.1.t) (EvL a0 a1 a2 a3 a4 (Row ms) a6 a7 (some (Wl ms false)) (some (.int (at_ ms : Nat))) a10 a11 a12 a13 a14 a15 a16 a17) := by
    simp only [EvL, Wl, mItems_ap, mSlice_ap, mV_ap, List.getElem?_cons_succ, List.getElem?_cons_zero, fz_lst, fzs_strs, List.set_cons_succ, List.set_cons_zero, bind_ap, mI_ap, m2_ap, mC_ap, fz_int, add_int, ofO_some, toI_int, pure_ap, e, sl_lst', cut_from, fzs_drop, List.map_drop]
  exact (mComp_a1 (i := 16) (enc := fun m : Mark => .str m.1.t) (f := fun m => .bl (m.1 == .go)) it (by simp) (fun m hm => by
    have h := t_beq m.1 .go
    have h' : (m.1.t == Str.ofString "go") = (m.1 == .go) := h
    simp -implicitDefEqProofs [h']) (by rw [List.length_drop]; omega)).trans rfl
include hl in
theorem q5_eq : q_law_5 (EvL a0 a1 a2 a3 a4 (Row ms) a6 a7 (some (Wl ms false)) a9 a10 a11 a12 a13 a14 a15 a16 a17) = .ok (.lst true (ms.map fun m => .bl (m.1 == .go))) (EvL a0 a1 a2 a3 a4 (Row ms) a6 a7 (some (Wl ms false)) a9 a10 a11 a12 a13 a14 a15 none a17) := by
  have it : mItems (mV 8) (EvL a0 a1 a2 a3 a4 (Row ms) a6 a7 (some (Wl ms false)) a9 a10 a11 a12 a13 a14 a15 a16 a17) = .ok (ms.map fun m => .str m.1.t) (EvL a0 a1 a2 a3 a4 (Row ms) a6 a7 (some (Wl ms false)) a9 a10 a11 a12 a13 a14 a15 a16 a17) := by
    simp -implicitDefEqProofs
  exact (mComp_a1 (i := 16) (enc := fun m : Mark => .str m.1.t) (f := fun m => .bl (m.1 == .go)) it (by simp) (fun m hm => by
    have h := t_beq m.1 .go
    have h' : (m.1.t == Str.ofString "go") = (m.1 == .go) := h
    simp -implicitDefEqProofs [h']) (by omega)).trans rfl
theorem all_of {q : M D} {e e1 : Env} {α : Type} {f : α → Bool} {l : List α} (h : q e = .ok (.lst true (l.map fun x => .bl (f x))) e1) : mCall (one dAll) (mCons q mNil) e = .ok (.bl (l.all f)) e1 :=
  call1_of h (by simp)
theorem isA_no {ms : List Mark} (h : GoodN ms) : ((K4.be, [65]) : Mark) ∉ ms := fun z => by
  have := h _ z
  exact absurd this (by decide +kernel)
theorem good_ok {ms : List Mark} (h : GoodN ms) : ∀ m ∈ ms, okN m.2 = true := fun m hm => isName_ok (h m hm)
include hl in
theorem due_eq (hg : GoodN ms) : ∃ x16, mAndV (m2 dEq (mMeth "list" (arg1 dCount) (mV 8) (mCons (mC (.str "be")) mNil)) (mC (.int 1))) (mAndV (m2 dNotIn (mTup (mCons (mC (.str "be")) (mCons (mC (.str "A")) mNil))) (mV 5)) (mAndV (m2 dLe (mCall (one dLen) (mCons (mV 5) mNil)) (mC (.int 10))) (mAndV (mCall (one dAll) (mCons q_law_3 mNil)) (mCall (one dAll) (mCons q_law_4 mNil)))))
    (EvL a0 a1 a2 a3 a4 (Row ms) a6 a7 (some (Wl ms false)) (some (.int (at_ ms : Nat))) a10 a11 a12 a13 a14 a15 a16 a17) = .ok (.bl (areMarks ms)) (EvL a0 a1 a2 a3 a4 (Row ms) a6 a7 (some (Wl ms false)) (some (.int (at_ ms : Nat))) a10 a11 a12 a13 a14 a15 x16 a17) := by
  have hcnt : dCount (.lst false (ms.map fun m => .str m.1.t)) (.str "be") = some (.int ((ks ms).count .be : Nat)) := by
    rw [count_lst, ← count_t]; rfl
  have hbe : D.tup [.str "be", .str "A"] = encM (.be, [65]) := rfl
  have hni := (notIn_row (.be, [65]) ms (by decide +kernel) (good_ok hg)).1
  have hall : (ms.all fun m => isName m.2) = true := List.all_eq_true.mpr hg
  have e1 : m2 dEq (mMeth "list" (arg1 dCount) (mV 8) (mCons (mC (.str "be")) mNil)) (mC (.int 1)) (EvL a0 a1 a2 a3 a4 (Row ms) a6 a7 (some (Wl ms false)) (some (.int (at_ ms : Nat))) a10 a11 a12 a13 a14 a15 a16 a17) = .ok (.bl ((ks ms).count .be == 1)) (EvL a0 a1 a2 a3 a4 (Row ms) a6 a7 (some (Wl ms false)) (some (.int (at_ ms : Nat))) a10 a11 a12 a13 a14 a15 a16 a17) := by
    have : (((ks ms).count .be : Nat) : Int) = 1 ↔ (ks ms).count .be = 1 := by omega
    have h2 : ((((ks ms).count .be : Nat) : Int) == 1) = ((ks ms).count .be == 1) := by rw [Bool.eq_iff_iff]; simpa using this
    simp -implicitDefEqProofs [hcnt, h2]
  by_cases k1 : (ks ms).count .be = 1
  · rw [k1] at e1
    have hmem : K4.be ∈ ks ms := List.count_pos_iff.mp (by omega)
    have hat : at_ ms = beAt ms := by simp [at_, hmem]
    have e2 : m2 dNotIn (mTup (mCons (mC (.str "be")) (mCons (mC (.str "A")) mNil))) (mV 5) (EvL a0 a1 a2 a3 a4 (Row ms) a6 a7 (some (Wl ms false)) (some (.int (at_ ms : Nat))) a10 a11 a12 a13 a14 a15 a16 a17) = .ok (.bl true) (EvL a0 a1 a2 a3 a4 (Row ms) a6 a7 (some (Wl ms false)) (some (.int (at_ ms : Nat))) a10 a11 a12 a13 a14 a15 a16 a17) := by
      have h1 : mTup (mCons (mC (.str "be")) (mCons (mC (.str "A")) mNil)) (EvL a0 a1 a2 a3 a4 (Row ms) a6 a7 (some (Wl ms false)) (some (.int (at_ ms : Nat))) a10 a11 a12 a13 a14 a15 a16 a17) = .ok (encM (.be, [65])) (EvL a0 a1 a2 a3 a4 (Row ms) a6 a7 (some (Wl ms false)) (some (.int (at_ ms : Nat))) a10 a11 a12 a13 a14 a15 a16 a17) := by
        simp -implicitDefEqProofs [← hbe]
      exact m2_of h1 (mV_im (d := Row ms) rfl (by simp)) (by simpa [isA_no hg] using hni)
    have e3 : m2 dLe (mCall (one dLen) (mCons (mV 5) mNil)) (mC (.int 10)) (EvL a0 a1 a2 a3 a4 (Row ms) a6 a7 (some (Wl ms false)) (some (.int (at_ ms : Nat))) a10 a11 a12 a13 a14 a15 a16 a17) = .ok (.bl (decide (ms.length ≤ 10))) (EvL a0 a1 a2 a3 a4 (Row ms) a6 a7 (some (Wl ms false)) (some (.int (at_ ms : Nat))) a10 a11 a12 a13 a14 a15 a16 a17) := by
      have h2 : (decide ((ms.length : Int) ≤ 10)) = decide (ms.length ≤ 10) := by rw [Bool.eq_iff_iff]; simp; omega
      simp -implicitDefEqProofs [h2]
    by_cases k2 : ms.length ≤ 10
    · rw [show decide (ms.length ≤ 10) = true by simpa using k2] at e3
      have e4 := all_of (q3_eq ms hl a0 a1 a2 a3 a4 a6 a7 a10 a11 a12 a13 a14 a15 a16 a17)
      have e5 := all_of (q4_eq ms hl a0 a1 a2 a3 a4 a6 a7 a10 a11 a12 a13 a14 a15 none a17)
      have ea : areMarks ms = (((ms.take (at_ ms)).all fun m => m.1 == .want || m.1 == .pull) && ((ms.drop (at_ ms + 1)).all fun m => m.1 == .go)) := by
        unfold areMarks
        rw [k1, hall, hat]
        simp only [k2, decide_true, beq_self_eq_true, Bool.true_and, ks, ← List.map_take, ← List.map_drop, List.all_map, Function.comp_def]
      refine ⟨none, mAndV_t e1 (mAndV_t e2 (mAndV_t e3 ?_))⟩
      cases k3 : (ms.take (at_ ms)).all fun m => m.1 == .want || m.1 == .pull with
      | true =>
        rw [k3] at e4
        rw [ea, k3, Bool.true_and]
        exact mAndV_t e4 e5
      | false =>
        rw [k3] at e4
        rw [ea, k3, Bool.false_and]
        exact mAndV_f e4
    · rw [show decide (ms.length ≤ 10) = false by simpa using k2] at e3
      have ea : areMarks ms = false := by simp [areMarks, k2]
      rw [ea]
      exact ⟨a16, mAndV_t e1 (mAndV_t e2 (mAndV_f e3))⟩
  · rw [show ((ks ms).count .be == 1) = false by simpa using k1] at e1
    have ea : areMarks ms = false := by simp [areMarks, k1]
    rw [ea]
    exact ⟨a16, mAndV_f e1⟩
include hl in
theorem rest_eq (hg : GoodN ms) : ∃ x16, mAndV (m2 dGt (mCall (one dLen) (mCons (mV 5) mNil)) (mC (.int 0))) (mOrV (mV 10) (mAndV (m2 dLt (mCall (one dLen) (mCons (mV 5) mNil)) (mC (.int 10))) (mCall (one dAll) (mCons q_law_5 mNil))))
    (EvL a0 a1 a2 a3 a4 (Row ms) a6 a7 (some (Wl ms false)) a9 (some (.bl (areMarks ms))) a11 a12 a13 a14 a15 a16 a17) = .ok (.bl (isRest ms)) (EvL a0 a1 a2 a3 a4 (Row ms) a6 a7 (some (Wl ms false)) a9 (some (.bl (areMarks ms))) a11 a12 a13 a14 a15 x16 a17) := by
  have e1 : m2 dGt (mCall (one dLen) (mCons (mV 5) mNil)) (mC (.int 0)) (EvL a0 a1 a2 a3 a4 (Row ms) a6 a7 (some (Wl ms false)) a9 (some (.bl (areMarks ms))) a11 a12 a13 a14 a15 a16 a17) = .ok (.bl (decide (0 < ms.length))) (EvL a0 a1 a2 a3 a4 (Row ms) a6 a7 (some (Wl ms false)) a9 (some (.bl (areMarks ms))) a11 a12 a13 a14 a15 a16 a17) := by
    have h2 : (decide ((0 : Int) < ms.length)) = decide (0 < ms.length) := by rw [Bool.eq_iff_iff]; simp
    simp only [EvL, Row, m2_ap, mCall_ap, mCons_ap, mNil_ap, mV_ap, List.getElem?_cons_succ, List.getElem?_cons_zero, fz_tup, fzs_encM, List.set_cons_succ, List.set_cons_zero, fzs_cons, fzs_nil, one_ap, len_tup', ofO_some, mC_ap, fz_int, gt_int, List.length_map, h2]
  have e3 : m2 dLt (mCall (one dLen) (mCons (mV 5) mNil)) (mC (.int 10)) (EvL a0 a1 a2 a3 a4 (Row ms) a6 a7 (some (Wl ms false)) a9 (some (.bl (areMarks ms))) a11 a12 a13 a14 a15 a16 a17) = .ok (.bl (decide (ms.length < 10))) (EvL a0 a1 a2 a3 a4 (Row ms) a6 a7 (some (Wl ms false)) a9 (some (.bl (areMarks ms))) a11 a12 a13 a14 a15 a16 a17) := by
    have h2 : (decide ((ms.length : Int) < 10)) = decide (ms.length < 10) := by rw [Bool.eq_iff_iff]; simp; omega
    simp only [EvL, Row, m2_ap, mCall_ap, mCons_ap, mNil_ap, mV_ap, List.getElem?_cons_succ, List.getElem?_cons_zero, fz_tup, fzs_encM, List.set_cons_succ, List.set_cons_zero, fzs_cons, fzs_nil, one_ap, len_tup', ofO_some, mC_ap, fz_int, lt_int, List.length_map, h2]
  have e2 : mV 10 (EvL a0 a1 a2 a3 a4 (Row ms) a6 a7 (some (Wl ms false)) a9 (some (.bl (areMarks ms))) a11 a12 a13 a14 a15 a16 a17) = .ok (.bl (areMarks ms)) (EvL a0 a1 a2 a3 a4 (Row ms) a6 a7 (some (Wl ms false)) a9 (some (.bl (areMarks ms))) a11 a12 a13 a14 a15 a16 a17) := mV_im rfl rfl
  have e5 := all_of (q5_eq ms hl a0 a1 a2 a3 a4 a6 a7 a9 (some (.bl (areMarks ms))) a11 a12 a13 a14 a15 a16 a17)
  have hgo : (ms.all fun m => m.1 == .go && isName m.2) = ms.all fun m => m.1 == .go := by
    rw [Bool.eq_iff_iff, List.all_eq_true, List.all_eq_true]
    constructor
    · intro h m hm
      have := h m hm
      rw [Bool.and_eq_true] at this
      exact this.1
    · intro h m hm
      rw [Bool.and_eq_true]
      exact ⟨h m hm, hg m hm⟩
  by_cases k0 : ms = []
  · have : isRest ms = false := by simp [isRest, k0]
    rw [this]
    rw [show decide (0 < ms.length) = false by simp [k0]] at e1
    exact ⟨a16, mAndV_f e1⟩
  · rw [show decide (0 < ms.length) = true by simpa [List.length_pos_iff] using k0] at e1
    have nogo : 0 < (ks ms).count .be → (ms.all fun m => m.1 == .go) = false := fun h => by
      obtain ⟨m, hm, q⟩ := List.mem_map.mp (show K4.be ∈ ms.map (·.1) from List.count_pos_iff.mp h)
      rw [List.all_eq_false]
      exact ⟨m, hm, by rw [q]; simp⟩
    cases ka : areMarks ms with
    | true =>
      have kc : (ks ms).count .be = 1 := by
        simp only [areMarks, Bool.and_eq_true, beq_iff_eq] at ka
        exact ka.1.1.1.1
      have : isRest ms = true := by simp [isRest, k0, kc, ka]
      rw [this]
      rw [ka] at e1 e2
      exact ⟨a16, mAndV_t e1 (mOrV_t e2)⟩
    | false =>
      have hr : isRest ms = (decide (ms.length < 10) && ms.all fun m => m.1 == .go) := by
        unfold isRest
        by_cases c1 : 1 < (ks ms).count .be
        · rw [if_pos (.inr c1), nogo (by omega), Bool.and_false]
        · rw [if_neg (by simp [k0, c1])]
          by_cases c2 : (ks ms).count .be = 1
          · rw [if_pos c2, ka, nogo (by omega), Bool.and_false]
          · rw [if_neg c2, hgo]
      rw [hr]
      rw [ka] at e1 e2 e3 e5
      by_cases k3 : ms.length < 10
      · rw [show decide (ms.length < 10) = true by simpa using k3] at e3 ⊢
        rw [Bool.true_and]
        exact ⟨none, mAndV_t e1 (mOrV_f e2 (mAndV_t e3 e5))⟩
      · rw [show decide (ms.length < 10) = false by simpa using k3] at e3 ⊢
        rw [Bool.false_and]
        exact ⟨a16, mAndV_t e1 (mOrV_f e2 (mAndV_f e3))⟩
end
end VL


set_option Elab.async false
set_option linter.all false
set_option maxRecDepth 100000
set_option maxHeartbeats 4000000
namespace VL
open PySem PySem.Spec L2 SX
open PyProof.Rows hiding St
theorem same_step {A B : M D} {e e1 e2 : Env} {d d' x : D} {n : Nat} (hA : A e = .ok d e1) (hB : B e1 = .ok d' e2) (h1 : d.fz = x) (h2 : d'.fz = x) (hp : PL n x) (hn : n ≤ 70) : mNot (mTru (mCall' 2 (f__law_same 70) (mCons A (mCons B mNil)))) e = .ok false e2 := by
  have := same_ok hp hn
  rw [mNot_ap, mTru_ap, mCall'_ap, mCons_ap, hA]
  simp only [mCons_ap, hB, mNil_ap, List.length_cons, List.length_nil, if_true, fzs_cons, fzs_nil, h1, h2, callF_ap, this, ofO_some, truth_bl, Bool.not_true]
theorem call1 {F : Fn} {A : M D} {e e1 : Env} {d x r o : D} (hA : A e = .ok d e1) (h1 : d.fz = x) (h : F [x] = .ok r o) : mCall' 1 F (mCons A mNil) e = .ok r e1 := by
  rw [mCall'_ap, mCons_ap, hA]
  simp only [mNil_ap, List.length_cons, List.length_nil, if_true, fzs_cons, fzs_nil, h1, callF_ap, h]
theorem plM (m : Mark) : PL 2 (encM m) := ⟨by simp, fun x hx => by
  simp only [List.mem_cons, List.not_mem_nil, or_false] at hx
  rcases hx with rfl | rfl <;> trivial⟩
theorem plRow {ms : List Mark} (h : ms.length ≤ 100) : PL 3 (Row ms) := ⟨by rw [List.length_map]; omega, fun x hx => by
  obtain ⟨m, hm, rfl⟩ := List.mem_map.mp hx
  exact plM m⟩
theorem joinL_len (z : List Nat) : ∀ ps : List (List Nat), (TL.joinL z ps).length ≤ (ps.map List.length).sum + z.length * ps.length
  | [] => by simp [TL.joinL]
  | [p] => by simp [TL.joinL]
  | p :: q :: r => by
    have ih := joinL_len z (q :: r)
    simp only [TL.joinL, List.length_append, List.map_cons, List.sum_cons, List.length_cons, Nat.mul_add, Nat.mul_one] at ih ⊢
    omega
def rowText (ms : List Mark) : List Nat := TL.joinL [32] (ms.map mText)
theorem rowText_len {ms : List Mark} (hl : ms.length ≤ 20) (hg : GoodN ms) : (rowText ms).length ≤ 200 := by
  have h1 := joinL_len [32] (ms.map mText)
  have h2 : ((ms.map mText).map List.length).sum ≤ 20 * 9 := by
    refine Nat.le_trans (sum_le (k := 9) fun x hx => ?_) ?_
    · simp only [List.map_map, List.mem_map, Function.comp_apply] at hx
      obtain ⟨m, hm, rfl⟩ := hx
      have h3 := (isName_mem (hg m hm)).2.2.1
      have h4 := s_len m.1
      simp only [mText, List.length_append]; omega
    · simp only [List.length_map]; exact Nat.mul_le_mul_right _ hl
  unfold rowText
  simp only [List.length_map, List.length_cons, List.length_nil] at h1
  omega
theorem words_row {ms : List Mark} (hg : GoodN ms) : wordsOf (rowText ms) = ms.map mText := by
  have := words_texts hg (z := [32]) (s := []) (by simp) (by simp) (by simp)
  rwa [List.append_nil] at this
theorem words_pad {ms : List Mark} (hg : GoodN ms) : wordsOf ([32, 32] ++ TL.joinL [32, 32, 32] (TL.spl [32] 0 [] (rowText ms)) ++ [32]) = ms.map mText := by
  rw [← words_row hg, List.append_assoc]
  show wordsA [] ([32, 32] ++ _) = _
  rw [wordsA_blanks (by simp)]
  have := words_join (z := [32, 32, 32]) (s := [32]) (by simp) (by simp) (by simp) (TL.spl [32] 0 [] (rowText ms)) (spl_free1 32 _ (by omega))
  rw [show wordsA [] (TL.joinL [32, 32, 32] (TL.spl [32] 0 [] (rowText ms)) ++ [32]) = _ from this]
  exact words_spl _ _
theorem mOr_f {ta tb : M Bool} {e e1 : Env} {r : Res Bool} (h : ta e = .ok false e1) (h2 : tb e1 = r) : mOr ta tb e = r := by rw [mOr_ap, h]; exact h2
theorem mTru_of {m : M D} {e e1 : Env} {b : Bool} (h : m e = .ok (.bl b) e1) : mTru m e = .ok b e1 := by rw [mTru_ap, h]; rfl
theorem notV_of {m : M D} {e e1 : Env} {b : Bool} (h : m e = .ok (.bl b) e1) : mNotV m e = .ok (.bl !b) e1 := by rw [mNotV_ap, h]; rfl
section
variable (ms : List Mark) (hl : ms.length ≤ 20) (hg : GoodN ms) (a0 a1 a2 a3 a4 a6 a7 a8 a9 a10 a11 a12 a13 a14 a15 a16 a17 : Option D)
theorem v5 : mV 5 (EvL a0 a1 a2 a3 a4 (Row ms) a6 a7 a8 a9 a10 a11 a12 a13 a14 a15 a16 a17) = .ok (Row ms) (EvL a0 a1 a2 a3 a4 (Row ms) a6 a7 a8 a9 a10 a11 a12 a13 a14 a15 a16 a17) := mV_im (d := Row ms) rfl (by simp)
include hl hg in
theorem q6_eq : q_law_6 (EvL a0 a1 a2 a3 a4 (Row ms) a6 a7 a8 a9 a10 a11 a12 a13 a14 a15 a16 a17) = .ok (.lst true (ms.map fun m => .str (S (mText m)))) (EvL a0 a1 a2 a3 a4 (Row ms) a6 a7 a8 a9 a10 a11 a12 a13 none a15 a16 a17) :=
  (mComp_a1 (i := 14) (enc := encM) (f := fun m => .str (S (mText m))) (row_it ms a0 a1 a2 a3 a4 a6 a7 a8 a9 a10 a11 a12 a13 a14 a15 a16 a17 none) (by simp) (fun m hm => by
    have h := law_mark_text_eq m (by have := (isName_mem (hg m hm)).2.2.1; omega)
    simp -implicitDefEqProofs [h]) (by omega)).trans rfl
theorem gT (m : Mark) : gTp [gNm 16, gNm 17] (encM m) (EvL a0 a1 a2 a3 a4 (Row ms) a6 a7 a8 a9 a10 a11 a12 a13 a14 a15 none none) = some (EvL a0 a1 a2 a3 a4 (Row ms) a6 a7 a8 a9 a10 a11 a12 a13 a14 a15 (some (.str m.1.t)) (some (.str (S m.2)))) := rfl
include hl in
theorem q7_eq : q_law_7 (EvL a0 a1 a2 a3 a4 (Row ms) a6 a7 a8 a9 a10 a11 a12 a13 a14 a15 a16 a17) = .ok (.lst true ((ms.filter fun m => m.1 == .be).map fun m => .str (S m.2))) (EvL a0 a1 a2 a3 a4 (Row ms) a6 a7 a8 a9 a10 a11 a12 a13 a14 a15 none none) :=
  (mComp_gen (vs := [16, 17]) (enc := encM) (p := fun m => m.1 == .be) (f := fun m => .str (S m.2)) (row_it ms a0 a1 a2 a3 a4 a6 a7 a8 a9 a10 a11 a12 a13 a14 a15 a16 a17 none) (fun m hm => ⟨_, EvL a0 a1 a2 a3 a4 (Row ms) a6 a7 a8 a9 a10 a11 a12 a13 a14 a15 (some (.str m.1.t)) (some (.str (S m.2))), gT ms a0 a1 a2 a3 a4 a6 a7 a8 a9 a10 a11 a12 a13 a14 a15 m, by
    have h : (m.1.t == Str.ofString "be") = (m.1 == .be) := t_beq m.1 .be
    simp -implicitDefEqProofs [h], rfl, fun _ => ⟨EvL a0 a1 a2 a3 a4 (Row ms) a6 a7 a8 a9 a10 a11 a12 a13 a14 a15 (some (.str m.1.t)) (some (.str (S m.2))), by simp -implicitDefEqProofs, rfl⟩⟩) (by omega)).trans rfl
include hl in
theorem q8_eq : q_law_8 (EvL a0 a1 a2 a3 a4 (Row ms) a6 a7 a8 a9 a10 a11 a12 a13 a14 a15 a16 a17) = .ok (.lst true ((ms.filter fun m => m.1 == .go).map fun m => .str (S m.2))) (EvL a0 a1 a2 a3 a4 (Row ms) a6 a7 a8 a9 a10 a11 a12 a13 a14 a15 none none) :=
  (mComp_gen (vs := [16, 17]) (enc := encM) (p := fun m => m.1 == .go) (f := fun m => .str (S m.2)) (row_it ms a0 a1 a2 a3 a4 a6 a7 a8 a9 a10 a11 a12 a13 a14 a15 a16 a17 none) (fun m hm => ⟨_, EvL a0 a1 a2 a3 a4 (Row ms) a6 a7 a8 a9 a10 a11 a12 a13 a14 a15 (some (.str m.1.t)) (some (.str (S m.2))), gT ms a0 a1 a2 a3 a4 a6 a7 a8 a9 a10 a11 a12 a13 a14 a15 m, by
    have h : (m.1.t == Str.ofString "go") = (m.1 == .go) := t_beq m.1 .go
    simp -implicitDefEqProofs [h], rfl, fun _ => ⟨EvL a0 a1 a2 a3 a4 (Row ms) a6 a7 a8 a9 a10 a11 a12 a13 a14 a15 (some (.str m.1.t)) (some (.str (S m.2))), by simp -implicitDefEqProofs, rfl⟩⟩) (by omega)).trans rfl
include hl hg in
theorem row_good : ∃ b8 b9 b10 b11 b12 b13 b14 b15 b16 b17, b_law_2 (EvL a0 a1 a2 a3 a4 (Row ms) a6 a7 a8 a9 a10 a11 a12 a13 a14 a15 a16 a17) = .nx (EvL a0 a1 a2 a3 a4 (Row ms) a6 a7 b8 b9 b10 b11 b12 b13 b14 b15 b16 b17) := by
  have hl' : ms.length ≤ 100 := by omega
  have hn : ∀ m ∈ ms, m.2.length ≤ 1000 := fun m hm => by have := (isName_mem (hg m hm)).2.2.1; omega
  have hne := text_ne
  have htl := rowText_len hl hg
  unfold b_law_2
  -- words
  have s1 := sSet_nm (i := 8) (q2_eq ms hl' a0 a1 a2 a3 a4 a6 a7 a8 a9 a10 a11 a12 a13 a14 a15 a16 a17) (by simp)
  -- at
  have s2 : sSet (gNm 9) (mIf (mBl (m2 dIn (mC (.str "be")) (mV 8))) (mMeth "list" (arg1 dIndex) (mV 8) (mCons (mC (.str "be")) mNil)) (mC (.int 0))) (EvL a0 a1 a2 a3 a4 (Row ms) a6 a7 (some (Wl ms true)) a9 a10 a11 a12 a13 none a15 a16 a17) = .nx (EvL a0 a1 a2 a3 a4 (Row ms) a6 a7 (some (Wl ms false)) (some (.int (at_ ms : Nat))) a10 a11 a12 a13 none a15 a16 a17) := by
    refine (sSet_nm (d := .int (at_ ms : Nat)) (e' := EvL a0 a1 a2 a3 a4 (Row ms) a6 a7 (some (Wl ms false)) a9 a10 a11 a12 a13 none a15 a16 a17) ?_ (by simp)).trans rfl
    have hin := in_words (o := false) ms
    by_cases k : K4.be ∈ ks ms
    · have hix := index_t (o := false) ms k
      simp -implicitDefEqProofs [hin, k, hix, at_]
    · simp -implicitDefEqProofs [hin, k, at_]
  obtain ⟨x1, h3⟩ := due_eq ms hl' a0 a1 a2 a3 a4 a6 a7 a10 a11 a12 a13 none a15 a16 a17 hg
  have s3 := sSet_nm (i := 10) h3 (by simp)
  obtain ⟨x2, h4⟩ := rest_eq ms hl' a0 a1 a2 a3 a4 a6 a7 (some (.int (at_ ms : Nat))) a11 a12 a13 none a15 x1 a17 hg
  have s4 := sSet_nm (i := 11) h4 (by simp)
  -- are_marks
  let E4 : Env := EvL a0 a1 a2 a3 a4 (Row ms) a6 a7 (some (Wl ms false)) (some (.int (at_ ms : Nat))) (some (.bl (areMarks ms))) (some (.bl (isRest ms))) a12 a13 none a15 x2 a17
  have w5 : mV 5 E4 = .ok (Row ms) E4 := mV_im (d := Row ms) rfl (by simp)
  have w10 : mV 10 E4 = .ok (.bl (areMarks ms)) E4 := mV_im rfl rfl
  have w11 : mV 11 E4 = .ok (.bl (isRest ms)) E4 := mV_im rfl rfl
  have fR : (Row ms).fz = Row ms := by simp
  have pb : ∀ b, PL 1 (.bl b) := fun b => trivial
  have s5 : sIf (mNot (mTru (mCall' 2 (f__law_same 70) (mCons (mCall' 1 f_are_marks (mCons (mV 5) mNil)) (mCons (mV 10) mNil))))) (sRet (mC (.bl false))) .nx E4 = .nx E4 :=
    (sIf_f (same_step (call1 w5 fR (are_marks_eq ms (by omega) hn)) w10 rfl rfl (pb _) (by omega))).trans rfl
  have s6 : sIf (mBl (m2 dIn (mTup (mCons (mC (.str "be")) (mCons (mC (.str "A")) mNil))) (mV 5))) .ct .nx E4 = .nx E4 := by
    have h1 : mTup (mCons (mC (.str "be")) (mCons (mC (.str "A")) mNil)) E4 = .ok (encM (.be, [65])) E4 := rfl
    have h2 := (notIn_row (.be, [65]) ms (by decide +kernel) (good_ok hg)).2
    exact (sIf_f (mBl_of (m2_of (g := dIn) h1 w5 (d := .bl false) (by simpa [isA_no hg] using h2)))).trans rfl
  have s7 : sIf (mNot (mTru (mCall' 2 (f__law_same 70) (mCons (mCall' 1 f_is_rest (mCons (mV 5) mNil)) (mCons (mV 11) mNil))))) (sRet (mC (.bl false))) .nx E4 = .nx E4 :=
    (sIf_f (same_step (call1 w5 fR (is_rest_eq ms (by omega) hn)) w11 rfl rfl (pb _) (by omega))).trans rfl
  -- the text
  let E5 : Env := EvL a0 a1 a2 a3 a4 (Row ms) a6 a7 (some (Wl ms false)) (some (.int (at_ ms : Nat))) (some (.bl (areMarks ms))) (some (.bl (isRest ms))) (some (.str (S (rowText ms)))) a13 none a15 x2 a17
  have s8 : sSet (gNm 12) (mMeth "str" (arg1 dJoin) (mC (.str " ")) (mCons q_law_6 mNil)) E4 = .nx E5 := by
    have hj := join_marks ms (by omega) hn
    have h6 := q6_eq ms hl hg a0 a1 a2 a3 a4 a6 a7 (some (Wl ms false)) (some (.int (at_ ms : Nat))) (some (.bl (areMarks ms))) (some (.bl (isRest ms))) a12 a13 none a15 x2 a17
    refine (sSet_nm (d := .str (S (rowText ms))) (e' := E4) ?_ (by simp [E4])).trans rfl
    rw [mMeth_ap, mC_ap]
    have h7 : mCons q_law_6 mNil E4 = .ok [.lst true (ms.map fun m => .str (S (mText m)))] E4 := by rw [mCons_ap, h6]; rfl
    simp only [meth_str, ty_str, beq_self_eq_true, Bool.and_self, if_true, h7, fz_str, fzs_cons, fzs_nil, fz_lst, fzs_strs, arg1_ap, hj, ofO_some]
    rfl
  have w5b : mV 5 E5 = .ok (Row ms) E5 := mV_im (d := Row ms) rfl (by simp)
  have w10b : mV 10 E5 = .ok (.bl (areMarks ms)) E5 := mV_im rfl rfl
  have w12 : mV 12 E5 = .ok (.str (S (rowText ms))) E5 := mV_im rfl rfl
  have hrm : readMarks (rowText ms) = if areMarks ms then some ms else none := readMarks_texts hg (words_row hg)
  have s9 : sIf (mOr (mNot (mTru (mCall' 2 (f__law_same 70) (mCons (mCall' 1 f_marks_text (mCons (mV 5) mNil)) (mCons (mV 12) mNil))))) (mNot (mTru (mCall' 2 (f__law_same 70) (mCons (mCall' 2 f__law_refused (mCons (mC (.int 1)) (mCons (mV 12) mNil))) (mCons (mNotV (mV 10)) mNil)))))) (sRet (mC (.bl false))) .nx E5 = .nx E5 := by
    have h1 := same_step (call1 w5b fR (marks_text_eq ms (by omega) hn)) w12 rfl rfl (n := 1) trivial (by omega)
    have hr : mCall' 2 f__law_refused (mCons (mC (.int 1)) (mCons (mV 12) mNil)) E5 = .ok (.bl !(areMarks ms)) E5 := by
      have h := refused1 (rowText ms) (by omega)
      have hb : (readMarks (rowText ms)).isNone = !(areMarks ms) := by rw [hrm]; cases areMarks ms <;> rfl
      rw [hb] at h
      rw [mCall'_ap, mCons_ap, mC_ap]
      simp only [mCons_ap, w12, mNil_ap, List.length_cons, List.length_nil, if_true, fzs_cons, fzs_nil, fz_int, fz_str, callF_ap, h]
    have h2 := same_step hr (notV_of w10b) rfl rfl (pb _) (by omega)
    exact (sIf_f (mOr_f h1 h2)).trans rfl
  have s10 : sIf (mAnd (mTru (mV 10)) (mNot (mTru (mCall' 2 (f__law_same 70) (mCons (mCall' 1 f_read_marks (mCons (m2 dAdd (m2 dAdd (mC (.str "  ")) (m1 (dRepl " " "   ") (mV 12))) (mC (.str " "))) mNil)) (mCons (mV 5) mNil)))))) (sRet (mC (.bl false))) .nx E5 = .nx E5 := by
    cases ka : areMarks ms with
    | false =>
      rw [ka] at w10b
      exact (sIf_f (mAnd_f (mTru_of w10b))).trans rfl
    | true =>
      rw [ka] at w10b hrm
      have hrep : dRepl " " "   " (.str (S (rowText ms))) = some (.str (S (TL.joinL [32, 32, 32] (TL.spl [32] 0 [] (rowText ms))))) := by
        have hb : (S (rowText ms)).length + ((S (rowText ms)).length + 1) * (Str.ofString "   ").length ≤ 16777216 := by
          have : (Str.ofString "   ").length = 3 := by decide +kernel
          rw [this, S_len']; omega
        show (if _ then _ else _) = _
        rw [if_pos hb]
        exact congrArg (fun x => some (D.str x)) (replace_S (rowText ms) [32, 32, 32] 32 (by omega))
      have hsl : (TL.spl [32] 0 [] (rowText ms)).length ≤ 201 := by
        have : ∀ (l acc : List Nat), (TL.spl [32] 0 acc l).length ≤ l.length + 1 := by
          intro l
          induction l with
          | nil => intro acc; rw [TL.spl_nil]; simp
          | cons c r ih =>
            intro acc
            by_cases q : c = 32
            · rw [TL.spl_hit (by rw [pre1]; simpa using q)]
              have := ih []
              simp only [List.length_cons] at this ⊢
              show (TL.spl [32] 0 [] r).length + 1 ≤ _
              omega
            · rw [TL.spl_miss (by rw [pre1]; simpa using q)]
              have := ih (acc ++ [c])
              simp only [List.length_cons]; omega
        have := this (rowText ms) []
        omega
      have hsum : ((TL.spl [32] 0 [] (rowText ms)).map List.length).sum ≤ 200 := by
        have : ∀ (l acc : List Nat), ((TL.spl [32] 0 acc l).map List.length).sum ≤ acc.length + l.length := by
          intro l
          induction l with
          | nil => intro acc; rw [TL.spl_nil]; simp
          | cons c r ih =>
            intro acc
            by_cases q : c = 32
            · rw [TL.spl_hit (by rw [pre1]; simpa using q)]
              have := ih []
              simp only [List.length_cons, List.map_cons, List.sum_cons] at this ⊢
              show acc.length + ((TL.spl [32] 0 [] r).map List.length).sum ≤ _
              simp at this; omega
            · rw [TL.spl_miss (by rw [pre1]; simpa using q)]
              have := ih (acc ++ [c])
              simp only [List.length_append, List.length_cons, List.length_nil] at this ⊢; omega
        have := this (rowText ms) []
        simp at this; omega
      have hjl := joinL_len [32, 32, 32] (TL.spl [32] 0 [] (rowText ms))
      simp only [List.length_cons, List.length_nil] at hjl
      have b1 := m2_of (g := dAdd) (mC_ap (.str "  ") E5) (m1_of (g := dRepl " " "   ") w12 hrep) (add_S (a := [32, 32]) (by simp; omega))
      have b2 := m2_of (g := dAdd) b1 (mC_ap (.str " ") E5) (add_S (b := [32]) (by simp; omega))
      have hrd := read_marks_eq ([32, 32] ++ TL.joinL [32, 32, 32] (TL.spl [32] 0 [] (rowText ms)) ++ [32]) (by simp; omega)
      rw [readMarks_texts hg (words_pad hg), ka] at hrd
      exact (sIf_f (mAnd_t (mTru_of w10b) (same_step (call1 b2 rfl hrd) w5b fR fR (plRow hl') (by omega)))).trans rfl
  -- be, goings
  let B : D := .lst true ((ms.filter fun m => m.1 == .be).map (fun m => .str (S m.2)) ++ [.str "" ])
  let E6 : Env := EvL a0 a1 a2 a3 a4 (Row ms) a6 a7 (some (Wl ms false)) (some (.int (at_ ms : Nat))) (some (.bl (areMarks ms))) (some (.bl (isRest ms))) (some (.str (S (rowText ms)))) (some B) none a15 none none
  have s11 : sSet (gNm 13) (m2 dAdd q_law_7 (mLst (mCons (mC (.str "")) mNil))) E5 = .nx E6 := by
    have h7 := q7_eq ms hl a0 a1 a2 a3 a4 a6 a7 (some (Wl ms false)) (some (.int (at_ ms : Nat))) (some (.bl (areMarks ms))) (some (.bl (isRest ms))) (some (.str (S (rowText ms)))) a13 none a15 x2 a17
    refine (sSet_nm (m2_of (g := dAdd) h7 (show mLst (mCons (mC (.str "")) mNil) _ = .ok (.lst true [.str ""]) _ from rfl) (d := B) ?_) (by simp)).trans rfl
    have hf : (ms.filter fun m => m.1 == .be).length ≤ ms.length := List.length_filter_le _ _
    simp only [fz_lst, fzs_strs, fzs_cons, fzs_nil, fz_str]
    exact add_lst (by simp only [List.length_map, List.length_cons, List.length_nil]; omega)
  let Bf : D := .lst false ((ms.filter fun m => m.1 == .be).map (fun m => .str (S m.2)) ++ [.str "" ])
  let E7 : Env := EvL a0 a1 a2 a3 a4 (Row ms) a6 a7 (some (Wl ms false)) (some (.int (at_ ms : Nat))) (some (.bl (areMarks ms))) (some (.bl (isRest ms))) (some (.str (S (rowText ms)))) (some Bf) none a15 none none
  have hBf : B.fz = Bf := by simp only [B, Bf, fz_lst, fzs_app, fzs_strs, fzs_cons, fzs_nil, fz_str]
  have fBf : Bf.fz = Bf := hBf
  have w13 : mV 13 E6 = .ok Bf E7 := by
    rw [mV_ap]
    show (Res.ok B.fz (E6.set 13 (some B.fz)) : Res D) = _
    rw [hBf]; rfl
  have w13b : mV 13 E7 = .ok Bf E7 := mV_im rfl fBf
  have w5c : mV 5 E7 = .ok (Row ms) E7 := mV_im (d := Row ms) rfl (by simp)
  have hlen : dLen Bf = some (.int ((ms.filter fun m => m.1 == .be).length + 1 : Nat)) := by
    simp only [Bf, len_lst', List.length_append, List.length_map, List.length_cons, List.length_nil]
  have h0 : dIx Bf (.int 0) = some (.str (S (beName ms))) := by
    have hh : beName ms = match (ms.filter fun m => m.1 == .be).head? with | some m => m.2 | none => [] := by rw [List.head?_filter]; rfl
    simp only [Bf, ix_lst']
    rw [hh]
    cases ms.filter fun m => m.1 == .be with
    | nil => simp [atI, ixN]; rfl
    | cons m r =>
      simp [atI, ixN]
      rw [if_pos (by omega)]; rfl
  have l1 : mBl (m2 dLt (mCall (one dLen) (mCons (mV 13) mNil)) (mC (.int 3))) E6 = .ok (decide ((ms.filter fun m => m.1 == .be).length + 1 < 3)) E7 := by
    refine mBl_of (m2_of (g := dLt) (call1_of w13 (by rw [fBf]; exact hlen)) (mC_ap (.int 3) E7) ?_)
    simp only [fz_int, lt_int]
    congr 2
    rw [Bool.eq_iff_iff]; simp; omega
  have plG : PL 2 (.lst false ((ms.filter fun m => m.1 == .go).map fun m => .str (S m.2))) := ⟨by have := List.length_filter_le (fun m : Mark => m.1 == .go) ms; rw [List.length_map]; omega, fun x hx => by
    obtain ⟨m, hm, rfl⟩ := List.mem_map.mp hx
    trivial⟩
  have g12 : mNot (mTru (mCall' 2 (f__law_same 70) (mCons (mCall' 1 f_goings (mCons (mV 5) mNil)) (mCons q_law_8 mNil)))) E7 = .ok false E7 :=
    same_step (call1 w5c fR (goings_eq ms (by omega))) (q8_eq ms hl a0 a1 a2 a3 a4 a6 a7 (some (Wl ms false)) (some (.int (at_ ms : Nat))) (some (.bl (areMarks ms))) (some (.bl (isRest ms))) (some (.str (S (rowText ms)))) (some Bf) none a15 none none) (by simp only [fz_lst, fzs_strs]) (by simp only [fz_lst, fzs_strs]) plG (by omega)
  have s12 : sIf (mOr (mAnd (mBl (m2 dLt (mCall (one dLen) (mCons (mV 13) mNil)) (mC (.int 3)))) (mNot (mTru (mCall' 2 (f__law_same 70) (mCons (mCall' 1 f_be_name (mCons (mV 5) mNil)) (mCons (m2 dIx (mV 13) (mC (.int 0))) mNil)))))) (mNot (mTru (mCall' 2 (f__law_same 70) (mCons (mCall' 1 f_goings (mCons (mV 5) mNil)) (mCons q_law_8 mNil)))))) (sRet (mC (.bl false))) .nx E6 = .nx E7 := by
    refine (sIf_f (mOr_f (e1 := E7) ?_ g12)).trans rfl
    by_cases k : (ms.filter fun m => m.1 == .be).length + 1 < 3
    · rw [show decide ((ms.filter fun m => m.1 == .be).length + 1 < 3) = true by simpa using k] at l1
      exact mAnd_t l1 (same_step (call1 w5c fR (be_name_eq ms)) (m2_of (g := dIx) w13b (mC_ap (.int 0) E7) (by rw [fBf, fz_int]; exact h0)) rfl rfl (n := 1) trivial (by omega))
    · rw [show decide ((ms.filter fun m => m.1 == .be).length + 1 < 3) = false by simpa using k] at l1
      exact mAnd_f l1
  let EF : Option D → Env := fun x => EvL a0 a1 a2 a3 a4 (Row ms) a6 a7 (some (Wl ms false)) (some (.int (at_ ms : Nat))) (some (.bl (areMarks ms))) (some (.bl (isRest ms))) (some (.str (S (rowText ms)))) (some Bf) x a15 none none
  have s13 : ∃ x, sFor (mItems (mV 5)) (gNm 14) b_law_1 E7 = .nx (EF x) := by
    have hf := forS_inv (g := gNm 14) (b := b_law_1) (enc := encM) (fun _ e => ∃ x, e = EF x) ms [] E7 ⟨none, rfl⟩ (fun d m env hm _ hP => by
      obtain ⟨x, rfl⟩ := hP
      have hmn := hn m hm
      refine ⟨EF (some (encM m)), EF (some (encM m)), rfl, .inl ?_, some (encM m), rfl⟩
      have w14 : mV 14 (EF (some (encM m))) = .ok (encM m) (EF (some (encM m))) := mV_im rfl rfl
      have hr := read_mark_eq (mText m) (by have := s_len m.1; simp only [mText, List.length_append]; omega)
      rw [read_text m (hg m hm)] at hr
      unfold b_law_1
      exact (sIf_f (same_step (call1 (call1 w14 rfl (mark_text_eq m hmn)) rfl hr) w14 rfl rfl (plM m) (by omega))).trans rfl)
    obtain ⟨env', h1, x, rfl⟩ := hf
    refine ⟨x, ?_⟩
    rw [sFor_ap]
    rw [show mItems (mV 5) E7 = .ok (ms.map encM) E7 from row_it ms a0 a1 a2 a3 a4 a6 a7 _ _ _ _ _ _ _ _ _ _ none]
    exact h1
  obtain ⟨x, s13⟩ := s13
  exact ⟨_, _, _, _, _, _, _, _, _, _, (sSeq_nx s1).trans ((sSeq_nx s2).trans ((sSeq_nx s3).trans ((sSeq_nx s4).trans ((sSeq_nx s5).trans ((sSeq_nx s6).trans ((sSeq_nx s7).trans ((sSeq_nx s8).trans ((sSeq_nx s9).trans ((sSeq_nx s10).trans ((sSeq_nx s11).trans ((sSeq_nx s12).trans s13)))))))))))⟩
end
end VL


set_option Elab.async false
set_option linter.all false
set_option maxRecDepth 100000
set_option maxHeartbeats 4000000
namespace VL
open PySem PySem.Spec L2 SX
open PyProof.Rows hiding St
abbrev mA : List Mark := [(.be, [65])]
theorem row_A (a0 a1 a2 a3 a4 a6 a7 a8 a9 a10 a11 a12 a13 a14 a15 a16 a17 : Option D) : ∃ b8 b9 b10 b11 b12 b13 b14 b15 b16 b17, b_law_2 (EvL a0 a1 a2 a3 a4 (Row mA) a6 a7 a8 a9 a10 a11 a12 a13 a14 a15 a16 a17) = .ct (EvL a0 a1 a2 a3 a4 (Row mA) a6 a7 b8 b9 b10 b11 b12 b13 b14 b15 b16 b17) := by
  unfold b_law_2
  have hl' : mA.length ≤ 100 := by simp
  have ham : areMarks mA = false := by decide +kernel
  have s1 := sSet_nm (i := 8) (q2_eq mA hl' a0 a1 a2 a3 a4 a6 a7 a8 a9 a10 a11 a12 a13 a14 a15 a16 a17) (by simp)
  have s2 : sSet (gNm 9) (mIf (mBl (m2 dIn (mC (.str "be")) (mV 8))) (mMeth "list" (arg1 dIndex) (mV 8) (mCons (mC (.str "be")) mNil)) (mC (.int 0))) (EvL a0 a1 a2 a3 a4 (Row mA) a6 a7 (some (Wl mA true)) a9 a10 a11 a12 a13 none a15 a16 a17) = .nx (EvL a0 a1 a2 a3 a4 (Row mA) a6 a7 (some (Wl mA false)) (some (.int (at_ mA : Nat))) a10 a11 a12 a13 none a15 a16 a17) := by
    refine (sSet_nm (d := .int (at_ mA : Nat)) (e' := EvL a0 a1 a2 a3 a4 (Row mA) a6 a7 (some (Wl mA false)) a9 a10 a11 a12 a13 none a15 a16 a17) ?_ (by simp)).trans rfl
    have hin := in_words (o := false) mA
    have k : K4.be ∈ ks mA := by decide +kernel
    have hix := index_t (o := false) mA k
    generalize mA = ms at *
    simp -implicitDefEqProofs [hin, k, hix, at_]
  let E2 : Env := EvL a0 a1 a2 a3 a4 (Row mA) a6 a7 (some (Wl mA false)) (some (.int (at_ mA : Nat))) a10 a11 a12 a13 none a15 a16 a17
  have hcnt : dCount (.lst false (mA.map fun m => .str m.1.t)) (.str "be") = some (.int ((ks mA).count .be : Nat)) := by
    rw [count_lst, ← count_t]; rfl
  have hk1 : (ks mA).count .be = 1 := by decide +kernel
  have e1 : m2 dEq (mMeth "list" (arg1 dCount) (mV 8) (mCons (mC (.str "be")) mNil)) (mC (.int 1)) E2 = .ok (.bl true) E2 := by
    rw [hk1] at hcnt
    simp only [E2]
    generalize mA = ms at *
    simp -implicitDefEqProofs [hcnt]
  have w5 : ∀ E, E = E2 → mV 5 E = .ok (Row mA) E := fun E h => by subst h; exact mV_im (d := Row mA) rfl (by simp)
  have hin := notIn_row (.be, [65]) mA (by decide +kernel) (by decide +kernel)
  have e2 : m2 dNotIn (mTup (mCons (mC (.str "be")) (mCons (mC (.str "A")) mNil))) (mV 5) E2 = .ok (.bl false) E2 := by
    have h1 : mTup (mCons (mC (.str "be")) (mCons (mC (.str "A")) mNil)) E2 = .ok (encM (.be, [65])) E2 := rfl
    exact m2_of h1 (w5 _ rfl) hin.1
  let E3 : Env := EvL a0 a1 a2 a3 a4 (Row mA) a6 a7 (some (Wl mA false)) (some (.int (at_ mA : Nat))) (some (.bl false)) a11 a12 a13 none a15 a16 a17
  have s3 : sSet (gNm 10) (mAndV (m2 dEq (mMeth "list" (arg1 dCount) (mV 8) (mCons (mC (.str "be")) mNil)) (mC (.int 1))) (mAndV (m2 dNotIn (mTup (mCons (mC (.str "be")) (mCons (mC (.str "A")) mNil))) (mV 5)) (mAndV (m2 dLe (mCall (one dLen) (mCons (mV 5) mNil)) (mC (.int 10))) (mAndV (mCall (one dAll) (mCons q_law_3 mNil)) (mCall (one dAll) (mCons q_law_4 mNil)))))) E2 = .nx E3 :=
    (sSet_nm (mAndV_t e1 (mAndV_f e2)) (by simp [E2])).trans rfl
  have lenR : ∀ E, mV 5 E = .ok (Row mA) E → mCall (one dLen) (mCons (mV 5) mNil) E = .ok (.int 1) E := fun E h => call1_of h rfl
  have v3 : mV 5 E3 = .ok (Row mA) E3 := mV_im (d := Row mA) rfl (by simp)
  have g1 : m2 dGt (mCall (one dLen) (mCons (mV 5) mNil)) (mC (.int 0)) E3 = .ok (.bl true) E3 := m2_of (lenR _ v3) (mC_ap _ _) rfl
  have g2 : mV 10 E3 = .ok (.bl false) E3 := mV_im rfl rfl
  have g3 : m2 dLt (mCall (one dLen) (mCons (mV 5) mNil)) (mC (.int 10)) E3 = .ok (.bl true) E3 := m2_of (lenR _ v3) (mC_ap _ _) rfl
  have g4 := all_of (q5_eq mA hl' a0 a1 a2 a3 a4 a6 a7 (some (.int (at_ mA : Nat))) (some (.bl false)) a11 a12 a13 none a15 a16 a17)
  have s4 := sSet_nm (i := 11) (mAndV_t g1 (mOrV_f g2 (mAndV_t g3 g4))) (by simp)
  let E4 : Env := EvL a0 a1 a2 a3 a4 (Row mA) a6 a7 (some (Wl mA false)) (some (.int (at_ mA : Nat))) (some (.bl false)) (some (.bl (mA.all fun m => m.1 == .go))) a12 a13 none a15 none a17
  have v4 : mV 5 E4 = .ok (Row mA) E4 := mV_im (d := Row mA) rfl (by simp)
  have hae := are_marks_eq mA (by simp) (by simp)
  rw [ham] at hae
  have s5 : sIf (mNot (mTru (mCall' 2 (f__law_same 70) (mCons (mCall' 1 f_are_marks (mCons (mV 5) mNil)) (mCons (mV 10) mNil))))) (sRet (mC (.bl false))) .nx E4 = .nx E4 :=
    (sIf_f (same_step (call1 v4 (by simp) hae) (mV_im (i := 10) (d := .bl false) rfl rfl) rfl rfl (n := 1) trivial (by omega))).trans rfl
  have s6 : sIf (mBl (m2 dIn (mTup (mCons (mC (.str "be")) (mCons (mC (.str "A")) mNil))) (mV 5))) .ct .nx E4 = .ct E4 := by
    have h1 : mTup (mCons (mC (.str "be")) (mCons (mC (.str "A")) mNil)) E4 = .ok (encM (.be, [65])) E4 := rfl
    exact (sIf_t (mBl_of (m2_of (g := dIn) h1 v4 hin.2))).trans rfl
  exact ⟨_, _, _, _, _, _, _, _, _, _, (sSeq_nx s1).trans ((sSeq_nx s2).trans ((sSeq_nx s3).trans ((sSeq_nx s4).trans ((sSeq_nx s5).trans (sSeq_ct s6)))))⟩
end VL


set_option Elab.async false
set_option linter.all false
set_option maxRecDepth 100000
set_option maxHeartbeats 4000000
namespace VL
open PySem PySem.Spec L2 SX
open PyProof.Rows hiding St
theorem cons_of {ma : M D} {mb : M (List D)} {e e1 e2 : Env} {a : D} {l : List D} (ha : ma e = .ok a e1) (hb : mb e1 = .ok l e2) : mCons ma mb e = .ok (a :: l) e2 := by
  rw [mCons_ap, ha]; simp only [hb]
theorem pick910 (d : D) (hd : IsS d) : ∃ (n : Nat) (d' : D), (n = 9 ∨ n = 10) ∧ IsS d' ∧ f__law_pick [d, .lst false [.int 9, .int 10]] = .ok (.int n) d' := by
  obtain ⟨x, d', hx, hd', e⟩ := pick_eq d hd (.lst false [.int 9, .int 10]) [.int 9, .int 10] rfl (.inl rfl) (by simp) (by simp)
  simp only [List.mem_cons, List.not_mem_nil, or_false] at hx
  rcases hx with rfl | rfl
  · exact ⟨9, d', .inl rfl, hd', e⟩
  · exact ⟨10, d', .inr rfl, hd', e⟩
abbrev mGo : Mark := (.go, [97])
abbrev mWt : Mark := (.want, [97])
abbrev mBe : Mark := (.be, [97])
section
variable (a0 a2 a5 a6 a7 a8 a9 a10 a11 a12 a13 a14 a15 a16 a17 : Option D) (marks good : List Mark) (hgl : good.length ≤ 6)
abbrev EvM (d : D) : Env := [a0, some d, a2, some (Row marks), some (Row good), a5, a6, a7, a8, a9, a10, a11, a12, a13, a14, a15, a16, a17]
include hgl in
theorem rows_eq (d : D) (hd : IsS d) : ∃ (n m : Nat) (d' : D), (n = 9 ∨ n = 10) ∧ (m = 9 ∨ m = 10) ∧ IsS d' ∧
    mItems (mLst (mCons (mV 3) (mCons (mV 4) (mCons (mSlice dSl (mV 4) (M.pure none) ((mI (mC (.int 0))).bind fun i => M.pure (some i))) (mCons (m2 dAdd (mV 4) (mV 4)) (mCons (m2 dMul (mTup (mCons (mTup (mCons (mC (.str "go")) (mCons (mC (.str "a")) mNil))) mNil)) (mCallIO 2 f__law_pick 1 0 (mGuard 1 (mCons (mLst (mCons (mC (.int 9)) (mCons (mC (.int 10)) mNil))) mNil)))) (mCons (mTup (mCons (mTup (mCons (mC (.str "be")) (mCons (mC (.str "A")) mNil))) mNil)) (mCons (m2 dAdd (m2 dMul (mTup (mCons (mTup (mCons (mC (.str "want")) (mCons (mC (.str "a")) mNil))) mNil)) (mCallIO 2 f__law_pick 1 0 (mGuard 1 (mCons (mLst (mCons (mC (.int 9)) (mCons (mC (.int 10)) mNil))) mNil)))) (mTup (mCons (mTup (mCons (mC (.str "be")) (mCons (mC (.str "a")) mNil))) mNil))) mNil))))))))
      (EvM a0 a2 a5 a6 a7 a8 a9 a10 a11 a12 a13 a14 a15 a16 a17 marks good d) = .ok ([marks, good, [], good ++ good, List.replicate n mGo, mA, List.replicate m mWt ++ [mBe]].map Row) (EvM a0 a2 a5 a6 a7 a8 a9 a10 a11 a12 a13 a14 a15 a16 a17 marks good d') := by
  obtain ⟨n, d1, hn, hd1, e1⟩ := pick910 d hd
  obtain ⟨m, d2, hm, hd2, e2⟩ := pick910 d1 hd1
  let E : D → Env := EvM a0 a2 a5 a6 a7 a8 a9 a10 a11 a12 a13 a14 a15 a16 a17 marks good
  have x1 : ∀ d, mV 3 (E d) = .ok (Row marks) (E d) := fun d => mV_im (d := Row marks) rfl (by simp)
  have x2 : ∀ d, mV 4 (E d) = .ok (Row good) (E d) := fun d => mV_im (d := Row good) rfl (by simp)
  have x3 : ∀ d, mSlice dSl (mV 4) (M.pure none) ((mI (mC (.int 0))).bind fun i => M.pure (some i)) (E d) = .ok (Row []) (E d) := fun d => by
    rw [mSlice_ap, x2]
    have h : dSl (Row good).fz none (some ((0 : Nat) : Int)) = some (Row []) := by
      simp only [Row, fz_tup, sl_tup', cut_to, List.take_zero, List.map_nil]
    simp only [pure_ap, bind_ap, mI_ap, mC_ap, fz_int, toI_int, ofO_some]
    rw [show ((0 : Int)) = ((0 : Nat) : Int) from rfl, h]; rfl
  have fR : ∀ l : List Mark, (Row l).fz = Row l := fun l => by simp
  have x4 : ∀ d, m2 dAdd (mV 4) (mV 4) (E d) = .ok (Row (good ++ good)) (E d) := fun d => m2_of (x2 d) (x2 d) (by
    rw [fR]; exact (add_tup (by simp only [List.length_map]; omega)).trans (by simp [Row]))
  have pk : ∀ (d d' : D) (n : Nat), f__law_pick [d, .lst false [.int 9, .int 10]] = .ok (.int n) d' → mCallIO 2 f__law_pick 1 0 (mGuard 1 (mCons (mLst (mCons (mC (.int 9)) (mCons (mC (.int 10)) mNil))) mNil)) (E d) = .ok (.int n) (E d') := fun d d' n h => by
    simp -implicitDefEqProofs [E, h]
  have ml : ∀ (x : D) (n : Nat), (n = 9 ∨ n = 10) → dMul (.tup [x]) (.int n) = some (.tup (List.replicate n x)) := fun x n h => by
    rcases h with rfl | rfl <;> rfl
  have x5 : m2 dMul (mTup (mCons (mTup (mCons (mC (.str "go")) (mCons (mC (.str "a")) mNil))) mNil)) (mCallIO 2 f__law_pick 1 0 (mGuard 1 (mCons (mLst (mCons (mC (.int 9)) (mCons (mC (.int 10)) mNil))) mNil))) (E d) = .ok (Row (List.replicate n mGo)) (E d1) :=
    m2_of (show mTup (mCons (mTup (mCons (mC (.str "go")) (mCons (mC (.str "a")) mNil))) mNil) (E d) = .ok (.tup [encM mGo]) (E d) from rfl) (pk _ _ _ e1) (by
      show dMul (.tup [encM mGo]) (.int n) = _
      rw [ml _ _ hn]; simp [Row])
  have x6 : mTup (mCons (mTup (mCons (mC (.str "be")) (mCons (mC (.str "A")) mNil))) mNil) (E d1) = .ok (Row mA) (E d1) := rfl
  have x7 : m2 dMul (mTup (mCons (mTup (mCons (mC (.str "want")) (mCons (mC (.str "a")) mNil))) mNil)) (mCallIO 2 f__law_pick 1 0 (mGuard 1 (mCons (mLst (mCons (mC (.int 9)) (mCons (mC (.int 10)) mNil))) mNil))) (E d1) = .ok (Row (List.replicate m mWt)) (E d2) :=
    m2_of (show mTup (mCons (mTup (mCons (mC (.str "want")) (mCons (mC (.str "a")) mNil))) mNil) (E d1) = .ok (.tup [encM mWt]) (E d1) from rfl) (pk _ _ _ e2) (by
      show dMul (.tup [encM mWt]) (.int m) = _
      rw [ml _ _ hm]; simp [Row])
  have x8 := m2_of (g := dAdd) x7 (show mTup (mCons (mTup (mCons (mC (.str "be")) (mCons (mC (.str "a")) mNil))) mNil) (E d2) = .ok (Row [mBe]) (E d2) from rfl) (d := Row (List.replicate m mWt ++ [mBe])) (by rw [fR, fR]; exact (add_tup (by simp only [List.length_map, List.length_replicate, List.length_cons, List.length_nil]; omega)).trans (by simp [Row]))
  have hc := cons_of (x1 d) (cons_of (x2 d) (cons_of (x3 d) (cons_of (x4 d) (cons_of x5 (cons_of x6 (cons_of x8 (show mNil (E d2) = .ok [] (E d2) from rfl)))))))
  refine ⟨n, m, d2, hn, hm, hd2, ?_⟩
  rw [mItems_ap, mLst_ap, hc]
  show (match (D.lst true [Row marks, Row good, Row [], Row (good ++ good), Row (List.replicate n mGo), Row mA, Row (List.replicate m mWt ++ [mBe])]).fz with | .lst _ ds => Res.ok ds (E d2) | .tup ds => .ok ds (E d2) | .scr ns => .ok (ns.map .int) (E d2) | _ => .bad) = _
  simp only [fz_lst, fzs_cons, fzs_nil, fR]
  rfl
end
end VL


set_option Elab.async false
set_option linter.all false
set_option maxRecDepth 100000
set_option maxHeartbeats 4000000
namespace VL
open PySem PySem.Spec L2 SX
open PyProof.Rows hiding St
theorem ks_nobe {f : List Mark} (h : ∀ m ∈ f, m.1 ≠ .be) : K4.be ∉ ks f := fun q => by
  obtain ⟨m, hm, e⟩ := List.mem_map.mp q
  exact h m hm e
theorem findIdx_be : ∀ {l r : List K4}, K4.be ∉ l → (l ++ K4.be :: r).findIdx (· == .be) = l.length
  | [], r, _ => by simp [List.findIdx_cons]
  | a :: l, r, h => by
    have ha : (a == K4.be) = false := by simpa using fun q : a = K4.be => h (by simp [q])
    have ih := findIdx_be (l := l) (r := r) (fun q => h (List.mem_cons_of_mem _ q))
    simp [List.findIdx_cons, ha, ih]
theorem are_of {f g : List Mark} {n : List Nat} (hg : GoodN (f ++ (K4.be, n) :: g)) (hl : (f ++ (K4.be, n) :: g).length ≤ 10) (hf : ∀ m ∈ f, m.1 = .want ∨ m.1 = .pull) (hgo : ∀ m ∈ g, m.1 = .go) :
    (ks (f ++ (K4.be, n) :: g)).count .be = 1 ∧ areMarks (f ++ (K4.be, n) :: g) = true := by
  have h1 : K4.be ∉ ks f := ks_nobe fun m hm q => by rcases hf m hm with h | h <;> rw [h] at q <;> cases q
  have h2 : K4.be ∉ ks g := ks_nobe fun m hm q => by rw [hgo m hm] at q; cases q
  have hk : ks (f ++ (K4.be, n) :: g) = ks f ++ K4.be :: ks g := by simp [ks]
  have hc : (ks (f ++ (K4.be, n) :: g)).count .be = 1 := by
    rw [hk, List.count_append, List.count_cons_self, List.count_eq_zero.mpr h1, List.count_eq_zero.mpr h2]
  have hat : beAt (f ++ (K4.be, n) :: g) = (ks f).length := by
    unfold beAt
    rw [hk]
    exact findIdx_be h1
  refine ⟨hc, ?_⟩
  unfold areMarks
  rw [hc, hat, hk, List.take_left, show (ks f).length + 1 = (ks f ++ [K4.be]).length by simp, show ks f ++ K4.be :: ks g = (ks f ++ [K4.be]) ++ ks g by simp, List.drop_left]
  have e1 : ((f ++ (K4.be, n) :: g).all fun m => isName m.2) = true := List.all_eq_true.mpr hg
  have e2 : ((ks f).all fun k => k == .want || k == .pull) = true := List.all_eq_true.mpr fun k hk => by
    obtain ⟨m, hm, rfl⟩ := List.mem_map.mp hk
    rcases hf m hm with h | h <;> rw [h] <;> rfl
  have e3 : ((ks g).all fun k => k == .go) = true := List.all_eq_true.mpr fun k hk => by
    obtain ⟨m, hm, rfl⟩ := List.mem_map.mp hk
    rw [hgo m hm]; rfl
  rw [e1, e2, e3]
  simp only [hl, decide_true]; rfl
theorem rest_suffix {ms : List Mark} (h : Good ms) {k : Nat} (hk : k < ms.length) : isRest (ms.drop k) = true := by
  obtain ⟨hg, f, n, g, rfl, hf, hgl, hw, hgo⟩ := h
  have hgd : GoodN ((f ++ (K4.be, n) :: g).drop k) := fun m hm => hg m (List.mem_of_mem_drop hm)
  by_cases c : k ≤ f.length
  · rw [List.drop_append_of_le_length c] at hgd ⊢
    obtain ⟨h1, h2⟩ := are_of hgd (by simp; omega) (fun m hm => hw m (List.mem_of_mem_drop hm)) hgo
    simp [isRest, h1, h2]
  · have e : (f ++ (K4.be, n) :: g).drop k = g.drop (k - f.length - 1) := by
      rw [List.drop_append, List.drop_eq_nil_of_le (by omega), List.nil_append, show k - f.length = (k - f.length - 1) + 1 by omega]
      simp
    rw [e] at hgd ⊢
    have hne : g.drop (k - f.length - 1) ≠ [] := by
      intro q
      have := congrArg List.length q
      simp at this hk
      omega
    have hgo' : ∀ m ∈ g.drop (k - f.length - 1), m.1 = .go := fun m hm => hgo m (List.mem_of_mem_drop hm)
    have hnb : (ks (g.drop (k - f.length - 1))).count .be = 0 := List.count_eq_zero.mpr (ks_nobe fun m hm q => by rw [hgo' m hm] at q; cases q)
    have hll : (g.drop (k - f.length - 1)).length < 10 := by rw [List.length_drop]; omega
    unfold isRest
    rw [if_neg (by simp only [hnb]; simpa using hne), if_neg (by omega)]
    rw [show decide ((g.drop (k - f.length - 1)).length < 10) = true by simpa using hll, Bool.true_and, List.all_eq_true]
    intro m hm
    rw [hgo' m hm, hgd m hm]; rfl
theorem good_len {ms : List Mark} (h : Good ms) : ms.length ≤ 6 := by
  obtain ⟨hg, f, n, g, rfl, hf, hgl, hw, hgo⟩ := h
  simp; omega
abbrev EvAt (a0 a1 a2 a3 a4 : Option D) (e : Env) : Prop := ∃ a5 a6 a7 a8 a9 a10 a11 a12 a13 a14 a15 a16 a17, e = [a0, a1, a2, a3, a4, a5, a6, a7, a8, a9, a10, a11, a12, a13, a14, a15, a16, a17]
theorem rows_loop (a0 a1 a2 a3 a4 : Option D) (l : List (List Mark)) (h : ∀ x ∈ l, x = mA ∨ (GoodN x ∧ x.length ≤ 20)) (e : Env) (he : EvAt a0 a1 a2 a3 a4 e) : ∃ e', forS (gNm 5) b_law_2 (l.map Row) e = .nx e' ∧ EvAt a0 a1 a2 a3 a4 e' :=
  forS_inv (g := gNm 5) (b := b_law_2) (enc := Row) (fun _ e => EvAt a0 a1 a2 a3 a4 e) l [] e he (fun d x env hx _ hP => by
    obtain ⟨a5, a6, a7, a8, a9, a10, a11, a12, a13, a14, a15, a16, a17, rfl⟩ := hP
    rcases h x hx with rfl | ⟨h1, h2⟩
    · obtain ⟨b8, b9, b10, b11, b12, b13, b14, b15, b16, b17, hb⟩ := row_A a0 a1 a2 a3 a4 a6 a7 a8 a9 a10 a11 a12 a13 a14 a15 a16 a17
      exact ⟨_, _, rfl, .inr hb, _, _, _, _, _, _, _, _, _, _, _, _, _, rfl⟩
    · obtain ⟨b8, b9, b10, b11, b12, b13, b14, b15, b16, b17, hb⟩ := row_good x h2 h1 a0 a1 a2 a3 a4 a6 a7 a8 a9 a10 a11 a12 a13 a14 a15 a16 a17
      exact ⟨_, _, rfl, .inl hb, _, _, _, _, _, _, _, _, _, _, _, _, _, rfl⟩)
theorem cut_loop (a0 a1 a2 a3 : Option D) (good : List Mark) (hg : Good good) (e : Env) (he : EvAt a0 a1 a2 a3 (some (Row good)) e) : ∃ e', sFor (mRange2 (mC (.int 1)) (m2 dAdd (mCall (one dLen) (mCons (mV 4) mNil)) (mC (.int 1)))) (gNm 6) b_law_3 e = .nx e' ∧ EvAt a0 a1 a2 a3 (some (Row good)) e' := by
  have hgl := good_len hg
  have fR : ∀ l : List Mark, (Row l).fz = Row l := fun l => by simp
  have w4 : ∀ e, EvAt a0 a1 a2 a3 (some (Row good)) e → mV 4 e = .ok (Row good) e := fun e he => by
    obtain ⟨a5, a6, a7, a8, a9, a10, a11, a12, a13, a14, a15, a16, a17, rfl⟩ := he
    exact mV_im (d := Row good) rfl (fR _)
  have hlen : m2 dAdd (mCall (one dLen) (mCons (mV 4) mNil)) (mC (.int 1)) e = .ok (.int ((good.length : Nat) + 1)) e :=
    m2_of (call1_of (w4 e he) (d := .int (good.length : Nat)) (by rw [fR]; simp [Row])) (mC_ap _ _) rfl
  have hit : mRange2 (mC (.int 1)) (m2 dAdd (mCall (one dLen) (mCons (mV 4) mNil)) (mC (.int 1))) e = .ok ((List.range good.length).map fun k => .int (1 + (k : Nat))) e := by
    have i1 : mI (mC (.int 1)) e = .ok 1 e := rfl
    have i2 : mI (m2 dAdd (mCall (one dLen) (mCons (mV 4) mNil)) (mC (.int 1))) e = .ok ((good.length : Nat) + 1) e := by rw [mI_ap, hlen]; rfl
    rw [mRange2_ap, i1]
    simp only [i2]
    rw [if_pos (by omega), show (((good.length : Nat) : Int) + 1 - 1).toNat = good.length by omega]
  have lp := forS_inv (g := gNm 6) (b := b_law_3) (enc := fun k : Nat => .int (1 + (k : Nat))) (fun _ e => EvAt a0 a1 a2 a3 (some (Row good)) e) (List.range good.length) [] e he (fun d k env hk _ hP => by
    have hk' : k < good.length := List.mem_range.mp hk
    obtain ⟨a5, a6, a7, a8, a9, a10, a11, a12, a13, a14, a15, a16, a17, rfl⟩ := hP
    let Ek : Env := [a0, a1, a2, a3, some (Row good), a5, some (.int (1 + (k : Nat))), a7, a8, a9, a10, a11, a12, a13, a14, a15, a16, a17]
    refine ⟨Ek, Ek, rfl, .inl ?_, _, _, _, _, _, _, _, _, _, _, _, _, _, rfl⟩
    have e4 : mV 4 Ek = .ok (Row good) Ek := mV_im (d := Row good) rfl (fR _)
    have e6 : m2 dSub (mV 6) (mC (.int 1)) Ek = .ok (.int (k : Nat)) Ek :=
      m2_of (mV_im (d := .int (1 + (k : Nat))) rfl rfl) (mC_ap _ _) (by
        show some (D.int (1 + (k : Nat) - 1)) = _
        congr 2; omega)
    have es : mSlice dSl (mV 4) ((mI (m2 dSub (mV 6) (mC (.int 1)))).bind fun i => M.pure (some i)) (M.pure none) Ek = .ok (Row (good.drop k)) Ek := by
      rw [mSlice_ap, e4]
      simp only [bind_ap, mI_ap, e6, fz_int, toI_int, pure_ap, fR]
      have h : dSl (Row good) (some (k : Nat)) none = some (Row (good.drop k)) := by
        simp only [Row, sl_tup', cut_from, List.map_drop]
      show M.ofO (dSl (Row good) (some ((k : Nat) : Int)) none) Ek = _
      rw [h]; rfl
    have hr := is_rest_eq (good.drop k) (by rw [List.length_drop]; omega) (fun m hm => by have := (isName_mem (hg.1 m (List.mem_of_mem_drop hm))).2.2.1; omega)
    rw [rest_suffix hg hk'] at hr
    unfold b_law_3
    exact (sIf_f (mBl_of (m2_of (g := dIsNot) (call1 es (fR _) hr) (mC_ap _ _) rfl))).trans rfl)
  obtain ⟨e', h1, h2⟩ := lp
  refine ⟨e', ?_, h2⟩
  rw [sFor_ap, hit]
  exact h1
end VL


set_option Elab.async false
set_option linter.all false
set_option maxRecDepth 100000
set_option maxHeartbeats 4000000
namespace VL
open PySem PySem.Spec L2 SX
open PyProof.Rows hiding St
abbrev NL : List (List Nat) := [[97], [98, 57], [99], [113, 49, 50, 51, 52, 53, 54, 55]]
abbrev NLd (o : Bool) : D := .lst o (NL.map fun n => .str (S n))
theorem NL_name : ∀ n ∈ NL, isName n = true := by decide +kernel
theorem NL_fz (o : Bool) : (NLd o).fz = encN NL := by cases o <;> simp [encN]
theorem pick_word (d : D) (hd : IsS d) : ∃ (k : K4) (d' : D), IsS d' ∧ f__law_pick [d, .lst false [.str "want", .str "be", .str "pull", .str "go"]] = .ok (.str k.t) d' := by
  obtain ⟨x, d', hx, hd', e⟩ := pick_eq d hd (.lst false [.str "want", .str "be", .str "pull", .str "go"]) [.str "want", .str "be", .str "pull", .str "go"] rfl (.inl rfl) (by simp) (by simp)
  simp only [List.mem_cons, List.not_mem_nil, or_false] at hx
  rcases hx with rfl | rfl | rfl | rfl
  · exact ⟨.want, d', hd', e⟩
  · exact ⟨.be, d', hd', e⟩
  · exact ⟨.pull, d', hd', e⟩
  · exact ⟨.go, d', hd', e⟩
abbrev Ev1 (a0 : Option D) (d : D) (o : Bool) (x : Option D) : Env := [a0, some d, some (NLd o), none, none, none, none, none, none, none, none, none, none, none, none, x, none, none]
theorem pick2 (a0 x : Option D) (d d3 N N2 r : D) (hN : N.fz = N2) (hff : N2.fz = N2) (e3 : f__law_pick [d, N2] = .ok r d3) : mCallIO 2 f__law_pick 1 0 (mGuard 1 (mCons (mV 2) mNil)) [a0, some d, some N, none, none, none, none, none, none, none, none, none, none, none, none, x, none, none] = .ok r [a0, some d3, some N2, none, none, none, none, none, none, none, none, none, none, none, none, x, none, none] := by
  simp -implicitDefEqProofs [hN, hff, e3]
theorem q1_eq (a0 : Option D) (d : D) (hd : IsS d) : ∃ (ms : List Mark) (d' : D) (o : Bool), IsS d' ∧ GoodN ms ∧ ms.length ≤ 6 ∧ q_law_1 (Ev1 a0 d true none) = .ok (.lst true (ms.map encM)) (Ev1 a0 d' o none) := by
  obtain ⟨v, d1, hv, hd1, e1⟩ := draw_eq d hd 6 (by omega) (by omega)
  have hit : mRange1 (mCallIO 2 f__law_draw 1 0 (mGuard 1 (mCons (mC (.int 6)) mNil))) (Ev1 a0 d true none) = .ok ((List.range v).map fun i => .int (i : Nat)) (Ev1 a0 d1 true none) := by
    have e1' : f__law_draw [d, .int 6] = .ok (.int v) d1 := e1
    have hb : -(2 ^ 62) ≤ (v : Int) ∧ (v : Int) < 2 ^ 62 := by omega
    simp -implicitDefEqProofs [e1']
    omega
  have lc := compL_inv (g := gNm 15) (vs := [15]) (tt := M.pure true) (te := mTup (mCons (mCallIO 2 f__law_pick 1 0 (mGuard 1 (mCons (mLst (mCons (mC (.str "want")) (mCons (mC (.str "be")) (mCons (mC (.str "pull")) (mCons (mC (.str "go")) mNil))))) mNil))) (mCons (mCallIO 2 f__law_pick 1 0 (mGuard 1 (mCons (mV 2) mNil))) mNil))) (enc := fun i : Nat => D.int (i : Nat))
    (fun done e acc => ∃ (ms : List Mark) (d' : D) (o : Bool), e = Ev1 a0 d' o none ∧ acc = ms.map encM ∧ IsS d' ∧ ms.length = done.length ∧ GoodN ms)
    (List.range v) [] [] (Ev1 a0 d1 true none) ⟨[], d1, true, rfl, rfl, hd1, rfl, fun m hm => by simp at hm⟩
    (fun done i e acc hi hlt ⟨ms, d', o, he, ha, hd', hl, hg⟩ => by
      subst he ha
      obtain ⟨k, d2, hd2, e2⟩ := pick_word d' hd'
      obtain ⟨n, d3, hn, hd3, e3⟩ := pick_name d2 hd2 NL (by simp) (by simp)
      have z1 : mCallIO 2 f__law_pick 1 0 (mGuard 1 (mCons (mLst (mCons (mC (.str "want")) (mCons (mC (.str "be")) (mCons (mC (.str "pull")) (mCons (mC (.str "go")) mNil))))) mNil)) (Ev1 a0 d' o (some (.int (i : Nat)))) = .ok (.str k.t) (Ev1 a0 d2 o (some (.int (i : Nat)))) := by
        generalize NL = N at *
        simp -implicitDefEqProofs [e2]
      have z2 : mCallIO 2 f__law_pick 1 0 (mGuard 1 (mCons (mV 2) mNil)) (Ev1 a0 d2 o (some (.int (i : Nat)))) = .ok (.str (S n)) (Ev1 a0 d3 false (some (.int (i : Nat)))) :=
        pick2 a0 _ d2 d3 (NLd o) (encN NL) _ (NL_fz o) (by simp) e3
      refine ⟨Ev1 a0 d' o (some (.int (i : Nat))), _, true, rfl, rfl, (fun q => by cases q), fun _ => ⟨encM (k, n), Ev1 a0 d3 false (some (.int (i : Nat))), ?_, ms ++ [(k, n)], d3, false, rfl, by simp, hd3, by simp [hl], ?_⟩⟩
      · have := cons_of z1 (cons_of z2 (show mNil _ = .ok [] _ from rfl))
        unfold mTup
        rw [bind_ok this]; rfl
      · intro m hm
        rcases List.mem_append.mp hm with hm | hm
        · exact hg m hm
        · simp only [List.mem_singleton] at hm
          subst hm; exact NL_name n hn)
    (by simp; omega)
  obtain ⟨acc, e, hcl, ms, d4, o, rfl, rfl, hd4, hl, hg⟩ := lc
  simp only [List.nil_append, List.length_range] at hl
  refine ⟨ms, d4, o, hd4, hg, by omega, ?_⟩
  unfold q_law_1 mComp
  rw [bind_ok hit]
  exact hcl
end VL


set_option Elab.async false
set_option linter.all false
set_option maxRecDepth 100000
set_option maxHeartbeats 4000000
namespace VL
open PySem PySem.Spec L2 SX
open PyProof.Rows hiding St
abbrev WL : List (List Nat) := [[], [61], [43], [45], [61, 61, 97], [61, 65], [42, 97], [57], [97, 32, 98], [97, 49, 50, 51, 52, 53, 54, 55, 122], [61, 97, 32], [126], [97, 45, 98]]
abbrev QL : List (List Nat) := [[], [57], [65], [97, 49, 50, 51, 52, 53, 54, 55, 122], [97, 32, 98], [61, 97]]
theorem q9_eq (a0 a1 a2 a3 a4 a5 a6 a8 a9 a10 a11 a12 a13 a14 a15 a16 a17 : Option D) : q_law_9 [a0, a1, a2, a3, a4, a5, a6, some (.lst true (WL.map fun n => .str (S n))), a8, a9, a10, a11, a12, a13, a14, a15, a16, a17] = .ok (.lst true (WL.map fun n => .bl (readMark n).isNone)) [a0, a1, a2, a3, a4, a5, a6, some (.lst false (WL.map fun n => .str (S n))), a8, a9, a10, a11, none, a13, a14, a15, a16, a17] := by
  have hw : ∀ n ∈ WL, n.length ≤ 16777216 := by simp
  have hl : WL.length ≤ 16777216 := by simp
  generalize WL = W at *
  have it : mItems (mV 7) [a0, a1, a2, a3, a4, a5, a6, some (.lst true (W.map fun n => .str (S n))), a8, a9, a10, a11, a12, a13, a14, a15, a16, a17] = .ok (W.map fun n => .str (S n)) [a0, a1, a2, a3, a4, a5, a6, some (.lst false (W.map fun n => .str (S n))), a8, a9, a10, a11, a12, a13, a14, a15, a16, a17] := by
    simp -implicitDefEqProofs
  exact (mComp_a1 (i := 12) (enc := fun n => .str (S n)) (f := fun n => .bl (readMark n).isNone) it (by simp) (fun n hn => by
    have h := refused0 n (hw n hn)
    simp -implicitDefEqProofs [h]) hl).trans rfl
theorem q10_eq (a0 a1 a2 a3 a4 a5 a6 a7 a8 a9 a10 a11 a12 a13 a14 a15 a16 a17 : Option D) : q_law_10 [a0, a1, a2, a3, a4, a5, a6, a7, a8, a9, a10, a11, a12, a13, a14, a15, a16, a17] = .ok (.lst true (QL.map fun n => .bl (isName n))) [a0, a1, a2, a3, a4, a5, a6, a7, a8, a9, a10, a11, none, a13, a14, a15, a16, a17] := by
  have hw : ∀ n ∈ QL, n.length ≤ 16777216 := by simp
  exact (mComp_a1 (i := 12) (enc := fun n => .str (S n)) (f := fun n => .bl (isName n)) (items := QL) (show mItems (mLst (mCons (mC (.str "")) (mCons (mC (.str "9")) (mCons (mC (.str "A")) (mCons (mC (.str "a1234567z")) (mCons (mC (.str "a b")) (mCons (mC (.str "=a")) mNil))))))) _ = .ok (QL.map fun n => .str (S n)) _ from rfl) (by simp) (fun n hn => by
    have h := name_eq n (hw n hn)
    simp -implicitDefEqProofs [h]) (by simp)).trans rfl
theorem any_of {q : M D} {e e1 : Env} {α : Type} {f : α → Bool} {l : List α} (h : q e = .ok (.lst true (l.map fun x => .bl (f x))) e1) : mCall (one dAny) (mCons q mNil) e = .ok (.bl (l.any f)) e1 :=
  call1_of h (by simp)
theorem callIO2 (a0 a3 : Option D) (d d' N N2 r : D) (hN : N.fz = N2) (hff : N2.fz = N2) (e3 : f__law_marks [d, N2, N2] = .ok r d') : mCallIO 3 f__law_marks 1 0 (mGuard 1 (mCons (mV 2) (mCons (mV 2) mNil))) [a0, some d, some N, a3, none, none, none, none, none, none, none, none, none, none, none, none, none, none] = .ok r [a0, some d', some N2, a3, none, none, none, none, none, none, none, none, none, none, none, none, none, none] := by
  simp -implicitDefEqProofs [hN, hff, e3]
theorem law_true (ns : List Int) (hns : ns.length ≤ 63) : ∃ o, f_law [.scr ns] = .ok (.bl true) o := by
  obtain ⟨m, hst⟩ := stream_eq ns
  have s1 : sSet (gNm 1) (mCall' 1 f__law_stream (mCons (mV 0) mNil)) ([D.scr ns].map some ++ List.replicate (18 - [D.scr ns].length) none) = .nx [some (.scr ns), some (encS ns 0 0 m), none, none, none, none, none, none, none, none, none, none, none, none, none, none, none, none] :=
    (sSet_nm (call1 (e1 := [some (.scr ns), none, none, none, none, none, none, none, none, none, none, none, none, none, none, none, none, none]) (mV_im (d := .scr ns) rfl rfl) rfl hst) (by simp)).trans rfl
  have s2 : sSet (gNm 2) (mLst (mCons (mC (.str "a")) (mCons (mC (.str "b9")) (mCons (mC (.str "c")) (mCons (mSlice dSl (mC (.str "q12345678")) (M.pure none) ((mI (mC (.int 8))).bind fun i => M.pure (some i))) mNil))))) [some (.scr ns), some (encS ns 0 0 m), none, none, none, none, none, none, none, none, none, none, none, none, none, none, none, none] = .nx (Ev1 (some (.scr ns)) (encS ns 0 0 m) true none) := rfl
  obtain ⟨marks, d1, o, hd1, hmg, hml, hq1⟩ := q1_eq (some (.scr ns)) (encS ns 0 0 m) ⟨ns, 0, 0, m, rfl⟩
  have s3 : sSet (gNm 3) (mCall (one dTuple) (mCons q_law_1 mNil)) (Ev1 (some (.scr ns)) (encS ns 0 0 m) true none) = .nx [some (.scr ns), some d1, some (NLd o), some (Row marks), none, none, none, none, none, none, none, none, none, none, none, none, none, none] :=
    (sSet_nm (call1_of hq1 (d := Row marks) (by simp [Row])) (by simp)).trans rfl
  obtain ⟨good, d2, hgood, hd2, hlm⟩ := law_marks_eq d1 hd1 NL (by simp) (by simp) NL_name
  have s4 : sSet (gNm 4) (mCallIO 3 f__law_marks 1 0 (mGuard 1 (mCons (mV 2) (mCons (mV 2) mNil)))) [some (.scr ns), some d1, some (NLd o), some (Row marks), none, none, none, none, none, none, none, none, none, none, none, none, none, none] = .nx (EvM (some (.scr ns)) (some (encN NL)) none none none none none none none none none none none none none marks good d2) :=
    (sSet_nm (callIO2 (some (.scr ns)) (some (Row marks)) d1 d2 (NLd o) (encN NL) _ (NL_fz o) (by simp) hlm) (by simp)).trans rfl
  have hgl := good_len hgood
  obtain ⟨n, k, d3, hn, hk, hd3, hrows⟩ := rows_eq (some (.scr ns)) (some (encN NL)) none none none none none none none none none none none none none marks good hgl d2 hd2
  obtain ⟨e5, hl5, h5⟩ := rows_loop (some (.scr ns)) (some d3) (some (encN NL)) (some (Row marks)) (some (Row good)) [marks, good, [], good ++ good, List.replicate n mGo, mA, List.replicate k mWt ++ [mBe]] (by
    intro x hx
    have n97 : isName [97] = true := by decide +kernel
    simp only [List.mem_cons, List.not_mem_nil, or_false] at hx
    rcases hx with rfl | rfl | rfl | rfl | rfl | rfl | rfl
    · exact .inr ⟨hmg, by omega⟩
    · exact .inr ⟨hgood.1, by omega⟩
    · exact .inr ⟨fun m hm => by simp at hm, by simp⟩
    · refine .inr ⟨fun m hm => ?_, by rw [List.length_append]; omega⟩
      rcases List.mem_append.mp hm with hm | hm <;> exact hgood.1 m hm
    · refine .inr ⟨fun m hm => ?_, by rw [List.length_replicate]; omega⟩
      rw [(List.mem_replicate.mp hm).2]; exact n97
    · exact .inl rfl
    · refine .inr ⟨fun m hm => ?_, by rw [List.length_append, List.length_replicate]; simp; omega⟩
      rcases List.mem_append.mp hm with hm | hm
      · rw [(List.mem_replicate.mp hm).2]; exact n97
      · rw [List.mem_singleton.mp hm]; exact n97) _ ⟨none, none, none, none, none, none, none, none, none, none, none, none, none, rfl⟩
  obtain ⟨e6, hl6, h6⟩ := cut_loop (some (.scr ns)) (some d3) (some (encN NL)) (some (Row marks)) good hgood e5 h5
  obtain ⟨b5, b6, b7, b8, b9, b10, b11, b12, b13, b14, b15, b16, b17, rfl⟩ := h6
  let E7 : Env := [some (.scr ns), some d3, some (encN NL), some (Row marks), some (Row good), b5, b6, some (.lst true (WL.map fun n => .str (S n))), b8, b9, b10, b11, b12, b13, b14, b15, b16, b17]
  have g9 := all_of (q9_eq (some (.scr ns)) (some d3) (some (encN NL)) (some (Row marks)) (some (Row good)) b5 b6 b8 b9 b10 b11 b12 b13 b14 b15 b16 b17)
  rw [show (WL.all fun n => (readMark n).isNone) = true by decide +kernel] at g9
  have g10 := any_of (q10_eq (some (.scr ns)) (some d3) (some (encN NL)) (some (Row marks)) (some (Row good)) b5 b6 (some (.lst false (WL.map fun n => .str (S n)))) b8 b9 b10 b11 none b13 b14 b15 b16 b17)
  rw [show (QL.any fun n => isName n) = false by decide +kernel] at g10
  have hnm := name_eq [97, 49, 50, 51, 52, 53, 54, 55] (by simp)
  rw [show isName [97, 49, 50, 51, 52, 53, 54, 55] = true by decide +kernel] at hnm
  have gis := fun e => m2_of (g := dIs) (call1 (e := e) (mC_ap (.str "a1234567") e) rfl hnm) (mC_ap (.bl true) e) (d := .bl true) rfl
  let E8 : Env := [some (.scr ns), some d3, some (encN NL), some (Row marks), some (Row good), b5, b6, some (.lst false (WL.map fun n => .str (S n))), b8, b9, b10, b11, none, b13, b14, b15, b16, b17]
  have hret : mAndV _ _ E7 = .ok (.bl true) E8 := mAndV_t g9 (mAndV_t (gis _) (notV_of g10))
  refine ⟨.non, fn_rt (e := E8) (ms := m_law) ?h⟩
  case h =>
    unfold m_law
    refine (sSeq_nx s1).trans ((sSeq_nx s2).trans ((sSeq_nx s3).trans ((sSeq_nx s4).trans ((sSeq_nx (e' := e5) ?h5).trans ((sSeq_nx hl6).trans ((sSeq_nx (e' := E7) rfl).trans (sRet_of hret)))))))
    case h5 =>
      rw [sFor_ap, hrows]
      exact hl5
end VL


open PySem PySem.W PyProof.Rows in
set_option maxRecDepth 100000 in
set_option maxHeartbeats 0 in
theorem PySem.Challenge.cw_mergeandmove_k01_whole_marks_holds : PySem.Challenge.rw_mergeandmove_k01_whole_marks.Holds := by
  w_on; o_law; k_head; (case hw => w_witness2)
  k_fill
  refine VL.walk (l := PySem.Challenge.rw_mergeandmove_k01_whole_marks) rfl rfl (fun w h Y => PySem.W.kIn_of Y) ?F
  case F =>
    intro w mg fa h KX G hmg
    refine' VL.all_mk KX G hmg ?a1 ?l1 ?c1 ?k1 ?a2 ?l2 ?c2 ?k2 ?a3 ?l3 ?c3 ?k3 ?a4 ?l4 ?c4 ?k4 ?a5 ?l5 ?c5 ?k5 ?a6 ?l6 ?c6 ?k6 ?a7 ?l7 ?c7 ?k7 ?a8 ?l8 ?c8 ?k8 ?a9 ?l9 ?c9 ?k9 ?a10 ?l10 ?c10 ?k10 ?a11 ?l11 ?c11 ?k11 ?a12 ?l12 ?c12 ?k12 ?a13 ?l13 ?c13 ?k13 ?a14 ?l14 ?c14 ?k14 ?a15 ?l15 ?c15 ?k15 ?a16 ?l16 ?c16 ?k16 ?a17 ?l17 ?c17 ?k17 ?a18 ?l18 ?c18 ?k18 ?b_MoveError ?b_BadMarks ?e1_BadMarks ?e2_BadMarks ?e3_BadMarks ?e4_BadMarks ?hb_BadMarks ?hi_BadMarks ?ht_BadMarks ?h_BadMarks_MoveError ?hc_BadMarks_MoveError ?h_BadMarks_BadMarks ?hc_BadMarks_BadMarks ?g_MOST_MARKS ?g_MOST_NAME ?z_abs ?z_all ?z_any ?z_bool ?z_int ?z_isinstance ?z_len ?z_list ?z_range ?z_str ?z_tuple ?g_SIGNS ?gl_SIGNS ?gk_SIGNS ?ge_SIGNS0 ?ge_SIGNS1 ?ge_SIGNS2 ?ge_SIGNS3 VL.law_true
    (case a1 => k_is)
    (case l1 => k_is)
    (case c1 => k_is)
    (case k1 => k_is)
    (case a2 => k_is)
    (case l2 => k_is)
    (case c2 => k_is)
    (case k2 => k_is)
    (case a3 => k_is)
    (case l3 => k_is)
    (case c3 => k_is)
    (case k3 => k_is)
    (case a4 => k_is)
    (case l4 => k_is)
    (case c4 => k_is)
    (case k4 => k_is)
    (case a5 => k_is)
    (case l5 => k_is)
    (case c5 => k_is)
    (case k5 => k_is)
    (case a6 => k_is)
    (case l6 => k_is)
    (case c6 => k_is)
    (case k6 => k_is)
    (case a7 => k_is)
    (case l7 => k_is)
    (case c7 => k_is)
    (case k7 => k_is)
    (case a8 => k_is)
    (case l8 => k_is)
    (case c8 => k_is)
    (case k8 => k_is)
    (case a9 => k_is)
    (case l9 => k_is)
    (case c9 => k_is)
    (case k9 => k_is)
    (case a10 => k_is)
    (case l10 => k_is)
    (case c10 => k_is)
    (case k10 => k_is)
    (case a11 => k_is)
    (case l11 => k_is)
    (case c11 => k_is)
    (case k11 => k_is)
    (case a12 => k_is)
    (case l12 => k_is)
    (case c12 => k_is)
    (case k12 => k_is)
    (case a13 => k_is)
    (case l13 => k_is)
    (case c13 => k_is)
    (case k13 => k_is)
    (case a14 => k_is)
    (case l14 => k_is)
    (case c14 => k_is)
    (case k14 => k_is)
    (case a15 => k_is)
    (case l15 => k_is)
    (case c15 => k_is)
    (case k15 => k_is)
    (case a16 => k_is)
    (case l16 => k_is)
    (case c16 => k_is)
    (case k16 => k_is)
    (case a17 => k_is)
    (case l17 => k_is)
    (case c17 => k_is)
    (case k17 => k_is)
    (case a18 => k_is)
    (case l18 => k_is)
    (case c18 => k_is)
    (case k18 => k_is)
    (case b_MoveError => k_is)
    (case b_BadMarks => k_is)
    (case e1_BadMarks => k_exc)
    (case e2_BadMarks => k_is)
    (case e3_BadMarks => k_is)
    (case e4_BadMarks => k_is)
    (case hb_BadMarks => k_is)
    (case hi_BadMarks => k_is)
    (case ht_BadMarks => k_is)
    (case h_BadMarks_MoveError => first | rfl | k_is)
    (case hc_BadMarks_MoveError => k_is)
    (case h_BadMarks_BadMarks => first | rfl | k_is)
    (case hc_BadMarks_BadMarks => k_is)
    (case g_MOST_MARKS => k_is)
    (case g_MOST_NAME => k_is)
    (case z_abs => k_is)
    (case z_all => k_is)
    (case z_any => k_is)
    (case z_bool => k_is)
    (case z_int => k_is)
    (case z_isinstance => k_is)
    (case z_len => k_is)
    (case z_list => k_is)
    (case z_range => k_is)
    (case z_str => k_is)
    (case z_tuple => k_is)
    (case g_SIGNS => k_is)
    (case gl_SIGNS => k_is)
    (case gk_SIGNS => k_keys)
    (case ge_SIGNS0 => k_is)
    (case ge_SIGNS1 => k_is)
    (case ge_SIGNS2 => k_is)
    (case ge_SIGNS3 => k_is)

