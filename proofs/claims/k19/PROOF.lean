import PyProof.Rows.All
import Wide.All
import OpenK.AllK
import Wide.FinOn
import PySem.Challenge.RW_strikeword_k19_whole_holds
import HandS.ForMost
import HandS.IsInst
import HandS.StrMore
import HandS.Wide
import KE.SortData
import HandS.Style
import HandS.Conv
import HandS.Iter
import KE.GoesMore
import KE.DataCmp
import HandS.Zip
import HandS.SetFor
import HandS.SetKeys
import HandS.SetTxtIn
import KE.KDictZip
import HandS.ListItems
import KE.KDictDisplayH
import KE.KTupSum
import HandS.Replace
import HandS.More
import KE.GoesZip
import HandS.EndBits
set_option Elab.async false
set_option linter.all false
set_option maxRecDepth 100000
set_option maxHeartbeats 4000000
namespace SW
open PySem PySem.Spec PyProof.Rows L2

/-! ### data -/
inductive D where
  | non | bl (b : Bool) | int (i : Int) | str (s : List Nat)
  | lst (ds : List D) | tup (ds : List D)
  | dK (ks : List Key) (ds : List D) | dT (ks : List (List Key)) (ds : List D)
  | scr (ns : List Int)
  | obj (C : Addr) (ns : List Str) (ds : List D)
  | raw (v : V)
  deriving Inhabited

/-- how a value is held: borrowed, shared (in the frozen heap), owned at the top, owned whole -/
inductive Mo where
  | bo | bt | sh | top | full
  deriving DecidableEq, Inhabited

mutual
def hasL : D → Bool
  | .lst _ => true
  | .dK _ _ => true
  | .dT _ _ => true
  | .tup ds => hasLs ds
  | .obj _ _ ds => hasLs ds
  | .non => false
  | .bl _ => false
  | .int _ => false
  | .str _ => false
  | .scr _ => false
  | .raw _ => false
def hasLs : List D → Bool
  | [] => false
  | d :: ds => hasL d || hasLs ds
end

/-- a list of the written part -/
def KSeq (K : PySem.W.Frag) (a : Addr) (xs : List V) : Prop :=
  ∃ (o : Obj) (its : Array Value) (n : Nat), K.lookup a = some o ∧ o.cls = .type "list" ∧ o.dict = none ∧ o.data = .seq its n ∧ its.size ≤ sizeLine ∧ Vals xs its.toList
mutual
def R (K : PySem.W.Frag) (H : Hp) : D → V → Prop
  | .non, v => v = .non
  | .bl b, v => v = .bl b
  | .int i, v => v = .int i
  | .str s, v => v = .str ⟨s.toArray⟩
  | .lst ds, v => ∃ a xs, v = .ref a ∧ H a = some (.lst xs) ∧ Rs K H ds xs
  | .tup ds, v => ∃ a xs, v = .ref a ∧ H a = some (.tup xs) ∧ Rs K H ds xs
  | .dK ks ds, v => ∃ a es, v = .ref a ∧ H a = some (.dK (ks.zip es)) ∧ ks.length = es.length ∧ Rs K H ds es
  | .dT ks ds, v => ∃ a es, v = .ref a ∧ H a = some (.dT (ks.zip es)) ∧ ks.length = es.length ∧ Rs K H ds es
  | .scr ns, v => ∃ a, v = .ref a ∧ ((∃ o, H a = some (.frz o (.lst (ns.map V.int)))) ∨ KSeq K a (ns.map V.int))
  | .obj C ns ds, v => ∃ a dx es, v = .ref a ∧ H a = some (.ins C dx (ns.zip es)) ∧ ns.length = es.length ∧ Rs K H ds es
  | .raw w, v => v = w
def Rs (K : PySem.W.Frag) (H : Hp) : List D → List V → Prop
  | [], vs => vs = []
  | d :: ds, vs => ∃ v r, vs = v :: r ∧ R K H d v ∧ Rs K H ds r
end

mutual
/-- owned whole: F the addresses of the lists and dicts -/
def RF (K : PySem.W.Frag) (G H : Hp) : D → V → List Addr → Prop
  | .lst ds, v, F => ∃ a xs F', v = .ref a ∧ F = a :: F' ∧ H a = some (.lst xs) ∧ RFs K G H ds xs F'
  | .dK ks ds, v, F => ∃ a es F', v = .ref a ∧ F = a :: F' ∧ H a = some (.dK (ks.zip es)) ∧ ks.length = es.length ∧ RFs K G H ds es F'
  | .dT ks ds, v, F => ∃ a es F', v = .ref a ∧ F = a :: F' ∧ H a = some (.dT (ks.zip es)) ∧ ks.length = es.length ∧ RFs K G H ds es F'
  | .tup ds, v, F => (hasLs ds = false ∧ F = [] ∧ R K G (.tup ds) v) ∨ (hasLs ds = true ∧ ∃ a xs, v = .ref a ∧ H a = some (.tup xs) ∧ RFs K G H ds xs F)
  | .obj C ns ds, v, F => (hasLs ds = false ∧ F = [] ∧ R K G (.obj C ns ds) v) ∨ (hasLs ds = true ∧ ∃ a dx es, v = .ref a ∧ H a = some (.ins C dx (ns.zip es)) ∧ ns.length = es.length ∧ RFs K G H ds es F)
  | .non, v, F => F = [] ∧ R K G .non v
  | .bl b, v, F => F = [] ∧ R K G (.bl b) v
  | .int i, v, F => F = [] ∧ R K G (.int i) v
  | .str s, v, F => F = [] ∧ R K G (.str s) v
  | .scr ns, v, F => F = [] ∧ R K G (.scr ns) v
  | .raw w, v, F => F = [] ∧ R K G (.raw w) v
def RFs (K : PySem.W.Frag) (G H : Hp) : List D → List V → List Addr → Prop
  | [], vs, F => vs = [] ∧ F = []
  | d :: ds, vs, F => ∃ v r F1 F2, vs = v :: r ∧ F = F1 ++ F2 ∧ RF K G H d v F1 ∧ RFs K G H ds r F2
end
/-- owned at the top, what is within shared -/
def RT (K : PySem.W.Frag) (G H : Hp) : D → V → List Addr → Prop
  | .lst ds, v, F => ∃ a xs, v = .ref a ∧ F = [a] ∧ H a = some (.lst xs) ∧ Rs K G ds xs
  | .dK ks ds, v, F => ∃ a es, v = .ref a ∧ F = [a] ∧ H a = some (.dK (ks.zip es)) ∧ ks.length = es.length ∧ Rs K G ds es
  | .dT ks ds, v, F => ∃ a es, v = .ref a ∧ F = [a] ∧ H a = some (.dT (ks.zip es)) ∧ ks.length = es.length ∧ Rs K G ds es
  | d, v, F => F = [] ∧ R K G d v
def RM (K : PySem.W.Frag) (G H : Hp) : Mo → D → V → List Addr → Prop
  | .bo, d, v, F => F = [] ∧ R K H d v
  | .bt, d, v, F => F = [] ∧ ∃ F', RT K G H d v F'
  | .sh, d, v, F => F = [] ∧ R K G d v
  | .top, d, v, F => RT K G H d v F
  | .full, d, v, F => RF K G H d v F

section
variable {K : PySem.W.Frag}
theorem same_refl (H : Hp) : Same H H := fun _ _ h => h
theorem same_upd {H : Hp} {p : Addr} {o : HO} (h : H p = none) : Same H (upd H p o) := fun b x e => by
  rw [upd_ne (ne_of_none e h)]; exact e

mutual
theorem R.mono {H H' : Hp} (k : Same H H') : ∀ (d : D) (v : V), R K H d v → R K H' d v
  | .non, _, h => by simpa only [R] using h
  | .bl _, _, h => by simpa only [R] using h
  | .int _, _, h => by simpa only [R] using h
  | .str _, _, h => by simpa only [R] using h
  | .raw _, _, h => by simpa only [R] using h
  | .lst ds, v, h => by
    simp only [R] at h ⊢
    obtain ⟨a, xs, e, h1, h2⟩ := h
    exact ⟨a, xs, e, k _ _ h1, Rs.mono k ds xs h2⟩
  | .tup ds, v, h => by
    simp only [R] at h ⊢
    obtain ⟨a, xs, e, h1, h2⟩ := h
    exact ⟨a, xs, e, k _ _ h1, Rs.mono k ds xs h2⟩
  | .dK ks ds, v, h => by
    simp only [R] at h ⊢
    obtain ⟨a, xs, e, h1, h3, h2⟩ := h
    exact ⟨a, xs, e, k _ _ h1, h3, Rs.mono k ds xs h2⟩
  | .dT ks ds, v, h => by
    simp only [R] at h ⊢
    obtain ⟨a, xs, e, h1, h3, h2⟩ := h
    exact ⟨a, xs, e, k _ _ h1, h3, Rs.mono k ds xs h2⟩
  | .scr ns, v, h => by
    simp only [R] at h ⊢
    obtain ⟨a, e, h1⟩ := h
    rcases h1 with ⟨o, h1⟩ | h1
    · exact ⟨a, e, .inl ⟨o, k _ _ h1⟩⟩
    · exact ⟨a, e, .inr h1⟩
  | .obj C ns ds, v, h => by
    simp only [R] at h ⊢
    obtain ⟨a, dx, xs, e, h1, h3, h2⟩ := h
    exact ⟨a, dx, xs, e, k _ _ h1, h3, Rs.mono k ds xs h2⟩
theorem Rs.mono {H H' : Hp} (k : Same H H') : ∀ (ds : List D) (vs : List V), Rs K H ds vs → Rs K H' ds vs
  | [], _, h => by simpa only [Rs] using h
  | d :: ds, _, h => by
    simp only [Rs] at h ⊢
    obtain ⟨v, r, e, h1, h2⟩ := h
    exact ⟨v, r, e, R.mono k d v h1, Rs.mono k ds r h2⟩
end
theorem Rs.length {H : Hp} : ∀ {ds : List D} {vs : List V}, Rs K H ds vs → ds.length = vs.length
  | [], _, h => by simp only [Rs] at h; rw [h]; rfl
  | d :: ds, _, h => by
    simp only [Rs] at h
    obtain ⟨v, r, rfl, _, h2⟩ := h
    simp [Rs.length h2]
theorem Rs.get {H : Hp} : ∀ {ds : List D} {vs : List V}, Rs K H ds vs → ∀ {i : Nat} {d : D}, ds[i]? = some d → ∃ v, vs[i]? = some v ∧ R K H d v
  | [], _, h, i, d, e => by simp at e
  | d :: ds, _, h, 0, x, e => by
    simp only [Rs] at h
    obtain ⟨v, r, rfl, h1, _⟩ := h
    cases e
    exact ⟨v, rfl, h1⟩
  | d :: ds, _, h, i + 1, x, e => by
    simp only [Rs] at h
    obtain ⟨v, r, rfl, _, h2⟩ := h
    exact Rs.get h2 (i := i) (by simpa using e)
theorem Rs.append {H : Hp} : ∀ {ds es : List D} {vs ws : List V}, Rs K H ds vs → Rs K H es ws → Rs K H (ds ++ es) (vs ++ ws)
  | [], _, _, _, h, h' => by simp only [Rs] at h; subst h; exact h'
  | d :: ds, _, _, _, h, h' => by
    simp only [Rs, List.cons_append] at h ⊢
    obtain ⟨v, r, rfl, h1, h2⟩ := h
    exact ⟨v, _, rfl, h1, Rs.append h2 h'⟩
theorem Rs.take {H : Hp} : ∀ {ds : List D} {vs : List V} (n : Nat), Rs K H ds vs → Rs K H (ds.take n) (vs.take n)
  | _, _, 0, _ => by simp [Rs]
  | [], _, n + 1, h => by simp only [Rs] at h; subst h; simp [Rs]
  | d :: ds, _, n + 1, h => by
    simp only [Rs] at h
    obtain ⟨v, r, rfl, h1, h2⟩ := h
    simp only [List.take_succ_cons, Rs]
    exact ⟨v, _, rfl, h1, Rs.take n h2⟩
theorem Rs.drop {H : Hp} : ∀ {ds : List D} {vs : List V} (n : Nat), Rs K H ds vs → Rs K H (ds.drop n) (vs.drop n)
  | _, _, 0, h => h
  | [], _, n + 1, h => by simp only [Rs] at h; subst h; simp [Rs]
  | d :: ds, _, n + 1, h => by
    simp only [Rs] at h
    obtain ⟨v, r, rfl, h1, h2⟩ := h
    exact Rs.drop n h2
theorem Rs.reverse {H : Hp} : ∀ {ds : List D} {vs : List V}, Rs K H ds vs → Rs K H ds.reverse vs.reverse
  | [], _, h => by simp only [Rs] at h; subst h; simp [Rs]
  | d :: ds, _, h => by
    simp only [Rs] at h
    obtain ⟨v, r, rfl, h1, h2⟩ := h
    rw [List.reverse_cons, List.reverse_cons]
    refine Rs.append (Rs.reverse h2) ?_
    simp only [Rs]
    exact ⟨v, [], rfl, h1, rfl⟩
theorem Rs.one {H : Hp} {d : D} {v : V} (h : R K H d v) : Rs K H [d] [v] := by
  simp only [Rs]; exact ⟨v, [], rfl, h, rfl⟩
theorem Rs.cons {H : Hp} {d : D} {v : V} {ds : List D} {vs : List V} (h : R K H d v) (t : Rs K H ds vs) : Rs K H (d :: ds) (v :: vs) := by
  simp only [Rs]; exact ⟨v, vs, rfl, h, t⟩
theorem Rs.nil {H : Hp} : Rs K H [] [] := by simp only [Rs]
theorem Rs.set {H : Hp} {d : D} {v : V} (hv : R K H d v) : ∀ {ds : List D} {vs : List V} (i : Nat), Rs K H ds vs → Rs K H (ds.set i d) (vs.set i v)
  | [], _, i, h => by simp only [Rs] at h; subst h; simp [Rs]
  | e :: ds, _, 0, h => by
    simp only [Rs] at h
    obtain ⟨w, r, rfl, h1, h2⟩ := h
    exact Rs.cons hv h2
  | e :: ds, _, i + 1, h => by
    simp only [Rs] at h
    obtain ⟨w, r, rfl, h1, h2⟩ := h
    exact Rs.cons h1 (Rs.set hv i h2)

/-- what never changes -/
def isImm : HO → Bool
  | .lst _ => false
  | .dK _ => false
  | .dT _ => false
  | _ => true
/-- the frozen heap grows by new things and by what never changes -/
def Ext (Hb G G' : Hp) : Prop := Same G G' ∧ ∀ a, G' a ≠ none → G a ≠ none ∨ Hb a = none ∨ ∃ o, Hb a = some o ∧ isImm o = true
theorem Ext.refl (Hb G : Hp) : Ext Hb G G := ⟨same_refl G, fun a h => .inl h⟩
theorem Ext.trans {H H1 G G1 G2 : Hp} (h : Ext H G G1) (k : Same H H1) (h' : Ext H1 G1 G2) : Ext H G G2 := by
  refine ⟨h.1.trans h'.1, fun a ha => ?_⟩
  rcases h'.2 a ha with q | q | ⟨o, q, i⟩
  · exact h.2 a q
  · right; left
    cases e : H a with
    | none => rfl
    | some o => rw [k _ _ e] at q; cases q
  · cases e : H a with
    | none => exact .inr (.inl rfl)
    | some o' =>
      have := k _ _ e
      rw [q] at this; cases this
      exact .inr (.inr ⟨o, rfl, i⟩)

/-- an address of a list or a dict -/
def Mu (H : Hp) (a : Addr) : Prop := ∃ o, H a = some o ∧ isImm o = false
theorem Mu.mono {H H' : Hp} {a : Addr} (k : Same H H') (h : Mu H a) : Mu H' a := let ⟨o, e, i⟩ := h; ⟨o, k _ _ e, i⟩
mutual
theorem RF.mu {G H : Hp} : ∀ (d : D) (v : V) (F : List Addr), RF K G H d v F → ∀ a ∈ F, Mu H a
  | .lst ds, v, F, h, b, hb => by
    simp only [RF] at h
    obtain ⟨a, xs, F', rfl, rfl, h1, h2⟩ := h
    rcases List.mem_cons.mp hb with rfl | hb
    · exact ⟨_, h1, rfl⟩
    · exact RFs.mu ds xs F' h2 b hb
  | .dK ks ds, v, F, h, b, hb => by
    simp only [RF] at h
    obtain ⟨a, xs, F', rfl, rfl, h1, _, h2⟩ := h
    rcases List.mem_cons.mp hb with rfl | hb
    · exact ⟨_, h1, rfl⟩
    · exact RFs.mu ds xs F' h2 b hb
  | .dT ks ds, v, F, h, b, hb => by
    simp only [RF] at h
    obtain ⟨a, xs, F', rfl, rfl, h1, _, h2⟩ := h
    rcases List.mem_cons.mp hb with rfl | hb
    · exact ⟨_, h1, rfl⟩
    · exact RFs.mu ds xs F' h2 b hb
  | .tup ds, v, F, h, b, hb => by
    simp only [RF] at h
    rcases h with ⟨_, rfl, _⟩ | ⟨_, a, xs, rfl, h1, h2⟩
    · simp at hb
    · exact RFs.mu ds xs F h2 b hb
  | .obj C ns ds, v, F, h, b, hb => by
    simp only [RF] at h
    rcases h with ⟨_, rfl, _⟩ | ⟨_, a, dx, xs, rfl, h1, _, h2⟩
    · simp at hb
    · exact RFs.mu ds xs F h2 b hb
  | .non, v, F, h, b, hb => by simp only [RF] at h; rw [h.1] at hb; simp at hb
  | .bl _, v, F, h, b, hb => by simp only [RF] at h; rw [h.1] at hb; simp at hb
  | .int _, v, F, h, b, hb => by simp only [RF] at h; rw [h.1] at hb; simp at hb
  | .str _, v, F, h, b, hb => by simp only [RF] at h; rw [h.1] at hb; simp at hb
  | .scr _, v, F, h, b, hb => by simp only [RF] at h; rw [h.1] at hb; simp at hb
  | .raw _, v, F, h, b, hb => by simp only [RF] at h; rw [h.1] at hb; simp at hb
theorem RFs.mu {G H : Hp} : ∀ (ds : List D) (vs : List V) (F : List Addr), RFs K G H ds vs F → ∀ a ∈ F, Mu H a
  | [], _, F, h, b, hb => by simp only [RFs] at h; rw [h.2] at hb; simp at hb
  | d :: ds, _, F, h, b, hb => by
    simp only [RFs] at h
    obtain ⟨v, r, F1, F2, rfl, rfl, h1, h2⟩ := h
    rcases List.mem_append.mp hb with hb | hb
    · exact RF.mu d v F1 h1 b hb
    · exact RFs.mu ds r F2 h2 b hb
end
mutual
/-- the owned stands where its own addresses and what never changes stand -/
theorem RF.keep {G H G' H' : Hp} (kG : Same G G') (ki : ∀ a o, H a = some o → isImm o = true → H' a = some o) : ∀ (d : D) (v : V) (F : List Addr), (∀ a ∈ F, H' a = H a) → RF K G H d v F → RF K G' H' d v F
  | .lst ds, v, F, kF, h => by
    simp only [RF] at h ⊢
    obtain ⟨a, xs, F', rfl, rfl, h1, h2⟩ := h
    exact ⟨a, xs, F', rfl, rfl, by rw [kF a List.mem_cons_self]; exact h1, RFs.keep kG ki ds xs F' (fun b hb => kF b (List.mem_cons_of_mem _ hb)) h2⟩
  | .dK ks ds, v, F, kF, h => by
    simp only [RF] at h ⊢
    obtain ⟨a, xs, F', rfl, rfl, h1, h3, h2⟩ := h
    exact ⟨a, xs, F', rfl, rfl, by rw [kF a List.mem_cons_self]; exact h1, h3, RFs.keep kG ki ds xs F' (fun b hb => kF b (List.mem_cons_of_mem _ hb)) h2⟩
  | .dT ks ds, v, F, kF, h => by
    simp only [RF] at h ⊢
    obtain ⟨a, xs, F', rfl, rfl, h1, h3, h2⟩ := h
    exact ⟨a, xs, F', rfl, rfl, by rw [kF a List.mem_cons_self]; exact h1, h3, RFs.keep kG ki ds xs F' (fun b hb => kF b (List.mem_cons_of_mem _ hb)) h2⟩
  | .tup ds, v, F, kF, h => by
    simp only [RF] at h ⊢
    rcases h with ⟨z, rfl, q⟩ | ⟨z, a, xs, rfl, h1, h2⟩
    · exact .inl ⟨z, rfl, R.mono kG _ _ q⟩
    · exact .inr ⟨z, a, xs, rfl, ki _ _ h1 rfl, RFs.keep kG ki ds xs F kF h2⟩
  | .obj C ns ds, v, F, kF, h => by
    simp only [RF] at h ⊢
    rcases h with ⟨z, rfl, q⟩ | ⟨z, a, dx, xs, rfl, h1, h3, h2⟩
    · exact .inl ⟨z, rfl, R.mono kG _ _ q⟩
    · exact .inr ⟨z, a, dx, xs, rfl, ki _ _ h1 rfl, h3, RFs.keep kG ki ds xs F kF h2⟩
  | .non, v, F, _, h => by simp only [RF] at h ⊢; exact ⟨h.1, R.mono kG _ _ h.2⟩
  | .bl _, v, F, _, h => by simp only [RF] at h ⊢; exact ⟨h.1, R.mono kG _ _ h.2⟩
  | .int _, v, F, _, h => by simp only [RF] at h ⊢; exact ⟨h.1, R.mono kG _ _ h.2⟩
  | .str _, v, F, _, h => by simp only [RF] at h ⊢; exact ⟨h.1, R.mono kG _ _ h.2⟩
  | .scr _, v, F, _, h => by simp only [RF] at h ⊢; exact ⟨h.1, R.mono kG _ _ h.2⟩
  | .raw _, v, F, _, h => by simp only [RF] at h ⊢; exact ⟨h.1, R.mono kG _ _ h.2⟩
theorem RFs.keep {G H G' H' : Hp} (kG : Same G G') (ki : ∀ a o, H a = some o → isImm o = true → H' a = some o) : ∀ (ds : List D) (vs : List V) (F : List Addr), (∀ a ∈ F, H' a = H a) → RFs K G H ds vs F → RFs K G' H' ds vs F
  | [], _, F, _, h => by simp only [RFs] at h ⊢; exact h
  | d :: ds, _, F, kF, h => by
    simp only [RFs] at h ⊢
    obtain ⟨v, r, F1, F2, rfl, rfl, h1, h2⟩ := h
    exact ⟨v, r, F1, F2, rfl, rfl, RF.keep kG ki d v F1 (fun b hb => kF b (List.mem_append_left _ hb)) h1, RFs.keep kG ki ds r F2 (fun b hb => kF b (List.mem_append_right _ hb)) h2⟩
end
mutual
/-- freezing -/
theorem RF.frz {G H G' : Hp} (kG : Same G G') (ki : ∀ a o, H a = some o → isImm o = true → G' a = some o) : ∀ (d : D) (v : V) (F : List Addr), (∀ a ∈ F, G' a = H a) → RF K G H d v F → R K G' d v
  | .lst ds, v, F, kF, h => by
    simp only [RF] at h; simp only [R]
    obtain ⟨a, xs, F', rfl, rfl, h1, h2⟩ := h
    exact ⟨a, xs, rfl, by rw [kF a List.mem_cons_self]; exact h1, RFs.frz kG ki ds xs F' (fun b hb => kF b (List.mem_cons_of_mem _ hb)) h2⟩
  | .dK ks ds, v, F, kF, h => by
    simp only [RF] at h; simp only [R]
    obtain ⟨a, xs, F', rfl, rfl, h1, h3, h2⟩ := h
    exact ⟨a, xs, rfl, by rw [kF a List.mem_cons_self]; exact h1, h3, RFs.frz kG ki ds xs F' (fun b hb => kF b (List.mem_cons_of_mem _ hb)) h2⟩
  | .dT ks ds, v, F, kF, h => by
    simp only [RF] at h; simp only [R]
    obtain ⟨a, xs, F', rfl, rfl, h1, h3, h2⟩ := h
    exact ⟨a, xs, rfl, by rw [kF a List.mem_cons_self]; exact h1, h3, RFs.frz kG ki ds xs F' (fun b hb => kF b (List.mem_cons_of_mem _ hb)) h2⟩
  | .tup ds, v, F, kF, h => by
    simp only [RF] at h
    rcases h with ⟨z, rfl, q⟩ | ⟨z, a, xs, rfl, h1, h2⟩
    · exact R.mono kG _ _ q
    · simp only [R]; exact ⟨a, xs, rfl, ki _ _ h1 rfl, RFs.frz kG ki ds xs F kF h2⟩
  | .obj C ns ds, v, F, kF, h => by
    simp only [RF] at h
    rcases h with ⟨z, rfl, q⟩ | ⟨z, a, dx, xs, rfl, h1, h3, h2⟩
    · exact R.mono kG _ _ q
    · simp only [R]; exact ⟨a, dx, xs, rfl, ki _ _ h1 rfl, h3, RFs.frz kG ki ds xs F kF h2⟩
  | .non, v, F, _, h => by simp only [RF] at h; exact R.mono kG _ _ h.2
  | .bl _, v, F, _, h => by simp only [RF] at h; exact R.mono kG _ _ h.2
  | .int _, v, F, _, h => by simp only [RF] at h; exact R.mono kG _ _ h.2
  | .str _, v, F, _, h => by simp only [RF] at h; exact R.mono kG _ _ h.2
  | .scr _, v, F, _, h => by simp only [RF] at h; exact R.mono kG _ _ h.2
  | .raw _, v, F, _, h => by simp only [RF] at h; exact R.mono kG _ _ h.2
theorem RFs.frz {G H G' : Hp} (kG : Same G G') (ki : ∀ a o, H a = some o → isImm o = true → G' a = some o) : ∀ (ds : List D) (vs : List V) (F : List Addr), (∀ a ∈ F, G' a = H a) → RFs K G H ds vs F → Rs K G' ds vs
  | [], _, F, _, h => by simp only [RFs] at h; simp only [Rs]; exact h.1
  | d :: ds, _, F, kF, h => by
    simp only [RFs] at h; simp only [Rs]
    obtain ⟨v, r, F1, F2, rfl, rfl, h1, h2⟩ := h
    exact ⟨v, r, rfl, RF.frz kG ki d v F1 (fun b hb => kF b (List.mem_append_left _ hb)) h1, RFs.frz kG ki ds r F2 (fun b hb => kF b (List.mem_append_right _ hb)) h2⟩
end
mutual
/-- without lists: owned whole is shared -/
theorem RF.flat {G H : Hp} : ∀ (d : D) (v : V) (F : List Addr), hasL d = false → (RF K G H d v F ↔ F = [] ∧ R K G d v)
  | .lst _, _, _, h => by simp [hasL] at h
  | .dK _ _, _, _, h => by simp [hasL] at h
  | .dT _ _, _, _, h => by simp [hasL] at h
  | .tup ds, v, F, h => by simp only [hasL] at h; simp [RF, h]
  | .obj _ _ ds, v, F, h => by simp only [hasL] at h; simp [RF, h]
  | .non, v, F, h => by simp only [RF]
  | .bl _, v, F, h => by simp only [RF]
  | .int _, v, F, h => by simp only [RF]
  | .str _, v, F, h => by simp only [RF]
  | .scr _, v, F, h => by simp only [RF]
  | .raw _, v, F, h => by simp only [RF]
end
theorem RT.flat {G H : Hp} {d : D} {v : V} {F : List Addr} (h : hasL d = false) : RT K G H d v F ↔ F = [] ∧ R K G d v := by
  cases d <;> first | (simp [hasL] at h; done) | (simp only [RT])
theorem RT.mu {G H : Hp} {d : D} {v : V} {F : List Addr} (h : RT K G H d v F) : ∀ a ∈ F, Mu H a := by
  intro b hb
  cases d <;> simp only [RT] at h
  case lst ds => obtain ⟨a, xs, rfl, rfl, h1, _⟩ := h; simp at hb; subst hb; exact ⟨_, h1, rfl⟩
  case dK ks ds => obtain ⟨a, xs, rfl, rfl, h1, _⟩ := h; simp at hb; subst hb; exact ⟨_, h1, rfl⟩
  case dT ks ds => obtain ⟨a, xs, rfl, rfl, h1, _⟩ := h; simp at hb; subst hb; exact ⟨_, h1, rfl⟩
  all_goals (rw [h.1] at hb; simp at hb)
theorem RT.keep {G H G' H' : Hp} (kG : Same G G') {d : D} {v : V} {F : List Addr} (kF : ∀ a ∈ F, H' a = H a) (h : RT K G H d v F) : RT K G' H' d v F := by
  cases d <;> simp only [RT] at h ⊢
  case lst ds => obtain ⟨a, xs, rfl, rfl, h1, h2⟩ := h; exact ⟨a, xs, rfl, rfl, by rw [kF a List.mem_cons_self]; exact h1, Rs.mono kG _ _ h2⟩
  case dK ks ds => obtain ⟨a, xs, rfl, rfl, h1, h3, h2⟩ := h; exact ⟨a, xs, rfl, rfl, by rw [kF a List.mem_cons_self]; exact h1, h3, Rs.mono kG _ _ h2⟩
  case dT ks ds => obtain ⟨a, xs, rfl, rfl, h1, h3, h2⟩ := h; exact ⟨a, xs, rfl, rfl, by rw [kF a List.mem_cons_self]; exact h1, h3, Rs.mono kG _ _ h2⟩
  all_goals exact ⟨h.1, R.mono kG _ _ h.2⟩
theorem RT.frz {G H G' : Hp} (kG : Same G G') {d : D} {v : V} {F : List Addr} (kF : ∀ a ∈ F, G' a = H a) (h : RT K G H d v F) : R K G' d v := by
  cases d <;> simp only [RT] at h
  case lst ds => obtain ⟨a, xs, rfl, rfl, h1, h2⟩ := h; simp only [R]; exact ⟨a, xs, rfl, by rw [kF a List.mem_cons_self]; exact h1, Rs.mono kG _ _ h2⟩
  case dK ks ds => obtain ⟨a, xs, rfl, rfl, h1, h3, h2⟩ := h; simp only [R]; exact ⟨a, xs, rfl, by rw [kF a List.mem_cons_self]; exact h1, h3, Rs.mono kG _ _ h2⟩
  case dT ks ds => obtain ⟨a, xs, rfl, rfl, h1, h3, h2⟩ := h; simp only [R]; exact ⟨a, xs, rfl, by rw [kF a List.mem_cons_self]; exact h1, h3, Rs.mono kG _ _ h2⟩
  all_goals exact R.mono kG _ _ h.2
theorem RM.mu {G H : Hp} {m : Mo} {d : D} {v : V} {F : List Addr} (h : RM K G H m d v F) : ∀ a ∈ F, Mu H a := by
  cases m with
  | bo => intro a ha; rw [h.1] at ha; simp at ha
  | bt => intro a ha; rw [h.1] at ha; simp at ha
  | sh => intro a ha; rw [h.1] at ha; simp at ha
  | top => exact RT.mu h
  | full => exact RF.mu d v F h
/-- every value held may be read -/
theorem RM.r {G H : Hp} (k : Same G H) {m : Mo} {d : D} {v : V} {F : List Addr} (h : RM K G H m d v F) : R K H d v := by
  cases m with
  | bo => exact h.2
  | bt => obtain ⟨_, F', h⟩ := h; exact RT.frz k (fun _ _ => rfl) h
  | sh => exact R.mono k _ _ h.2
  | top => exact RT.frz k (fun _ _ => rfl) h
  | full => exact RF.frz k (fun _ _ e _ => e) d v F (fun _ _ => rfl) h
theorem RM.grow {G H G' H' : Hp} (kG : Same G G') (kH : Same H H') {m : Mo} {d : D} {v : V} {F : List Addr} (h : RM K G H m d v F) : RM K G' H' m d v F := by
  have kF : ∀ a ∈ F, H' a = H a := fun a ha => by
    obtain ⟨o, e, _⟩ := h.mu a ha
    rw [e]; exact kH _ _ e
  cases m with
  | bo => exact ⟨h.1, R.mono kH _ _ h.2⟩
  | bt =>
    obtain ⟨e, F', h⟩ := h
    exact ⟨e, F', RT.keep kG (fun a ha => by obtain ⟨o, e, _⟩ := RT.mu h a ha; rw [e]; exact kH _ _ e) h⟩
  | sh => exact ⟨h.1, R.mono kG _ _ h.2⟩
  | top => exact RT.keep kG kF h
  | full => exact RF.keep kG (fun a o e _ => kH _ _ e) d v F kF h
/-- .. under a change of a list or dict elsewhere -/
theorem RM.write {G H : Hp} {l : Addr} {o : HO} (ml : Mu H l) {m : Mo} (hm : m ≠ .bo) (hm' : m ≠ .bt) {d : D} {v : V} {F : List Addr} (hl : l ∉ F) (h : RM K G H m d v F) : RM K G (upd H l o) m d v F := by
  have kF : ∀ a ∈ F, upd H l o a = H a := fun a ha => upd_ne (fun e => hl (e ▸ ha))
  cases m with
  | bo => exact absurd rfl hm
  | bt => exact absurd rfl hm'
  | sh => exact h
  | top => exact RT.keep (same_refl G) kF h
  | full =>
    refine RF.keep (same_refl G) (fun a u e i => ?_) d v F kF h
    obtain ⟨w, e', i'⟩ := ml
    rw [upd_ne (fun z => by subst z; rw [e] at e'; cases e'; rw [i] at i'; cases i')]
    exact e
end
end SW
namespace SW
open PySem PySem.Spec PyProof.Rows L2

abbrev Slot := Option (D × Mo)
abbrev Env := List Slot
abbrev DM := D × Mo

def RSl (K : PySem.W.Frag) (G H : Hp) (s : Slot) (o : Option V) (F : List Addr) : Prop := match s with
  | none => F = []
  | some (d, m) => ∃ v, o = some v ∧ RM K G H m d v F

structure Ok (K : PySem.W.Frag) (G H : Hp) (ρ : Env) (σ : L2.St) (fp : Nat → List Addr) : Prop where
  len : σ.length = ρ.length
  sl : ∀ i s, ρ[i]? = some s → ∃ o, σ[i]? = some o ∧ RSl K G H s o (fp i)
  dj : ∀ i j a, a ∈ fp i → a ∈ fp j → i = j
  nd : ∀ i, (fp i).Nodup
  off : ∀ i a, a ∈ fp i → G a = none
  mu : ∀ i a, a ∈ fp i → Mu H a
  sub : Same G H

section
variable {K : PySem.W.Frag} {G H G' H' : Hp} {ρ : Env} {σ : L2.St} {fp : Nat → List Addr}
theorem RSl.grow {s : Slot} {o : Option V} {F : List Addr} (kG : Same G G') (kH : Same H H') (h : RSl K G H s o F) : RSl K G' H' s o F := by
  cases s with
  | none => exact h
  | some p => obtain ⟨d, m⟩ := p; obtain ⟨v, e, q⟩ := h; exact ⟨v, e, q.grow kG kH⟩
theorem Ok.grow (I : Ok K G H ρ σ fp) (kH : Same H H') (kG : Ext H G G') (s : Same G' H') : Ok K G' H' ρ σ fp where
  len := I.len
  sl := fun i s e => let ⟨o, e1, q⟩ := I.sl i s e; ⟨o, e1, q.grow kG.1 kH⟩
  dj := I.dj
  nd := I.nd
  off := fun i a ha => by
    cases e : G' a with
    | none => rfl
    | some o =>
      obtain ⟨u, hu, iu⟩ := I.mu i a ha
      rcases kG.2 a (by rw [e]; simp) with q | q | ⟨w, q, iw⟩
      · exact absurd (I.off i a ha) q
      · rw [hu] at q; cases q
      · rw [hu] at q; cases q; rw [iu] at iw; cases iw
  mu := fun i a ha => (I.mu i a ha).mono kH
  sub := s
theorem Ok.get (I : Ok K G H ρ σ fp) {i : Nat} {d : D} {m : Mo} (e : ρ[i]? = some (some (d, m))) : ∃ v, σ[i]? = some (some v) ∧ RM K G H m d v (fp i) := by
  obtain ⟨o, e1, v, rfl, q⟩ := I.sl i _ e
  exact ⟨v, e1, q⟩
theorem Ok.set (I : Ok K G H ρ σ fp) {i : Nat} {d : D} {m : Mo} {v : V} {F : List Addr} (hi : i < ρ.length) (h : RM K G H m d v F) (nd : F.Nodup) (hF : ∀ a ∈ F, G a = none ∧ ∀ j, j ≠ i → a ∉ fp j) :
    Ok K G H (ρ.set i (some (d, m))) (σ.set i (some v)) (fun j => if j = i then F else fp j) where
  len := by simp [I.len]
  sl := fun j s e => by
    by_cases c : j = i
    · subst c
      rw [List.getElem?_set_self hi] at e
      cases e
      refine ⟨some v, by rw [List.getElem?_set_self (by rw [I.len]; exact hi)], v, rfl, ?_⟩
      simpa using h
    · rw [List.getElem?_set_ne (Ne.symm c)] at e ⊢
      simpa [c] using I.sl j s e
  dj := fun j k a hj hk => by
    by_cases c : j = i <;> by_cases c' : k = i <;> simp [c, c'] at hj hk
    · rw [c, c']
    · exact absurd hk ((hF a hj).2 k c')
    · exact absurd hj ((hF a hk).2 j c)
    · exact I.dj j k a hj hk
  nd := fun j => by
    by_cases c : j = i
    · simp [c, nd]
    · simp [c, I.nd j]
  off := fun j a ha => by
    by_cases c : j = i <;> simp [c] at ha
    · exact (hF a ha).1
    · exact I.off j a ha
  mu := fun j a ha => by
    by_cases c : j = i <;> simp [c] at ha
    · exact h.mu a ha
    · exact I.mu j a ha
  sub := I.sub
/-- a slot forgotten -/
theorem Ok.drop (I : Ok K G H ρ σ fp) (i : Nat) : Ok K G H (ρ.set i none) σ (fun j => if j = i then [] else fp j) where
  len := by simp [I.len]
  sl := fun j s e => by
    by_cases c : j = i
    · subst c
      by_cases hi : j < ρ.length
      · rw [List.getElem?_set_self hi] at e
        cases e
        refine ⟨σ[j]'(by rw [I.len]; exact hi), by rw [List.getElem?_eq_getElem], ?_⟩
        simp [RSl]
      · rw [List.getElem?_eq_none (by simpa using hi)] at e; cases e
    · rw [List.getElem?_set_ne (Ne.symm c)] at e
      simpa [c] using I.sl j s e
  dj := fun j k a hj hk => by
    by_cases c : j = i <;> by_cases c' : k = i <;> simp [c, c'] at hj hk
    exact I.dj j k a hj hk
  nd := fun j => by by_cases c : j = i <;> simp [c, I.nd j]
  off := fun j a ha => by
    by_cases c : j = i <;> simp [c] at ha
    exact I.off j a ha
  mu := fun j a ha => by
    by_cases c : j = i <;> simp [c] at ha
    exact I.mu j a ha
  sub := I.sub

/-- what is wanted of a value and what is behind it -/
def Gv (K : PySem.W.Frag) (G H : Hp) (m : Mo) (d : D) (Q : VK) : Prop :=
  ∀ v H' G' F, Same H H' → Ext H G G' → Same G' H' → F.Nodup → (∀ a ∈ F, H a = none ∧ G' a = none) → RM K G' H' m d v F → Q v H'
theorem Gv.here {m : Mo} {d : D} {Q : VK} {v : V} (h : Gv K G H m d Q) (s : Same G H) (r : RM K G H m d v []) : Q v H :=
  h v H G [] (same_refl H) (Ext.refl H G) s List.nodup_nil (fun a ha => nomatch ha) r
theorem Gv.sh {m : Mo} {d : D} {Q : VK} {v : V} (h : Gv K G H m d Q) (s : Same G H) (fl : hasL d = false) (r : R K G d v) : Q v H := by
  refine h.here s ?_
  cases m with
  | bo => exact ⟨rfl, R.mono s _ _ r⟩
  | bt => exact ⟨rfl, [], (RT.flat fl).mpr ⟨rfl, r⟩⟩
  | sh => exact ⟨rfl, r⟩
  | top => exact (RT.flat fl).mpr ⟨rfl, r⟩
  | full => exact (RF.flat d v [] fl).mpr ⟨rfl, r⟩

/-- the frozen heap takes in all that never changes -/
def absb (G H : Hp) : Hp := fun a => match H a with
  | some o => if isImm o = true then some o else G a
  | none => G a
theorem absb_ext (s : Same G H) : Ext H G (absb G H) ∧ Same (absb G H) H := by
  refine ⟨⟨fun a o e => ?_, fun a ha => ?_⟩, fun a o e => ?_⟩
  · have := s _ _ e
    unfold absb; rw [this]; dsimp only; split <;> simp [e]
  · unfold absb at ha
    split at ha
    · rename_i o e
      split at ha
      · rename_i i; exact .inr (.inr ⟨o, e, i⟩)
      · exact .inl ha
    · exact .inl ha
  · unfold absb at e
    split at e
    · rename_i u e1
      split at e
      · cases e; exact e1
      · exact s _ _ e
    · exact s _ _ e
theorem absb_imm {a : Addr} {o : HO} (e : H a = some o) (i : isImm o = true) : absb G H a = some o := by
  unfold absb; rw [e]; simp [i]
mutual
theorem R.absb (s : Same G H) : ∀ (d : D) (v : V), hasL d = false → R K H d v → R K (absb G H) d v
  | .lst _, _, h, _ => by simp [hasL] at h
  | .dK _ _, _, h, _ => by simp [hasL] at h
  | .dT _ _, _, h, _ => by simp [hasL] at h
  | .tup ds, v, h, r => by
    simp only [R] at r ⊢
    obtain ⟨a, xs, e, h1, h2⟩ := r
    exact ⟨a, xs, e, absb_imm h1 rfl, Rs.absb s ds xs (by simpa [hasL] using h) h2⟩
  | .obj _ _ ds, v, h, r => by
    simp only [R] at r ⊢
    obtain ⟨a, dx, xs, e, h1, h3, h2⟩ := r
    exact ⟨a, dx, xs, e, absb_imm h1 rfl, h3, Rs.absb s ds xs (by simpa [hasL] using h) h2⟩
  | .scr ns, v, h, r => by
    simp only [R] at r ⊢
    obtain ⟨a, e, h1⟩ := r
    rcases h1 with ⟨o, h1⟩ | h1
    · exact ⟨a, e, .inl ⟨o, absb_imm h1 rfl⟩⟩
    · exact ⟨a, e, .inr h1⟩
  | .non, _, _, r => by simpa only [R] using r
  | .bl _, _, _, r => by simpa only [R] using r
  | .int _, _, _, r => by simpa only [R] using r
  | .str _, _, _, r => by simpa only [R] using r
  | .raw _, _, _, r => by simpa only [R] using r
theorem Rs.absb (s : Same G H) : ∀ (ds : List D) (vs : List V), hasLs ds = false → Rs K H ds vs → Rs K (absb G H) ds vs
  | [], _, _, r => by simpa only [Rs] using r
  | d :: ds, _, h, r => by
    simp only [hasLs, Bool.or_eq_false_iff] at h
    simp only [Rs] at r ⊢
    obtain ⟨v, t, e, h1, h2⟩ := r
    exact ⟨v, t, e, R.absb s d v h.1 h1, Rs.absb s ds t h.2 h2⟩
end
end
end SW
namespace SW
open PySem PySem.Spec PyProof.Rows L2

/-! ### the evaluator: expressions -/
inductive Pt where
  | nm (i : Nat) | tp (ps : List Pt)
inductive Ex where
  | var (i : Nat)
  | lit (d : D)
  | pr (g : List DM → Option DM) (es : List Ex)
  | lst (es : List Ex)
  | tup (es : List Ex)
  | and_ (a b : Ex)
  | or_ (a b : Ex)
  | ife (c a b : Ex)
  | comp (p : Pt) (vs : List Nat) (ig : List DM → Option (List D × Mo × Bool)) (src : List Ex) (cond elt : Ex)
  | gx (g : List (Option DM) → Option DM)

/-- a value without lists is shared -/
def nmz (d : D) (m : Mo) : DM := (d, if hasL d then m else .sh)
/-- how a name's value is read -/
def rd (m : Mo) : Mo := match m with
  | .sh => .sh | .top => .bt | .full => .bo | .bo => .bo | .bt => .bt
/-- as an argument: what is new is frozen -/
def fz (p : DM) : DM := (p.1, if hasL p.1 then (match p.2 with | .top => .sh | .full => .sh | m => m) else .sh)
def isB (p : DM) : Bool := hasL p.1 && (p.2 == .bo || p.2 == .bt)
def isFu (p : DM) : Bool := !hasL p.1 || p.2 == .full
def mkLst (as : List DM) : Option DM := if as.any isB then none else some (.lst (as.map (·.1)), if as.all isFu then .full else .top)
def mkTup (as : List DM) : Option DM := if as.any isB then none else some (.tup (as.map (·.1)), if hasLs (as.map (·.1)) then (if as.all isFu then .full else .sh) else .sh)

/-- how a part of what is unpacked is held -/
def cm : Mo → Mo
  | .top => .sh | .bt => .sh | m => m
mutual
def bindP : Pt → D → Mo → Env → Option Env
  | .nm i, d, m, ρ => if i < ρ.length then some (ρ.set i (some (d, m))) else none
  | .tp ps, d, m, ρ => match d with
    | .tup ds => bindPs ps ds (cm m) ρ
    | _ => none
def bindPs : List Pt → List D → Mo → Env → Option Env
  | [], ds, _, ρ => match ds with
    | [] => some ρ
    | _ :: _ => none
  | p :: ps, ds, m, ρ => match ds with
    | [] => none
    | d :: r => match bindP p d m ρ with
      | some ρ' => bindPs ps r m ρ'
      | none => none
end
def SZ : Nat := 16777216
/-- the turns of a comprehension -/
def compGo (p : Pt) (m : Mo) (c : Env → Option DM) (e : Env → Option DM) (ρ : Env) : List D → Option (List DM)
  | [] => some []
  | d :: ds => match bindP p d m ρ with
    | none => none
    | some ρ' => match c ρ' with
      | some (.bl true, _) => match e ρ' with
        | some a => match compGo p m c e ρ ds with
          | some r => some (nmz a.1 a.2 :: r)
          | none => none
        | none => none
      | some (.bl false, _) => compGo p m c e ρ ds
      | _ => none
def wipeE (ρ : Env) : List Nat → Env
  | [] => ρ
  | v :: vs => (wipeE ρ vs).set v none
mutual
def ev : Ex → Env → Option DM
  | .var i, ρ => match ρ[i]? with
    | some (some (d, m)) => some (nmz d (rd m))
    | _ => none
  | .lit d, _ => if hasL d then none else some (d, .sh)
  | .pr g es, ρ => match evs es ρ with
    | some as => g (as.map fz)
    | none => none
  | .lst es, ρ => match evs es ρ with
    | some as => if as.length ≤ SZ then mkLst as else none
    | none => none
  | .tup es, ρ => match evs es ρ with
    | some as => if as.length ≤ SZ then mkTup as else none
    | none => none
  | .and_ a b, ρ => match ev a ρ with
    | some (.bl true, _) => ev b ρ
    | some (.bl false, _) => some (.bl false, .sh)
    | _ => none
  | .or_ a b, ρ => match ev a ρ with
    | some (.bl true, _) => some (.bl true, .sh)
    | some (.bl false, _) => ev b ρ
    | _ => none
  | .ife c a b, ρ => match ev c ρ with
    | some (.bl true, _) => ev a ρ
    | some (.bl false, _) => ev b ρ
    | _ => none
  | .comp p vs ig src c e, ρ => match evs src ρ with
    | some as => match ig (as.map fz) with
      | some (ds, m, _) => match compGo p m (ev c) (ev e) (wipeE ρ vs) ds with
        | some r => if ds.length ≤ SZ then mkLst r else none
        | none => none
      | none => none
    | none => none
  | .gx g, ρ => g ρ
def evs : List Ex → Env → Option (List DM)
  | [], _ => some []
  | e :: es, ρ => match ev e ρ with
    | some a => match evs es ρ with
      | some r => some (a :: r)
      | none => none
    | none => none
end

/-! ### readings -/
def RMs (K : PySem.W.Frag) (G H : Hp) : List DM → List V → List Addr → Prop
  | [], vs, F => vs = [] ∧ F = []
  | p :: ps, vs, F => ∃ v r F1 F2, vs = v :: r ∧ F = F1 ++ F2 ∧ RM K G H p.2 p.1 v F1 ∧ RMs K G H ps r F2
def tX (K : PySem.W.Frag) (x : Ex) : TE := fun σ H Q => ∃ ρ G fp d m, Ok K G H ρ σ fp ∧ ev x ρ = some (d, m) ∧ Gv K G H m d Q
def tAR (K : PySem.W.Frag) (xs : List Ex) : TA := fun σ H Q => ∃ ρ G fp as, Ok K G H ρ σ fp ∧ evs xs ρ = some as ∧
  ∀ vs H' G' F, Same H H' → Ext H G G' → Same G' H' → F.Nodup → (∀ a ∈ F, H a = none ∧ G' a = none) → RMs K G' H' as vs F → Q vs H'
/-- arguments to be read -/
def RAs (K : PySem.W.Frag) (G H : Hp) : List DM → List V → Prop
  | [], vs => vs = []
  | p :: ps, vs => ∃ v r, vs = v :: r ∧ RM K G H p.2 p.1 v [] ∧ RAs K G H ps r
def tA (K : PySem.W.Frag) (xs : List Ex) : TA := fun σ H Q => ∃ ρ G fp as, Ok K G H ρ σ fp ∧ evs xs ρ = some as ∧
  ∀ vs H' G', Same H H' → Ext H G G' → Same G' H' → RAs K G' H' (as.map fz) vs → Q vs H'
def tT (K : PySem.W.Frag) (x : Ex) : TT := fun σ H Q => ∃ ρ G fp b m, Ok K G H ρ σ fp ∧ ev x ρ = some (.bl b, m) ∧
  ∀ H' G', Same H H' → Ext H G G' → Same G' H' → Q b H'
theorem _root_.L2.PE.imp {X : Cx} {e : Expr} {t t' : TE} (h : PE X e t) (k : ∀ σ H Q, t' σ H Q → t σ H Q) : PE X e t' := ⟨fun pins s σ H Q I q => h.run pins s σ H Q I (k _ _ _ q)⟩
theorem _root_.L2.PT.imp {X : Cx} {e : Expr} {t t' : TT} (h : PT X e t) (k : ∀ σ H Q, t' σ H Q → t σ H Q) : PT X e t' := ⟨fun pins s σ H Q I q => h.run pins s σ H Q I (k _ _ _ q)⟩
theorem _root_.L2.PW.imp {X : Cx} {e : Expr} {t t' : TT} (h : PW X e t) (k : ∀ σ H Q, t' σ H Q → t σ H Q) : PW X e t' := ⟨fun w pins s σ H Q I q => h.run w pins s σ H Q I (k _ _ _ q)⟩
theorem _root_.L2.PA.imp {X : Cx} {e : List Expr} {t t' : TA} (h : PA X e t) (k : ∀ σ H Q, t' σ H Q → t σ H Q) : PA X e t' := ⟨fun p pins s σ H Q I q => h.run p pins s σ H Q I (k _ _ _ q)⟩
theorem _root_.L2.PS.imp {X : Cx} {e : Stmt} {t t' : TS} (h : PS X e t) (k : ∀ D σ H, t' D σ H → t D σ H) : PS X e t' := ⟨fun pins s σ H D I q => h.run pins s σ H D I (k _ _ _ q)⟩
theorem _root_.L2.PSs.imp {X : Cx} {e : List Stmt} {t t' : TS} (h : PSs X e t) (k : ∀ D σ H, t' D σ H → t D σ H) : PSs X e t' := ⟨fun pins s σ H D I q => h.run pins s σ H D I (k _ _ _ q)⟩

section
variable {K : PySem.W.Frag} {G H G' H' : Hp} {ρ : Env} {σ : L2.St} {fp : Nat → List Addr}
/-- freezing -/
def frzH (G H : Hp) (F : List Addr) : Hp := fun a => if a ∈ F then H a else absb G H a
theorem frzH_same {F : List Addr} (s : Same G H) (off : ∀ a ∈ F, G a = none) : Same G (frzH G H F) := fun a o e => by
  unfold frzH
  split
  · exact s _ _ e
  · exact (absb_ext s).1.1 _ _ e
theorem frzH_sub {F : List Addr} (s : Same G H) : Same (frzH G H F) H := fun a o e => by
  unfold frzH at e
  split at e
  · exact e
  · exact (absb_ext s).2 _ _ e
theorem frzH_imm {F : List Addr} {a : Addr} {o : HO} (e : H a = some o) (i : isImm o = true) : frzH G H F a = some o := by
  unfold frzH
  split
  · exact e
  · exact absb_imm e i
theorem frzH_ext {Hb : Hp} {F : List Addr} (kb : Same Hb H) (s : Same G H) (off : ∀ a ∈ F, G a = none) (new : ∀ a ∈ F, Hb a = none) : Ext Hb G (frzH G H F) := by
  refine ⟨frzH_same s off, fun a ha => ?_⟩
  unfold frzH at ha
  split at ha
  · rename_i hm; exact .inr (.inl (new a hm))
  · unfold absb at ha
    split at ha
    · rename_i o e
      split at ha
      · rename_i i
        cases eb : Hb a with
        | none => exact .inr (.inl rfl)
        | some u =>
          have := kb _ _ eb
          rw [e] at this; cases this
          exact .inr (.inr ⟨o, rfl, i⟩)
      · exact .inl ha
    · exact .inl ha
theorem RM.frz {m : Mo} {d : D} {v : V} {F F' : List Addr} (s : Same G H) (off : ∀ a ∈ F', G a = none) (hF : ∀ a ∈ F, a ∈ F') (hb : hasL d = false ∨ (m ≠ .bo ∧ m ≠ .bt)) (h : RM K G H m d v F) : R K (frzH G H F') d v := by
  have k1 := frzH_same s off
  have k2 : ∀ a ∈ F, frzH G H F' a = H a := fun a ha => by unfold frzH; rw [if_pos (hF a ha)]
  cases m with
  | bo =>
    rcases hb with hb | hb
    · refine R.mono (fun a o e => ?_) _ _ (R.absb s d v hb h.2)
      unfold frzH; split
      · exact (absb_ext s).2 _ _ e
      · exact e
    · exact absurd rfl hb.1
  | bt =>
    rcases hb with hb | hb
    · obtain ⟨_, F1, h⟩ := h
      exact R.mono k1 _ _ ((RT.flat hb).mp h).2
    · exact absurd rfl hb.2
  | sh => exact R.mono k1 _ _ h.2
  | top => exact RT.frz k1 k2 h
  | full => exact RF.frz k1 (fun a o e i => frzH_imm e i) d v F k2 h
/-- a value read, as an argument -/
theorem RM.asArg {p : DM} {v : V} {F F' : List Addr} (s : Same G H) (off : ∀ a ∈ F', G a = none) (hF : ∀ a ∈ F, a ∈ F') (h : RM K G H p.2 p.1 v F) : RM K (frzH G H F') H (fz p).2 (fz p).1 v [] := by
  obtain ⟨d, m⟩ := p
  have k1 := frzH_same s off
  unfold fz
  by_cases c : hasL d = true
  · simp only [c, if_true]
    cases m with
    | bo => exact ⟨rfl, h.2⟩
    | bt =>
      obtain ⟨_, F1, h⟩ := h
      exact ⟨rfl, F1, RT.keep k1 (fun _ _ => rfl) h⟩
    | sh => exact ⟨rfl, R.mono k1 _ _ h.2⟩
    | top => exact ⟨rfl, RM.frz (m := .top) s off hF (.inr ⟨by simp, by simp⟩) h⟩
    | full => exact ⟨rfl, RM.frz (m := .full) s off hF (.inr ⟨by simp, by simp⟩) h⟩
  · have c' : hasL d = false := by simpa using c
    simp only [c', Bool.false_eq_true, if_false]
    exact ⟨rfl, RM.frz s off hF (.inl c') h⟩
theorem RMs.asArg : ∀ {as : List DM} {vs : List V} {F F' : List Addr}, Same G H → (∀ a ∈ F', G a = none) → (∀ a ∈ F, a ∈ F') → RMs K G H as vs F → RAs K (frzH G H F') H (as.map fz) vs
  | [], _, _, _, _, _, _, h => by simp only [RMs] at h; simp only [List.map_nil, RAs]; exact h.1
  | p :: ps, _, _, F', s, off, hF, h => by
    simp only [RMs] at h
    obtain ⟨v, r, F1, F2, rfl, rfl, h1, h2⟩ := h
    simp only [List.map_cons, RAs]
    exact ⟨v, r, rfl, RM.asArg s off (fun a ha => hF a (List.mem_append_left _ ha)) h1, RMs.asArg s off (fun a ha => hF a (List.mem_append_right _ ha)) h2⟩
theorem RMs.grow : ∀ {as : List DM} {vs : List V} {F : List Addr}, Same G G' → Same H H' → RMs K G H as vs F → RMs K G' H' as vs F
  | [], _, _, _, _, h => by simp only [RMs] at h ⊢; exact h
  | p :: ps, _, _, kG, kH, h => by
    simp only [RMs] at h ⊢
    obtain ⟨v, r, F1, F2, rfl, rfl, h1, h2⟩ := h
    exact ⟨v, r, F1, F2, rfl, rfl, h1.grow kG kH, RMs.grow kG kH h2⟩
theorem RMs.mu : ∀ {as : List DM} {vs : List V} {F : List Addr}, RMs K G H as vs F → ∀ a ∈ F, Mu H a
  | [], _, _, h, a, ha => by simp only [RMs] at h; rw [h.2] at ha; simp at ha
  | p :: ps, _, _, h, a, ha => by
    simp only [RMs] at h
    obtain ⟨v, r, F1, F2, rfl, rfl, h1, h2⟩ := h
    rcases List.mem_append.mp ha with ha | ha
    · exact h1.mu a ha
    · exact RMs.mu h2 a ha
theorem RMs.r : ∀ {as : List DM} {vs : List V} {F : List Addr}, Same G H → RMs K G H as vs F → Rs K H (as.map (·.1)) vs
  | [], _, _, _, h => by simp only [RMs] at h; simp only [List.map_nil, Rs]; exact h.1
  | p :: ps, _, _, s, h => by
    simp only [RMs] at h
    obtain ⟨v, r, F1, F2, rfl, rfl, h1, h2⟩ := h
    exact Rs.cons (h1.r s) (RMs.r s h2)
theorem RMs.frz : ∀ {as : List DM} {vs : List V} {F F' : List Addr}, Same G H → (∀ a ∈ F', G a = none) → (∀ a ∈ F, a ∈ F') → as.any isB = false → RMs K G H as vs F → Rs K (frzH G H F') (as.map (·.1)) vs
  | [], _, _, _, _, _, _, _, h => by simp only [RMs] at h; simp only [List.map_nil, Rs]; exact h.1
  | p :: ps, _, _, F', s, off, hF, hb, h => by
    simp only [RMs] at h
    obtain ⟨v, r, F1, F2, rfl, rfl, h1, h2⟩ := h
    rw [List.any_cons, Bool.or_eq_false_iff] at hb
    refine Rs.cons (RM.frz s off (fun a ha => hF a (List.mem_append_left _ ha)) ?_ h1) (RMs.frz s off (fun a ha => hF a (List.mem_append_right _ ha)) hb.2 h2)
    have := hb.1
    unfold isB at this
    cases hl : hasL p.1 with
    | false => exact .inl rfl
    | true =>
      right
      rw [hl] at this
      simp at this
      exact this
theorem RMs.full : ∀ {as : List DM} {vs : List V} {F : List Addr}, Same G H → as.all isFu = true → RMs K G H as vs F → RFs K (absb G H) H (as.map (·.1)) vs F
  | [], _, _, _, _, h => by simp only [RMs] at h; simp only [List.map_nil, RFs]; exact h
  | p :: ps, _, _, s, hb, h => by
    simp only [RMs] at h
    obtain ⟨v, r, F1, F2, rfl, rfl, h1, h2⟩ := h
    rw [List.all_cons, Bool.and_eq_true] at hb
    simp only [List.map_cons, RFs]
    refine ⟨v, r, F1, F2, rfl, rfl, ?_, RMs.full s hb.2 h2⟩
    have q := hb.1
    unfold isFu at q
    cases hl : hasL p.1 with
    | true =>
      rw [hl] at q; simp at q
      rw [q] at h1
      exact RF.keep (absb_ext s).1.1 (fun a o e _ => e) _ _ _ (fun _ _ => rfl) h1
    | false =>
      have hr := h1.r s
      have hF : F1 = [] := by
        revert h1
        cases p.2 with
        | bo => exact fun h => h.1
        | bt => exact fun h => h.1
        | sh => exact fun h => h.1
        | top => exact fun h => ((RT.flat hl).mp h).1
        | full => exact fun h => ((RF.flat _ _ _ hl).mp h).1
      exact (RF.flat _ _ _ hl).mpr ⟨hF, R.absb s _ _ hl hr⟩
end
end SW
namespace SW
open PySem PySem.Spec PyProof.Rows L2

section
variable {K : PySem.W.Frag} {G H G' H' : Hp} {ρ : Env} {σ : L2.St} {fp : Nat → List Addr}
theorem off_grow {a : Addr} (m : Mu H a) (g : G a = none) (e : Ext H G G') : G' a = none := by
  obtain ⟨o, ho, i⟩ := m
  cases q : G' a with
  | none => rfl
  | some u =>
    rcases e.2 a (by rw [q]; simp) with z | z | ⟨w, z, j⟩
    · exact absurd g z
    · rw [ho] at z; cases z
    · rw [ho] at z; cases z; rw [i] at j; cases j
theorem Gv.trans {m : Mo} {d : D} {Q : VK} (h : Gv K G H m d Q) (kH : Same H H') (kG : Ext H G G') : Gv K G' H' m d Q := by
  intro v H2 G2 F s e s2 nd new r
  refine h v H2 G2 F (kH.trans s) (kG.trans kH e) s2 nd (fun a ha => ⟨?_, (new a ha).2⟩) r
  cases q : H a with
  | none => rfl
  | some o => have := kH _ _ q; rw [(new a ha).1] at this; cases this
theorem new_back {F : List Addr} (kH : Same H H') (new : ∀ a ∈ F, H' a = none) : ∀ a ∈ F, H a = none := fun a ha => by
  cases q : H a with
  | none => rfl
  | some o => have := kH _ _ q; rw [new a ha] at this; cases this
theorem tAR_nil {Q : List V → Hp → Prop} (h : tAR K [] σ H Q) : tNil σ H Q := by
  obtain ⟨ρ, G, fp, as, I, e, q⟩ := h
  simp only [evs, Option.some.injEq] at e
  subst e
  exact q [] H G [] (same_refl H) (Ext.refl H G) I.sub List.nodup_nil (fun a ha => nomatch ha) (by simp [RMs])
theorem tAR_core {xs : List Ex} {p : DM} {r : List DM} {Q : List V → Hp → Prop} (I : Ok K G H ρ σ fp) (er : evs xs ρ = some r)
    (q : ∀ vs H' G' F, Same H H' → Ext H G G' → Same G' H' → F.Nodup → (∀ a ∈ F, H a = none ∧ G' a = none) → RMs K G' H' (p :: r) vs F → Q vs H') :
    Gv K G H p.2 p.1 fun v H1 => R K H1 p.1 v ∧ tAR K xs σ H1 fun vs H2 => Q (v :: vs) H2 := by
  intro v H1 G1 F1 s1 e1 z1 nd1 new1 r1
  refine ⟨r1.r z1, ρ, G1, fp, r, I.grow s1 e1 z1, er, ?_⟩
  intro vs H2 G2 F2 s2 e2 z2 nd2 new2 r2
  refine q (v :: vs) H2 G2 (F1 ++ F2) (s1.trans s2) (e1.trans s1 e2) z2 ?_ ?_ ?_
  · refine List.nodup_append.mpr ⟨nd1, nd2, fun a ha b hb z => ?_⟩
    subst z
    obtain ⟨o, ho, _⟩ := r1.mu a ha
    rw [(new2 a hb).1] at ho; cases ho
  · intro a ha
    rcases List.mem_append.mp ha with ha | ha
    · exact ⟨(new1 a ha).1, off_grow (r1.mu a ha) (new1 a ha).2 e2⟩
    · exact ⟨new_back s1 (fun b hb => (new2 b hb).1) a ha, (new2 a ha).2⟩
  · simp only [RMs]
    exact ⟨v, vs, F1, F2, rfl, rfl, r1.grow e2.1 s2, r2⟩
theorem evs_cons {x : Ex} {xs : List Ex} {as : List DM} (e : evs (x :: xs) ρ = some as) : ∃ p r, ev x ρ = some p ∧ evs xs ρ = some r ∧ as = p :: r := by
  simp only [evs] at e
  split at e <;> try (cases e; done)
  rename_i p ep
  split at e <;> try (cases e; done)
  rename_i r er
  cases e
  exact ⟨p, r, ep, er, rfl⟩
theorem tAR_cons {x : Ex} {xs : List Ex} {Q : List V → Hp → Prop} (h : tAR K (x :: xs) σ H Q) : tX K x σ H fun v H1 => tAR K xs σ H1 fun vs H2 => Q (v :: vs) H2 := by
  obtain ⟨ρ, G, fp, as, I, e, q⟩ := h
  obtain ⟨p, r, ep, er, rfl⟩ := evs_cons e
  refine ⟨ρ, G, fp, p.1, p.2, I, ep, ?_⟩
  intro v H1 G1 F1 s1 e1 z1 nd1 new1 r1
  exact (tAR_core I er q v H1 G1 F1 s1 e1 z1 nd1 new1 r1).2
/-- as arguments -/
theorem tA_tAR {xs : List Ex} {Q : List V → Hp → Prop} (h : tA K xs σ H Q) : tAR K xs σ H Q := by
  obtain ⟨ρ, G, fp, as, I, e, q⟩ := h
  refine ⟨ρ, G, fp, as, I, e, ?_⟩
  intro vs H1 G1 F s e1 z nd new r
  exact q vs H1 (frzH G1 H1 F) s (e1.trans (same_refl H) (frzH_ext s z (fun a ha => (new a ha).2) (fun a ha => (new a ha).1)) ) (frzH_sub z) (RMs.asArg z (fun a ha => (new a ha).2) (fun a ha => ha) r)
end

def ImpN (X : Cx) (r : List V → Hp → VK → Prop) (g : List DM → Option DM) : Prop :=
  ∀ (G H : Hp) (as : List DM) (vs : List V) (d : D) (m : Mo) (Q : VK), g as = some (d, m) → RAs X.K G H as vs → Same G H → Gv X.K G H m d Q → r vs H Q
def r2N (r : R2) : List V → Hp → VK → Prop := fun vs H Q => match vs with
  | [x, y] => r x y H Q
  | _ => True
def r1N (r : V → Hp → VK → Prop) : List V → Hp → VK → Prop := fun vs H Q => match vs with
  | [x] => r x H Q
  | _ => True
theorem ImpN.pr {X : Cx} {r : List V → Hp → VK → Prop} {g : List DM → Option DM} {es : List Ex} (hi : ImpN X r g) {σ : L2.St} {H : Hp} {Q : VK} (h : tX X.K (.pr g es) σ H Q) : tAR X.K es σ H fun vs H' => r vs H' Q := by
  refine tA_tAR ?_
  obtain ⟨ρ, G, fp, d, m, I, e, q⟩ := h
  simp only [ev] at e
  split at e <;> try (cases e; done)
  rename_i as ea
  refine ⟨ρ, G, fp, as, I, ea, ?_⟩
  intro vs H1 G1 s1 e1 z1 ra
  exact hi G1 H1 _ vs d m Q e ra z1 (q.trans s1 e1)

section
variable {X : Cx} {a b c : Expr} {xa xb xc : Ex} {pos : Pos}
theorem px_var {i : Nat} {x : Str} (h : PE X (.Name x pos) (tVar i)) : PE X (.Name x pos) (tX X.K (.var i)) := by
  refine h.imp fun σ H Q q => ?_
  obtain ⟨ρ, G, fp, d, m, I, e, gv⟩ := q
  simp only [ev] at e
  split at e <;> try (cases e; done)
  rename_i d' m' es
  obtain ⟨v, hv, r⟩ := I.get es
  refine ⟨v, hv, ?_⟩
  simp only [nmz, Option.some.injEq, Prod.mk.injEq] at e
  obtain ⟨rfl, rfl⟩ := e
  have ex := absb_ext I.sub
  by_cases c : hasL d' = true
  · simp only [c, if_true] at gv
    refine gv.here I.sub ?_
    cases m' with
    | bo => exact ⟨rfl, r.2⟩
    | bt => exact ⟨rfl, r.2⟩
    | sh => exact ⟨rfl, r.2⟩
    | top => exact ⟨rfl, _, r⟩
    | full => exact ⟨rfl, r.r I.sub⟩
  · have c' : hasL d' = false := by simpa using c
    simp only [c', Bool.false_eq_true, if_false] at gv
    exact gv v H (absb G H) [] (same_refl H) ex.1 ex.2 List.nodup_nil (fun a ha => nomatch ha) ⟨rfl, R.absb I.sub _ _ c' (r.r I.sub)⟩
theorem px_lit {d : D} {v : V} {e : Expr} (h : PE X e (tC v)) (r : ∀ H, R X.K H d v) : PE X e (tX X.K (.lit d)) := by
  refine h.imp fun σ H Q q => ?_
  obtain ⟨ρ, G, fp, d', m, I, e, gv⟩ := q
  simp only [ev] at e
  split at e <;> try (cases e; done)
  cases e
  exact gv.here I.sub ⟨rfl, r G⟩
theorem px_int {i j pos} : PE X (.Constant (.int i) j pos) (tX X.K (.lit (.int i))) := px_lit pe_int fun _ => by simp [R]
theorem px_bl {b j pos} : PE X (.Constant (.bool b) j pos) (tX X.K (.lit (.bl b))) := px_lit pe_bl fun _ => by simp [R]
theorem px_non {j pos} : PE X (.Constant .none j pos) (tX X.K (.lit .non)) := px_lit pe_non fun _ => by simp [R]
theorem px_str {x : Str} {s : List Nat} {j pos} (hx : x = ⟨s.toArray⟩) : PE X (.Constant (.str x) j pos) (tX X.K (.lit (.str s))) := px_lit pe_str fun _ => by simp [R, hx]
theorem px_glob {x : Str} {d : D} {v : V} {u : Value} (hg : Gl X x) (hm : X.mg x = some u) (r : RelV v u) (rd : ∀ H, R X.K H d v) (hd : (x == ("__debug__" : Str)) = false := by decide) : PE X (.Name x pos) (tX X.K (.lit d)) := px_lit (pe_glob hg hm r hd) rd
theorem pxa_nil : PA X [] (tAR X.K []) := pa_nil.imp fun _ _ _ h => tAR_nil h
theorem pxa_cons {es : List Expr} {x : Ex} {xs : List Ex} {e : Expr} (ha : PE X e (tX X.K x)) (hr : PA X es (tAR X.K xs)) (hs : starEach (e :: es) X.env = (false, eval e X.env) :: starEach es X.env := by rfl) : PA X (e :: es) (tAR X.K (x :: xs)) :=
  (pa_cons ha hr hs).imp fun _ _ _ h => tAR_cons h
theorem px_bin {op : Operator} {r : R2} {g : List DM → Option DM} (ho : OpR X (binaryOp op) r) (hi : ImpN X (r2N r) g) (ha : PE X a (tX X.K xa)) (hb : PE X b (tX X.K xb)) : PE X (.BinOp a op b pos) (tX X.K (.pr g [xa, xb])) := by
  refine (pe_op ho ha hb).imp fun σ H Q h => ?_
  have q := tAR_cons (hi.pr h)
  obtain ⟨ρ, G, fp, d, m, I, e, gv⟩ := q
  refine ⟨ρ, G, fp, d, m, I, e, fun v H1 G1 F1 s1 e1 z1 n1 w1 r1 => ?_⟩
  have q2 := tAR_cons (gv v H1 G1 F1 s1 e1 z1 n1 w1 r1)
  obtain ⟨ρ', G', fp', d', m', I', e', gv'⟩ := q2
  exact ⟨ρ', G', fp', d', m', I', e', fun v2 H2 G2 F2 s2 e2 z2 n2 w2 r2 => tAR_nil (gv' v2 H2 G2 F2 s2 e2 z2 n2 w2 r2)⟩
theorem px_un {op : UnaryOp} {r : V → Hp → VK → Prop} {g : List DM → Option DM} (ho : UnR X (unaryOp op) r) (hi : ImpN X (r1N r) g) (ha : PE X a (tX X.K xa)) : PE X (.UnaryOp op a pos) (tX X.K (.pr g [xa])) := by
  refine (pe_un ho ha).imp fun σ H Q h => ?_
  have q := tAR_cons (hi.pr h)
  obtain ⟨ρ, G, fp, d, m, I, e, gv⟩ := q
  exact ⟨ρ, G, fp, d, m, I, e, fun v H1 G1 F1 s1 e1 z1 n1 w1 r1 => tAR_nil (gv v H1 G1 F1 s1 e1 z1 n1 w1 r1)⟩
/-- two expressions in a row, as arguments -/
theorem two_args {r : R2} {g : List DM → Option DM} (hi : ImpN X (r2N r) g) {σ : L2.St} {H : Hp} {Q : VK} (h : tX X.K (.pr g [xa, xb]) σ H Q) : tOp r (tX X.K xa) (tX X.K xb) σ H Q := by
  have q := tAR_cons (hi.pr h)
  obtain ⟨ρ, G, fp, d, m, I, e, gv⟩ := q
  refine ⟨ρ, G, fp, d, m, I, e, fun v H1 G1 F1 s1 e1 z1 n1 w1 r1 => ?_⟩
  have q2 := tAR_cons (gv v H1 G1 F1 s1 e1 z1 n1 w1 r1)
  obtain ⟨ρ', G', fp', d', m', I', e', gv'⟩ := q2
  exact ⟨ρ', G', fp', d', m', I', e', fun v2 H2 G2 F2 s2 e2 z2 n2 w2 r2 => tAR_nil (gv' v2 H2 G2 F2 s2 e2 z2 n2 w2 r2)⟩
theorem px_cmp {op : CmpOp} {r : R2} {g : List DM → Option DM} (ho : OpR X (compareOp op) r) (hi : ImpN X (r2N r) g) (ha : PE X a (tX X.K xa)) (hb : PE X b (tX X.K xb)) (hm : behindInMarks op b = false) : PE X (.Compare a [op] [b] pos) (tX X.K (.pr g [xa, xb])) :=
  (pe_cmpR ho ha hb hm).imp fun _ _ _ h => two_args hi h
theorem px_ix {r : R2} {g : List DM → Option DM} (hr : IxR X r) (hi : ImpN X (r2N r) g) (ha : PE X a (tX X.K xa)) (hb : PE X b (tX X.K xb)) (hs : PlainIx b) : PE X (.Subscript a b pos) (tX X.K (.pr g [xa, xb])) :=
  (pe_ix hr ha hb hs).imp fun _ _ _ h => two_args hi h
/-- a call by a rule on the arguments -/
theorem px_call {es : List Expr} {xs : List Ex} {r : List V → Hp → VK → Prop} {g : List DM → Option DM} {e : Expr} (ha : PA X es (tAR X.K xs)) (hc : ∀ t, PA X es t → PE X e (fun σ H Q => t σ H fun vs H1 => r vs H1 Q)) (hi : ImpN X r g) : PE X e (tX X.K (.pr g xs)) :=
  (hc _ ha).imp fun _ _ _ h => hi.pr h
/-- a built-in's method: the receiver and the arguments -/
theorem px_mt {es : List Expr} {o : Expr} {x : Ex} {xs : List Ex} {T : String} {r : V → List V → Hp → VK → Prop} {g : List DM → Option DM} {e : Expr} (ho : PE X o (tX X.K x)) (ha : PA X es (tAR X.K xs))
    (hc : ∀ to t, PE X o to → PA X es t → PE X e (tBM X.K T r to t))
    (hi : ImpN X (fun vs H Q => match vs with | v :: ws => r v ws H Q | [] => True) g)
    (hty : ∀ as d, g as = some d → ∃ a r, as = a :: r ∧ ∀ H v, R X.K H a.1 v → tyV X.K T v H) : PE X e (tX X.K (.pr g (x :: xs))) := by
  refine (hc _ _ ho ha).imp fun σ H Q h => ?_
  have e0 : ∃ ρ G fp d m, Ok X.K G H ρ σ fp ∧ ev (.pr g (x :: xs)) ρ = some (d, m) ∧ Gv X.K G H m d Q := h
  obtain ⟨ρ, G, fp, d, m, I, e, gv⟩ := e0
  simp only [ev] at e
  split at e <;> try (cases e; done)
  rename_i as ea
  obtain ⟨a1, as1, e1, ty⟩ := hty _ _ e
  obtain ⟨p, q, ep, eq, rfl⟩ := evs_cons ea
  simp only [List.map_cons, List.cons.injEq] at e1
  refine ⟨ρ, G, fp, p.1, p.2, I, ep, fun v H1 G1 F1 s1 x1 z1 n1 w1 r1 => ?_⟩
  have core := tAR_core (p := p) (xs := xs) (Q := fun vs H' => (match vs with | v :: ws => r v ws H' Q | [] => True)) I eq ?_ v H1 G1 F1 s1 x1 z1 n1 w1 r1
  · refine ⟨ty H1 v (by rw [← e1.1]; exact core.1), core.2⟩
  · intro vs H' G' F s e2 z nd new r'
    exact hi (frzH G' H' F) H' _ vs d m Q e (RMs.asArg z (fun a ha => (new a ha).2) (fun a ha => ha) r') (frzH_sub z)
      (gv.trans s (e2.trans (same_refl H) (frzH_ext s z (fun a ha => (new a ha).2) (fun a ha => (new a ha).1))))
/-! ### tests, and, or, if-else -/
theorem tX_tT {x : Ex} {σ : L2.St} {H : Hp} {Q : Bool → Hp → Prop} {K : PySem.W.Frag} (h : tT K x σ H Q) : tX K x σ H fun v H1 => ∃ c, v = .bl c ∧ Q c H1 := by
  obtain ⟨ρ, G, fp, b, m, I, e, q⟩ := h
  refine ⟨ρ, G, fp, _, m, I, e, fun v H1 G1 F1 s1 e1 z1 n1 w1 r1 => ⟨b, ?_, q H1 G1 s1 e1 z1⟩⟩
  have := r1.r z1
  simpa [R] using this
theorem pt_x {e : Expr} {x : Ex} (h : PE X e (tX X.K x)) (he : ∀ whole, isTrue e X.env whole = (do let v ← whole; standAt e.pos; holding [v] (truthy v)) := by intro _; rfl) : PT X e (tT X.K x) :=
  (pt_val h he).imp fun _ _ _ q => tX_tT q
theorem ptx_cmp {op : CmpOp} {r : R2} {g : List DM → Option DM} (ho : OpR X (compareOp op) r) (hi : ImpN X (r2N r) g) (ha : PE X a (tX X.K xa)) (hb : PE X b (tX X.K xb)) (hm : behindInMarks op b = false) : PT X (.Compare a [op] [b] pos) (tT X.K (.pr g [xa, xb])) :=
  (pt_cmpR ho ha hb hm).imp fun _ _ _ h => two_args hi (tX_tT h)
theorem ptx_not {x : Ex} (ha : PT X a (tT X.K x)) : PT X (.UnaryOp .Not a pos) (tT X.K (.ife x (.lit (.bl false)) (.lit (.bl true)))) := by
  refine (pt_not ha).imp fun σ H Q h => ?_
  obtain ⟨ρ, G, fp, b, m, I, e, q⟩ := h
  simp only [ev] at e
  split at e
  · rename_i m' em
    simp [hasL] at e
    obtain ⟨rfl, _⟩ := e
    exact ⟨ρ, G, fp, true, _, I, em, q⟩
  · rename_i m' em
    simp [hasL] at e
    obtain ⟨rfl, _⟩ := e
    exact ⟨ρ, G, fp, false, _, I, em, q⟩
  · cases e
theorem px_not {x : Ex} (ha : PE X a (tX X.K x)) : PE X (.UnaryOp .Not a pos) (tX X.K (.ife x (.lit (.bl false)) (.lit (.bl true)))) := by
  refine (pe_not ha).imp fun σ H Q h => ?_
  obtain ⟨ρ, G, fp, d, m, I, e, q⟩ := h
  simp only [ev] at e
  split at e
  · rename_i m' em
    simp [hasL] at e
    obtain ⟨rfl, rfl⟩ := e
    refine ⟨ρ, G, fp, _, _, I, em, fun v H1 G1 F1 s1 e1 z1 n1 w1 r1 => ⟨true, ?_, (q.trans s1 e1).sh z1 rfl (by simp [R])⟩⟩
    simpa [R] using r1.r z1
  · rename_i m' em
    simp [hasL] at e
    obtain ⟨rfl, rfl⟩ := e
    refine ⟨ρ, G, fp, _, _, I, em, fun v H1 G1 F1 s1 e1 z1 n1 w1 r1 => ⟨false, ?_, (q.trans s1 e1).sh z1 rfl (by simp [R])⟩⟩
    simpa [R] using r1.r z1
  · cases e
variable {rest : List Expr}
/-- two in a row, the second where the first says so -/
theorem and_cut {x y : Ex} {σ : L2.St} {H : Hp} {Q : Bool → Hp → Prop} {K : PySem.W.Frag} (h : tT K (.and_ x y) σ H Q) : tT K x σ H fun c H1 => if c = true then tT K y σ H1 Q else Q false H1 := by
  obtain ⟨ρ, G, fp, b, m, I, e, q⟩ := h
  simp only [ev] at e
  split at e
  · rename_i m' em
    refine ⟨ρ, G, fp, true, _, I, em, fun H1 G1 s1 e1 z1 => ?_⟩
    (try dsimp only); rw [if_pos rfl]
    exact ⟨ρ, G1, fp, b, m, I.grow s1 e1 z1, e, fun H2 G2 s2 e2 z2 => q H2 G2 (s1.trans s2) (e1.trans s1 e2) z2⟩
  · rename_i m' em
    simp at e
    obtain ⟨rfl, _⟩ := e
    refine ⟨ρ, G, fp, false, _, I, em, fun H1 G1 s1 e1 z1 => ?_⟩
    (try dsimp only); rw [if_neg (by simp)]
    exact q H1 G1 s1 e1 z1
  · cases e
theorem or_cut {x y : Ex} {σ : L2.St} {H : Hp} {Q : Bool → Hp → Prop} {K : PySem.W.Frag} (h : tT K (.or_ x y) σ H Q) : tT K x σ H fun c H1 => if c = true then Q true H1 else tT K y σ H1 Q := by
  obtain ⟨ρ, G, fp, b, m, I, e, q⟩ := h
  simp only [ev] at e
  split at e
  · rename_i m' em
    simp at e
    obtain ⟨rfl, _⟩ := e
    refine ⟨ρ, G, fp, true, _, I, em, fun H1 G1 s1 e1 z1 => ?_⟩
    (try dsimp only); rw [if_pos rfl]
    exact q H1 G1 s1 e1 z1
  · rename_i m' em
    refine ⟨ρ, G, fp, false, _, I, em, fun H1 G1 s1 e1 z1 => ?_⟩
    (try dsimp only); rw [if_neg (by simp)]
    exact ⟨ρ, G1, fp, b, m, I.grow s1 e1 z1, e, fun H2 G2 s2 e2 z2 => q H2 G2 (s1.trans s2) (e1.trans s1 e2) z2⟩
  · cases e
theorem ptw_x {op : BoolOp} {x : Ex} (h : PT X a (tT X.K x)) (ho : op = .And ∨ op = .Or) : PW X (.BoolOp op [a] pos) (tT X.K x) := by
  rcases ho with rfl | rfl
  · exact pw_and1 h
  · exact pw_or1 h
theorem ptx_and {x y : Ex} (ha : PT X a (tT X.K x)) (hb : PW X (.BoolOp .And (b :: rest) pos) (tT X.K y)) : PW X (.BoolOp .And (a :: b :: rest) pos) (tT X.K (.and_ x y)) := (pw_and ha hb).imp fun _ _ _ h => and_cut h
theorem ptx_or {x y : Ex} (ha : PT X a (tT X.K x)) (hb : PW X (.BoolOp .Or (b :: rest) pos) (tT X.K y)) : PW X (.BoolOp .Or (a :: b :: rest) pos) (tT X.K (.or_ x y)) := (pw_or ha hb).imp fun _ _ _ h => or_cut h
/-- .. as values -/
theorem px_one {op : BoolOp} {x : Ex} (h : PE X a (tX X.K x)) : PE X (.BoolOp op [a] pos) (tX X.K x) := pe_one h
theorem px_and {x y : Ex} (ha : PE X a (tX X.K x)) (hb : PE X (.BoolOp .And (b :: rest) pos) (tX X.K y)) : PE X (.BoolOp .And (a :: b :: rest) pos) (tX X.K (.and_ x y)) := by
  refine (pe_and ha hb).imp fun σ H Q h => ?_
  obtain ⟨ρ, G, fp, d, m, I, e, q⟩ := h
  simp only [ev] at e
  split at e
  · rename_i m' em
    refine ⟨ρ, G, fp, _, _, I, em, fun v H1 G1 F1 s1 e1 z1 n1 w1 r1 => ⟨true, by simpa [R] using r1.r z1, ?_⟩⟩
    (try dsimp only); rw [if_pos rfl]
    exact ⟨ρ, G1, fp, d, m, I.grow s1 e1 z1, e, q.trans s1 e1⟩
  · rename_i m' em
    simp at e
    obtain ⟨rfl, rfl⟩ := e
    refine ⟨ρ, G, fp, _, _, I, em, fun v H1 G1 F1 s1 e1 z1 n1 w1 r1 => ⟨false, by simpa [R] using r1.r z1, ?_⟩⟩
    (try dsimp only); rw [if_neg (by simp)]
    exact (q.trans s1 e1).sh z1 rfl (by simp [R])
  · cases e
theorem px_or {x y : Ex} (ha : PE X a (tX X.K x)) (hb : PE X (.BoolOp .Or (b :: rest) pos) (tX X.K y)) : PE X (.BoolOp .Or (a :: b :: rest) pos) (tX X.K (.or_ x y)) := by
  refine (pe_or ha hb).imp fun σ H Q h => ?_
  obtain ⟨ρ, G, fp, d, m, I, e, q⟩ := h
  simp only [ev] at e
  split at e
  · rename_i m' em
    simp at e
    obtain ⟨rfl, rfl⟩ := e
    refine ⟨ρ, G, fp, _, _, I, em, fun v H1 G1 F1 s1 e1 z1 n1 w1 r1 => ⟨true, by simpa [R] using r1.r z1, ?_⟩⟩
    (try dsimp only); rw [if_pos rfl]
    exact (q.trans s1 e1).sh z1 rfl (by simp [R])
  · rename_i m' em
    refine ⟨ρ, G, fp, _, _, I, em, fun v H1 G1 F1 s1 e1 z1 n1 w1 r1 => ⟨false, by simpa [R] using r1.r z1, ?_⟩⟩
    (try dsimp only); rw [if_neg (by simp)]
    exact ⟨ρ, G1, fp, d, m, I.grow s1 e1 z1, e, q.trans s1 e1⟩
  · cases e
theorem px_ife {c : Expr} {x y z : Ex} (hc : PT X c (tT X.K x)) (ha : PE X a (tX X.K y)) (hb : PE X b (tX X.K z)) : PE X (.IfExp c a b pos) (tX X.K (.ife x y z)) := by
  refine (pe_ifExp hc ha hb).imp fun σ H Q h => ?_
  obtain ⟨ρ, G, fp, d, m, I, e, q⟩ := h
  simp only [ev] at e
  split at e
  · rename_i m' em
    refine ⟨ρ, G, fp, true, _, I, em, fun H1 G1 s1 e1 z1 => ?_⟩
    (try dsimp only); rw [if_pos rfl]
    exact ⟨ρ, G1, fp, d, m, I.grow s1 e1 z1, e, q.trans s1 e1⟩
  · rename_i m' em
    refine ⟨ρ, G, fp, false, _, I, em, fun H1 G1 s1 e1 z1 => ?_⟩
    (try dsimp only); rw [if_neg (by simp)]
    exact ⟨ρ, G1, fp, d, m, I.grow s1 e1 z1, e, q.trans s1 e1⟩
  · cases e
/-! ### displays -/
theorem SZ_eq : (SZ : Nat) = sizeLine := by rw [sizeLine_eq]; rfl
theorem RMs.len {K : PySem.W.Frag} {G H : Hp} : ∀ {as : List DM} {vs : List V} {F : List Addr}, RMs K G H as vs F → as.length = vs.length
  | [], _, _, h => by simp only [RMs] at h; rw [h.1]; rfl
  | p :: ps, _, _, h => by
    simp only [RMs] at h
    obtain ⟨v, r, F1, F2, rfl, rfl, h1, h2⟩ := h
    simp [RMs.len h2]
theorem same_in {H H1 : Hp} {p : Addr} {o : HO} (e : H1 p = none) : Same H1 (upd H1 p o) := same_upd e
theorem absb_upd {K : PySem.W.Frag} {G H : Hp} (s : Same G H) {p : Addr} {o : HO} (n : H p = none) : Same G (absb G (upd H p o)) ∧ Same (absb G (upd H p o)) (upd H p o) :=
  let h := absb_ext (s.trans (same_upd (o := o) n)); ⟨h.1.1, h.2⟩
/-- a new list, by its items as they were made -/
theorem Gv.lst {K : PySem.W.Frag} {G H H1 G1 : Hp} {as : List DM} {vs : List V} {F : List Addr} {d : D} {m : Mo} {Q : VK} (gv : Gv K G H m d Q) (em : mkLst as = some (d, m)) (s : Same H H1) (e : Ext H G G1) (z : Same G1 H1)
    (nd : F.Nodup) (new : ∀ a ∈ F, H a = none ∧ G1 a = none) (r : RMs K G1 H1 as vs F) (p : Addr) (np : H1 p = none) : Q (.ref p) (upd H1 p (.lst vs)) := by
  unfold mkLst at em
  split at em
  · cases em
  rename_i hb
  have hb' : as.any isB = false := by simpa using hb
  simp only [Option.some.injEq, Prod.mk.injEq] at em
  obtain ⟨rfl, rfl⟩ := em
  have k1 : Same H1 (upd H1 p (.lst vs)) := same_upd np
  have hp : H p = none := new_back s (F := [p]) (by simpa using np) p (by simp)
  have gp : ∀ F', p ∉ F' → frzH G1 H1 F' p = none := fun F' hp' => by
    unfold frzH absb
    rw [if_neg hp', np]
    cases q : G1 p with
    | none => rfl
    | some o => have := z _ _ q; rw [np] at this; cases this
  have pF : p ∉ F := fun hm => by obtain ⟨o, ho, _⟩ := r.mu p hm; rw [np] at ho; cases ho
  by_cases hf : as.all isFu = true
  · rw [if_pos hf] at gv
    have e2 : Ext H G (frzH G1 H1 []) := e.trans (same_refl H) (frzH_ext s z (fun a ha => nomatch ha) (fun a ha => nomatch ha))
    refine gv (.ref p) _ (frzH G1 H1 []) (p :: F) (s.trans k1) e2 ((frzH_sub z).trans k1) (List.nodup_cons.mpr ⟨pF, nd⟩) (fun a ha => ?_) ?_
    · rcases List.mem_cons.mp ha with rfl | ha
      · exact ⟨hp, gp [] (by simp)⟩
      · exact ⟨(new a ha).1, off_grow (r.mu a ha) (new a ha).2 (frzH_ext (same_refl H1) z (fun a ha => nomatch ha) (fun a ha => nomatch ha))⟩
    · simp only [RM, RF]
      refine ⟨p, vs, F, rfl, rfl, upd_same, ?_⟩
      have q := r.full z hf
      have e0 : absb G1 H1 = frzH G1 H1 [] := by funext a; unfold frzH; simp
      rw [← e0]
      exact RFs.keep (same_refl _) (fun a o e i => k1 _ _ e) _ _ _ (fun a ha => by obtain ⟨o, ho, _⟩ := r.mu a ha; rw [ho]; exact k1 _ _ ho) q
  · rw [if_neg hf] at gv
    have e2 : Ext H G (frzH G1 H1 F) := e.trans (same_refl H) (frzH_ext s z (fun a ha => (new a ha).2) (fun a ha => (new a ha).1))
    refine gv (.ref p) _ (frzH G1 H1 F) [p] (s.trans k1) e2 ((frzH_sub z).trans k1) (by simp) (fun a ha => ?_) ?_
    · simp at ha; subst ha; exact ⟨hp, gp F pF⟩
    · simp only [RM, RT]
      exact ⟨p, vs, rfl, rfl, upd_same, r.frz z (fun a ha => (new a ha).2) (fun a ha => ha) hb'⟩
theorem px_lst {es : List Expr} {xs : List Ex} (h : PA X es (tAR X.K xs)) : PE X (.List es pos) (tX X.K (.lst xs)) := by
  refine (pe_lst h).imp fun σ H Q q => ?_
  obtain ⟨ρ, G, fp, d, m, I, e, gv⟩ := q
  simp only [ev] at e
  split at e <;> try (cases e; done)
  rename_i as ea
  split at e <;> try (cases e; done)
  rename_i hl
  refine ⟨ρ, G, fp, as, I, ea, fun vs H1 G1 F s1 e1 z nd new r => ⟨?_, fun p np => gv.lst e s1 e1 z nd new r p np⟩⟩
  rw [← r.len, ← SZ_eq]; exact hl
theorem px_tup {es : List Expr} {xs : List Ex} {k : Nat} (h : PA X es (tAR X.K xs)) : PE X (.Tuple es k pos) (tX X.K (.tup xs)) := by
  refine (pe_tup h).imp fun σ H Q q => ?_
  obtain ⟨ρ, G, fp, d, m, I, e, gv⟩ := q
  simp only [ev] at e
  split at e <;> try (cases e; done)
  rename_i as ea
  split at e <;> try (cases e; done)
  rename_i hl
  refine ⟨ρ, G, fp, as, I, ea, fun vs H1 G1 F s1 e1 z nd new r => ⟨by rw [← r.len, ← SZ_eq]; exact hl, fun p np => ?_⟩⟩
  unfold mkTup at e
  split at e
  · cases e
  rename_i hb
  have hb' : as.any isB = false := by simpa using hb
  simp only [Option.some.injEq, Prod.mk.injEq] at e
  obtain ⟨rfl, rfl⟩ := e
  have k1 : Same H1 (upd H1 p (.tup vs)) := same_upd np
  have hp : H p = none := new_back s1 (F := [p]) (by simpa using np) p (by simp)
  have pF : p ∉ F := fun hm => by obtain ⟨o, ho, _⟩ := r.mu p hm; rw [np] at ho; cases ho
  by_cases hf : hasLs (as.map (·.1)) = true ∧ as.all isFu = true
  · rw [if_pos hf.1, if_pos hf.2] at gv
    have e2 : Ext H G (frzH G1 H1 []) := e1.trans (same_refl H) (frzH_ext s1 z (fun a ha => nomatch ha) (fun a ha => nomatch ha))
    refine gv (.ref p) _ (frzH G1 H1 []) F (s1.trans k1) e2 ((frzH_sub z).trans k1) nd (fun a ha => ?_) ?_
    · exact ⟨(new a ha).1, off_grow (r.mu a ha) (new a ha).2 (frzH_ext (same_refl H1) z (fun a ha => nomatch ha) (fun a ha => nomatch ha))⟩
    · simp only [RM, RF]
      refine .inr ⟨hf.1, p, vs, rfl, upd_same, ?_⟩
      have q := r.full z hf.2
      have e0 : absb G1 H1 = frzH G1 H1 [] := by funext a; unfold frzH; simp
      rw [← e0]
      exact RFs.keep (same_refl _) (fun a o e i => k1 _ _ e) _ _ _ (fun a ha => by obtain ⟨o, ho, _⟩ := r.mu a ha; rw [ho]; exact k1 _ _ ho) q
  · have gv' : Gv X.K G H .sh (.tup (as.map (·.1))) Q := by
      by_cases h1 : hasLs (as.map (·.1)) = true
      · rw [if_pos h1] at gv
        rw [if_neg (fun h2 => hf ⟨h1, h2⟩)] at gv
        exact gv
      · rw [if_neg h1] at gv
        exact gv
    -- all frozen, the tuple too
    have e2 : Ext H G (frzH G1 H1 F) := e1.trans (same_refl H) (frzH_ext s1 z (fun a ha => (new a ha).2) (fun a ha => (new a ha).1))
    have z2 : Same (frzH G1 H1 F) (upd H1 p (.tup vs)) := (frzH_sub z).trans k1
    have e3 : Ext H (frzH G1 H1 F) (frzH (frzH G1 H1 F) (upd H1 p (.tup vs)) []) := frzH_ext (s1.trans k1) z2 (fun a ha => nomatch ha) (fun a ha => nomatch ha)
    refine gv' (.ref p) _ (frzH (frzH G1 H1 F) (upd H1 p (.tup vs)) []) [] (s1.trans k1) (e2.trans (same_refl H) e3) (frzH_sub z2) (by simp) (fun a ha => nomatch ha) ⟨rfl, ?_⟩
    simp only [R]
    exact ⟨p, vs, rfl, frzH_imm upd_same rfl, Rs.mono e3.1 _ _ (r.frz z (fun a ha => (new a ha).2) (fun a ha => ha) hb')⟩
end
end SW
namespace SW
open PySem PySem.Spec PyProof.Rows L2

/-! ### patterns -/
mutual
def Pt.ix : Pt → List Nat
  | .nm i => [i]
  | .tp ps => Pt.ixs ps
def Pt.ixs : List Pt → List Nat
  | [] => []
  | p :: ps => p.ix ++ Pt.ixs ps
end
def tG (K : PySem.W.Frag) (p : Pt) : TG := fun v σ H Q => ∃ ρ G fp d m F ρ', Ok K G H ρ σ fp ∧ RM K G H m d v F ∧ F.Nodup ∧ (∀ a ∈ F, G a = none ∧ ∀ j, a ∉ fp j) ∧ bindP p d m ρ = some ρ' ∧
  ∀ σ' fp', Ok K G H ρ' σ' fp' → (∀ j a, a ∈ fp' j → (∃ i, a ∈ fp i) ∨ a ∈ F) → (∀ j, j ∉ p.ix → σ'[j]? = σ[j]?) → Q σ' H
section
variable {X : Cx} {pos : Pos}
theorem pgx_nm {i : Nat} {x : Str} (h : PG X (.Name x pos) (gName i)) : PG X (.Name x pos) (tG X.K (.nm i)) := by
  refine ⟨fun pins s σ H v u Q I r q => h.run pins s σ H v u Q I r ?_⟩
  obtain ⟨ρ, G, fp, d, m, F, ρ', ok, rm, nd, off, e, k⟩ := q
  simp only [bindP] at e
  split at e <;> try (cases e; done)
  rename_i hi
  cases e
  refine k _ _ (ok.set hi rm nd fun a ha => ⟨(off a ha).1, fun j _ => (off a ha).2 j⟩) (fun j a ha => ?_) (fun j hj => ?_)
  · by_cases c : j = i <;> simp [c] at ha
    · exact .inr ha
    · exact .inl ⟨j, ha⟩
  · simp [Pt.ix] at hj
    rw [List.getElem?_set_ne (Ne.symm hj)]
theorem Rs.asMs {K : PySem.W.Frag} {G H : Hp} {m : Mo} {ds0 : List D} (f : ∀ (d : D) (v : V), d ∈ ds0 → R K H d v → RM K G H m d v []) : ∀ {ds : List D} {vs : List V}, (∀ d ∈ ds, d ∈ ds0) → Rs K H ds vs → RMs K G H (ds.map fun d => (d, m)) vs []
  | [], _, _, h => by simp only [Rs] at h; simp only [List.map_nil, RMs]; exact ⟨h, trivial⟩
  | d :: ds, _, k, h => by
    simp only [Rs] at h
    obtain ⟨v, r, rfl, h1, h2⟩ := h
    simp only [List.map_cons, RMs]
    exact ⟨v, r, [], [], rfl, rfl, f d v (k d (List.mem_cons_self ..)) h1, Rs.asMs f (fun e he => k e (List.mem_cons_of_mem _ he)) h2⟩
theorem Rs.asMsG {K : PySem.W.Frag} {G H : Hp} (s : Same G H) : ∀ {ds : List D} {vs : List V}, Rs K G ds vs → RMs K G H (ds.map fun d => (d, Mo.sh)) vs []
  | [], _, h => by simp only [Rs] at h; simp only [List.map_nil, RMs]; exact ⟨h, trivial⟩
  | d :: ds, _, h => by
    simp only [Rs] at h
    obtain ⟨v, r, rfl, h1, h2⟩ := h
    simp only [List.map_cons, RMs]
    exact ⟨v, r, [], [], rfl, rfl, ⟨rfl, h1⟩, Rs.asMsG s h2⟩
theorem RFs.flat0 {K : PySem.W.Frag} {G H : Hp} : ∀ {ds : List D} {vs : List V}, hasLs ds = false → Rs K G ds vs → RFs K G H ds vs []
  | [], _, _, h => by simp only [Rs] at h; simp only [RFs]; exact ⟨h, trivial⟩
  | d :: ds, _, hl, h => by
    simp only [Rs] at h
    obtain ⟨v, r, rfl, h1, h2⟩ := h
    simp only [hasLs, Bool.or_eq_false_iff] at hl
    simp only [RFs]
    exact ⟨v, r, [], [], rfl, rfl, (RF.flat _ _ _ hl.1).mpr ⟨rfl, h1⟩, RFs.flat0 hl.2 h2⟩
theorem RFs.asMs {K : PySem.W.Frag} {G H : Hp} : ∀ {ds : List D} {vs : List V} {F : List Addr}, RFs K G H ds vs F → RMs K G H (ds.map fun d => (d, Mo.full)) vs F
  | [], _, _, h => by simp only [RFs] at h; simp only [List.map_nil, RMs]; exact h
  | d :: ds, _, _, h => by
    simp only [RFs] at h
    obtain ⟨v, r, F1, F2, rfl, rfl, h1, h2⟩ := h
    simp only [List.map_cons, RMs]
    exact ⟨v, r, F1, F2, rfl, rfl, h1, RFs.asMs h2⟩
theorem RM.tup {K : PySem.W.Frag} {G H : Hp} {m : Mo} {ds : List D} {v : V} {F : List Addr} (s : Same G H) (h : RM K G H m (.tup ds) v F) : ∃ a xs, v = .ref a ∧ H a = some (.tup xs) ∧ RMs K G H (ds.map fun d => (d, cm m)) xs F := by
  have sh : ∀ {G' : Hp}, Same G' H → R K G' (.tup ds) v → ∃ a xs, v = .ref a ∧ H a = some (.tup xs) ∧ Rs K G' ds xs := by
    intro G' s' r
    simp only [R] at r
    obtain ⟨a, xs, rfl, e, q⟩ := r
    exact ⟨a, xs, rfl, s' _ _ e, q⟩
  cases m with
  | bo =>
    obtain ⟨rfl, r⟩ := h
    obtain ⟨a, xs, e1, e2, q⟩ := sh (same_refl H) r
    exact ⟨a, xs, e1, e2, Rs.asMs (K := K) (G := G) (H := H) (m := .bo) (ds0 := ds) (fun d v _ r => (⟨rfl, r⟩ : [] = [] ∧ R K H d v)) (fun _ h => h) q⟩
  | bt =>
    obtain ⟨rfl, F', _, r⟩ := h
    obtain ⟨a, xs, e1, e2, q⟩ := sh s r
    exact ⟨a, xs, e1, e2, Rs.asMsG s q⟩
  | sh =>
    obtain ⟨rfl, r⟩ := h
    obtain ⟨a, xs, e1, e2, q⟩ := sh s r
    exact ⟨a, xs, e1, e2, Rs.asMsG s q⟩
  | top =>
    obtain ⟨rfl, r⟩ := h
    obtain ⟨a, xs, e1, e2, q⟩ := sh s r
    exact ⟨a, xs, e1, e2, Rs.asMsG s q⟩
  | full =>
    simp only [RM, RF] at h
    rcases h with ⟨fl, rfl, r⟩ | ⟨fl, a, xs, rfl, e, q⟩
    · obtain ⟨a, xs, e1, e2, q⟩ := sh s r
      exact ⟨a, xs, e1, e2, RFs.asMs (RFs.flat0 fl q)⟩
    · exact ⟨a, xs, rfl, e, RFs.asMs q⟩
def tGs (K : PySem.W.Frag) (ps : List Pt) : TGs := fun vs σ H Q => ∃ ρ G fp ds m F ρ', Ok K G H ρ σ fp ∧ RMs K G H (ds.map fun d => (d, m)) vs F ∧ F.Nodup ∧ (∀ a ∈ F, G a = none ∧ ∀ j, a ∉ fp j) ∧ bindPs ps ds m ρ = some ρ' ∧
  ∀ σ' fp', Ok K G H ρ' σ' fp' → (∀ j a, a ∈ fp' j → (∃ i, a ∈ fp i) ∨ a ∈ F) → (∀ j, j ∉ Pt.ixs ps → σ'[j]? = σ[j]?) → Q σ' H
theorem pgxs_nil : PGs X [] (tGs X.K []) := by
  refine ⟨fun pins s σ H vs us Q I r z => pgs_nil.run pins s σ H vs us Q I r ?_⟩
  obtain ⟨ρ, G, fp, ds, m, F, ρ', ok, rm, nd, off, e, k⟩ := z
  cases ds with
  | nil =>
    simp only [bindPs, Option.some.injEq] at e
    subst e
    simp only [List.map_nil, RMs] at rm
    exact ⟨rm.1, k σ fp ok (fun j a h => .inl ⟨j, h⟩) (fun _ _ => rfl)⟩
  | cons d ds => simp [bindPs] at e
theorem pgxs_cons {t : Expr} {ts : List Expr} {p : Pt} {ps : List Pt} (h1 : PG X t (tG X.K p)) (h2 : PGs X ts (tGs X.K ps))
    (hs : (assignEach (t :: ts) X.env).map (·.2) = assign t X.env :: (assignEach ts X.env).map (·.2) := by rfl) : PGs X (t :: ts) (tGs X.K (p :: ps)) := by
  refine ⟨fun pins s σ H vs us Q I r z => (pgs_cons h1 h2 hs).run pins s σ H vs us Q I r ?_⟩
  obtain ⟨ρ, G, fp, ds, m, F, ρ', ok, rm, nd, off, e, k⟩ := z
  cases ds with
  | nil => simp [bindPs] at e
  | cons d ds =>
    simp only [bindPs] at e
    split at e <;> try (cases e; done)
    rename_i ρ1 e1
    simp only [List.map_cons, RMs] at rm
    obtain ⟨v, w, F1, F2, rfl, rfl, r1, r2⟩ := rm
    rw [List.nodup_append] at nd
    refine ⟨v, w, rfl, ρ, G, fp, d, m, F1, ρ1, ok, r1, nd.1, fun a ha => off a (List.mem_append_left _ ha), e1, fun σ1 fp1 ok1 hf1 hs1 => ?_⟩
    refine ⟨ρ1, G, fp1, ds, m, F2, ρ', ok1, r2, nd.2.1, fun a ha => ⟨(off a (List.mem_append_right _ ha)).1, fun j hj => ?_⟩, e, fun σ2 fp2 ok2 hf2 hs2 => ?_⟩
    · rcases hf1 j a hj with ⟨i, hi⟩ | hi
      · exact (off a (List.mem_append_right _ ha)).2 i hi
      · exact nd.2.2 a hi a ha rfl
    · refine k σ2 fp2 ok2 (fun j a hj => ?_) (fun j hj => ?_)
      · rcases hf2 j a hj with ⟨i, hi⟩ | hi
        · rcases hf1 i a hi with z | z
          · exact .inl z
          · exact .inr (List.mem_append_left _ z)
        · exact .inr (List.mem_append_right _ hi)
      · simp only [Pt.ixs, List.mem_append, not_or] at hj
        rw [hs2 j hj.2, hs1 j hj.1]
theorem bindPs_len : ∀ (ps : List Pt) (ds : List D) (m : Mo) (ρ ρ' : Env), bindPs ps ds m ρ = some ρ' → ps.length = ds.length
  | [], [], _, _, _, _ => rfl
  | [], _ :: _, _, _, _, h => by simp [bindPs] at h
  | _ :: _, [], _, _, _, h => by simp [bindPs] at h
  | p :: ps, d :: ds, m, ρ, ρ', h => by
    simp only [bindPs] at h
    split at h
    · simp [bindPs_len ps ds m _ _ h]
    · cases h
theorem pgx_tp {ts : List Expr} {ps : List Pt} {k : Nat} (hc : X.calm = true) (h : PGs X ts (tGs X.K ps)) (hn : (assignEach ts X.env).length = ps.length := by rfl) (hst : (assignEach ts X.env).findIdx? (·.1) = none := by rfl) : PG X (.Tuple ts k pos) (tG X.K (.tp ps)) := by
  refine ⟨fun pins s σ H v u Q I r z => (pg_tup (pos := pos) (k := k) hc h hn hst).run pins s σ H v u Q I r ?_⟩
  obtain ⟨ρ, G, fp, d, m, F, ρ', ok, rm, nd, off, e, kk⟩ := z
  simp only [bindP] at e
  split at e <;> try (cases e; done)
  rename_i ds
  obtain ⟨t, xs, rfl, et, rms⟩ := rm.tup ok.sub
  have hl := rms.len
  rw [List.length_map] at hl
  exact ⟨t, xs, rfl, .inl (.inl et), by rw [← hl, bindPs_len _ _ _ _ _ e], ρ, G, fp, ds, cm m, F, ρ', ok, rms, nd, off, e, fun σ' fp' o1 o2 o3 => kk σ' fp' o1 o2 (by simpa only [Pt.ix] using o3)⟩
mutual
theorem bindP_size : ∀ (p : Pt) (d : D) (m : Mo) (ρ ρ' : Env), bindP p d m ρ = some ρ' → ρ'.length = ρ.length
  | .nm i, d, m, ρ, ρ', h => by simp only [bindP] at h; split at h <;> cases h; simp
  | .tp ps, d, m, ρ, ρ', h => by
    simp only [bindP] at h
    split at h
    · exact bindPs_size ps _ _ _ _ h
    · cases h
theorem bindPs_size : ∀ (ps : List Pt) (ds : List D) (m : Mo) (ρ ρ' : Env), bindPs ps ds m ρ = some ρ' → ρ'.length = ρ.length
  | [], [], m, ρ, ρ', h => by simp only [bindPs, Option.some.injEq] at h; rw [h]
  | [], _ :: _, _, _, _, h => by simp [bindPs] at h
  | _ :: _, [], _, _, _, h => by simp [bindPs] at h
  | p :: ps, d :: ds, m, ρ, ρ', h => by
    simp only [bindPs] at h
    split at h
    · rename_i e1
      rw [bindPs_size ps ds m _ _ h, bindP_size p d m _ _ e1]
    · cases h
end
end

/-! ### what is walked -/
/-- at turn i, wherever B stands: the i-th of ds -/
def Yl (K : PySem.W.Frag) (J : L2.It) (ds : List D) (m : Mo) (B Gs : Hp) : Prop :=
  ∀ i H, Same B H → (ds.length ≤ i → J.stop i H) ∧ ∀ d, ds[i]? = some d → J.go i H ∧ ∀ x H', J.yld i H x H' → Same H H' ∧ ∀ G, Same G H → Same Gs G → ∃ G', Ext H G G' ∧ Same G' H' ∧ RM K G' H' m d x []
/-- how items are held, whether the source is frozen -/
abbrev IG := List DM → Option (List D × Mo × Bool)
def tI (K : PySem.W.Frag) (ig : IG) (src : List Ex) : TI := fun σ H R => ∃ ρ G fp as ds m st, Ok K G H ρ σ fp ∧ evs src ρ = some as ∧ ig (as.map fz) = some (ds, m, st) ∧
  ∀ J H' G' B, Same H H' → Ext H G G' → Same G' H' → Same B H' → (st = true → Same B G') → Yl K J ds m B G' → R J H'

section
variable {K : PySem.W.Frag} {G H G' H' : Hp} {ρ : Env} {σ : L2.St} {fp : Nat → List Addr}
theorem wipe_get : ∀ (vs : List Nat) (σ : L2.St) (j : Nat), (wipe σ vs)[j]? = if j ∈ vs ∧ j < σ.length then some none else σ[j]?
  | [], σ, j => by simp [wipe]
  | v :: vs, σ, j => by
    simp only [wipe]
    by_cases c : j = v
    · subst c
      by_cases h : j < σ.length
      · rw [List.getElem?_set_self (by rw [wipe_length]; exact h)]; simp [h]
      · rw [List.getElem?_eq_none (by simp [wipe_length]; omega)]; simp [h]
    · rw [List.getElem?_set_ne (Ne.symm c), wipe_get vs σ j]; simp [c]
theorem wipe_eq {vs : List Nat} {σ σ' : L2.St} (hl : σ'.length = σ.length) (h : ∀ j, j ∉ vs → σ'[j]? = σ[j]?) : wipe σ' vs = wipe σ vs := by
  apply List.ext_getElem?
  intro j
  rw [wipe_get, wipe_get, hl]
  by_cases c : j ∈ vs
  · by_cases d : j < σ.length
    · simp [c, d]
    · simp only [c, d, and_false, if_false]; rw [List.getElem?_eq_none (by omega), List.getElem?_eq_none (by omega)]
  · simp [c, h j c]
theorem wipe_wipe (σ : L2.St) (vs : List Nat) : wipe (wipe σ vs) vs = wipe σ vs := wipe_eq (wipe_length σ vs) fun j hj => by rw [wipe_get]; simp [hj]
/-- both sides of a slot forgotten -/
theorem Ok.wipe1 (I : Ok K G H ρ σ fp) (i : Nat) : ∃ fp', Ok K G H (ρ.set i none) (σ.set i none) fp' ∧ ∀ j a, a ∈ fp' j → a ∈ fp j := by
  have J := I.drop i
  refine ⟨fun j => if j = i then [] else fp j, ⟨by simp [I.len], fun j s e => ?_, J.dj, J.nd, J.off, J.mu, J.sub⟩, fun j a ha => ?_⟩
  · by_cases c : j = i
    · subst c
      by_cases hi : j < ρ.length
      · rw [List.getElem?_set_self hi] at e
        cases e
        exact ⟨none, by rw [List.getElem?_set_self (by rw [I.len]; exact hi)], by simp [RSl]⟩
      · rw [List.getElem?_eq_none (by simpa using hi)] at e; cases e
    · obtain ⟨o, ho, q⟩ := J.sl j s e
      exact ⟨o, by rw [List.getElem?_set_ne (Ne.symm c)]; exact ho, q⟩
  · by_cases c : j = i <;> simp [c] at ha; exact ha
theorem Ok.wipes (I : Ok K G H ρ σ fp) : ∀ vs : List Nat, ∃ fp', Ok K G H (wipeE ρ vs) (wipe σ vs) fp' ∧ ∀ j a, a ∈ fp' j → a ∈ fp j
  | [] => ⟨fp, I, fun _ _ h => h⟩
  | v :: vs => by
    obtain ⟨fp1, J, k⟩ := Ok.wipes I vs
    obtain ⟨fp2, J2, k2⟩ := J.wipe1 v
    exact ⟨fp2, J2, fun j a h => k j a (k2 j a h)⟩
theorem RMs.write {l : Addr} {o : HO} (ml : Mu H l) : ∀ {as : List DM} {vs : List V} {F : List Addr}, (∀ p ∈ as, p.2 ≠ .bo ∧ p.2 ≠ .bt) → l ∉ F → RMs K G H as vs F → RMs K G (upd H l o) as vs F
  | [], _, _, _, _, h => by simp only [RMs] at h ⊢; exact h
  | p :: ps, _, _, hm, hl, h => by
    simp only [RMs] at h ⊢
    obtain ⟨v, r, F1, F2, rfl, rfl, h1, h2⟩ := h
    have := hm p (by simp)
    exact ⟨v, r, F1, F2, rfl, rfl, h1.write ml this.1 this.2 (fun q => hl (List.mem_append_left _ q)), RMs.write ml (fun q hq => hm q (List.mem_cons_of_mem _ hq)) (fun q => hl (List.mem_append_right _ q)) h2⟩
theorem RMs.snoc : ∀ {as : List DM} {vs : List V} {F : List Addr} {p : DM} {v : V} {F' : List Addr}, RMs K G H as vs F → RM K G H p.2 p.1 v F' → RMs K G H (as ++ [p]) (vs ++ [v]) (F ++ F')
  | [], _, _, p, v, F', h, q => by
    simp only [RMs] at h
    obtain ⟨rfl, rfl⟩ := h
    simp only [List.nil_append, RMs]
    exact ⟨v, [], F', [], rfl, by simp, q, rfl, rfl⟩
  | a :: as, _, _, p, v, F', h, q => by
    simp only [RMs] at h
    obtain ⟨w, r, F1, F2, rfl, rfl, h1, h2⟩ := h
    simp only [List.cons_append, RMs]
    exact ⟨w, _, F1, F2 ++ F', rfl, by simp, h1, RMs.snoc h2 q⟩
/-- a value normalized -/
theorem RM.nmz {m : Mo} {d : D} {v : V} {F : List Addr} (s : Same G H) (h : RM K G H m d v F) : RM K (absb G H) H (nmz d m).2 (nmz d m).1 v F := by
  unfold SW.nmz
  have ex := absb_ext s
  by_cases c : hasL d = true
  · simp only [c, if_true]; exact h.grow ex.1.1 (same_refl H)
  · have c' : hasL d = false := by simpa using c
    simp only [c', Bool.false_eq_true, if_false]
    have hF : F = [] := by
      revert h
      cases m with
      | bo => exact fun h => h.1
      | bt => exact fun h => h.1
      | sh => exact fun h => h.1
      | top => exact fun h => ((RT.flat c').mp h).1
      | full => exact fun h => ((RF.flat _ _ _ c').mp h).1
    exact ⟨hF, R.absb s _ _ c' (h.r s)⟩
end

/-- the turns: what is made so far stands at D -/
structure CompI (K : PySem.W.Frag) (G1 H1 : Hp) (D : Addr) (done : List DM) (G H : Hp) (vs : List V) (F : List Addr) : Prop where
  kH : Same H1 H
  kG : Ext H1 G1 G
  s : Same G H
  at_ : H D = some (.lst vs)
  gD : G D = none
  items : RMs K G H done vs F
  nd : F.Nodup
  new : ∀ a ∈ F, H1 a = none ∧ G a = none
  dF : D ∉ F
theorem hasB {as bs : List DM} (h : (as ++ bs).any isB = false) : as.any isB = false := by
  rw [List.any_append, Bool.or_eq_false_iff] at h; exact h.1
theorem compGo_norm {p : Pt} {m : Mo} {c e : Env → Option DM} {ρ : Env} : ∀ {ds : List D} {r : List DM}, compGo p m c e ρ ds = some r → ∀ x ∈ r, hasL x.1 = false → x.2 = .sh
  | [], r, h => by simp [compGo] at h; subst h; simp
  | d :: ds, r, h => by
    simp only [compGo] at h
    split at h <;> try (cases h; done)
    split at h <;> try (cases h; done)
    · split at h <;> try (cases h; done)
      split at h <;> try (cases h; done)
      rename_i a _ r' er
      cases h
      intro x hx hl
      rcases List.mem_cons.mp hx with rfl | hx
      · simp only [nmz] at hl ⊢; simp [hl]
      · exact compGo_norm er x hx hl
    · exact compGo_norm h
theorem notB_of {x : DM} (h : isB x = false) (n : hasL x.1 = false → x.2 = .sh) : x.2 ≠ .bo ∧ x.2 ≠ .bt := by
  unfold isB at h
  cases hl : hasL x.1 with
  | false => rw [n hl]; simp
  | true => rw [hl] at h; simp at h; exact h
theorem lc_of {K : PySem.W.Frag} {own : List (Str × Nat)} {p : Pt} {ig : IG} {src : List Ex} {c e : Ex} (hp : ∀ j ∈ p.ix, j ∈ own.map (·.2)) {σ : L2.St} {H : Hp} {Q : VK} (q : tX K (.comp p (own.map (·.2)) ig src c e) σ H Q) : tLc (tI K ig src) (tG K p) (tT K c) (tX K e) (own.map (·.2)) σ H Q := by
  obtain ⟨ρ, G, fp, d, m, I, ee, gv⟩ := q
  simp only [ev] at ee
  split at ee <;> try (cases ee; done)
  rename_i as ea
  split at ee <;> try (cases ee; done)
  rename_i ds im st ei
  split at ee <;> try (cases ee; done)
  rename_i r er
  split at ee <;> try (cases ee; done)
  rename_i hz
  refine ⟨ρ, G, fp, as, ds, im, st, I, ea, ei, fun J H1 G1 B s1 e1 z1 sB _ yl => ?_⟩
  intro Dd nD
  have hnb : r.any isB = false := by
    unfold mkLst at ee
    split at ee
    · cases ee
    · rename_i h; simpa using h
  have hnm := compGo_norm er
  have k1 : Same H1 (upd H1 Dd (.lst [])) := same_upd nD
  have gD1 : G1 Dd = none := by
    cases q : G1 Dd with
    | none => rfl
    | some o => have := z1 _ _ q; rw [nD] at this; cases this
  have I1 := I.grow s1 e1 z1
  refine ⟨fun i n H2 => ∃ G2 done rest vs F, n = ds.length - i ∧ i ≤ ds.length ∧ CompI K G1 H1 Dd done G2 H2 vs F ∧ r = done ++ rest ∧ done.length ≤ i ∧ compGo p im (ev c) (ev e) (wipeE ρ (own.map (·.2))) (ds.drop i) = some rest, ?_, ?_⟩
  · exact ⟨_, G1, [], r, [], [], rfl, Nat.zero_le _, ⟨k1, Ext.refl H1 G1, z1.trans k1, upd_same, gD1, by simp [RMs], by simp, by simp, by simp⟩, rfl, Nat.le_refl _, er⟩
  · rintro i n H2 ⟨G2, done, rest, vs, F, rfl, hle, C, hr, hdl, hgo⟩
    have sB2 : Same B H2 := sB.trans C.kH
    obtain ⟨ystop, ygo⟩ := yl i H2 sB2
    by_cases hi' : i < ds.length
    · right
      have hd : ds[i]? = some ds[i] := List.getElem?_eq_getElem hi'
      obtain ⟨go, yld⟩ := ygo _ hd
      rw [List.drop_eq_getElem_cons hi'] at hgo
      simp only [compGo] at hgo
      split at hgo <;> try (cases hgo; done)
      rename_i ρ1 eb
      refine ⟨go, fun H3 => ∃ G3 done' rest' vs' F', CompI K G1 H1 Dd done' G3 H3 vs' F' ∧ r = done' ++ rest' ∧ done'.length ≤ i + 1 ∧ compGo p im (ev c) (ev e) (wipeE ρ (own.map (·.2))) (ds.drop (i + 1)) = some rest', ?_, ?_⟩
      · rintro H3 ⟨G3, done', rest', vs', F', C', hr', hdl', hgo'⟩
        exact ⟨ds.length - (i + 1), by omega, G3, done', rest', vs', F', rfl, by omega, C', hr', hdl', hgo'⟩
      · intro x H3 hy
        obtain ⟨s3, item⟩ := yld x H3 hy
        obtain ⟨G3, e3, z3, rx⟩ := item G2 C.s C.kG.1
        -- the names around, in the block
        have I2 : Ok K G2 H2 ρ σ fp := I1.grow C.kH C.kG C.s
        have I3 : Ok K G3 H3 ρ σ fp := I2.grow s3 e3 z3
        obtain ⟨fp', I4, kfp⟩ := I3.wipes (own.map (·.2))
        have gD2 : ∀ {Ha Hc Ga Gc : Hp}, Ha Dd = some (.lst vs) → Ga Dd = none → Ext Ha Ga Gc → Gc Dd = none := fun h1 h2 h3 => off_grow ⟨_, h1, rfl⟩ h2 h3
        refine ⟨_, G3, fp', ds[i], im, [], ρ1, I4, rx, by simp, by simp, eb, fun σ' fp2 I5 hf hst => ?_⟩
        refine ⟨?_, ?_⟩
        · have : wipe σ' (own.map (·.2)) = wipe (wipe σ (own.map (·.2))) (own.map (·.2)) := by
            refine wipe_eq ?_ fun j hj => hst j fun hx => hj (hp j hx)
            rw [I5.len, wipe_length, I3.len]
            rw [bindP_size _ _ _ _ _ eb]
            have : ∀ (vs : List Nat) (ρ : Env), (wipeE ρ vs).length = ρ.length := by
              intro vs; induction vs with
              | nil => intro ρ; rfl
              | cons v vs ih => intro ρ; simp only [wipeE, List.length_set]; exact ih ρ
            rw [this]
          rw [this, wipe_wipe]
        · -- the test
          have at3 : H3 Dd = some (.lst vs) := s3 _ _ C.at_
          have g3 : G3 Dd = none := off_grow ⟨_, C.at_, rfl⟩ C.gD e3
          have kG3 : Ext H1 G1 G3 := C.kG.trans C.kH e3
          have C3 : CompI K G1 H1 Dd done G3 H3 vs F := ⟨C.kH.trans s3, kG3, z3, at3, g3, C.items.grow e3.1 s3, C.nd, fun a ha => ⟨(C.new a ha).1, off_grow (C.items.mu a ha) (C.new a ha).2 e3⟩, C.dF⟩
          have cgrow : ∀ {H4 G4 : Hp}, Same H3 H4 → Ext H3 G3 G4 → Same G4 H4 → CompI K G1 H1 Dd done G4 H4 vs F := fun s4 e4 z4 =>
            ⟨C3.kH.trans s4, C3.kG.trans C3.kH e4, z4, s4 _ _ C3.at_, off_grow ⟨_, C3.at_, rfl⟩ C3.gD e4, C3.items.grow e4.1 s4, C3.nd, fun a ha => ⟨(C3.new a ha).1, off_grow (C3.items.mu a ha) (C3.new a ha).2 e4⟩, C3.dF⟩
          split at hgo
          · rename_i mc ec
            split at hgo <;> try (cases hgo; done)
            rename_i a eelt
            split at hgo <;> try (cases hgo; done)
            rename_i rest' er'
            simp only [Option.some.injEq] at hgo
            subst hgo
            refine ⟨ρ1, G3, fp2, true, mc, I5, ec, fun H4 G4 s4 e4 z4 => ?_⟩
            (try dsimp only); rw [if_pos rfl]
            refine ⟨ρ1, G4, fp2, a.1, a.2, I5.grow s4 e4 z4, eelt, fun y H5 G5 F5 s5 e5 z5 n5 w5 r5 => ?_⟩
            have C5 : CompI K G1 H1 Dd done G5 H5 vs F := cgrow (s4.trans s5) (e4.trans s4 e5) z5
            refine ⟨vs, C5.at_, ?_, ?_⟩
            · have h1 := C5.items.len
              have : done.length < SZ := Nat.lt_of_le_of_lt hdl (Nat.lt_of_lt_of_le hi' hz)
              rw [← h1, ← SZ_eq]; exact this
            · have ex := absb_ext z5
              have r6 := r5.nmz z5
              have pD5 : Dd ∉ F5 := fun hm => by have := (w5 _ hm).1; rw [s4 _ _ at3] at this; cases this
              refine ⟨absb G5 H5, done ++ [nmz a.1 a.2], rest', vs ++ [y], F ++ F5, ?_, by rw [hr]; simp, by simp; omega, er'⟩
              have muD : Mu H5 Dd := ⟨_, C5.at_, rfl⟩
              have gD5 : absb G5 H5 Dd = none := off_grow muD C5.gD ex.1
              have hm : ∀ q ∈ done ++ [nmz a.1 a.2], q.2 ≠ .bo ∧ q.2 ≠ .bt := fun q hq => by
                have hq' : q ∈ r := by rw [hr]; simp at hq ⊢; rcases hq with h | h <;> simp [h]
                refine notB_of ?_ (hnm q hq')
                cases hb : isB q with
                | false => rfl
                | true => have := List.any_eq_true.mpr ⟨q, hq', hb⟩; rw [hnb] at this; cases this
              have pDF : Dd ∉ F ++ F5 := fun h => by
                rcases List.mem_append.mp h with h | h
                · exact C5.dF h
                · exact pD5 h
              refine ⟨fun b o hb => ?_, C5.kG.trans C5.kH ex.1, fun b o hb => ?_, upd_same, gD5, ?_, ?_, fun b hb => ?_, pDF⟩
              · rw [upd_ne (ne_of_none hb nD)]; exact C5.kH _ _ hb
              · rw [upd_ne (fun z => by subst z; rw [gD5] at hb; cases hb)]; exact ex.2 _ _ hb
              · exact RMs.write muD hm pDF (RMs.snoc (C5.items.grow ex.1.1 (same_refl H5)) r6)
              · refine List.nodup_append.mpr ⟨C5.nd, n5, fun b hb b' hb' z => ?_⟩
                subst z
                obtain ⟨o, ho, _⟩ := C3.items.mu b hb
                have := (w5 b hb').1
                rw [s4 _ _ ho] at this; cases this
              · rcases List.mem_append.mp hb with h | h
                · exact ⟨(C5.new b h).1, off_grow (C5.items.mu b h) (C5.new b h).2 ex.1⟩
                · exact ⟨new_back (C3.kH.trans s4) (fun c hc => (w5 c hc).1) b h, off_grow (r5.mu b h) (w5 b h).2 ex.1⟩
          · rename_i mc ec
            refine ⟨ρ1, G3, fp2, false, mc, I5, ec, fun H4 G4 s4 e4 z4 => ?_⟩
            (try dsimp only); rw [if_neg (by simp)]
            exact ⟨G4, done, rest, vs, F, cgrow s4 e4 z4, hr, by omega, hgo⟩
          · cases hgo
    · left
      refine ⟨ystop (by omega), ?_⟩
      have : ds.drop i = [] := by rw [List.drop_eq_nil_iff]; omega
      rw [this] at hgo
      simp [compGo] at hgo
      subst hgo
      rw [List.append_nil] at hr
      subst hr
      have hD : H Dd = none := new_back s1 (F := [Dd]) (by simpa using nD) Dd (by simp)
      have eG : Ext H G G2 := e1.trans s1 C.kG
      unfold mkLst at ee
      rw [if_neg (by simp [hnb])] at ee
      simp only [Option.some.injEq, Prod.mk.injEq] at ee
      obtain ⟨rfl, rfl⟩ := ee
      have muD : Mu H2 Dd := ⟨_, C.at_, rfl⟩
      have nF : ∀ a ∈ F, H a = none := new_back s1 fun a ha => (C.new a ha).1
      by_cases hf : r.all isFu = true
      · rw [if_pos hf] at gv
        have ex := absb_ext C.s
        refine gv (.ref Dd) H2 (absb G2 H2) (Dd :: F) (s1.trans C.kH) (eG.trans (s1.trans C.kH) ex.1) ex.2 (List.nodup_cons.mpr ⟨C.dF, C.nd⟩) (fun a ha => ?_) ?_
        · rcases List.mem_cons.mp ha with rfl | ha
          · exact ⟨hD, off_grow muD C.gD ex.1⟩
          · exact ⟨nF a ha, off_grow (C.items.mu a ha) (C.new a ha).2 ex.1⟩
        · simp only [RM, RF]
          exact ⟨Dd, vs, F, rfl, rfl, C.at_, C.items.full C.s hf⟩
      · rw [if_neg hf] at gv
        have offF : ∀ a ∈ F, G2 a = none := fun a ha => (C.new a ha).2
        have ex : Ext H G2 (frzH G2 H2 F) := frzH_ext (s1.trans C.kH) C.s offF nF
        refine gv (.ref Dd) H2 (frzH G2 H2 F) [Dd] (s1.trans C.kH) (eG.trans (same_refl H) ex) (frzH_sub C.s) (by simp) (fun a ha => ?_) ?_
        · simp at ha; subst ha
          refine ⟨hD, ?_⟩
          unfold frzH
          rw [if_neg C.dF]
          exact off_grow muD C.gD (absb_ext C.s).1
        · simp only [RM, RT]
          exact ⟨Dd, vs, rfl, rfl, C.at_, C.items.frz C.s offF (fun a ha => ha) hnb⟩
theorem px_comp {X : Cx} {elt tg iter : Expr} {ifs : List Expr} {scope : Scope} {own : List (Str × Nat)} {pos : Pos} {p : Pt} {ig : IG} {src : List Ex} {c e : Ex} (hc : X.calm = true) (hN : X.N.Nodup)
    (hi : PI X tg iter (tI X.K ig src)) (ok : BlkOk X.N X.env.scope scope own) (hp : ∀ j ∈ p.ix, j ∈ own.map (·.2))
    (hg : ∀ (s : Shared) (H : Hp) (C : Addr) (cl : List (Str × Addr)) (fp : List Addr), PG (X.blk s H scope (compEnvC scope cl C X.env) fp) tg (tG X.K p))
    (ht : ∀ (s : Shared) (H : Hp) (C : Addr) (cl : List (Str × Addr)) (fp : List Addr), PTs (X.blk s H scope (compEnvC scope cl C X.env) fp) ifs (tT X.K c))
    (he : ∀ (s : Shared) (H : Hp) (C : Addr) (cl : List (Str × Addr)) (fp : List Addr), PE (X.blk s H scope (compEnvC scope cl C X.env) fp) elt (tX X.K e)) (hs : ∀ x, foldedSetIterable iter X.env x = pure x := by intro _; rfl) :
    PE X (.ListComp elt [⟨tg, iter, ifs, 0⟩] scope pos) (tX X.K (.comp p (own.map (·.2)) ig src c e)) := by
  exact (pe_lc hc hN hi ok hg ht he hs).imp fun σ H Q q => lc_of hp q

end SW
namespace SW
open PySem PySem.Spec PyProof.Rows L2

theorem ptsx_nil {X : Cx} : PTs X [] (tT X.K (.lit (.bl true))) := ⟨fun pins s σ H Q I q => pts_nil.run pins s σ H Q I (by
  obtain ⟨ρ, G, fp, b, m, ok, e, k⟩ := q
  simp [ev, hasL] at e
  obtain ⟨rfl, _⟩ := e
  exact k H G (same_refl H) (Ext.refl H G) ok.sub)⟩
theorem ptsx_one {X : Cx} {e : Expr} {x : Ex} (h : PT X e (tT X.K x)) : PTs X [e] (tT X.K x) := pts_one h

/-! ### what is walked: one source -/
section
variable {K : PySem.W.Frag} {G H G' H' : Hp} {ρ : Env} {σ : L2.St} {fp : Nat → List Addr}
/-- the source's value, frozen if it is new -/
theorem tI_one {ig : IG} {x : Ex} {R : L2.It → Hp → Prop} {p : DM} {ds : List D} {m : Mo} {st : Bool} (I : Ok K G H ρ σ fp) (ei : ig [fz p] = some (ds, m, st))
    (k : ∀ J H' G' B, Same H H' → Ext H G G' → Same G' H' → Same B H' → (st = true → Same B G') → Yl K J ds m B G' → R J H') :
    Gv K G H p.2 p.1 fun v H1 => ∃ G1, Same G1 H1 ∧ RM K G1 H1 (fz p).2 (fz p).1 v [] ∧ ∀ J B, Same B H1 → (st = true → Same B G1) → Yl K J ds m B G1 → R J H1 := by
  intro v H1 G1 F s1 e1 z1 nd new r
  have offF : ∀ a ∈ F, G1 a = none := fun a ha => (new a ha).2
  refine ⟨frzH G1 H1 F, frzH_sub z1, RM.asArg z1 offF (fun a ha => ha) r, fun J B sB st' yl => ?_⟩
  exact k J H1 (frzH G1 H1 F) B s1 (e1.trans (same_refl H) (frzH_ext s1 z1 offF (fun a ha => (new a ha).1))) (frzH_sub z1) sB st' yl
theorem evs_one {x : Ex} {as : List DM} (e : evs [x] ρ = some as) : ∃ p, ev x ρ = some p ∧ as = [p] := by
  obtain ⟨p, r, ep, er, rfl⟩ := evs_cons e
  simp [evs] at er
  subst er
  exact ⟨p, ep, rfl⟩
end
def strD (s : List Nat) : List D := s.map fun c => .str [c]
/-- a list, a tuple, a text -/
def igSeq : IG := fun as => match as with
  | [(.lst ds, .sh)] => some (ds, .sh, true)
  | [(.lst ds, .bt)] => some (ds, .sh, false)
  | [(.lst ds, .bo)] => some (ds, if hasLs ds then .bo else .sh, false)
  | [(.tup ds, .sh)] => some (ds, .sh, true)
  | [(.tup ds, .bo)] => some (ds, .bo, false)
  | [(.str s, _)] => some (strD s, .sh, true)
  | _ => none
theorem hasLs_get : ∀ {ds : List D} {i : Nat} {d : D}, hasLs ds = false → ds[i]? = some d → hasL d = false
  | [], i, d, _, e => by simp at e
  | a :: ds, 0, d, h, e => by simp only [hasLs, Bool.or_eq_false_iff] at h; cases e; exact h.1
  | a :: ds, i + 1, d, h, e => by simp only [hasLs, Bool.or_eq_false_iff] at h; exact hasLs_get h.2 (i := i) (by simpa using e)
theorem yl_list {K : PySem.W.Frag} {G H : Hp} {a : Addr} {xs : List V} {ds : List D} {m : Mo} (B : Hp) (hB : B a = some (.lst xs)) (hl : ds.length = xs.length)
    (hv : ∀ (i : Nat) (d : D), ds[i]? = some d → ∃ v, xs[i]? = some v ∧ ∀ H' G', Same B H' → Same G G' → Same G' H' → ∃ G2, Ext H' G' G2 ∧ Same G2 H' ∧ RM K G2 H' m d v []) : Yl K (Itl K a) ds m B G := by
  intro i H1 sB
  have h1 : SqL K H1 a xs := .inl (.inl (sB _ _ hB))
  refine ⟨fun hi => ⟨xs, h1, by omega⟩, fun d hd => ?_⟩
  obtain ⟨v, ev, r⟩ := hv i d hd
  refine ⟨⟨xs, v, h1, ev⟩, fun x H' hy => ?_⟩
  obtain ⟨rfl, f⟩ := hy
  have : x = v := Option.some.inj ((f _ h1).symm.trans ev)
  subst this
  exact ⟨same_refl _, fun G' s' sG => r H' G' sB sG s'⟩
theorem yl_tup {K : PySem.W.Frag} {G H : Hp} {a : Addr} {xs : List V} {ds : List D} {m : Mo} (B : Hp) (hB : B a = some (.tup xs)) (hl : ds.length = xs.length)
    (hv : ∀ (i : Nat) (d : D), ds[i]? = some d → ∃ v, xs[i]? = some v ∧ ∀ H' G', Same B H' → Same G G' → Same G' H' → ∃ G2, Ext H' G' G2 ∧ Same G2 H' ∧ RM K G2 H' m d v []) : Yl K (Itt K a) ds m B G := by
  intro i H1 sB
  have h1 : SqT K H1 a xs := .inl (.inl (sB _ _ hB))
  refine ⟨fun hi => ⟨xs, h1, by omega⟩, fun d hd => ?_⟩
  obtain ⟨v, ev, r⟩ := hv i d hd
  refine ⟨⟨xs, v, h1, ev⟩, fun x H' hy => ?_⟩
  obtain ⟨rfl, f⟩ := hy
  have : x = v := Option.some.inj ((f _ h1).symm.trans ev)
  subst this
  exact ⟨same_refl _, fun G' s' sG => r H' G' sB sG s'⟩
theorem it_sh {K : PySem.W.Frag} {G : Hp} {ds : List D} {xs : List V} {B : Hp} (r : Rs K G ds xs) : ∀ (i : Nat) (d : D), ds[i]? = some d → ∃ v, xs[i]? = some v ∧ ∀ H' G', Same B H' → Same G G' → Same G' H' → ∃ G2, Ext H' G' G2 ∧ Same G2 H' ∧ RM K G2 H' .sh d v [] := fun i d hd => by
  obtain ⟨v, ev, q⟩ := r.get hd
  exact ⟨v, ev, fun H' G' _ sG s' => ⟨G', Ext.refl _ _, s', rfl, R.mono sG _ _ q⟩⟩
theorem it_bo {K : PySem.W.Frag} {G : Hp} {ds : List D} {xs : List V} {B : Hp} (r : Rs K B ds xs) : ∀ (i : Nat) (d : D), ds[i]? = some d → ∃ v, xs[i]? = some v ∧ ∀ H' G', Same B H' → Same G G' → Same G' H' → ∃ G2, Ext H' G' G2 ∧ Same G2 H' ∧ RM K G2 H' .bo d v [] := fun i d hd => by
  obtain ⟨v, ev, q⟩ := r.get hd
  exact ⟨v, ev, fun H' G' sB sG s' => ⟨G', Ext.refl _ _, s', rfl, R.mono sB _ _ q⟩⟩
theorem it_fl {K : PySem.W.Frag} {G : Hp} {ds : List D} {xs : List V} {B : Hp} (fl : hasLs ds = false) (r : Rs K B ds xs) : ∀ (i : Nat) (d : D), ds[i]? = some d → ∃ v, xs[i]? = some v ∧ ∀ H' G', Same B H' → Same G G' → Same G' H' → ∃ G2, Ext H' G' G2 ∧ Same G2 H' ∧ RM K G2 H' .sh d v [] := fun i d hd => by
  obtain ⟨v, ev, q⟩ := r.get hd
  exact ⟨v, ev, fun H' G' sB sG s' => ⟨absb G' H', (absb_ext s').1, (absb_ext s').2, rfl, R.absb s' _ _ (hasLs_get fl hd) (R.mono sB _ _ q)⟩⟩
theorem yl_str {K : PySem.W.Frag} {G B : Hp} {s : List Nat} : Yl K (Its ⟨s.toArray⟩) (strD s) .sh B G := by
  intro i H1 sB
  refine ⟨fun hi => ?_, fun d hd => ?_⟩
  · show s.toArray.size ≤ i
    simp [strD] at hi ⊢; exact hi
  · simp only [strD, List.getElem?_map, Option.map_eq_some_iff] at hd
    obtain ⟨c, hc, rfl⟩ := hd
    have hi : i < s.length := (List.getElem?_eq_some_iff.mp hc).1
    refine ⟨by show i < s.toArray.size; simpa using hi, fun x H' hy => ?_⟩
    obtain ⟨rfl, c', hc', rfl⟩ := hy
    have : c' = c := by
      have h : s.toArray[i]? = some c' := hc'
      rw [List.getElem?_toArray, hc] at h
      exact (Option.some.inj h).symm
    subst this
    exact ⟨same_refl _, fun G' s' sG => ⟨G', Ext.refl _ _, s', rfl, by simp [R]⟩⟩
theorem pix_seq {X : Cx} {tg l : Expr} {x : Ex} (hl : PE X l (tX X.K x)) : PI X tg l (tI X.K igSeq [x]) := by
  refine ⟨fun pins s σ H R I q => ?_⟩
  obtain ⟨ρ, G, fp, as, ds, m, st, ok, ea, ei, k⟩ := q
  obtain ⟨p, ep, rfl⟩ := evs_one ea
  simp only [List.map_cons, List.map_nil] at ei
  have gv := tI_one (x := x) ok ei k
  have ei' := ei
  obtain ⟨d, pm⟩ := p
  have ef : (fz (d, pm)).1 = d := rfl
  generalize hm' : (fz (d, pm)).2 = m' at gv ei
  have e0 : fz (d, pm) = (d, m') := by rw [← hm']; rfl
  rw [e0] at ei
  rw [e0] at gv
  have wk : ∀ {W : V → Hp → Prop}, (∀ v H1, (∃ G1, Same G1 H1 ∧ RM X.K G1 H1 m' d v [] ∧ ∀ J B, Same B H1 → (st = true → Same B G1) → Yl X.K J ds m B G1 → R J H1) → W v H1) → tX X.K x σ H W := fun hW =>
    ⟨ρ, G, fp, d, pm, ok, ep, fun v H1 G1 F s1 e1 z1 n1 w1 r1 => hW v H1 (gv v H1 G1 F s1 e1 z1 n1 w1 r1)⟩
  cases d with
  | lst es =>
    refine (pi_list (tg := tg) hl).run pins s σ H R I (wk fun v H1 h => ?_)
    obtain ⟨G1, z1, rm, h⟩ := h
    have rr := rm.r z1
    simp only [SW.R] at rr
    obtain ⟨a, xs, rfl, ea', rs⟩ := rr
    refine ⟨a, rfl, ⟨xs, .inl (.inl ea')⟩, ?_⟩
    cases m' <;> simp only [igSeq, Option.some.injEq, Prod.mk.injEq] at ei <;> try (cases ei; done)
    · -- bo
      obtain ⟨rfl, rfl, rfl⟩ := ei
      refine h _ H1 (same_refl H1) (fun z => by cases z) ?_
      by_cases c : hasLs es = true
      · simp only [c, if_true]; exact yl_list (H := H1) H1 ea' rs.length (it_bo rs)
      · have c' : hasLs es = false := by simpa using c
        simp only [c', Bool.false_eq_true, if_false]; exact yl_list (H := H1) H1 ea' rs.length (it_fl c' rs)
    · -- bt
      obtain ⟨rfl, rfl, rfl⟩ := ei
      obtain ⟨_, F', rt⟩ := rm
      simp only [RT] at rt
      obtain ⟨a', xs', e1, rfl, e2, rs'⟩ := rt
      cases e1
      rw [ea'] at e2; cases e2
      exact h _ H1 (same_refl H1) (fun z => by cases z) (yl_list (H := H1) H1 ea' rs.length (it_sh rs'))
    · -- sh
      obtain ⟨rfl, rfl, rfl⟩ := ei
      obtain ⟨_, r'⟩ := rm
      simp only [SW.R] at r'
      obtain ⟨a', xs', e1, e2, rs'⟩ := r'
      cases e1
      have e3 := z1 _ _ e2
      rw [ea'] at e3; cases e3
      exact h _ G1 z1 (fun _ => same_refl G1) (yl_list (H := H1) G1 e2 rs.length (it_sh rs'))
  | tup es =>
    refine (pi_tup (tg := tg) hl).run pins s σ H R I (wk fun v H1 h => ?_)
    obtain ⟨G1, z1, rm, h⟩ := h
    have rr := rm.r z1
    simp only [SW.R] at rr
    obtain ⟨a, xs, rfl, ea', rs⟩ := rr
    refine ⟨a, rfl, ⟨xs, .inl (.inl ea')⟩, ?_⟩
    cases m' <;> simp only [igSeq, Option.some.injEq, Prod.mk.injEq] at ei <;> try (cases ei; done)
    · obtain ⟨rfl, rfl, rfl⟩ := ei
      exact h _ H1 (same_refl H1) (fun z => by cases z) (yl_tup (H := H1) H1 ea' rs.length (it_bo rs))
    · obtain ⟨rfl, rfl, rfl⟩ := ei
      obtain ⟨_, r'⟩ := rm
      simp only [SW.R] at r'
      obtain ⟨a', xs', e1, e2, rs'⟩ := r'
      cases e1
      have e3 := z1 _ _ e2
      rw [ea'] at e3; cases e3
      exact h _ G1 z1 (fun _ => same_refl G1) (yl_tup (H := H1) G1 e2 rs.length (it_sh rs'))
  | str z =>
    refine (pi_str (tg := tg) hl).run pins s σ H R I (wk fun v H1 h => ?_)
    obtain ⟨G1, z1, rm, h⟩ := h
    have rr := rm.r z1
    simp only [SW.R] at rr
    subst rr
    simp only [igSeq, Option.some.injEq, Prod.mk.injEq] at ei
    obtain ⟨rfl, rfl, rfl⟩ := ei
    exact ⟨_, rfl, h _ G1 z1 (fun _ => same_refl G1) yl_str⟩
  | _ => cases m' <;> simp [igSeq] at ei
/-- range: lo, lo + c, .. -/
def rngD (lo c : Int) (n : Nat) : List D := (List.range n).map fun i => .int (lo + (i : Nat) * c)
theorem yl_rngC {K : PySem.W.Frag} {G B : Hp} {lo c : Int} {n : Nat} : Yl K (Itc lo c n) (rngD lo c n) .sh B G := by
  intro i H1 sB
  refine ⟨fun hi => (by simpa [rngD] using hi : n ≤ i), fun d hd => ?_⟩
  simp only [rngD, List.getElem?_map, Option.map_eq_some_iff] at hd
  obtain ⟨j, hj, rfl⟩ := hd
  have hi : i < n := by simpa using (List.getElem?_eq_some_iff.mp hj).1
  have : j = i := by rw [List.getElem?_range hi] at hj; exact (Option.some.inj hj).symm
  subst this
  refine ⟨hi, fun x H' hy => ?_⟩
  obtain ⟨rfl, rfl⟩ := hy
  exact ⟨same_refl _, fun G' s' sG => ⟨G', Ext.refl _ _, s', rfl, by simp [R]⟩⟩
theorem yl_rng {K : PySem.W.Frag} {G B : Hp} {lo : Int} {n : Nat} : Yl K (Itr lo n) (rngD lo 1 n) .sh B G := by
  intro i H1 sB
  refine ⟨fun hi => (by simpa [rngD] using hi : n ≤ i), fun d hd => ?_⟩
  simp only [rngD, List.getElem?_map, Option.map_eq_some_iff] at hd
  obtain ⟨j, hj, rfl⟩ := hd
  have hi : i < n := by simpa using (List.getElem?_eq_some_iff.mp hj).1
  have : j = i := by rw [List.getElem?_range hi] at hj; exact (Option.some.inj hj).symm
  subst this
  refine ⟨hi, fun x H' hy => ?_⟩
  obtain ⟨rfl, rfl⟩ := hy
  exact ⟨same_refl _, fun G' s' sG => ⟨G', Ext.refl _ _, s', rfl, by simp [R]⟩⟩
def B62 : Int := 4611686018427387904
def inR (i : Int) : Bool := decide (-B62 ≤ i) && decide (i < B62)
def igR1 : IG := fun as => match as with
  | [(.int j, _)] => if inR j then some (rngD 0 1 j.toNat, .sh, true) else none
  | _ => none
def igR2 : IG := fun as => match as with
  | [(.int i, _), (.int j, _)] => if inR i && inR j then some (rngD i 1 (j - i).toNat, .sh, true) else none
  | _ => none
/-- how many turns -/
def rngN (i j c : Int) : Nat := (Builtin.Range.rangeSize i j c).toNat
def igR3 : IG := fun as => match as with
  | [(.int i, _), (.int j, _), (.int c, _)] => if decide (c ≠ 0) && decide (c.natAbs < 1073741824) && Builtin.Range.small i j c && decide (0 ≤ Builtin.Range.rangeSize i j c) then some (rngD i c (rngN i j c), .sh, true) else none
  | _ => none
theorem inR_of {i : Int} (h : inR i = true) : -(2 ^ 62) ≤ i ∧ i < 2 ^ 62 := by
  unfold inR B62 at h
  simp only [Bool.and_eq_true, decide_eq_true_eq] at h
  exact ⟨by omega, by omega⟩
section
variable {X : Cx} {tg : Expr} {p pos : Pos}
/-- from the arguments -/
theorem tI_args {K : PySem.W.Frag} {σ : L2.St} {H : Hp} {ig : IG} {xs : List Ex} {R : L2.It → Hp → Prop} (h : tI K ig xs σ H R) : ∃ as ds m st, ig as = some (ds, m, st) ∧ tAR K xs σ H fun vs H1 => ∃ G1, Same G1 H1 ∧ RAs K G1 H1 as vs ∧
    ∀ J B, Same B H1 → (st = true → Same B G1) → Yl K J ds m B G1 → R J H1 := by
  obtain ⟨ρ, G, fp, as, ds, m, st, ok, ea, ei, k⟩ := h
  exact ⟨_, ds, m, st, ei, tA_tAR ⟨ρ, G, fp, as, ok, ea, fun vs H1 G1 s1 e1 z1 ra => ⟨G1, z1, ra, fun J B sB st' yl => k J H1 G1 B s1 e1 z1 sB st' yl⟩⟩⟩
theorem RAs.one {K : PySem.W.Frag} {G H : Hp} {a : DM} {vs : List V} (h : RAs K G H [a] vs) : ∃ v, vs = [v] ∧ RM K G H a.2 a.1 v [] := by
  simp only [RAs] at h
  obtain ⟨v, r, rfl, h1, rfl⟩ := h
  exact ⟨v, rfl, h1⟩
theorem RAs.two {K : PySem.W.Frag} {G H : Hp} {a b : DM} {vs : List V} (h : RAs K G H [a, b] vs) : ∃ v w, vs = [v, w] ∧ RM K G H a.2 a.1 v [] ∧ RM K G H b.2 b.1 w [] := by
  simp only [RAs] at h
  obtain ⟨v, r, rfl, h1, w, r2, rfl, h2, rfl⟩ := h
  exact ⟨v, w, rfl, h1, h2⟩
theorem RAs.three {K : PySem.W.Frag} {G H : Hp} {a b c : DM} {vs : List V} (h : RAs K G H [a, b, c] vs) : ∃ v w u, vs = [v, w, u] ∧ RM K G H a.2 a.1 v [] ∧ RM K G H b.2 b.1 w [] ∧ RM K G H c.2 c.1 u [] := by
  simp only [RAs] at h
  obtain ⟨v, r, rfl, h1, w, r2, rfl, h2, u, r3, rfl, h3, rfl⟩ := h
  exact ⟨v, w, u, rfl, h1, h2, h3⟩
theorem RM.isInt {K : PySem.W.Frag} {G H : Hp} {i : Int} {m : Mo} {v : V} {F : List Addr} (s : Same G H) (h : RM K G H m (.int i) v F) : v = .int i := by simpa [R] using h.r s
theorem RM.isBl {K : PySem.W.Frag} {G H : Hp} {i : Bool} {m : Mo} {v : V} {F : List Addr} (s : Same G H) (h : RM K G H m (.bl i) v F) : v = .bl i := by simpa [R] using h.r s
theorem RM.isStr {K : PySem.W.Frag} {G H : Hp} {i : List Nat} {m : Mo} {v : V} {F : List Addr} (s : Same G H) (h : RM K G H m (.str i) v F) : v = .str ⟨i.toArray⟩ := by simpa [R] using h.r s
theorem RM.isNon {K : PySem.W.Frag} {G H : Hp} {m : Mo} {v : V} {F : List Addr} (s : Same G H) (h : RM K G H m .non v F) : v = .non := by simpa [R] using h.r s
theorem pix_r1 {a : Expr} {xs : List Ex} (hg : Gl X "range") (hm : X.mg "range" = none) (ha : PA X [a] (tAR X.K xs)) (hs : starEach [a] X.env = [(false, eval a X.env)] := by rfl) : PI X tg (.Call (.Name "range" p) [a] [] pos) (tI X.K igR1 xs) := by
  refine ⟨fun pins s σ H R I q => ?_⟩
  obtain ⟨as, ds, m, st, ei, h⟩ := tI_args q
  obtain ⟨ρ, G, fp, as', ok, ea, k⟩ := h
  refine (pi_range1 hg hm ha hs).run pins s σ H R I ⟨ρ, G, fp, as', ok, ea, fun vs H' G' F s1 e1 z1 nd new r => ?_⟩
  obtain ⟨G1, z, ra, h⟩ := k vs H' G' F s1 e1 z1 nd new r
  unfold igR1 at ei
  split at ei <;> try (cases ei; done)
  split at ei <;> try (cases ei; done)
  rename_i j m' hj
  cases ei
  obtain ⟨v, rfl, r1⟩ := ra.one
  have := r1.isInt z; subst this
  exact ⟨_, rfl, (inR_of hj).1, (inR_of hj).2, h _ G1 z (fun _ => same_refl G1) yl_rng⟩
theorem pix_r2 {a b : Expr} {xs : List Ex} (hg : Gl X "range") (hm : X.mg "range" = none) (ha : PA X [a, b] (tAR X.K xs)) (hs : starEach [a, b] X.env = [(false, eval a X.env), (false, eval b X.env)] := by rfl) (hs2 : starEach [b] X.env = [(false, eval b X.env)] := by rfl) : PI X tg (.Call (.Name "range" p) [a, b] [] pos) (tI X.K igR2 xs) := by
  refine ⟨fun pins s σ H R I q => ?_⟩
  obtain ⟨as, ds, m, st, ei, h⟩ := tI_args q
  obtain ⟨ρ, G, fp, as', ok, ea, k⟩ := h
  refine (pi_range2 hg hm ha hs hs2).run pins s σ H R I ⟨ρ, G, fp, as', ok, ea, fun vs H' G' F s1 e1 z1 nd new r => ?_⟩
  obtain ⟨G1, z, ra, h⟩ := k vs H' G' F s1 e1 z1 nd new r
  unfold igR2 at ei
  split at ei <;> try (cases ei; done)
  split at ei <;> try (cases ei; done)
  rename_i i m1 j m2 hj
  cases ei
  simp only [Bool.and_eq_true] at hj
  obtain ⟨v, w, rfl, r1, r2⟩ := ra.two
  have e1 := r1.isInt z; subst e1
  have e2 := r2.isInt z; subst e2
  exact ⟨_, _, rfl, ⟨(inR_of hj.1).1, (inR_of hj.1).2, (inR_of hj.2).1, (inR_of hj.2).2⟩, h _ G1 z (fun _ => same_refl G1) yl_rng⟩
theorem pix_r3 {a b c : Expr} {xs : List Ex} (hg : Gl X "range") (hm : X.mg "range" = none) (ha : PA X [a, b, c] (tAR X.K xs)) (hs : starEach [a, b, c] X.env = (false, eval a X.env) :: starEach [b, c] X.env := by rfl) (hpl : (backTo pos (starEach [b, c] X.env)).any (·.1) = false := by rfl) : PI X tg (.Call (.Name "range" p) [a, b, c] [] pos) (tI X.K igR3 xs) := by
  refine ⟨fun pins s σ H R I q => ?_⟩
  obtain ⟨as, ds, m, st, ei, h⟩ := tI_args q
  obtain ⟨ρ, G, fp, as', ok, ea, k⟩ := h
  refine (pi_range3 hg hm ha hs hpl).run pins s σ H R I ⟨ρ, G, fp, as', ok, ea, fun vs H' G' F s1 e1 z1 nd new r => ?_⟩
  obtain ⟨G1, z, ra, h⟩ := k vs H' G' F s1 e1 z1 nd new r
  unfold igR3 at ei
  split at ei <;> try (cases ei; done)
  split at ei <;> try (cases ei; done)
  rename_i i m1 j m2 cc m3 hj
  cases ei
  simp only [Bool.and_eq_true, decide_eq_true_eq] at hj
  obtain ⟨v, w, u, rfl, r1, r2, r3⟩ := ra.three
  have e1 := r1.isInt z; subst e1
  have e2 := r2.isInt z; subst e2
  have e3 := r3.isInt z; subst e3
  exact ⟨_, _, _, _, rfl, ⟨hj.1.1.1, hj.1.1.2, hj.1.2, by unfold rngN; omega⟩, h _ G1 z (fun _ => same_refl G1) yl_rngC⟩
end

/-! ### defs of one's own -/
/-- the promise of a def that reads its arguments and hands back f of them -/
def spP (K : PySem.W.Frag) (f : List D → Option DM) : Sp := fun vs H Q _ => ∃ G ds d m, Same G H ∧ Rs K G ds vs ∧ f ds = some (d, m) ∧ Gv K G H m d Q
def callG (f : List D → Option DM) : List DM → Option DM := fun as => match f (as.map (·.1)) with
  | some (d, m) => if as.all (fun p => !hasL p.1 || p.2 == .sh) then some (d, m) else if hasL d = false then some (d, .sh) else if m = .full then some (d, .full) else none
  | none => none
theorem RAs.r {K : PySem.W.Frag} {G H : Hp} : ∀ {as : List DM} {vs : List V}, Same G H → RAs K G H as vs → Rs K H (as.map (·.1)) vs
  | [], _, _, h => by simp only [RAs] at h; simp only [List.map_nil, Rs]; exact h
  | p :: ps, _, s, h => by
    simp only [RAs] at h
    obtain ⟨v, r, rfl, h1, h2⟩ := h
    exact Rs.cons (h1.r s) (RAs.r s h2)
theorem RAs.sh {K : PySem.W.Frag} {G H : Hp} : ∀ {as : List DM} {vs : List V}, Same G H → as.all (fun p => !hasL p.1 || p.2 == .sh) = true → RAs K G H as vs → Rs K (absb G H) (as.map (·.1)) vs
  | [], _, _, _, h => by simp only [RAs] at h; simp only [List.map_nil, Rs]; exact h
  | p :: ps, _, s, ha, h => by
    simp only [RAs] at h
    obtain ⟨v, r, rfl, h1, h2⟩ := h
    rw [List.all_cons, Bool.and_eq_true] at ha
    refine Rs.cons ?_ (RAs.sh s ha.2 h2)
    cases hl : hasL p.1 with
    | false => exact R.absb s _ _ hl (h1.r s)
    | true =>
      have := ha.1
      rw [hl] at this; simp at this
      rw [this] at h1
      exact R.mono (absb_ext s).1.1 _ _ h1.2
mutual
/-- what is owned whole leans on the frozen heap by what never changes alone -/
theorem RF.reabs {K : PySem.W.Frag} {G G' H' : Hp} (s' : Same G' H') (s : Same G H') : ∀ (d : D) (v : V) (F : List Addr), RF K G' H' d v F → RF K (absb G H') H' d v F
  | .lst ds, v, F, h => by
    simp only [RF] at h ⊢
    obtain ⟨a, xs, F', rfl, rfl, h1, h2⟩ := h
    exact ⟨a, xs, F', rfl, rfl, h1, RFs.reabs s' s ds xs F' h2⟩
  | .dK ks ds, v, F, h => by
    simp only [RF] at h ⊢
    obtain ⟨a, xs, F', rfl, rfl, h1, h3, h2⟩ := h
    exact ⟨a, xs, F', rfl, rfl, h1, h3, RFs.reabs s' s ds xs F' h2⟩
  | .dT ks ds, v, F, h => by
    simp only [RF] at h ⊢
    obtain ⟨a, xs, F', rfl, rfl, h1, h3, h2⟩ := h
    exact ⟨a, xs, F', rfl, rfl, h1, h3, RFs.reabs s' s ds xs F' h2⟩
  | .tup ds, v, F, h => by
    simp only [RF] at h ⊢
    rcases h with ⟨z, rfl, q⟩ | ⟨z, a, xs, rfl, h1, h2⟩
    · exact .inl ⟨z, rfl, R.absb s _ _ (by simpa [hasL] using z) (R.mono s' _ _ q)⟩
    · exact .inr ⟨z, a, xs, rfl, h1, RFs.reabs s' s ds xs F h2⟩
  | .obj C ns ds, v, F, h => by
    simp only [RF] at h ⊢
    rcases h with ⟨z, rfl, q⟩ | ⟨z, a, dx, xs, rfl, h1, h3, h2⟩
    · exact .inl ⟨z, rfl, R.absb s _ _ (by simpa [hasL] using z) (R.mono s' _ _ q)⟩
    · exact .inr ⟨z, a, dx, xs, rfl, h1, h3, RFs.reabs s' s ds xs F h2⟩
  | .non, v, F, h => by simp only [RF] at h ⊢; exact ⟨h.1, R.absb s _ _ rfl (R.mono s' _ _ h.2)⟩
  | .bl _, v, F, h => by simp only [RF] at h ⊢; exact ⟨h.1, R.absb s _ _ rfl (R.mono s' _ _ h.2)⟩
  | .int _, v, F, h => by simp only [RF] at h ⊢; exact ⟨h.1, R.absb s _ _ rfl (R.mono s' _ _ h.2)⟩
  | .str _, v, F, h => by simp only [RF] at h ⊢; exact ⟨h.1, R.absb s _ _ rfl (R.mono s' _ _ h.2)⟩
  | .scr _, v, F, h => by simp only [RF] at h ⊢; exact ⟨h.1, R.absb s _ _ rfl (R.mono s' _ _ h.2)⟩
  | .raw _, v, F, h => by simp only [RF] at h ⊢; exact ⟨h.1, R.absb s _ _ rfl (R.mono s' _ _ h.2)⟩
theorem RFs.reabs {K : PySem.W.Frag} {G G' H' : Hp} (s' : Same G' H') (s : Same G H') : ∀ (ds : List D) (vs : List V) (F : List Addr), RFs K G' H' ds vs F → RFs K (absb G H') H' ds vs F
  | [], _, _, h => by simp only [RFs] at h ⊢; exact h
  | d :: ds, _, _, h => by
    simp only [RFs] at h ⊢
    obtain ⟨v, r, F1, F2, rfl, rfl, h1, h2⟩ := h
    exact ⟨v, r, F1, F2, rfl, rfl, RF.reabs s' s d v F1 h1, RFs.reabs s' s ds r F2 h2⟩
end
theorem impFn {X : Cx} (f : List D → Option DM) (E : XK) : ImpN X (fun vs H Q => spP X.K f (vs ++ []) H Q E) (callG f) := by
  intro G H as vs d m Q eg ra s gv
  rw [List.append_nil]
  unfold callG at eg
  split at eg <;> try (cases eg; done)
  rename_i d' m' ef
  split at eg
  · rename_i hall
    cases eg
    exact ⟨absb G H, _, d, m, (absb_ext s).2, ra.sh s hall, ef, gv.trans (same_refl H) (absb_ext s).1⟩
  · have ext0 : ∀ {H' : Hp}, Same H H' → Ext H G (absb G H') := fun {H'} kH => by
      have := frzH_ext (F := []) kH (s.trans kH) (fun a ha => nomatch ha) (fun a ha => nomatch ha)
      have e0 : frzH G H' [] = absb G H' := by funext a; unfold frzH; simp
      rwa [e0] at this
    split at eg
    · rename_i hl
      cases eg
      refine ⟨H, _, d, m', same_refl H, ra.r s, ef, fun v H' G' F kH kG z nd new r => ?_⟩
      have s' := s.trans kH
      exact gv v H' (absb G H') [] kH (ext0 kH) (absb_ext s').2 List.nodup_nil (fun a ha => nomatch ha) ⟨rfl, R.absb s' _ _ hl (r.r z)⟩
    · split at eg <;> cases eg
      have hm : m' = .full := by assumption
      subst hm
      refine ⟨H, _, d, .full, same_refl H, ra.r s, ef, fun v H' G' F kH kG z nd new r => ?_⟩
      have s' := s.trans kH
      refine gv v H' (absb G H') F kH (ext0 kH) (absb_ext s').2 nd (fun a ha => ⟨(new a ha).1, ?_⟩) (RF.reabs z s' _ _ _ r)
      refine off_grow (r.mu a ha) ?_ (absb_ext s').1
      cases q : G a with
      | none => rfl
      | some o => have := s _ _ q; rw [(new a ha).1] at this; cases this
theorem px_fn {X : Cx} {CX : CXT} {k : Nat} {fa : Addr} {fd : FuncData} {ps : List Str} {f : List D → Option DM} {E : XK} {x : Str} {p pos : Pos} {e : Expr} {es : List Expr} {xs : List Ex}
    (F : FnOk X.prog X.w X.K X.mg X.base CX k fa fd ps (spP X.K f)) (hr : Room k X.A) (hg : Gl X x) (hm : X.mg x = some (.ref fa)) (hk : PySem.W.keepIn X.K (.ref fa) = true) (hb : Binds X.K fd ps []) (hx : Passes CX X E)
    (ha : PA X (e :: es) (tAR X.K xs)) (hdb : (x == ("__debug__" : Str)) = false := by decide) (he : starEach (e :: es) X.env = (false, eval e X.env) :: starEach es X.env := by rfl) (hpl : (backTo pos (starEach es X.env)).any (·.1) = false := by rfl) :
    PE X (.Call (.Name x p) (e :: es) [] pos) (tX X.K (.pr (callG f) xs)) :=
  (pe_call F hr hg hm hk hb .nil hx ha hdb he hpl).imp fun _ _ _ h => (impFn f E).pr h
/-- a built-in by its name -/
theorem px_callB {X : Cx} {id : String} {r : List V → Hp → VK → Prop} {g : List DM → Option DM} {x : Str} {p pos : Pos} {e : Expr} {es : List Expr} {xs : List Ex} (hc : CallR X (.builtin id) r) (hi : ImpN X r g) (hg : Gl X x) (hm : X.mg x = none) (hv : bootBuiltins x = some (.builtin id))
    (ha : PA X (e :: es) (tAR X.K xs)) (hn : x ≠ "__name__" := by decide) (hdb : (x == ("__debug__" : Str)) = false := by decide)
    (he : starEach (e :: es) X.env = (false, eval e X.env) :: starEach es X.env := by rfl) (hpl : (backTo pos (starEach es X.env)).any (·.1) = false := by rfl) : PE X (.Call (.Name x p) (e :: es) [] pos) (tX X.K (.pr g xs)) :=
  (pe_callB hc hg hm hv ha hn hdb he hpl).imp fun _ _ _ h => hi.pr h
theorem px_callT {X : Cx} {T : String} {r : List V → Hp → VK → Prop} {g : List DM → Option DM} {x : Str} {p pos : Pos} {e : Expr} {es : List Expr} {xs : List Ex} (hc : CallR X (.type T) r) (hi : ImpN X r g) (hg : Gl X x) (hm : X.mg x = none) (hv : bootBuiltins x = some (.type T))
    (ha : PA X (e :: es) (tAR X.K xs)) (hn : x ≠ "__name__" := by decide) (hdb : (x == ("__debug__" : Str)) = false := by decide)
    (he : starEach (e :: es) X.env = (false, eval e X.env) :: starEach es X.env := by rfl) (hpl : (backTo pos (starEach es X.env)).any (·.1) = false := by rfl) : PE X (.Call (.Name x p) (e :: es) [] pos) (tX X.K (.pr g xs)) :=
  (pe_callTy hc hg hm hv ha hn hdb he hpl).imp fun _ _ _ h => hi.pr h

/-! ### slices -/
theorem tA_cons {K : PySem.W.Frag} {σ : L2.St} {H : Hp} {x : Ex} {xs : List Ex} {Q : List V → Hp → Prop} (h : tAR K (x :: xs) σ H Q) : tX K x σ H fun v H1 => tAR K xs σ H1 fun vs H2 => Q (v :: vs) H2 := tAR_cons h
section
variable {X : Cx} {a lo hi : Expr} {xa xl xh : Ex} {pos p2 : Pos} {r : V → Option Int → Option Int → Hp → VK → Prop} {g : List DM → Option DM}
theorem tX_mono {K : PySem.W.Frag} {σ : L2.St} {H : Hp} {x : Ex} {Q Q' : VK} (h : tX K x σ H Q) (k : ∀ v H, Q v H → Q' v H) : tX K x σ H Q' := by
  obtain ⟨ρ, G, fp, d, m, ok, e, gv⟩ := h
  exact ⟨ρ, G, fp, d, m, ok, e, fun v H1 G1 F s e z n w rr => k _ _ (gv v H1 G1 F s e z n w rr)⟩
theorem px_sl0 (hr : SlR X r) (hi : ImpN X (fun vs H Q => match vs with | [x] => r x none none H Q | _ => True) g) (ha : PE X a (tX X.K xa)) : PE X (.Subscript a (.Slice none none none p2) pos) (tX X.K (.pr g [xa])) :=
  (pe_slice hr ha po_none po_none).imp fun _ _ _ h => tX_mono (tAR_cons (hi.pr h)) fun _ _ q => tAR_nil q
theorem px_slL (hr : SlR X r) (hi : ImpN X (fun vs H Q => match vs with | [x, l] => ∃ i, l = .int i ∧ r x (some i) none H Q | _ => True) g) (ha : PE X a (tX X.K xa)) (hl : PE X lo (tX X.K xl)) : PE X (.Subscript a (.Slice (some lo) none none p2) pos) (tX X.K (.pr g [xa, xl])) :=
  (pe_slice hr ha (po_some hl) po_none).imp fun _ _ _ h => tX_mono (tAR_cons (hi.pr h)) fun _ _ q => tX_mono (tAR_cons q) fun _ _ q => tAR_nil q
theorem px_slH (hr : SlR X r) (hi : ImpN X (fun vs H Q => match vs with | [x, u] => ∃ i, u = .int i ∧ r x none (some i) H Q | _ => True) g) (ha : PE X a (tX X.K xa)) (hh : PE X hi' (tX X.K xh)) : PE X (.Subscript a (.Slice none (some hi') none p2) pos) (tX X.K (.pr g [xa, xh])) :=
  (pe_slice hr ha po_none (po_some hh)).imp fun _ _ _ h => tX_mono (tAR_cons (hi.pr h)) fun _ _ q => tX_mono (tAR_cons q) fun _ _ q => tAR_nil q
/-- what is behind the arguments, from a place on -/
def Rest (K : PySem.W.Frag) (ρ : Env) (σ : L2.St) (fp : Nat → List Addr) (G H : Hp) (as : List DM) (Q : List V → Hp → Prop) : Prop :=
  Ok K G H ρ σ fp ∧ ∀ vs H' G' F, Same H H' → Ext H G G' → Same G' H' → F.Nodup → (∀ a ∈ F, H a = none ∧ G' a = none) → RMs K G' H' as vs F → Q vs H'
theorem Rest.step {K : PySem.W.Frag} {ρ : Env} {σ : L2.St} {fp : Nat → List Addr} {G H : Hp} {p : DM} {r : List DM} {Q : List V → Hp → Prop} (h : Rest K ρ σ fp G H (p :: r) Q) :
    Gv K G H p.2 p.1 fun v H1 => R K H1 p.1 v ∧ ∃ G1, Rest K ρ σ fp G1 H1 r fun vs H2 => Q (v :: vs) H2 := by
  obtain ⟨I, q⟩ := h
  intro v H1 G1 F1 s1 e1 z1 nd1 new1 r1
  refine ⟨r1.r z1, G1, I.grow s1 e1 z1, ?_⟩
  intro vs H2 G2 F2 s2 e2 z2 nd2 new2 r2
  refine q (v :: vs) H2 G2 (F1 ++ F2) (s1.trans s2) (e1.trans s1 e2) z2 ?_ ?_ ?_
  · refine List.nodup_append.mpr ⟨nd1, nd2, fun a ha b hb z => ?_⟩
    subst z
    obtain ⟨o, ho, _⟩ := r1.mu a ha
    rw [(new2 a hb).1] at ho; cases ho
  · intro a ha
    rcases List.mem_append.mp ha with ha | ha
    · exact ⟨(new1 a ha).1, off_grow (r1.mu a ha) (new1 a ha).2 e2⟩
    · exact ⟨new_back s1 (fun b hb => (new2 b hb).1) a ha, (new2 a ha).2⟩
  · simp only [RMs]
    exact ⟨v, vs, F1, F2, rfl, rfl, r1.grow e2.1 s2, r2⟩
theorem Rest.nil {K : PySem.W.Frag} {ρ : Env} {σ : L2.St} {fp : Nat → List Addr} {G H : Hp} {Q : List V → Hp → Prop} (h : Rest K ρ σ fp G H [] Q) : Q [] H :=
  h.2 [] H G [] (same_refl H) (Ext.refl H G) h.1.sub List.nodup_nil (fun a ha => nomatch ha) (by simp [RMs])
theorem Rest.go {K : PySem.W.Frag} {ρ : Env} {σ : L2.St} {fp : Nat → List Addr} {G H : Hp} {p : DM} {r : List DM} {x : Ex} {Q : List V → Hp → Prop} {Q' : VK} (h : Rest K ρ σ fp G H (p :: r) Q) (e : ev x ρ = some p)
    (k : ∀ v H1 G1, R K H1 p.1 v → Rest K ρ σ fp G1 H1 r (fun vs H2 => Q (v :: vs) H2) → Q' v H1) : tX K x σ H Q' :=
  ⟨ρ, G, fp, p.1, p.2, h.1, e, fun v H1 G1 F s e z n w rr => let ⟨rv, G2, hh⟩ := h.step v H1 G1 F s e z n w rr; k v H1 G2 rv hh⟩
/-- a primitive's arguments, told -/
theorem pr_rest {X : Cx} {r : List V → Hp → VK → Prop} {g : List DM → Option DM} {es : List Ex} (hi : ImpN X r g) {σ : L2.St} {H : Hp} {Q : VK} (h : tX X.K (.pr g es) σ H Q) :
    ∃ ρ G fp as d, evs es ρ = some as ∧ g (as.map fz) = some d ∧ Rest X.K ρ σ fp G H as fun vs H' => r vs H' Q := by
  obtain ⟨ρ, G, fp, d, m, I, e, gv⟩ := h
  simp only [ev] at e
  split at e <;> try (cases e; done)
  rename_i as ea
  refine ⟨ρ, G, fp, as, _, ea, e, I, fun vs H' G' F s e2 z nd new r' => ?_⟩
  exact hi (frzH G' H' F) H' _ vs d m Q e (RMs.asArg z (fun a ha => (new a ha).2) (fun a ha => ha) r') (frzH_sub z)
    (gv.trans s (e2.trans (same_refl H) (frzH_ext s z (fun a ha => (new a ha).2) (fun a ha => (new a ha).1))))
theorem px_slB {hi' : Expr} (hr : SlR X r) (hi : ImpN X (fun vs H Q => match vs with | [x, .int i, .int j] => r x (some i) (some j) H Q | _ => True) g)
    (hty : ∀ as d, g as = some d → ∃ a i m j m', as = [a, (.int i, m), (.int j, m')]) (ha : PE X a (tX X.K xa)) (hl : PE X lo (tX X.K xl)) (hh : PE X hi' (tX X.K xh)) :
    PE X (.Subscript a (.Slice (some lo) (some hi') none p2) pos) (tX X.K (.pr g [xa, xl, xh])) := by
  refine (pe_slice hr ha (po_some hl) (po_some hh)).imp fun σ H Q h => ?_
  obtain ⟨ρ, G, fp, as, d, ea, eg, rs⟩ := pr_rest hi h
  obtain ⟨p1, r1, e1, ea1, rfl⟩ := evs_cons ea
  obtain ⟨p2, r2, e2, ea2, rfl⟩ := evs_cons ea1
  obtain ⟨p3, r3, e3, ea3, rfl⟩ := evs_cons ea2
  simp [evs] at ea3; subst ea3
  obtain ⟨a', i, m, j, m', he⟩ := hty _ _ eg
  simp only [List.map_cons, List.map_nil, List.cons.injEq, and_true] at he
  have h2 : p2.1 = .int i := by have := congrArg Prod.fst he.2.1; simpa [fz] using this
  have h3 : p3.1 = .int j := by have := congrArg Prod.fst he.2.2; simpa [fz] using this
  refine rs.go e1 fun v1 H1 G1 _ rs => rs.go e2 fun v2 H2 G2 rv2 rs => ?_
  rw [h2] at rv2
  simp only [SW.R] at rv2
  subst rv2
  refine ⟨i, rfl, rs.go e3 fun v3 H3 G3 rv3 rs => ?_⟩
  rw [h3] at rv3
  simp only [SW.R] at rv3
  subst rv3
  exact ⟨j, rfl, rs.nil⟩
end
end SW
namespace SW
open PySem PySem.Spec PyProof.Rows L2

/-! ### values whose names are used for the last time -/
inductive Mx where
  | ex (e : Ex) | mv (i : Nat) | tup (es : List Mx) | lst (es : List Mx) | ife (c : Ex) (a b : Mx)
mutual
def evM : Mx → Env → Option (Env × DM)
  | .ex e, ρ => match ev e ρ with
    | some p => some (ρ, p)
    | none => none
  | .mv i, ρ => match ρ[i]? with
    | some (some p) => some (ρ.set i none, p)
    | _ => none
  | .tup es, ρ => match evMs es ρ with
    | some (ρ', as) => if as.length ≤ SZ then match mkTup as with
      | some p => some (ρ', p)
      | none => none
      else none
    | none => none
  | .lst es, ρ => match evMs es ρ with
    | some (ρ', as) => if as.length ≤ SZ then match mkLst as with
      | some p => some (ρ', p)
      | none => none
      else none
    | none => none
  | .ife c a b, ρ => match ev c ρ with
    | some (.bl true, _) => evM a ρ
    | some (.bl false, _) => evM b ρ
    | _ => none
def evMs : List Mx → Env → Option (Env × List DM)
  | [], ρ => some (ρ, [])
  | e :: es, ρ => match evM e ρ with
    | some (ρ1, p) => match evMs es ρ1 with
      | some (ρ2, as) => some (ρ2, p :: as)
      | none => none
    | none => none
end

/-! ### statements -/
inductive Sx where
  | setM (i : Nat) (e : Mx)
  | retM (e : Mx)
  | appM (i : Nat) (e : Mx)
  | set (i : Nat) (e : Ex)
  | unp (p : Pt) (e : Ex)
  | par (i j : Nat) (a b : Ex)
  | par3 (i j l : Nat) (a b c : Ex)
  | ifs (c : Ex) (t f : List Sx)
  | fors (p : Pt) (ig : IG) (src : List Ex) (body : List Sx)
  | whl (c : Ex) (body : List Sx)
  | ret (e : Ex)
  | retv (i : Nat)
  | skip (e : Ex)
  | frz (i : Nat)
  | mv (i j : Nat)
  | app (i : Nat) (e : Ex)
  | appm (i j : Nat)
  | ext (i : Nat) (e : Ex)
  | popd (p : Pt) (i : Nat)
  | popx (i : Nat)
  | seti (i : Nat) (k e : Ex)
  | dput (i : Nat) (k e : Ex)
  | aug (i : Nat) (g : List DM → Option DM) (e : Ex)
  | brk | cnt | fail
  | gen (g : Env → Option Env)
  | genR (g : Env → Option DM)
  | forM (p : Pt) (g : Env → Option (Env × List D)) (body : List Sx)

inductive Out where
  | nx (ρ : Env) | rt (d : D) (m : Mo) | bk (ρ : Env) | ct (ρ : Env)

/-- behind a change what is borrowed is forgotten -/
def dropB (ρ : Env) : Env := ρ.map fun s => match s with
  | some (_, .bo) => none | some (_, .bt) => none | s => s
def forGo (p : Pt) (m : Mo) (b : Env → Option Out) : List D → Env → Option Out
  | [], ρ => some (.nx ρ)
  | d :: ds, ρ => match bindP p d m ρ with
    | none => none
    | some ρ1 => match b ρ1 with
      | some (.nx ρ2) => forGo p m b ds ρ2
      | some (.ct ρ2) => forGo p m b ds ρ2
      | some (.bk ρ2) => some (.nx ρ2)
      | some (.rt d m) => some (.rt d m)
      | none => none
def whlGo (c : Env → Option DM) (b : Env → Option Out) : Nat → Env → Option Out
  | 0, _ => none
  | n + 1, ρ => match c ρ with
    | some (.bl true, _) => match b ρ with
      | some (.nx ρ2) => whlGo c b n ρ2
      | some (.ct ρ2) => whlGo c b n ρ2
      | some (.bk ρ2) => some (.nx ρ2)
      | some (.rt d m) => some (.rt d m)
      | none => none
    | some (.bl false, _) => some (.nx ρ)
    | _ => none
def isOw (m : Mo) : Bool := m == .top || m == .full
/-- a list with one more, with some more -/
def appL (ds : List D) (m : Mo) (p : DM) : Option DM := if isOw m && !isB p && decide (ds.length < SZ) then some (.lst (ds ++ [p.1]), if m == .full && isFu p then .full else .top) else none
def extL (ds : List D) (m : Mo) (p : DM) : Option DM := match p.1 with
  | .lst es => if isOw m && !isB p && decide (ds.length + es.length ≤ SZ) then some (.lst (ds ++ es), if m == .full && (p.2 == .full || !hasLs es) then .full else .top) else none
  | _ => none
def ixD (n : Nat) (k : D) : Option Nat := match k with
  | .int i => ixN n i
  | _ => none
def keyD : D → Option Key
  | .int i => some (.inl i)
  | .str s => some (.inr ⟨s.toArray⟩)
  | _ => none
def keysD : List D → Option (List Key)
  | [] => some []
  | d :: ds => match keyD d, keysD ds with
    | some k, some r => some (k :: r)
    | _, _ => none
def putL {κ : Type} [DecidableEq κ] (k : κ) (d : D) (ks : List κ) (ds : List D) : List κ × List D :=
  if k ∈ ks then (ks, List.zipWith (fun k' d' => if k' = k then d else d') ks ds) else (ks ++ [k], ds ++ [d])
/-- how a dict that is owned stands behind a store -/
def putD (c : D) (m : Mo) (k : D) (p : DM) : Option DM := match c with
  | .dK ks ds => match keyD k with
    | some k' => if isOw m && !isB p && decide (ks.length < SZ) && decide (ks.length = ds.length) && !hasL p.1 && !hasLs ds then some (.dK (putL k' p.1 ks ds).1 (putL k' p.1 ks ds).2, .full) else none
    | none => none
  | .dT ks ds => match k with
    | .tup es => match keysD es with
      | some k' => if isOw m && !isB p && decide (ks.length < SZ) && decide (ks.length = ds.length) then some (.dT (putL k' p.1 ks ds).1 (putL k' p.1 ks ds).2, if !hasL p.1 && !hasLs ds then .full else .top) else none
      | none => none
    | _ => none
  | _ => none
mutual
def evS (N : Nat) : Sx → Env → Option Out
  | .set i e, ρ => match ev e ρ with
    | some (d, m) => if i < ρ.length then some (.nx (ρ.set i (some (d, m)))) else none
    | none => none
  | .setM i e, ρ => match evM e ρ with
    | some (ρ', p) => if i < ρ'.length then some (.nx (ρ'.set i (some p))) else none
    | none => none
  | .retM e, ρ => match evM e ρ with
    | some (_, p) => some (.rt p.1 p.2)
    | none => none
  | .appM i e, ρ => match evM e ρ with
    | some (ρ', p) => match ρ'[i]? with
      | some (some (.lst ds, m)) => match appL ds m (nmz p.1 p.2) with
        | some q => some (.nx ((dropB ρ').set i (some q)))
        | none => none
      | _ => none
    | none => none
  | .unp p e, ρ => match ev e ρ with
    | some (d, m) => match bindP p d m ρ with
      | some ρ' => some (.nx ρ')
      | none => none
    | none => none
  | .par i j a b, ρ => match ev a ρ with
    | some x => match ev b ρ with
      | some y => if i < ρ.length ∧ j < ρ.length ∧ i ≠ j then some (.nx ((ρ.set i (some x)).set j (some y))) else none
      | none => none
    | none => none
  | .par3 i j l a b c, ρ => match ev a ρ with
    | some x => match ev b ρ with
      | some y => match ev c ρ with
        | some z => if i < ρ.length ∧ j < ρ.length ∧ l < ρ.length ∧ i ≠ j ∧ i ≠ l ∧ j ≠ l then some (.nx (((ρ.set i (some x)).set j (some y)).set l (some z))) else none
        | none => none
      | none => none
    | none => none
  | .ifs c t f, ρ => match ev c ρ with
    | some (.bl true, _) => evB N t ρ
    | some (.bl false, _) => evB N f ρ
    | _ => none
  | .fors p ig src body, ρ => match evs src ρ with
    | some as => match ig (as.map fz) with
      | some (ds, m, true) => forGo p m (evB N body) ds ρ
      | _ => none
    | none => none
  | .whl c body, ρ => whlGo (ev c) (evB N body) N ρ
  | .ret e, ρ => match ev e ρ with
    | some (d, m) => some (.rt d m)
    | none => none
  | .retv i, ρ => match ρ[i]? with
    | some (some (d, m)) => some (.rt d m)
    | _ => none
  | .skip e, ρ => match ev e ρ with
    | some _ => some (.nx ρ)
    | none => none
  | .frz i, ρ => match ρ[i]? with
    | some (some (d, m)) => if m = .bo ∨ m = .bt then none else some (.nx (ρ.set i (some (d, .sh))))
    | _ => none
  | .mv i j, ρ => match ρ[j]? with
    | some (some (d, m)) => if i < ρ.length then some (.nx ((ρ.set j none).set i (some (d, m)))) else none
    | _ => none
  | .app i e, ρ => match ρ[i]? with
    | some (some (.lst ds, m)) => match ev e ρ with
      | some p => match appL ds m (nmz p.1 p.2) with
        | some q => some (.nx ((dropB ρ).set i (some q)))
        | none => none
      | none => none
    | _ => none
  | .appm i j, ρ => match ρ[i]? with
    | some (some (.lst ds, m)) => if i = j then none else match ρ[j]? with
      | some (some p) => match appL ds m (nmz p.1 p.2) with
        | some q => some (.nx ((dropB (ρ.set j none)).set i (some q)))
        | none => none
      | _ => none
    | _ => none
  | .ext i e, ρ => match ρ[i]? with
    | some (some (.lst ds, m)) => match ev e ρ with
      | some p => match extL ds m p with
        | some q => some (.nx ((dropB ρ).set i (some q)))
        | none => none
      | none => none
    | _ => none
  | .popd p i, ρ => match ρ[i]? with
    | some (some (.lst ds, m)) => if isOw m then match ds.getLast? with
      | some d => match bindP p d (if m == .full then .full else .sh) ((dropB ρ).set i (some (.lst ds.dropLast, m))) with
        | some ρ' => some (.nx ρ')
        | none => none
      | none => none else none
    | _ => none
  | .popx i, ρ => match ρ[i]? with
    | some (some (.lst ds, m)) => if isOw m then match ds.getLast? with
      | some _ => some (.nx ((dropB ρ).set i (some (.lst ds.dropLast, m))))
      | none => none else none
    | _ => none
  | .seti i k e, ρ => match ρ[i]? with
    | some (some (.lst ds, m)) => match ev e ρ, ev k ρ with
      | some p, some (kd, _) => match ixD ds.length kd with
        | some j => if isOw m && !isB p && !hasL p.1 && !hasLs ds then some (.nx ((dropB ρ).set i (some (.lst (ds.set j p.1), .full)))) else none
        | none => none
      | _, _ => none
    | _ => none
  | .dput i k e, ρ => match ρ[i]? with
    | some (some (c, m)) => match ev e ρ, ev k ρ with
      | some p, some (kd, _) => match putD c m kd p with
        | some q => some (.nx ((dropB ρ).set i (some q)))
        | none => none
      | _, _ => none
    | _ => none
  | .aug i g e, ρ => match ρ[i]? with
    | some (some (d, m)) => if hasL d then none else match ev e ρ with
      | some p => if hasL p.1 then none else match g [(d, .sh), fz p] with
        | some q => if hasL q.1 then none else some (.nx (ρ.set i (some q)))
        | none => none
      | none => none
    | _ => none
  | .brk, ρ => some (.bk ρ)
  | .cnt, ρ => some (.ct ρ)
  | .fail, _ => none
  | .gen g, ρ => match g ρ with
    | some ρ' => some (.nx ρ')
    | none => none
  | .genR g, ρ => match g ρ with
    | some p => some (.rt p.1 p.2)
    | none => none
  | .forM p g body, ρ => match g ρ with
    | some (ρ', ds) => forGo p .full (evB N body) ds ρ'
    | none => none
def evB (N : Nat) : List Sx → Env → Option Out
  | [], ρ => some (.nx ρ)
  | s :: r, ρ => match evS N s ρ with
    | some (.nx ρ') => evB N r ρ'
    | o => o
end

/-! ### readings -/
structure Bs (H0 G0 G H : Hp) (fp : Nat → List Addr) : Prop where
  kH : Same H0 H
  kG : Ext H0 G0 G
  new : ∀ i a, a ∈ fp i → H0 a = none
def At (K : PySem.W.Frag) (H0 G0 : Hp) (ρ : Env) (σ : L2.St) (H : Hp) : Prop := ∃ G fp, Ok K G H ρ σ fp ∧ Bs H0 G0 G H fp
def Fin (K : PySem.W.Frag) (H0 G0 : Hp) (D : Ends) : Out → Prop
  | .nx ρ => ∀ σ H, At K H0 G0 ρ σ H → D.nx σ H
  | .bk ρ => ∀ σ H, At K H0 G0 ρ σ H → D.bk σ H
  | .ct ρ => ∀ σ H, At K H0 G0 ρ σ H → D.ct σ H
  | .rt d m => Gv K G0 H0 m d D.rt
def tS (K : PySem.W.Frag) (H0 : Hp) (N : Nat) (x : Sx) : TS := fun D σ H => ∃ G0 ρ o, At K H0 G0 ρ σ H ∧ evS N x ρ = some o ∧ Fin K H0 G0 D o
def tSS (K : PySem.W.Frag) (H0 : Hp) (N : Nat) (xs : List Sx) : TS := fun D σ H => ∃ G0 ρ o, At K H0 G0 ρ σ H ∧ evB N xs ρ = some o ∧ Fin K H0 G0 D o

section
variable {K : PySem.W.Frag} {H0 G0 G H G' H' : Hp} {ρ : Env} {σ : L2.St} {fp : Nat → List Addr} {N : Nat} {D : Ends}
theorem At.rebase {G1 : Hp} (e : Ext H0 G0 G1) (h : At K H0 G1 ρ σ H) : At K H0 G0 ρ σ H := by
  obtain ⟨G, fp, I, b⟩ := h
  exact ⟨G, fp, I, b.kH, e.trans (same_refl H0) b.kG, b.new⟩
theorem Fin.rebase {G1 : Hp} (e : Ext H0 G0 G1) : ∀ {o : Out}, Fin K H0 G0 D o → Fin K H0 G1 D o
  | .nx ρ, h => fun σ H a => h σ H (a.rebase e)
  | .bk ρ, h => fun σ H a => h σ H (a.rebase e)
  | .ct ρ, h => fun σ H a => h σ H (a.rebase e)
  | .rt d m, h => Gv.trans h (same_refl H0) e
theorem Bs.grow (b : Bs H0 G0 G H fp) (kH : Same H H') (kG : Ext H G G') : Bs H0 G0 G' H' fp := ⟨b.kH.trans kH, b.kG.trans b.kH kG, b.new⟩
/-- what an expression gives, behind a statement's start -/
theorem At.expr {x : Ex} {d : SW.D} {m : Mo} {Q : VK} (I : Ok K G H ρ σ fp) (b : Bs H0 G0 G H fp) (e : ev x ρ = some (d, m))
    (k : ∀ v H' G' F, Ok K G' H' ρ σ fp → Bs H0 G0 G' H' fp → RM K G' H' m d v F → F.Nodup → (∀ a ∈ F, G' a = none ∧ H0 a = none ∧ ∀ j, a ∉ fp j) → Q v H') : tX K x σ H Q :=
  ⟨ρ, G, fp, d, m, I, e, fun v H' G' F s x z nd new r => k v H' G' F (I.grow s x z) (b.grow s x) r nd fun a ha => ⟨(new a ha).2, new_back b.kH (fun c hc => (new c hc).1) a ha, fun j hj => by
    obtain ⟨o, ho, _⟩ := I.mu j a hj
    rw [(new a ha).1] at ho; cases ho⟩⟩
theorem At.set {i : Nat} {d : SW.D} {m : Mo} {v : V} {F : List Addr} (I : Ok K G H ρ σ fp) (b : Bs H0 G0 G H fp) (hi : i < ρ.length) (r : RM K G H m d v F) (nd : F.Nodup) (hF : ∀ a ∈ F, G a = none ∧ H0 a = none ∧ ∀ j, j ≠ i → a ∉ fp j) :
    At K H0 G0 (ρ.set i (some (d, m))) (σ.set i (some v)) H :=
  ⟨G, _, I.set hi r nd fun a ha => ⟨(hF a ha).1, (hF a ha).2.2⟩, b.kH, b.kG, fun j a ha => by
    by_cases c : j = i <;> simp [c] at ha
    · exact (hF a ha).2.1
    · exact b.new j a ha⟩
end

section
variable {X : Cx} {H0 : Hp} {N : Nat} {pos : Pos} {st : Stmt} {sts : List Stmt}
theorem qss_nil : PSs X [] (tSS X.K H0 N []) := pss_nil.imp fun D σ H h => by
  obtain ⟨G0, ρ, o, a, e, f⟩ := h
  simp [evB] at e; subst e
  exact f σ H a
theorem seq_cut {x : Sx} {xs : List Sx} {K : PySem.W.Frag} {D : Ends} {σ : L2.St} {H : Hp} (h : tSS K H0 N (x :: xs) D σ H) : tSeq (tS K H0 N x) (tSS K H0 N xs) D σ H := by
  obtain ⟨G0, ρ, o, a, e, f⟩ := h
  simp only [evB] at e
  split at e
  · rename_i ρ' e1
    exact ⟨G0, ρ, _, a, e1, fun σ' H' a' => ⟨G0, ρ', o, a', e, f⟩⟩
  · rename_i hno
    refine ⟨G0, ρ, o, a, e, ?_⟩
    cases o with
    | nx ρ' => exact absurd e (hno ρ')
    | bk ρ' => exact f
    | ct ρ' => exact f
    | rt d m => exact f
theorem qss_cons {x : Sx} {xs : List Sx} (h1 : PS X st (tS X.K H0 N x)) (h2 : PSs X sts (tSS X.K H0 N xs)) : PSs X (st :: sts) (tSS X.K H0 N (x :: xs)) := (pss_cons h1 h2).imp fun _ _ _ h => seq_cut h
theorem qs_set {i : Nat} {x : Ex} {nm : Str} {e : Expr} {p : Pos} (hN : X.N.Nodup) (hi : X.N[i]? = some nm) (hx : Loc X.env.scope nm) (he : PE X e (tX X.K x)) (hs : swapsWith e (some (.Name nm p)) pos.line X.env = pure false := by rfl)
    (hf : X.fn nm = true ∨ X.env.scope.names.lookup nm = some .local := by first | exact .inl rfl | exact .inr rfl | assumption) : PS X (.Assign [.Name nm p] e pos) (tS X.K H0 N (.set i x)) := by
  refine (ps_set hN hi hx he hs hf).imp fun D σ H h => ?_
  obtain ⟨G0, ρ, o, ⟨G, fp, I, b⟩, e, f⟩ := h
  simp only [evS] at e
  split at e <;> try (cases e; done)
  rename_i d m ee
  split at e <;> cases e
  rename_i hl
  exact At.expr I b ee fun v H' G' F I' b' r nd new => f _ _ (At.set I' b' hl r nd fun a ha => ⟨(new a ha).1, (new a ha).2.1, fun j _ => (new a ha).2.2 j⟩)
/-- an assignment to a pattern -/
theorem qs_unp {tg e : Expr} {p : Pt} {x : Ex} (he : PE X e (tX X.K x)) (hg : PG X tg (tG X.K p)) (hs : swapsWithSole [tg] e pos.line X.env = pure false := by rfl) (hw : swappedStores [tg] e X.env = pure none := by rfl) (h1 : (assignEach [tg] X.env).map (·.2) = [assign tg X.env] := by rfl) : PS X (.Assign [tg] e pos) (tS X.K H0 N (.unp p x)) := by
  refine (ps_asg he hg hs hw h1).imp fun D σ H h => ?_
  obtain ⟨G0, ρ, o, ⟨G, fp, I, b⟩, e, f⟩ := h
  simp only [evS] at e
  split at e <;> try (cases e; done)
  rename_i d m ee
  split at e <;> cases e
  rename_i ρ' eb
  refine At.expr I b ee fun v H' G' F I' b' r nd new => ?_
  refine ⟨ρ, G', fp, d, m, F, ρ', I', r, nd, fun a ha => ⟨(new a ha).1, (new a ha).2.2⟩, eb, fun σ' fp' I2 hf _ => f σ' H' ⟨G', fp', I2, b'.kH, b'.kG, fun j a ha => ?_⟩⟩
  rcases hf j a ha with ⟨k, hk⟩ | hk
  · exact b'.new k a hk
  · exact (new a hk).2.1
theorem qs_par {i j : Nat} {x y : Str} {a b : Expr} {xa xb : Ex} {px py pt : Pos} {kt k2 pt2} (hc : X.calm = true) (hN : X.N.Nodup) (hi : X.N[i]? = some x) (hj : X.N[j]? = some y) (hij : i ≠ j)
    (hx : X.env.scope.names.lookup x = some .local) (hy : X.env.scope.names.lookup y = some .local) (ha : PA X [a, b] (tAR X.K [xa, xb]))
    (hw : swappedStores [.Tuple [.Name x px, .Name y py] kt pt] (.Tuple [a, b] k2 pt2) X.env = pure (some [x, y]))
    (hs : swapsWithSole [.Tuple [.Name x px, .Name y py] kt pt] (.Tuple [a, b] k2 pt2) pos.line X.env = pure false := by rfl) :
    PS X (.Assign [.Tuple [.Name x px, .Name y py] kt pt] (.Tuple [a, b] k2 pt2) pos) (tS X.K H0 N (.par i j xa xb)) := by
  refine (ps_par hc hN hi hj hij hx hy ha hw hs).imp fun D σ H h => ?_
  obtain ⟨G0, ρ, o, ⟨G, fp, I, b⟩, e, f⟩ := h
  simp only [evS] at e
  split at e <;> try (cases e; done)
  rename_i p1 e1
  split at e <;> try (cases e; done)
  rename_i p2 e2
  split at e <;> cases e
  rename_i hl
  refine ⟨ρ, G, fp, [p1, p2], I, by simp [evs, e1, e2], fun vs H' G' F s ex z nd new r => ?_⟩
  simp only [RMs] at r
  obtain ⟨v, r1, F1, F2, rfl, rfl, h1, w, r2, F3, F4, rfl, rfl, h2, rfl, rfl⟩ := r
  simp only [List.append_nil] at nd new
  rw [List.nodup_append] at nd
  have I' := I.grow s ex z
  have b' := b.grow s ex
  have nf : ∀ a ∈ F1 ++ F3, G' a = none ∧ H0 a = none ∧ ∀ j, a ∉ fp j := fun a ha => ⟨(new a ha).2, new_back b.kH (fun c hc => (new c hc).1) a ha, fun j hj => by
    obtain ⟨o, ho, _⟩ := I.mu j a hj
    rw [(new a ha).1] at ho; cases ho⟩
  obtain ⟨G2, fp2, I2, b2⟩ := At.set I' b' hl.1 h1 nd.1 fun a ha => let q := nf a (List.mem_append_left _ ha); ⟨q.1, q.2.1, fun j _ => q.2.2 j⟩
  refine ⟨v, w, rfl, f _ _ ?_⟩
  have I3 := I'.set hl.1 h1 nd.1 fun a ha => let q := nf a (List.mem_append_left _ ha); ⟨q.1, fun j _ => q.2.2 j⟩
  have b3 : Bs H0 G0 G' H' (fun j => if j = i then F1 else fp j) := ⟨b'.kH, b'.kG, fun j a ha => by
    by_cases c : j = i <;> simp [c] at ha
    · exact (nf a (List.mem_append_left _ ha)).2.1
    · exact b'.new j a ha⟩
  refine At.set I3 b3 (by simpa using hl.2.1) h2 nd.2.1 fun a ha => let q := nf a (List.mem_append_right _ ha); ⟨q.1, q.2.1, fun k hk => ?_⟩
  by_cases c : k = i
  · simp only [c, if_true]; exact fun h => nd.2.2 a h a ha rfl
  · simp only [c, if_false]; exact q.2.2 k
theorem qs_if {c : Expr} {a b : List Stmt} {xc : Ex} {xs ys : List Sx} (hc : PT X c (tT X.K xc)) (ha : PSs X a (tSS X.K H0 N xs)) (hb : PSs X b (tSS X.K H0 N ys)) : PS X (.If c a b pos) (tS X.K H0 N (.ifs xc xs ys)) := by
  refine (ps_if hc ha hb).imp fun D σ H h => ?_
  obtain ⟨G0, ρ, o, ⟨G, fp, I, b⟩, e, f⟩ := h
  simp only [evS] at e
  split at e
  · rename_i m em
    refine ⟨ρ, G, fp, true, m, I, em, fun H' G' s x z => ?_⟩
    (try dsimp only); rw [if_pos rfl]
    exact ⟨G0, ρ, o, ⟨G', fp, I.grow s x z, b.grow s x⟩, e, f⟩
  · rename_i m em
    refine ⟨ρ, G, fp, false, m, I, em, fun H' G' s x z => ?_⟩
    (try dsimp only); rw [if_neg (by simp)]
    exact ⟨G0, ρ, o, ⟨G', fp, I.grow s x z, b.grow s x⟩, e, f⟩
  · cases e
theorem qs_ret {e : Expr} {x : Ex} (he : PE X e (tX X.K x)) : PS X (.Return (some e) pos) (tS X.K H0 N (.ret x)) := by
  refine (ps_ret he).imp fun D σ H h => ?_
  obtain ⟨G0, ρ, o, ⟨G, fp, I, b⟩, e, f⟩ := h
  simp only [evS] at e
  split at e <;> cases e
  rename_i d m ee
  exact ⟨ρ, G, fp, d, m, I, ee, Gv.trans f b.kH b.kG⟩
theorem qs_retv {e : Expr} {i : Nat} (he : PE X e (tVar i)) : PS X (.Return (some e) pos) (tS X.K H0 N (.retv i)) := by
  refine (ps_ret he).imp fun D σ H h => ?_
  obtain ⟨G0, ρ, o, ⟨G, fp, I, b⟩, e, f⟩ := h
  simp only [evS] at e
  split at e <;> cases e
  rename_i d m ee
  obtain ⟨v, hv, r⟩ := I.get ee
  exact ⟨v, hv, f v H G (fp i) b.kH b.kG I.sub (I.nd i) (fun a ha => ⟨b.new i a ha, I.off i a ha⟩) r⟩
theorem qs_skip {e : Expr} {x : Ex} (he : PE X e (tX X.K x)) (hs : swapsWith e none pos.line X.env = pure false := by rfl) : PS X (.Expr e pos) (tS X.K H0 N (.skip x)) := by
  refine (ps_expr he hs).imp fun D σ H h => ?_
  obtain ⟨G0, ρ, o, ⟨G, fp, I, b⟩, e, f⟩ := h
  simp only [evS] at e
  split at e <;> cases e
  rename_i p ee
  exact At.expr I b ee fun v H' G' F I' b' r nd new => f _ _ ⟨G', fp, I', b'⟩
theorem qs_brk : PS X (.Break pos) (tS X.K H0 N .brk) := ps_break.imp fun D σ H h => by
  obtain ⟨G0, ρ, o, a, e, f⟩ := h
  simp [evS] at e; subst e; exact f σ H a
theorem qs_cnt : PS X (.Continue pos) (tS X.K H0 N .cnt) := ps_continue.imp fun D σ H h => by
  obtain ⟨G0, ρ, o, a, e, f⟩ := h
  simp [evS] at e; subst e; exact f σ H a
theorem qs_fail : PS X st (tS X.K H0 N .fail) := ps_never.imp fun D σ H h => by
  obtain ⟨G0, ρ, o, a, e, f⟩ := h
  simp [evS] at e
theorem qs_pass : PS X (.Pass pos) (tSS X.K H0 N []) := ps_pass.imp fun D σ H h => by
  obtain ⟨G0, ρ, o, a, e, f⟩ := h
  simp [evB] at e; subst e; exact f σ H a
/-- freezing is no step of the program's -/
theorem qss_frz {i : Nat} {xs : List Sx} (h : PSs X sts (tSS X.K H0 N xs)) : PSs X sts (tSS X.K H0 N (.frz i :: xs)) := by
  refine h.imp fun D σ H h => ?_
  obtain ⟨G0, ρ, o, ⟨G, fp, I, b⟩, e, f⟩ := h
  simp only [evB, evS] at e
  split at e
  · rename_i ρ' e1
    split at e1 <;> try (cases e1; done)
    rename_i d m es
    split at e1 <;> cases e1
    rename_i hm
    obtain ⟨v, hv, r⟩ := I.get es
    have hi : i < ρ.length := (List.getElem?_eq_some_iff.mp es).1
    have off : ∀ a ∈ fp i, G a = none := fun a ha => I.off i a ha
    have ex : Ext H0 G (frzH G H (fp i)) := frzH_ext b.kH I.sub off fun a ha => b.new i a ha
    have r' : R X.K (frzH G H (fp i)) d v := r.frz I.sub off (fun a ha => ha) (.inr ⟨fun z => hm (.inl z), fun z => hm (.inr z)⟩)
    -- the others stand
    have J : Ok X.K (frzH G H (fp i)) H (ρ.set i (some (d, .sh))) σ (fun j => if j = i then [] else fp j) := by
      refine ⟨by simp [I.len], fun j s ej => ?_, (I.drop i).dj, (I.drop i).nd, fun j a ha => ?_, (I.drop i).mu, frzH_sub I.sub⟩
      · by_cases c : j = i
        · subst c
          rw [List.getElem?_set_self hi] at ej
          cases ej
          refine ⟨some v, hv, v, rfl, ?_⟩
          rw [if_pos rfl]
          exact ⟨rfl, r'⟩
        · rw [List.getElem?_set_ne (Ne.symm c)] at ej
          obtain ⟨u, hu, q⟩ := I.sl j s ej
          exact ⟨u, hu, by simpa [c] using q.grow (frzH_same I.sub off) (same_refl H)⟩
      · by_cases c : j = i <;> simp [c] at ha
        unfold frzH
        rw [if_neg fun h => c (I.dj j i a ha h)]
        exact off_grow (I.mu j a ha) (I.off j a ha) (absb_ext I.sub).1
    exact ⟨G0, _, o, ⟨_, _, J, b.kH, b.kG.trans (same_refl H0) ex, fun j a ha => by by_cases c : j = i <;> simp [c] at ha; exact b.new j a ha⟩, e, f⟩
  · rename_i hno
    split at e <;> try (cases e; done)
    rename_i d' m' es
    split at e <;> try (cases e; done)
    rename_i hm'
    exact (hno (ρ.set i (some (d', .sh))) (by rw [es]; simp only [hm', if_false])).elim
/-- loops -/
theorem qs_for {tg iter : Expr} {body : List Stmt} {p : Pt} {ig : IG} {src : List Ex} {xs : List Sx} (hp : PassesOwn (model X.prog X.w) X.A X.env X.xe) (hc : X.calm = true) (hi : PI X tg iter (tI X.K ig src)) (hg : PG X tg (tG X.K p)) (hb : PSs X body (tSS X.K H0 N xs))
    (hs : ∀ x, foldedSetIterable iter X.env x = pure x := by intro _; rfl) : PS X (.For tg iter body [] pos) (tS X.K H0 N (.fors p ig src xs)) := by
  refine (ps_for hp hc hi hg hb hs).imp fun D σ H h => ?_
  obtain ⟨G0, ρ, o, ⟨G, fp, I, b⟩, e, f⟩ := h
  simp only [evS] at e
  split at e <;> try (cases e; done)
  rename_i as ea
  split at e <;> try (cases e; done)
  rename_i ds m ei
  refine ⟨ρ, G, fp, as, ds, m, true, I, ea, ei, fun J H1 G1 B s1 e1 z1 _ sB yl => ?_⟩
  have sB := sB rfl
  have eG : Ext H0 G0 G1 := b.kG.trans b.kH e1
  refine ⟨fun i n σ H2 => n = ds.length - i ∧ i ≤ ds.length ∧ ∃ ρ o, At X.K H0 G1 ρ σ H2 ∧ forGo p m (evB N xs) (ds.drop i) ρ = some o ∧ Fin X.K H0 G1 D o, ?_, ?_⟩
  · exact ⟨_, rfl, Nat.zero_le _, ρ, o, ⟨G1, fp, I.grow s1 e1 z1, b.kH.trans s1, Ext.refl _ _, b.new⟩, e, f.rebase eG⟩
  · rintro i n σ2 H2 ⟨rfl, hle, ρ2, o2, ⟨G2, fp2, I2, b2⟩, hgo, f2⟩
    have sB2 : Same B H2 := (sB.trans b2.kG.1).trans I2.sub
    obtain ⟨ystop, ygo⟩ := yl i H2 sB2
    by_cases hi' : i < ds.length
    · right
      have hd : ds[i]? = some ds[i] := List.getElem?_eq_getElem hi'
      obtain ⟨go, yld⟩ := ygo _ hd
      rw [List.drop_eq_getElem_cons hi'] at hgo
      simp only [forGo] at hgo
      split at hgo <;> try (cases hgo; done)
      rename_i ρ3 eb
      refine ⟨go, fun σ' H' => ∃ ρ' o', At X.K H0 G1 ρ' σ' H' ∧ forGo p m (evB N xs) (ds.drop (i + 1)) ρ' = some o' ∧ Fin X.K H0 G1 D o', ?_, ?_⟩
      · rintro σ' H' ⟨ρ', o', a', e', f'⟩
        exact ⟨ds.length - (i + 1), by omega, rfl, by omega, ρ', o', a', e', f'⟩
      · intro x H3 hy
        obtain ⟨s3, item⟩ := yld x H3 hy
        obtain ⟨G3, e3, z3, rx⟩ := item G2 I2.sub b2.kG.1
        have I3 := I2.grow s3 e3 z3
        have b3 := b2.grow s3 e3
        refine ⟨ρ2, G3, fp2, ds[i], m, [], ρ3, I3, rx, by simp, by simp, eb, fun σ' fp' I4 hf _ => ?_⟩
        have a4 : At X.K H0 G1 ρ3 σ' H3 := ⟨G3, fp', I4, b3.kH, b3.kG, fun j a ha => by
          rcases hf j a ha with ⟨k, hk⟩ | hk
          · exact b3.new k a hk
          · simp at hk⟩
        split at hgo
        · rename_i ρ4 eb4; exact ⟨G1, ρ3, _, a4, eb4, fun σ5 H5 a5 => ⟨ρ4, o2, a5, hgo, f2⟩⟩
        · rename_i ρ4 eb4; exact ⟨G1, ρ3, _, a4, eb4, fun σ5 H5 a5 => ⟨ρ4, o2, a5, hgo, f2⟩⟩
        · rename_i ρ4 eb4; cases hgo; exact ⟨G1, ρ3, _, a4, eb4, fun σ5 H5 a5 => f2 σ5 H5 a5⟩
        · rename_i d' m' eb4; cases hgo; exact ⟨G1, ρ3, _, a4, eb4, f2⟩
        · cases hgo
    · left
      refine ⟨ystop (by omega), ?_⟩
      have : ds.drop i = [] := by rw [List.drop_eq_nil_iff]; omega
      rw [this] at hgo
      simp [forGo] at hgo
      subst hgo
      exact f2 _ _ ⟨G2, fp2, I2, b2⟩
theorem qs_whl {c : Expr} {body : List Stmt} {xc : Ex} {xs : List Sx} (hp : PassesOwn (model X.prog X.w) X.A X.env X.xe) (hc : PT X c (tT X.K xc)) (hb : PSs X body (tSS X.K H0 N xs)) : PS X (.While c body [] pos) (tS X.K H0 N (.whl xc xs)) := by
  refine (ps_while hp hc hb).imp fun D σ H h => ?_
  obtain ⟨G0, ρ, o, a, e, f⟩ := h
  simp only [evS] at e
  refine ⟨fun n σ H => ∃ ρ o, At X.K H0 G0 ρ σ H ∧ whlGo (ev xc) (evB N xs) n ρ = some o ∧ Fin X.K H0 G0 D o, ⟨N, ρ, o, a, e, f⟩, ?_⟩
  rintro n σ2 H2 ⟨ρ2, o2, ⟨G, fp, I, b⟩, hgo, f2⟩
  cases n with
  | zero => simp [whlGo] at hgo
  | succ n =>
    simp only [whlGo] at hgo
    split at hgo
    · rename_i m em
      refine ⟨ρ2, G, fp, true, m, I, em, fun H' G' s x z => ?_⟩
      (try dsimp only); rw [if_pos rfl]
      refine ⟨fun σ' H' => ∃ ρ o, At X.K H0 G0 ρ σ' H' ∧ whlGo (ev xc) (evB N xs) n ρ = some o ∧ Fin X.K H0 G0 D o, ?_, ?_⟩
      · rintro σ' H' ⟨ρ', o', a', e', f'⟩
        exact ⟨n, by omega, ρ', o', a', e', f'⟩
      · have a4 : At X.K H0 G0 ρ2 σ2 H' := ⟨G', fp, I.grow s x z, b.grow s x⟩
        split at hgo
        · rename_i ρ4 eb4; exact ⟨G0, ρ2, _, a4, eb4, fun σ5 H5 a5 => ⟨ρ4, o2, a5, hgo, f2⟩⟩
        · rename_i ρ4 eb4; exact ⟨G0, ρ2, _, a4, eb4, fun σ5 H5 a5 => ⟨ρ4, o2, a5, hgo, f2⟩⟩
        · rename_i ρ4 eb4; cases hgo; exact ⟨G0, ρ2, _, a4, eb4, fun σ5 H5 a5 => f2 σ5 H5 a5⟩
        · rename_i d' m' eb4; cases hgo; exact ⟨G0, ρ2, _, a4, eb4, f2⟩
        · cases hgo
    · rename_i m em
      cases hgo
      refine ⟨ρ2, G, fp, false, m, I, em, fun H' G' s x z => ?_⟩
      (try dsimp only); rw [if_neg (by simp)]
      exact f2 _ _ ⟨G', fp, I.grow s x z, b.grow s x⟩
    · cases hgo
end
end SW
namespace SW
open PySem PySem.Spec PyProof.Rows L2

section
variable {K : PySem.W.Frag} {H0 G0 G H G' H' : Hp} {ρ : Env} {σ : L2.St} {fp : Nat → List Addr} {N : Nat} {D : Ends}
theorem dropB_get {j : Nat} {s : Slot} (e : (dropB ρ)[j]? = some s) : ∃ s', ρ[j]? = some s' ∧ (s = none ∨ (s = s' ∧ ∀ d m, s = some (d, m) → m ≠ .bo ∧ m ≠ .bt)) := by
  unfold dropB at e
  rw [List.getElem?_map, Option.map_eq_some_iff] at e
  obtain ⟨s', e1, e2⟩ := e
  refine ⟨s', e1, ?_⟩
  match s', e2 with
  | none, e2 => left; exact e2.symm
  | some (d, .bo), e2 => left; exact e2.symm
  | some (d, .bt), e2 => left; exact e2.symm
  | some (d, .sh), e2 => right; refine ⟨e2.symm, fun d' m' h => ?_⟩; rw [← e2] at h; cases h; simp
  | some (d, .top), e2 => right; refine ⟨e2.symm, fun d' m' h => ?_⟩; rw [← e2] at h; cases h; simp
  | some (d, .full), e2 => right; refine ⟨e2.symm, fun d' m' h => ?_⟩; rw [← e2] at h; cases h; simp
theorem dropB_len : (dropB ρ).length = ρ.length := by simp [dropB]
/-- the object of a slot is changed -/
theorem Ok.write (I : Ok K G H ρ σ fp) {i : Nat} {l : Addr} {o : HO} {d' : SW.D} {m' : Mo} {v : V} {F' : List Addr} (hi : i < ρ.length) (hl : l ∈ fp i) (hv : σ[i]? = some (some v)) (kG : Same G G') (z : Same G' (upd H l o))
    (r : RM K G' (upd H l o) m' d' v F') (nd : F'.Nodup) (hF : ∀ a ∈ F', G' a = none ∧ ∀ j, j ≠ i → a ∉ fp j) (ho : ∀ j a, j ≠ i → a ∈ fp j → G' a = none) :
    Ok K G' (upd H l o) ((dropB ρ).set i (some (d', m'))) σ (fun j => if j = i then F' else fp j) where
  len := by simp [dropB_len, I.len]
  sl := fun j s e => by
    by_cases c : j = i
    · subst c
      rw [List.getElem?_set_self (by rw [dropB_len]; exact hi)] at e
      cases e
      exact ⟨some v, hv, v, rfl, by simpa using r⟩
    · rw [List.getElem?_set_ne (Ne.symm c)] at e
      obtain ⟨s', e1, e2⟩ := dropB_get e
      obtain ⟨u, hu, q⟩ := I.sl j s' e1
      refine ⟨u, hu, ?_⟩
      simp only [c, if_false]
      rcases e2 with rfl | ⟨rfl, hm⟩
      · match s', q with
        | none, q => exact q
        | some (d, m), q =>
          obtain ⟨w, _, q⟩ := q
          -- a borrowed slot has no footprint
          have : (dropB ρ)[j]? = some none := e
          unfold dropB at this
          rw [List.getElem?_map, e1] at this
          simp only [Option.map_some, Option.some.injEq] at this
          cases m <;> simp at this
          · exact q.1
          · exact q.1
      · match s, q, hm with
        | none, q, _ => exact q
        | some (d, m), q, hm =>
          obtain ⟨w, ew, q⟩ := q
          refine ⟨w, ew, ?_⟩
          have h1 := hm d m rfl
          exact (q.write (I.mu i l hl) h1.1 h1.2 fun h => c (I.dj j i l h hl)).grow kG (same_refl _)
  dj := fun j k a hj hk => by
    by_cases c : j = i <;> by_cases c' : k = i <;> simp [c, c'] at hj hk
    · rw [c, c']
    · exact absurd hk ((hF a hj).2 k c')
    · exact absurd hj ((hF a hk).2 j c)
    · exact I.dj j k a hj hk
  nd := fun j => by
    by_cases c : j = i
    · simp [c, nd]
    · simp [c, I.nd j]
  off := fun j a ha => by
    by_cases c : j = i <;> simp [c] at ha
    · exact (hF a ha).1
    · exact ho j a c ha
  mu := fun j a ha => by
    by_cases c : j = i <;> simp [c] at ha
    · exact r.mu a ha
    · obtain ⟨u, hu, iu⟩ := I.mu j a ha
      exact ⟨u, by rw [upd_ne (fun h => c (I.dj j i a ha (by rw [h]; exact hl)))]; exact hu, iu⟩
  sub := z
/-- what an owned list is -/
theorem own_list {m : Mo} {ds : List SW.D} {v : V} {F : List Addr} (hm : isOw m = true) (s : Same G H) (h : RM K G H m (.lst ds) v F) : ∃ l xs F', v = .ref l ∧ F = l :: F' ∧ H l = some (.lst xs) ∧ Rs K H ds xs ∧
    (∀ Fz, (∀ a ∈ Fz, G a = none) → (∀ a ∈ F', a ∈ Fz) → Rs K (frzH G H Fz) ds xs) ∧ (m = .full → RFs K (absb G H) H ds xs F') ∧ (m = .top → F' = []) := by
  cases m <;> simp [isOw] at hm
  · simp only [RM, RT] at h
    obtain ⟨l, xs, rfl, rfl, e, r⟩ := h
    exact ⟨l, xs, [], rfl, rfl, e, Rs.mono s _ _ r, fun Fz off _ => Rs.mono (frzH_same s off) _ _ r, (fun h => by cases h), fun _ => rfl⟩
  · simp only [RM, RF] at h
    obtain ⟨l, xs, F', rfl, rfl, e, r⟩ := h
    refine ⟨l, xs, F', rfl, rfl, e, RFs.frz s (fun a o e _ => e) _ _ _ (fun _ _ => rfl) r, fun Fz off hF => RFs.frz (frzH_same s off) (fun a o e i => frzH_imm e i) _ _ _ (fun a ha => by unfold frzH; rw [if_pos (hF a ha)]) r, fun _ => ?_, fun h => by cases h⟩
    exact RFs.keep (absb_ext s).1.1 (fun a o e _ => e) _ _ _ (fun _ _ => rfl) r
theorem absb_none {a : Addr} (m : Mu H a) (g : G a = none) : absb G H a = none := by
  obtain ⟨o, e, i⟩ := m
  unfold absb; rw [e]; simp [i, g]
theorem frzH_none {a : Addr} {F : List Addr} (m : Mu H a) (g : G a = none) (h : a ∉ F) : frzH G H F a = none := by
  unfold frzH; rw [if_neg h]; exact absb_none m g
theorem same_upd_of {l : Addr} {o : HO} (s : Same G H) (g : G l = none) : Same G (upd H l o) := fun b u e => by
  rw [upd_ne fun z => by subst z; rw [g] at e; cases e]; exact s _ _ e
/-- the list of a slot stands anew, its items owned whole -/
theorem At.lstFull (I : Ok K G H ρ σ fp) (b : Bs H0 G0 G H fp) {i : Nat} {l : Addr} {ds : List SW.D} {xs : List V} {F : List Addr} (hi : i < ρ.length) (hl : l ∈ fp i) (hv : σ[i]? = some (some (.ref l)))
    (q : RFs K (absb G H) H ds xs F) (nd : (l :: F).Nodup) (hF : ∀ a ∈ F, G a = none ∧ H0 a = none ∧ ∀ j, j ≠ i → a ∉ fp j) : At K H0 G0 ((dropB ρ).set i (some (.lst ds, .full))) σ (upd H l (.lst xs)) := by
  have gl : absb G H l = none := absb_none (I.mu i l hl) (I.off i l hl)
  have lF : l ∉ F := (List.nodup_cons.mp nd).1
  have mF : ∀ a ∈ F, Mu H a := RFs.mu _ _ _ q
  refine ⟨absb G H, _, I.write hi hl hv (absb_ext I.sub).1.1 (same_upd_of (absb_ext I.sub).2 gl) (F' := l :: F) ?_ nd (fun a ha => ?_) (fun j a hj ha => absb_none (I.mu j a ha) (I.off j a ha)), ?_, b.kG.trans b.kH (absb_ext I.sub).1, fun j a ha => ?_⟩
  · simp only [RM, RF]
    refine ⟨l, xs, F, rfl, rfl, upd_same, RFs.keep (same_refl _) (fun a o e im => ?_) _ _ _ (fun a ha => upd_ne fun h => lF (h ▸ ha)) q⟩
    obtain ⟨u, hu, iu⟩ := I.mu i l hl
    rw [upd_ne fun h => by subst h; rw [hu] at e; cases e; rw [iu] at im; cases im]; exact e
  · rcases List.mem_cons.mp ha with rfl | ha
    · exact ⟨gl, fun j hj h => hj (I.dj j i a h hl)⟩
    · exact ⟨absb_none (mF a ha) (hF a ha).1, (hF a ha).2.2⟩
  · exact fun c o e => by rw [upd_ne (ne_of_none e (b.new i l hl))]; exact b.kH _ _ e
  · by_cases c : j = i <;> simp [c] at ha
    · rcases ha with rfl | ha
      · exact b.new i a hl
      · exact (hF a ha).2.1
    · exact b.new j a ha
theorem At.lstTop (I : Ok K G H ρ σ fp) (b : Bs H0 G0 G H fp) {i : Nat} {l : Addr} {ds : List SW.D} {xs : List V} {Fz : List Addr} (hi : i < ρ.length) (hl : l ∈ fp i) (hv : σ[i]? = some (some (.ref l)))
    (q : Rs K (frzH G H Fz) ds xs) (hz : ∀ a ∈ Fz, G a = none ∧ H0 a = none ∧ ∀ j, j ≠ i → a ∉ fp j) (lz : l ∉ Fz) : At K H0 G0 ((dropB ρ).set i (some (.lst ds, .top))) σ (upd H l (.lst xs)) := by
  have gl : frzH G H Fz l = none := frzH_none (I.mu i l hl) (I.off i l hl) lz
  have offz : ∀ a ∈ Fz, G a = none := fun a ha => (hz a ha).1
  refine ⟨frzH G H Fz, _, I.write hi hl hv (frzH_same I.sub offz) (same_upd_of (frzH_sub I.sub) gl) (F' := [l]) ?_ (by simp) (fun a ha => ?_) (fun j a hj ha => frzH_none (I.mu j a ha) (I.off j a ha) fun h => (hz a h).2.2 j hj ha), ?_, ?_, fun j a ha => ?_⟩
  · simp only [RM, RT]
    exact ⟨l, xs, rfl, rfl, upd_same, q⟩
  · simp at ha; subst ha
    exact ⟨gl, fun j hj h => hj (I.dj j i a h hl)⟩
  · exact fun c o e => by rw [upd_ne (ne_of_none e (b.new i l hl))]; exact b.kH _ _ e
  · exact b.kG.trans (same_refl H0) (frzH_ext b.kH I.sub offz fun a ha => (hz a ha).2.1)
  · by_cases c : j = i <;> simp [c] at ha
    · subst ha; exact b.new i a hl
    · exact b.new j a ha
/-- one more item -/
theorem At.append (I : Ok K G H ρ σ fp) (b : Bs H0 G0 G H fp) {i : Nat} {ds : List SW.D} {m : Mo} {p q : DM} {y v : V} {F : List Addr} (es : ρ[i]? = some (some (.lst ds, m))) (hv : σ[i]? = some (some v)) (ea : appL ds m (nmz p.1 p.2) = some q)
    (r : RM K G H p.2 p.1 y F) (nd : F.Nodup) (new : ∀ a ∈ F, G a = none ∧ H0 a = none ∧ ∀ j, a ∉ fp j) : ∃ l xs, v = .ref l ∧ H l = some (.lst xs) ∧ xs.length < sizeLine ∧ At K H0 G0 ((dropB ρ).set i (some q)) σ (upd H l (.lst (xs ++ [y]))) := by
  unfold appL at ea
  split at ea <;> cases ea
  rename_i hc
  simp only [Bool.and_eq_true, decide_eq_true_eq] at hc
  obtain ⟨⟨hm, hb⟩, hz⟩ := hc
  have hi : i < ρ.length := (List.getElem?_eq_some_iff.mp es).1
  obtain ⟨v', hv', rm⟩ := I.get es
  rw [hv] at hv'; cases hv'
  obtain ⟨l, xs, F', rfl, eF, hl, rs, fz, ff, ft⟩ := own_list hm I.sub rm
  have hlm : l ∈ fp i := by rw [eF]; simp
  have hlen := rs.length
  have hF' : ∀ a ∈ F', a ∈ fp i := fun a ha => by rw [eF]; exact List.mem_cons_of_mem _ ha
  have ndi := I.nd i
  rw [eF] at ndi
  have lF' : l ∉ F' := (List.nodup_cons.mp ndi).1
  have lF : l ∉ F := fun h => (new l h).2.2 i hlm
  refine ⟨l, xs, rfl, hl, by rw [← hlen, ← SZ_eq]; exact hz, ?_⟩
  have hb' : isB (nmz p.1 p.2) = false := by simpa using hb
  by_cases hf : (m == .full && isFu (nmz p.1 p.2)) = true
  · rw [if_pos hf]
    simp only [Bool.and_eq_true, beq_iff_eq] at hf
    have rn := r.nmz I.sub
    have q1 : RFs K (absb G H) H [p.1] [y] F := by
      simp only [RFs]
      refine ⟨y, [], F, [], rfl, by simp, ?_, rfl, rfl⟩
      have h2 := hf.2
      unfold isFu nmz at h2
      unfold nmz at rn
      cases hl : hasL p.1 with
      | true => rw [hl] at h2 rn; simp at h2; simp only [if_true] at rn; rw [h2] at rn; exact rn
      | false => rw [hl] at rn; simp only [Bool.false_eq_true, if_false] at rn; exact (RF.flat _ _ _ hl).mpr rn
    have q2 : ∀ {ds : List SW.D} {xs : List V} {F1 : List Addr}, RFs K (absb G H) H ds xs F1 → RFs K (absb G H) H (ds ++ [p.1]) (xs ++ [y]) (F1 ++ F) := by
      intro ds
      induction ds with
      | nil => intro xs F1 h; simp only [RFs] at h; obtain ⟨rfl, rfl⟩ := h; exact q1
      | cons d ds ih =>
        intro xs F1 h
        simp only [RFs, List.cons_append] at h ⊢
        obtain ⟨w, t, Fa, Fb, rfl, rfl, h1, h2⟩ := h
        exact ⟨w, _, Fa, Fb ++ F, rfl, by simp, h1, ih h2⟩
    refine At.lstFull I b hi hlm hv (q2 (ff hf.1)) ?_ fun a ha => ?_
    · refine List.nodup_cons.mpr ⟨fun h => ?_, List.nodup_append.mpr ⟨(List.nodup_cons.mp ndi).2, nd, fun a ha c hc z => ?_⟩⟩
      · rcases List.mem_append.mp h with h | h
        · exact lF' h
        · exact lF h
      · subst z; exact (new a hc).2.2 i (hF' a ha)
    · rcases List.mem_append.mp ha with ha | ha
      · exact ⟨I.off i a (hF' a ha), b.new i a (hF' a ha), fun j hj h => hj (I.dj j i a h (hF' a ha))⟩
      · exact ⟨(new a ha).1, (new a ha).2.1, fun j _ => (new a ha).2.2 j⟩
  · rw [if_neg hf]
    have offz : ∀ a ∈ F' ++ F, G a = none := fun a ha => by
      rcases List.mem_append.mp ha with ha | ha
      · exact I.off i a (hF' a ha)
      · exact (new a ha).1
    have hbp : hasL p.1 = false ∨ (p.2 ≠ .bo ∧ p.2 ≠ .bt) := by
      unfold isB nmz at hb'
      cases hl : hasL p.1 with
      | false => exact .inl rfl
      | true => rw [hl] at hb'; simp at hb'; exact .inr hb'
    refine At.lstTop I b hi hlm hv (Fz := F' ++ F) ((fz _ offz fun a ha => List.mem_append_left _ ha).append (Rs.one (r.frz I.sub offz (fun a ha => List.mem_append_right _ ha) hbp))) (fun a ha => ?_) fun h => ?_
    · rcases List.mem_append.mp ha with ha | ha
      · exact ⟨I.off i a (hF' a ha), b.new i a (hF' a ha), fun j hj h => hj (I.dj j i a h (hF' a ha))⟩
      · exact ⟨(new a ha).1, (new a ha).2.1, fun j _ => (new a ha).2.2 j⟩
    · rcases List.mem_append.mp h with h | h
      · exact lF' h
      · exact lF h
theorem RFs.split {ds es : List SW.D} : ∀ {xs : List V} {F : List Addr}, RFs K G H (ds ++ es) xs F → ∃ xs1 xs2 F1 F2, xs = xs1 ++ xs2 ∧ F = F1 ++ F2 ∧ RFs K G H ds xs1 F1 ∧ RFs K G H es xs2 F2 := by
  induction ds with
  | nil => intro xs F h; exact ⟨[], xs, [], F, rfl, rfl, by simp [RFs], h⟩
  | cons d ds ih =>
    intro xs F h
    simp only [List.cons_append, RFs] at h
    obtain ⟨v, r, F1, F2, rfl, rfl, h1, h2⟩ := h
    obtain ⟨xs1, xs2, Fa, Fb, rfl, rfl, q1, q2⟩ := ih h2
    exact ⟨v :: xs1, xs2, F1 ++ Fa, Fb, rfl, by simp, by simp only [RFs]; exact ⟨v, xs1, F1, Fa, rfl, rfl, h1, q1⟩, q2⟩
theorem RFs.join {ds es : List SW.D} : ∀ {xs ys : List V} {F1 F2 : List Addr}, RFs K G H ds xs F1 → RFs K G H es ys F2 → RFs K G H (ds ++ es) (xs ++ ys) (F1 ++ F2) := by
  induction ds with
  | nil => intro xs ys F1 F2 h q; simp only [RFs] at h; obtain ⟨rfl, rfl⟩ := h; exact q
  | cons d ds ih =>
    intro xs ys F1 F2 h q
    simp only [RFs, List.cons_append] at h ⊢
    obtain ⟨v, r, Fa, Fb, rfl, rfl, h1, h2⟩ := h
    exact ⟨v, _, Fa, Fb ++ F2, rfl, by simp, h1, ih h2 q⟩
theorem RFs.flat : ∀ {ds : List SW.D} {xs : List V}, hasLs ds = false → Rs K G ds xs → RFs K G H ds xs []
  | [], _, _, h => by simp only [Rs] at h; simp only [RFs]; exact ⟨h, trivial⟩
  | d :: ds, _, hl, h => by
    simp only [hasLs, Bool.or_eq_false_iff] at hl
    simp only [Rs] at h
    obtain ⟨v, r, rfl, h1, h2⟩ := h
    simp only [RFs]
    exact ⟨v, r, [], [], rfl, rfl, (RF.flat _ _ _ hl.1).mpr ⟨rfl, h1⟩, RFs.flat hl.2 h2⟩
end

section
variable {X : Cx} {H0 : Hp} {N : Nat} {pos : Pos}
theorem qs_app {i : Nat} {x : Ex} {o e call : Expr} (ho : PE X o (tVar i)) (he : PE X e (tX X.K x)) (hcall : ∀ to t, PE X o to → PA X [e] t → PE X call (tBM X.K "list" rAppend to t)) (hs : swapsWith call none pos.line X.env = pure false := by rfl)
    (hst : starEach [e] X.env = (false, eval e X.env) :: starEach [] X.env := by rfl) : PS X (.Expr call pos) (tS X.K H0 N (.app i x)) := by
  refine (ps_expr (hcall _ _ ho (pa_cons he pa_nil hst)) hs).imp fun D σ H h => ?_
  obtain ⟨G0, ρ, o, ⟨G, fp, I, b⟩, e, f⟩ := h
  simp only [evS] at e
  split at e <;> try (cases e; done)
  rename_i ds m es
  split at e <;> try (cases e; done)
  rename_i p ee
  split at e <;> cases e
  rename_i q eq
  obtain ⟨v, hv, rm⟩ := I.get es
  have rv := rm.r I.sub
  simp only [R] at rv
  obtain ⟨l, xs, rfl, hl, _⟩ := rv
  refine ⟨_, hv, .inl ⟨rfl, xs, .inl (.inl hl)⟩, ?_⟩
  refine At.expr I b (d := p.1) (m := p.2) ee fun y H1 G1 F I1 b1 r nd new => ?_
  obtain ⟨l', xs', e1, h1, hz, at1⟩ := At.append I1 b1 es hv eq r nd new
  cases e1
  exact ⟨l, xs', y, rfl, rfl, h1, hz, f _ _ at1⟩
theorem qs_appm {i j : Nat} {o e call : Expr} (ho : PE X o (tVar i)) (he : PE X e (tVar j)) (hcall : ∀ to t, PE X o to → PA X [e] t → PE X call (tBM X.K "list" rAppend to t)) (hs : swapsWith call none pos.line X.env = pure false := by rfl)
    (hst : starEach [e] X.env = (false, eval e X.env) :: starEach [] X.env := by rfl) : PS X (.Expr call pos) (tS X.K H0 N (.appm i j)) := by
  refine (ps_expr (hcall _ _ ho (pa_cons he pa_nil hst)) hs).imp fun D σ H h => ?_
  obtain ⟨G0, ρ, o, ⟨G, fp, I, b⟩, e, f⟩ := h
  simp only [evS] at e
  split at e <;> try (cases e; done)
  rename_i ds m es
  split at e <;> try (cases e; done)
  rename_i hij
  split at e <;> try (cases e; done)
  rename_i p ep
  split at e <;> cases e
  rename_i q eq
  obtain ⟨v, hv, rm⟩ := I.get es
  have rv := rm.r I.sub
  simp only [R] at rv
  obtain ⟨l, xs, rfl, hl, _⟩ := rv
  refine ⟨_, hv, .inl ⟨rfl, xs, .inl (.inl hl)⟩, ?_⟩
  obtain ⟨y, hy, ry⟩ := I.get (d := p.1) (m := p.2) ep
  refine ⟨y, hy, ?_⟩
  have J := I.drop j
  have bJ : Bs H0 G0 G H (fun k => if k = j then [] else fp k) := ⟨b.kH, b.kG, fun k a ha => by by_cases c : k = j <;> simp [c] at ha; exact b.new k a ha⟩
  have es' : (ρ.set j none)[i]? = some (some (.lst ds, m)) := by rw [List.getElem?_set_ne (Ne.symm hij)]; exact es
  obtain ⟨l', xs', e1, h1, hz, at1⟩ := At.append J bJ es' hv eq ry (I.nd j) fun a ha => ⟨I.off j a ha, b.new j a ha, fun k hk => by
    by_cases c : k = j
    · simp [c] at hk
    · simp [c] at hk; exact c (I.dj k j a hk ha)⟩
  cases e1
  exact ⟨l, xs', y, rfl, rfl, h1, hz, f _ _ at1⟩
theorem qs_ext {i : Nat} {x : Ex} {o e call : Expr} (ho : PE X o (tVar i)) (he : PE X e (tX X.K x)) (hcall : ∀ to t, PE X o to → PA X [e] t → PE X call (tBM X.K "list" rExtend to t)) (hs : swapsWith call none pos.line X.env = pure false := by rfl)
    (hst : starEach [e] X.env = (false, eval e X.env) :: starEach [] X.env := by rfl) : PS X (.Expr call pos) (tS X.K H0 N (.ext i x)) := by
  refine (ps_expr (hcall _ _ ho (pa_cons he pa_nil hst)) hs).imp fun D σ H h => ?_
  obtain ⟨G0, ρ, o, ⟨G, fp, I, b⟩, e, f⟩ := h
  simp only [evS] at e
  split at e <;> try (cases e; done)
  rename_i ds m es
  split at e <;> try (cases e; done)
  rename_i p ee
  split at e <;> cases e
  rename_i q eq
  obtain ⟨v, hv, rm⟩ := I.get es
  have rv := rm.r I.sub
  simp only [R] at rv
  obtain ⟨l, xs, rfl, hl, _⟩ := rv
  refine ⟨_, hv, .inl ⟨rfl, xs, .inl (.inl hl)⟩, ?_⟩
  refine At.expr I b (d := p.1) (m := p.2) ee fun y H1 G1 F I1 b1 r nd new => ?_
  unfold extL at eq
  split at eq <;> try (cases eq; done)
  rename_i es2 ep
  split at eq <;> cases eq
  rename_i hc
  simp only [Bool.and_eq_true, decide_eq_true_eq] at hc
  obtain ⟨⟨hm, hb⟩, hz⟩ := hc
  have hi : i < ρ.length := (List.getElem?_eq_some_iff.mp es).1
  obtain ⟨v', hv', rm1⟩ := I1.get es
  rw [hv] at hv'; cases hv'
  obtain ⟨l', xs1, F', e1, eF, hl1, rs, fz, ff, ft⟩ := own_list hm I1.sub rm1
  cases e1
  have hlm : l ∈ fp i := by rw [eF]; simp
  have hF' : ∀ a ∈ F', a ∈ fp i := fun a ha => by rw [eF]; exact List.mem_cons_of_mem _ ha
  have ndi := I.nd i
  rw [eF] at ndi
  have lF' : l ∉ F' := (List.nodup_cons.mp ndi).1
  have lF : l ∉ F := fun h => (new l h).2.2 i hlm
  rw [ep] at r
  have ry := r.r I1.sub
  simp only [R] at ry
  obtain ⟨ly, ys, rfl, hly, rsy⟩ := ry
  refine ⟨l, ly, xs1, ys, rfl, rfl, hl1, hly, by rw [← rs.length, ← rsy.length, ← SZ_eq]; exact hz, f _ _ ?_⟩
  have offz : ∀ a ∈ F' ++ F, G1 a = none := fun a ha => by
    rcases List.mem_append.mp ha with ha | ha
    · exact I1.off i a (hF' a ha)
    · exact (new a ha).1
  have allz : ∀ a ∈ F' ++ F, G1 a = none ∧ H0 a = none ∧ ∀ j, j ≠ i → a ∉ fp j := fun a ha => by
    rcases List.mem_append.mp ha with ha | ha
    · exact ⟨I1.off i a (hF' a ha), b1.new i a (hF' a ha), fun j hj h => hj (I1.dj j i a h (hF' a ha))⟩
    · exact ⟨(new a ha).1, (new a ha).2.1, fun j _ => (new a ha).2.2 j⟩
  by_cases hf : (m == .full && (p.2 == .full || !hasLs es2)) = true
  · rw [if_pos hf]
    simp only [Bool.and_eq_true, Bool.or_eq_true, beq_iff_eq] at hf
    -- the new items, owned whole
    have q1 : ∃ Fe, (∀ a ∈ Fe, a ∈ F) ∧ Fe.Nodup ∧ RFs X.K (absb G1 H1) H1 es2 ys Fe := by
      rcases hf.2 with h | h
      · rw [h] at r
        simp only [RM, RF] at r
        obtain ⟨a, zs, F2, e2, rfl, e3, q⟩ := r
        cases e2
        rw [hly] at e3; cases e3
        exact ⟨F2, fun a ha => List.mem_cons_of_mem _ ha, (List.nodup_cons.mp nd).2, RFs.keep (absb_ext I1.sub).1.1 (fun a o e _ => e) _ _ _ (fun _ _ => rfl) q⟩
      · exact ⟨[], by simp, by simp, RFs.flat (by simpa using h) (Rs.absb I1.sub _ _ (by simpa using h) rsy)⟩
    obtain ⟨Fe, hFe, ndFe, q1⟩ := q1
    refine At.lstFull I1 b1 hi hlm hv (RFs.join (ff hf.1) q1) ?_ fun a ha => ?_
    · refine List.nodup_cons.mpr ⟨fun h => ?_, List.nodup_append.mpr ⟨(List.nodup_cons.mp ndi).2, ndFe, fun a ha c hc z => ?_⟩⟩
      · rcases List.mem_append.mp h with h | h
        · exact lF' h
        · exact lF (hFe l h)
      · subst z; exact (new a (hFe a hc)).2.2 i (hF' a ha)
    · refine allz a ?_
      rcases List.mem_append.mp ha with ha | ha
      · exact List.mem_append_left _ ha
      · exact List.mem_append_right _ (hFe a ha)
  · rw [if_neg hf]
    have hbp : hasL (SW.D.lst es2) = false ∨ (p.2 ≠ .bo ∧ p.2 ≠ .bt) := by
      right
      have hb' : isB p = false := by simpa using hb
      unfold isB at hb'
      rw [ep] at hb'
      simp [hasL] at hb'
      exact hb'
    have q1 := r.frz I1.sub offz (fun a ha => List.mem_append_right _ ha) hbp
    simp only [R] at q1
    obtain ⟨a, zs, e2, e3, q1⟩ := q1
    cases e2
    have e4 := frzH_sub I1.sub _ _ e3
    rw [hly] at e4; cases e4
    refine At.lstTop I1 b1 hi hlm hv (Fz := F' ++ F) ((fz _ offz fun a ha => List.mem_append_left _ ha).append q1) allz fun h => ?_
    rcases List.mem_append.mp h with h | h
    · exact lF' h
    · exact lF h
/-- one name's value goes over to another -/
theorem qs_mv {i j : Nat} {nm : Str} {e : Expr} {p : Pos} (hN : X.N.Nodup) (hi : X.N[i]? = some nm) (hx : Loc X.env.scope nm) (he : PE X e (tVar j)) (hij : i ≠ j) (hs : swapsWith e (some (.Name nm p)) pos.line X.env = pure false := by rfl)
    (hf : X.fn nm = true ∨ X.env.scope.names.lookup nm = some .local := by first | exact .inl rfl | exact .inr rfl | assumption) : PS X (.Assign [.Name nm p] e pos) (tS X.K H0 N (.mv i j)) := by
  refine (ps_set hN hi hx he hs hf).imp fun D σ H h => ?_
  obtain ⟨G0, ρ, o, ⟨G, fp, I, b⟩, e, f⟩ := h
  simp only [evS] at e
  split at e <;> try (cases e; done)
  rename_i d m es
  split at e <;> cases e
  rename_i hl
  obtain ⟨v, hv, r⟩ := I.get es
  refine ⟨v, hv, f _ _ ?_⟩
  have J := I.drop j
  have bJ : Bs H0 G0 G H (fun k => if k = j then [] else fp k) := ⟨b.kH, b.kG, fun k a ha => by by_cases c : k = j <;> simp [c] at ha; exact b.new k a ha⟩
  exact At.set J bJ (by simpa using hl) r (I.nd j) fun a ha => ⟨I.off j a ha, b.new j a ha, fun k _ hk => by
    by_cases c : k = j
    · simp [c] at hk
    · simp [c] at hk; exact c (I.dj k j a hk ha)⟩
/-- x op= e, flat values -/
theorem qs_aug {i : Nat} {nm : Str} {e : Expr} {x : Ex} {op : Operator} {r : R2} {g : List DM → Option DM} {p : Pos} (hN : X.N.Nodup) (hi : X.N[i]? = some nm) (hx : Loc X.env.scope nm) (he : PE X e (tX X.K x)) (ho : OpR X (inplaceOp op) r) (hg : ImpN X (r2N r) g)
    (hf : X.fn nm = true ∨ X.env.scope.names.lookup nm = some .local := by first | exact .inl rfl | exact .inr rfl | assumption) : PS X (.AugAssign (.Name nm p) op e pos) (tS X.K H0 N (.aug i g x)) := by
  refine (ps_aug hN hi hx he (ti := r) ho hf).imp fun D σ H h => ?_
  obtain ⟨G0, ρ, o, ⟨G, fp, I, b⟩, e, f⟩ := h
  simp only [evS] at e
  split at e <;> try (cases e; done)
  rename_i d m es
  split at e <;> try (cases e; done)
  rename_i hd
  split at e <;> try (cases e; done)
  rename_i p ee
  split at e <;> try (cases e; done)
  rename_i hp
  split at e <;> try (cases e; done)
  rename_i q eq
  split at e <;> cases e
  rename_i hq
  have hd' : hasL d = false := by simpa using hd
  have hq' : hasL q.1 = false := by simpa using hq
  have hp' : hasL p.1 = false := by simpa using hp
  have hi' : i < ρ.length := (List.getElem?_eq_some_iff.mp es).1
  obtain ⟨v, hv, rm⟩ := I.get es
  refine ⟨v, hv, ?_⟩
  refine At.expr I b (d := p.1) (m := p.2) ee fun y H1 G1 F I1 b1 ry nd new => ?_
  have rv : R X.K H1 d v := by
    obtain ⟨v', hv', rm'⟩ := I1.get es
    rw [hv] at hv'; cases hv'
    exact rm'.r I1.sub
  have ex := absb_ext I1.sub
  have ra : RAs X.K (absb G1 H1) H1 [(d, .sh), fz p] [v, y] := by
    simp only [RAs]
    refine ⟨v, [y], rfl, ⟨rfl, R.absb I1.sub _ _ hd' rv⟩, y, [], rfl, ?_, rfl⟩
    unfold fz
    simp only [hp', Bool.false_eq_true, if_false]
    exact ⟨rfl, R.absb I1.sub _ _ hp' (ry.r I1.sub)⟩
  have I1' : Ok X.K (absb G1 H1) H1 ρ σ fp := I1.grow (same_refl H1) ex.1 ex.2
  have b1' : Bs H0 G0 (absb G1 H1) H1 fp := b1.grow (same_refl H1) ex.1
  refine hg (absb G1 H1) H1 _ _ q.1 q.2 _ eq ra ex.2 ?_
  intro w H2 G2 F2 s2 e2 z2 nd2 new2 r2
  have hF : F2 = [] := by
    revert r2
    cases q.2 with
    | bo => exact fun h => h.1
    | bt => exact fun h => h.1
    | sh => exact fun h => h.1
    | top => exact fun h => ((RT.flat hq').mp h).1
    | full => exact fun h => ((RF.flat _ _ _ hq').mp h).1
  subst hF
  exact f _ _ (At.set (I1'.grow s2 e2 z2) (b1'.grow s2 e2) hi' r2 (by simp) (fun a ha => nomatch ha))
end
end SW
namespace SW
open PySem PySem.Spec PyProof.Rows L2

/-! ### a def, by its body -/
def st0 (ds : List D) (n : Nat) : Env := ds.map (fun d => some (d, Mo.sh)) ++ List.replicate (n - ds.length) none
def runB (N : Nat) (xs : List Sx) (ds : List D) (n : Nat) : Option DM := match evB N xs (st0 ds n) with
  | some (.rt d m) => some (d, m)
  | some (.nx _) => some (.non, .sh)
  | _ => none
theorem ok_start {K : PySem.W.Frag} {G H : Hp} {ds : List D} {vs : List V} {Ns : List Str} (s : Same G H) (r : Rs K G ds vs) : Ok K G H (st0 ds Ns.length) (L2.start Ns vs) (fun _ => []) where
  len := by simp [st0, L2.start, r.length]
  sl := fun i sl e => by
    unfold st0 at e
    unfold L2.start
    by_cases c : i < ds.length
    · rw [List.getElem?_append_left (by simpa using c)] at e
      rw [List.getElem?_append_left (by rw [List.length_map, ← r.length]; exact c)]
      rw [List.getElem?_map, Option.map_eq_some_iff] at e
      obtain ⟨d, hd, rfl⟩ := e
      obtain ⟨v, hv, q⟩ := r.get hd
      exact ⟨some v, by rw [List.getElem?_map, hv]; rfl, v, rfl, rfl, q⟩
    · rw [List.getElem?_append_right (by simpa using c)] at e
      rw [List.getElem?_append_right (by rw [List.length_map, ← r.length]; omega)]
      rw [List.length_map] at e ⊢
      rw [← r.length]
      rw [List.getElem?_replicate] at e ⊢
      split at e <;> cases e
      rename_i h
      exact ⟨none, by rw [if_pos h], by simp [RSl]⟩
  dj := fun i j a h => by simp at h
  nd := fun i => by simp
  off := fun i a h => by simp at h
  mu := fun i a h => by simp at h
  sub := s
theorem fnP {P : Program} {w : World} {K : PySem.W.Frag} {mg : Str → Option Value} {base : Heap} {x qual : Str} {st : Stmt} {fa : Addr} {fd : FuncData} {Ns ps : List Str} {k : Nat} {f : List D → Option DM} {xs : List Sx}
    (F : Fun K x qual st fa fd) (S : FnScope Ns ps (defScope st)) (hl : ∀ ds d, f ds = some d → ds.length = ps.length)
    (hb : ∀ (cdv : Value) (A : Around) (outer : List PySem.Env) (s : Shared) (H : Hp) (E : XK) (N : Nat), Room k (A.deeper (envOfC qual (defScope st) s.heap.objs.size fa cdv)) →
      PSs (cxOf CX0 P w K mg base Ns qual (defScope st) fa cdv A outer s H E).nox (defBody st) (tSS K H N xs))
    (he : ∀ ds d m, f ds = some (d, m) → ∃ N, runB N xs ds Ns.length = some (d, m)) : FnOk P w K mg base CX0 (k + 1) fa fd ps (spP K f) := by
  refine F.ok S (fun vs H Q E h => ?_) (fun cdv A outer s H vs Q E hr h => ?_)
  · obtain ⟨G, ds, d, m, _, r, e, _⟩ := h
    rw [← r.length]; exact hl _ _ e
  · obtain ⟨G, ds, d, m, sG, r, e, gv⟩ := h
    obtain ⟨N, eN⟩ := he ds d m e
    refine ⟨_, hb cdv A outer s H E N hr, ?_⟩
    unfold runB at eN
    have at0 : At K H G (st0 ds Ns.length) (L2.start Ns vs) H := ⟨G, _, ok_start sG r, ⟨same_refl H, Ext.refl H G, fun i a h => by simp at h⟩⟩
    split at eN
    · rename_i d' m' ev; cases eN; exact ⟨G, _, _, at0, ev, gv⟩
    · rename_i ρ' ev
      cases eN
      refine ⟨G, _, _, at0, ev, fun σ' H' ⟨G', fp', I', b'⟩ => ?_⟩
      exact gv .non H' G' [] b'.kH b'.kG I'.sub List.nodup_nil (fun a ha => nomatch ha) ⟨rfl, by simp [R]⟩
    · cases eN

/-! ### primitives -/
section
variable {X : Cx}
theorem RAs.none {K : PySem.W.Frag} {G H : Hp} {vs : List V} (h : RAs K G H [] vs) : vs = [] := by simpa only [RAs] using h
/-- two ints to a value -/
def g2I (C : Int → Int → Bool) (f : Int → Int → D) : List DM → Option DM := fun as => match as with
  | [(.int i, _), (.int j, _)] => if C i j then (if hasL (f i j) then none else some (f i j, .sh)) else none
  | _ => none
theorem imp2I {C : Int → Int → Bool} {f : Int → Int → D} {r : R2} {fv : Int → Int → V} (hr : ∀ i j H Q, C i j = true → Q (fv i j) H → r (.int i) (.int j) H Q) (hv : ∀ i j H, R X.K H (f i j) (fv i j)) : ImpN X (r2N r) (g2I C f) := by
  intro G H as vs d m Q e ra s gv
  unfold g2I at e
  split at e <;> try (cases e; done)
  split at e <;> try (cases e; done)
  rename_i hc
  split at e <;> cases e
  rename_i hl
  obtain ⟨v, w, rfl, r1, r2⟩ := ra.two
  have e1 := r1.isInt s; subst e1
  have e2 := r2.isInt s; subst e2
  exact hr _ _ _ _ hc (gv.sh s (by simpa using hl) (hv _ _ _))
def gSub := g2I (fun _ _ => true) fun i j => .int (i - j)
theorem iSub : ImpN X (r2N (rI0 fun i j => .int (i - j))) gSub := imp2I (fv := fun i j => .int (i - j)) (fun _ _ _ _ _ q => ⟨_, _, rfl, rfl, q⟩) (fun _ _ _ => by simp [R])
def gMod := g2I (fun _ j => decide (0 < j)) fun i j => .int (i % j)
theorem iMod : ImpN X (r2N (rI (fun _ j => 0 < j) fun i j => .int (i % j))) gMod := imp2I (fv := fun i j => .int (i % j)) (fun _ _ _ _ h q => ⟨_, _, rfl, rfl, by simpa using h, q⟩) (fun _ _ _ => by simp [R])
def gDiv := g2I (fun _ j => decide (0 < j) && decide (j < 1073741824)) fun i j => .int (i / j)
theorem iDiv : ImpN X (r2N (rI CDiv fun i j => .int (i / j))) gDiv := imp2I (fv := fun i j => .int (i / j)) (fun _ _ _ _ h q => ⟨_, _, rfl, rfl, by simpa [CDiv] using h, q⟩) (fun _ _ _ => by simp [R])
def gPow := g2I (fun i j => decide (0 ≤ j) && decide (j ≤ 1000000) && decide (i.natAbs < 18446744073709551616)) fun i j => .int (i ^ j.toNat)
theorem iPow : ImpN X (r2N (rI CPow fun i j => .int (i ^ j.toNat))) gPow := imp2I (fv := fun i j => .int (i ^ j.toNat)) (fun _ _ _ _ h q => ⟨_, _, rfl, rfl, by
  simp only [Bool.and_eq_true, decide_eq_true_eq] at h
  exact ⟨h.1.1, h.1.2, by omega⟩, q⟩) (fun _ _ _ => by simp [R])
def gShl := g2I (fun i j => decide (0 ≤ j) && decide (j ≤ 1000000) && decide (i.natAbs < 18446744073709551616)) fun i j => .int (i * 2 ^ j.toNat)
theorem iShl : ImpN X (r2N (rI CPow fun i j => .int (i * 2 ^ j.toNat))) gShl := imp2I (fv := fun i j => .int (i * 2 ^ j.toNat)) (fun _ _ _ _ h q => ⟨_, _, rfl, rfl, by
  simp only [Bool.and_eq_true, decide_eq_true_eq] at h
  exact ⟨h.1.1, h.1.2, by omega⟩, q⟩) (fun _ _ _ => by simp [R])
def gLe := g2I (fun _ _ => true) fun i j => .bl (decide (i ≤ j))
theorem iLe : ImpN X (r2N (rI0 fun i j => .bl (decide (i ≤ j)))) gLe := imp2I (fv := fun i j => .bl (decide (i ≤ j))) (fun _ _ _ _ _ q => ⟨_, _, rfl, rfl, q⟩) (fun _ _ _ => by simp [R])
def gGt := g2I (fun _ _ => true) fun i j => .bl (decide (j < i))
theorem iGt : ImpN X (r2N (rI0 fun i j => .bl (decide (j < i)))) gGt := imp2I (fv := fun i j => .bl (decide (j < i))) (fun _ _ _ _ _ q => ⟨_, _, rfl, rfl, q⟩) (fun _ _ _ => by simp [R])
def gGe := g2I (fun _ _ => true) fun i j => .bl (decide (j ≤ i))
theorem iGe : ImpN X (r2N (rI0 fun i j => .bl (decide (j ≤ i)))) gGe := imp2I (fv := fun i j => .bl (decide (j ≤ i))) (fun _ _ _ _ _ q => ⟨_, _, rfl, rfl, q⟩) (fun _ _ _ => by simp [R])
def gAddI := g2I (fun _ _ => true) fun i j => .int (i + j)
theorem iAddI : ImpN X (r2N (rI0 fun i j => .int (i + j))) gAddI := imp2I (fv := fun i j => .int (i + j)) (fun _ _ _ _ _ q => ⟨_, _, rfl, rfl, q⟩) (fun _ _ _ => by simp [R])
/-- a product of ints below 2^26 bits each -/
def bitsOk (i j : Int) : Bool := decide (Builtin.Int.intBits i + Builtin.Int.intBits j ≤ 134217728)
theorem op_mulB : OpR X (binaryOp .Mult) (rI (fun i j => bitsOk i j = true) fun i j => .int (i * j)) := opI fun i j _ _ _ _ _ hc q => mul_int q (by
  unfold IntMulOk
  have h : Builtin.Int.intTooBig (Builtin.Int.intBits i + Builtin.Int.intBits j) = false := by
    unfold Builtin.Int.intTooBig bitsLine
    unfold bitsOk at hc
    simp only [decide_eq_true_eq] at hc
    exact decide_eq_false (by omega)
  rw [h]; simp)
/-- + of ints, texts, lists -/
def rAddAll (K : PySem.W.Frag) : R2 := fun x y H Q => rI0 (fun i j => .int (i + j)) x y H Q ∨ (∃ i j, x = .str i ∧ y = .str j ∧ i.length + j.length ≤ sizeLine ∧ Q (.str (i ++ j)) H) ∨ rCat x y H Q
theorem op_addAll : OpR X (binaryOp .Add) (rAddAll X.K) := OpR.or op_add (OpR.or op_add_str op_cat)
/-- a new list of items that are read -/
def newLst (ds : List D) (shared : Bool) : Option DM := if hasLs ds = false then some (.lst ds, .full) else if shared then some (.lst ds, .top) else none
theorem Gv.newL {K : PySem.W.Frag} {G H : Hp} {ds : List D} {xs : List V} {b : Bool} {d : D} {m : Mo} {Q : VK} (gv : Gv K G H m d Q) (e : newLst ds b = some (d, m)) (s : Same G H) (r : Rs K H ds xs) (rb : b = true → Rs K G ds xs) : ∀ p, H p = none → Q (.ref p) (upd H p (.lst xs)) := by
  intro p np
  have k1 : Same H (upd H p (.lst xs)) := same_upd np
  have gp : G p = none := by
    cases q : G p with
    | none => rfl
    | some o => have := s _ _ q; rw [np] at this; cases this
  unfold newLst at e
  split at e
  · rename_i hl
    cases e
    have ex := absb_ext s
    refine gv (.ref p) _ (absb G H) [p] k1 ex.1 (ex.2.trans k1) (by simp) (fun a ha => ?_) ?_
    · simp at ha; subst ha
      refine ⟨np, ?_⟩
      unfold absb; rw [np]; exact gp
    · simp only [RM, RF]
      exact ⟨p, xs, [], rfl, rfl, upd_same, RFs.flat hl (Rs.absb s _ _ hl r)⟩
  · split at e <;> cases e
    rename_i hb
    refine gv (.ref p) _ G [p] k1 (Ext.refl _ _) (s.trans k1) (by simp) (fun a ha => ?_) ?_
    · simp at ha; subst ha; exact ⟨np, gp⟩
    · simp only [RM, RT]
      exact ⟨p, xs, rfl, rfl, upd_same, rb hb⟩
def isSh (m : Mo) : Bool := m == .sh || m == .bt
/-- a list read: its items -/
theorem RM.items {K : PySem.W.Frag} {G H : Hp} {m : Mo} {ds : List D} {v : V} (s : Same G H) (h : RM K G H m (.lst ds) v []) : ∃ a xs, v = .ref a ∧ H a = some (.lst xs) ∧ Rs K H ds xs ∧ (isSh m = true → Rs K G ds xs) := by
  have r := h.r s
  simp only [R] at r
  obtain ⟨a, xs, rfl, e, rs⟩ := r
  refine ⟨a, xs, rfl, e, rs, fun hm => ?_⟩
  cases m <;> simp [isSh] at hm
  · obtain ⟨_, F', q⟩ := h
    simp only [RT] at q
    obtain ⟨a', xs', e1, _, e2, q⟩ := q
    cases e1; rw [e] at e2; cases e2; exact q
  · obtain ⟨_, q⟩ := h
    simp only [R] at q
    obtain ⟨a', xs', e1, e2, q⟩ := q
    cases e1
    have := s _ _ e2
    rw [e] at this; cases this; exact q
def gAdd : List DM → Option DM := fun as => match as with
  | [(.int i, _), (.int j, _)] => some (.int (i + j), .sh)
  | [(.str i, _), (.str j, _)] => if i.length + j.length ≤ SZ then some (.str (i ++ j), .sh) else none
  | [(.lst i, m), (.lst j, n)] => if i.length + j.length ≤ SZ then newLst (i ++ j) (isSh m && isSh n) else none
  | _ => none
theorem str_len (s : List Nat) : (⟨s.toArray⟩ : Str).length = s.length := by simp [Str.length]
theorem iAdd : ImpN X (r2N (rAddAll X.K)) gAdd := by
  intro G H as vs d m Q e ra s gv
  unfold gAdd at e
  split at e <;> try (cases e; done)
  · cases e
    obtain ⟨v, w, rfl, r1, r2⟩ := ra.two
    have e1 := r1.isInt s; subst e1
    have e2 := r2.isInt s; subst e2
    exact .inl ⟨_, _, rfl, rfl, gv.sh s rfl (by simp [R])⟩
  · split at e <;> cases e
    rename_i hz
    obtain ⟨v, w, rfl, r1, r2⟩ := ra.two
    have e1 := r1.isStr s; subst e1
    have e2 := r2.isStr s; subst e2
    refine .inr (.inl ⟨_, _, rfl, rfl, by rw [str_len, str_len, ← SZ_eq]; exact hz, gv.sh s rfl ?_⟩)
    simp only [R]
    congr 1
    show Str.mk _ = Str.mk _
    simp
  · split at e <;> try (cases e; done)
    rename_i hz
    obtain ⟨v, w, rfl, r1, r2⟩ := ra.two
    obtain ⟨a, xs, rfl, ha, rs, rg⟩ := r1.items s
    obtain ⟨b, ys, rfl, hb, rs', rg'⟩ := r2.items s
    refine .inr (.inr ⟨a, b, xs, ys, rfl, rfl, ha, hb, by rw [← rs.length, ← rs'.length, ← SZ_eq]; exact hz, ?_⟩)
    refine gv.newL e s (rs.append rs') fun h => ?_
    simp only [Bool.and_eq_true] at h
    exact (rg h.1).append (rg' h.2)
theorem rep_len {α : Type} (l : List α) : ∀ n, (List.replicate n l).flatten.length = l.length * n
  | 0 => by simp
  | n + 1 => by rw [List.replicate_succ, List.flatten_cons, List.length_append, rep_len l n, Nat.mul_succ, Nat.add_comm]
/-- * of ints, a text and an int, a list and an int -/
theorem op_mul_str : OpR X (binaryOp .Mult) (fun x y H Q => ∃ (i : Str) (n : Int), x = .str i ∧ y = .int n ∧ -(2 ^ 62) ≤ n ∧ n < 2 ^ 62 ∧ i.length * n.toNat ≤ 16777216 ∧ Q (.str ⟨(List.replicate n.toNat i.cps.toList).flatten.toArray⟩) H) := by
  intro pins s σ H x y v u Q I rx ry h
  obtain ⟨i, n, rfl, rfl, h1, h2, h3, q⟩ := h
  obtain ⟨t, rfl⟩ := rx
  obtain ⟨t', rfl⟩ := ry
  have hfold : ∀ (k : Nat) (acc : List Nat), (List.replicate k i.cps).foldl (· ++ ·) acc.toArray = (acc ++ (List.replicate k i.cps.toList).flatten).toArray := by
    intro k
    induction k with
    | zero => intro acc; simp
    | succ k ih =>
      intro acc
      rw [List.replicate_succ, List.foldl_cons, List.replicate_succ, List.flatten_cons]
      have : acc.toArray ++ i.cps = (acc ++ i.cps.toList).toArray := by simp
      rw [this, ih]
      simp
  refine PySem.P.mul_str (x := i) (n := n) (t := t) (u := t') ?_ ?_ ?_ ?_
  · rw [decide_eq_false (by omega), decide_eq_false (by omega)]; rfl
  · intro hn hc
    simp only [Bool.or_eq_false_iff, beq_eq_false_iff_ne] at hc
    have : 0 < n := by omega
    have hle : (i.length : Int) * n ≤ 16777216 := by
      have : ((i.length * n.toNat : Nat) : Int) ≤ 16777216 := Int.ofNat_le.mpr h3
      rw [Int.natCast_mul] at this
      rwa [Int.toNat_of_nonneg (by omega)] at this
    have : (i.length : Int) ≤ (2 ^ 63 - 1) / n := by
      rw [Int.le_ediv_iff_mul_le (by omega)]; omega
    omega
  · intro _ _
    refine decide_eq_false ?_
    rw [sizeLine_eq]; omega
  · split
    · rename_i hn
      have e : n.toNat = 0 := by omega
      rw [e] at q
      exact ⟨by decide, ⟨.str Str.empty, H, I.tok _, ⟨_, rfl⟩, q⟩⟩
    · split
      · rename_i hn hc
        refine ⟨.str i, H, I, ⟨_, rfl⟩, ?_⟩
        have : (⟨(List.replicate n.toNat i.cps.toList).flatten.toArray⟩ : Str) = i := by
          simp only [Bool.or_eq_true, beq_iff_eq] at hc
          rcases hc with hc | hc
          · subst hc; simp
          · have : i.cps.toList = [] := by
              have : i.cps.size = 0 := hc
              simpa using this
            rw [this]; simp
            have e2 : i.cps = #[] := by simpa using this
            cases i; simp at e2; rw [e2]
        rw [this] at q; exact q
      · have e := hfold n.toNat []
        simp only [List.nil_append] at e
        have e' : (List.replicate n.toNat i.cps).foldl (· ++ ·) #[] = (List.replicate n.toNat i.cps.toList).flatten.toArray := e
        rw [e']
        refine ⟨?_, ⟨.str _, H, I.tok _, ⟨_, rfl⟩, q⟩⟩
        show ((List.replicate n.toNat i.cps.toList).flatten.toArray).size ≤ sizeLine
        rw [List.size_toArray, rep_len, sizeLine_eq]
        have : i.cps.toList.length = i.length := by simp [Str.length]
        rw [this]; exact h3
def rMulAll (K : PySem.W.Frag) : R2 := fun x y H Q => rI (fun i j => bitsOk i j = true) (fun i j => .int (i * j)) x y H Q ∨ (∃ (i : Str) (n : Int), x = .str i ∧ y = .int n ∧ -(2 ^ 62) ≤ n ∧ n < 2 ^ 62 ∧ i.length * n.toNat ≤ 16777216 ∧ Q (.str ⟨(List.replicate n.toNat i.cps.toList).flatten.toArray⟩) H) ∨ rRep x y H Q
theorem op_mulAll : OpR X (binaryOp .Mult) (rMulAll X.K) := OpR.or op_mulB (OpR.or op_mul_str op_rep)
def gMul : List DM → Option DM := fun as => match as with
  | [(.int i, _), (.int j, _)] => if bitsOk i j then some (.int (i * j), .sh) else none
  | [(.str i, _), (.int n, _)] => if inR n && decide (i.length * n.toNat ≤ SZ) then some (.str (List.replicate n.toNat i).flatten, .sh) else none
  | [(.lst i, m), (.int n, _)] => if inR n && decide (i.length * n.toNat ≤ SZ) then newLst (List.replicate n.toNat i).flatten (isSh m) else none
  | _ => none
theorem flat_rep {α β : Type} (f : α → β) (l : List α) : ∀ n, (List.replicate n (l.map f)).flatten = ((List.replicate n l).flatten).map f
  | 0 => by simp
  | n + 1 => by rw [List.replicate_succ, List.replicate_succ, List.flatten_cons, List.flatten_cons, List.map_append, flat_rep f l n]
theorem Rs.rep {K : PySem.W.Frag} {H : Hp} {ds : List D} {xs : List V} (r : Rs K H ds xs) : ∀ n, Rs K H (List.replicate n ds).flatten (List.replicate n xs).flatten
  | 0 => by simp [Rs]
  | n + 1 => by rw [List.replicate_succ, List.replicate_succ, List.flatten_cons, List.flatten_cons]; exact r.append (Rs.rep r n)
theorem iMul : ImpN X (r2N (rMulAll X.K)) gMul := by
  intro G H as vs d m Q e ra s gv
  unfold gMul at e
  split at e <;> try (cases e; done)
  · split at e <;> cases e
    rename_i hb
    obtain ⟨v, w, rfl, r1, r2⟩ := ra.two
    have e1 := r1.isInt s; subst e1
    have e2 := r2.isInt s; subst e2
    exact .inl ⟨_, _, rfl, rfl, hb, gv.sh s rfl (by simp [R])⟩
  · split at e <;> cases e
    rename_i hb
    simp only [Bool.and_eq_true, decide_eq_true_eq] at hb
    obtain ⟨v, w, rfl, r1, r2⟩ := ra.two
    have e1 := r1.isStr s; subst e1
    have e2 := r2.isInt s; subst e2
    refine .inr (.inl ⟨_, _, rfl, rfl, (inR_of hb.1).1, (inR_of hb.1).2, by rw [str_len]; exact hb.2, gv.sh s rfl ?_⟩)
    simp [R]
  · split at e <;> try (cases e; done)
    rename_i hb
    simp only [Bool.and_eq_true, decide_eq_true_eq] at hb
    obtain ⟨v, w, rfl, r1, r2⟩ := ra.two
    obtain ⟨a, xs, rfl, ha, rs, rg⟩ := r1.items s
    have e2 := r2.isInt s; subst e2
    have h62 := inR_of hb.1
    refine .inr (.inr ⟨a, _, xs, rfl, rfl, ha, by omega, by omega, by rw [← rs.length, ← SZ_eq]; exact hb.2, ?_⟩)
    exact gv.newL e s (rs.rep _) fun h => (rg h).rep _
/-! ### == of data -/
mutual
def toPy : D → PyData
  | .non => .none
  | .bl b => .bool b
  | .int i => .int i
  | .str s => .str ⟨s.toArray⟩
  | .lst ds => .list (toPys ds)
  | .tup ds => .tuple (toPys ds)
  | .dK _ _ => .none
  | .dT _ _ => .none
  | .scr _ => .none
  | .obj _ _ _ => .none
  | .raw _ => .none
def toPys : List D → List PyData
  | [] => []
  | d :: ds => toPy d :: toPys ds
end
mutual
def pyOk : D → Bool
  | .non => true
  | .bl _ => true
  | .int _ => true
  | .str _ => true
  | .lst ds => pyOks ds
  | .tup ds => pyOks ds
  | .dK _ _ => false
  | .dT _ _ => false
  | .scr _ => false
  | .obj _ _ _ => false
  | .raw _ => false
def pyOks : List D → Bool
  | [] => true
  | d :: ds => pyOk d && pyOks ds
end
mutual
theorem R.dp {K : PySem.W.Frag} {H : Hp} : ∀ (d : D) (v : V), pyOk d = true → R K H d v → Dp K H v (toPy d)
  | .non, v, _, r => by simp only [R] at r; subst r; exact .non
  | .bl b, v, _, r => by simp only [R] at r; subst r; exact .bl b
  | .int i, v, _, r => by simp only [R] at r; subst r; exact .int i
  | .str z, v, _, r => by simp only [R] at r; subst r; exact .str _
  | .lst ds, v, h, r => by
    simp only [R] at r
    obtain ⟨a, xs, rfl, e, rs⟩ := r
    exact .lst (.inl (.inl e)) (Rs.dp ds xs (by simpa [pyOk] using h) rs)
  | .tup ds, v, h, r => by
    simp only [R] at r
    obtain ⟨a, xs, rfl, e, rs⟩ := r
    exact .tup (.inl (.inl e)) (Rs.dp ds xs (by simpa [pyOk] using h) rs)
  | .dK _ _, _, h, _ => by simp [pyOk] at h
  | .dT _ _, _, h, _ => by simp [pyOk] at h
  | .scr _, _, h, _ => by simp [pyOk] at h
  | .obj _ _ _, _, h, _ => by simp [pyOk] at h
  | .raw _, _, h, _ => by simp [pyOk] at h
theorem Rs.dp {K : PySem.W.Frag} {H : Hp} : ∀ (ds : List D) (vs : List V), pyOks ds = true → Rs K H ds vs → DpAll K H vs (toPys ds)
  | [], _, _, r => by simp only [Rs] at r; subst r; exact .nil
  | d :: ds, _, h, r => by
    simp only [pyOks, Bool.and_eq_true] at h
    simp only [Rs] at r
    obtain ⟨v, t, rfl, h1, h2⟩ := r
    exact .cons (R.dp d v h.1 h1) (Rs.dp ds t h.2 h2)
end
mutual
def dpth : D → Nat
  | .lst ds => dpths ds + 1
  | .tup ds => dpths ds + 1
  | _ => 0
def dpths : List D → Nat
  | [] => 0
  | d :: ds => max (dpth d) (dpths ds)
end
/-- data that == takes -/
def eqOk (d : D) : Bool := pyOk d && SeqAt.shaped (toPy d)
def eqD (d e : D) : Bool := PyData.eqv (toPy d) (toPy e)
def gEq : List DM → Option DM := fun as => match as with
  | [(d, _), (e, _)] => if eqOk d && eqOk e then some (.bl (eqD d e), .sh) else none
  | _ => none
def gNe : List DM → Option DM := fun as => match as with
  | [(d, _), (e, _)] => if eqOk d && eqOk e then some (.bl (!eqD d e), .sh) else none
  | _ => none
theorem iEq : ImpN X (r2N (rEqD X.K)) gEq := by
  intro G H as vs d m Q e ra s gv
  unfold gEq at e
  split at e <;> try (cases e; done)
  split at e <;> cases e
  rename_i hb
  simp only [Bool.and_eq_true, eqOk] at hb
  obtain ⟨v, w, rfl, r1, r2⟩ := ra.two
  exact ⟨_, _, R.dp _ _ hb.1.1 (r1.r s), R.dp _ _ hb.2.1 (r2.r s), hb.1.2, hb.2.2, gv.sh s rfl (by simp [R, eqD])⟩
theorem iNe : ImpN X (r2N (rNeD X.K)) gNe := by
  intro G H as vs d m Q e ra s gv
  unfold gNe at e
  split at e <;> try (cases e; done)
  split at e <;> cases e
  rename_i hb
  simp only [Bool.and_eq_true, eqOk] at hb
  obtain ⟨v, w, rfl, r1, r2⟩ := ra.two
  exact ⟨_, _, R.dp _ _ hb.1.1 (r1.r s), R.dp _ _ hb.2.1 (r2.r s), hb.1.2, hb.2.2, gv.sh s rfl (by simp [R, eqD])⟩
/-- is None -/
def isNonD : D → Bool
  | .non => true
  | _ => false
def gIsN : List DM → Option DM := fun as => match as with
  | [(d, _), (.non, _)] => match d with
    | .raw _ => none
    | d => some (.bl (isNonD d), .sh)
  | _ => none
def gNotN : List DM → Option DM := fun as => match as with
  | [(d, _), (.non, _)] => match d with
    | .raw _ => none
    | d => some (.bl (!isNonD d), .sh)
  | _ => none
theorem R.isNon {K : PySem.W.Frag} {H : Hp} {d : D} {v : V} (r : R K H d v) (hr : ∀ w, d ≠ .raw w) : decide (v = .non) = isNonD d := by
  cases d <;> simp only [R] at r
  case raw w => exact absurd rfl (hr w)
  case lst ds => obtain ⟨a, xs, rfl, _⟩ := r; simp [isNonD]
  case tup ds => obtain ⟨a, xs, rfl, _⟩ := r; simp [isNonD]
  case dK ks ds => obtain ⟨a, xs, rfl, _⟩ := r; simp [isNonD]
  case dT ks ds => obtain ⟨a, xs, rfl, _⟩ := r; simp [isNonD]
  case scr ns => obtain ⟨a, rfl, _⟩ := r; simp [isNonD]
  case obj C ns ds => obtain ⟨a, dx, xs, rfl, _⟩ := r; simp [isNonD]
  all_goals (subst r; simp [isNonD])
theorem iIsN : ImpN X (r2N fun x y H Q => y = .non ∧ Q (.bl (decide (x = .non))) H) gIsN := by
  intro G H as vs d m Q e ra s gv
  unfold gIsN at e
  split at e <;> try (cases e; done)
  rename_i d0 m0 m1
  obtain ⟨v, w, rfl, r1, r2⟩ := ra.two
  have e2 := r2.isNon s; subst e2
  split at e
  · cases e
  · rename_i hn
    cases e
    refine ⟨rfl, ?_⟩
    rw [R.isNon (r1.r s) (fun w h => hn w h)]
    exact gv.sh s rfl (by simp [R])
theorem iNotN : ImpN X (r2N fun x y H Q => y = .non ∧ Q (.bl (!decide (x = .non))) H) gNotN := by
  intro G H as vs d m Q e ra s gv
  unfold gNotN at e
  split at e <;> try (cases e; done)
  rename_i d0 m0 m1
  obtain ⟨v, w, rfl, r1, r2⟩ := ra.two
  have e2 := r2.isNon s; subst e2
  split at e
  · cases e
  · rename_i hn
    cases e
    refine ⟨rfl, ?_⟩
    rw [R.isNon (r1.r s) (fun w h => hn w h)]
    exact gv.sh s rfl (by simp [R])
end
end SW
namespace SW
open PySem PySem.Spec PyProof.Rows L2

section
variable {X : Cx}
/-! ### len, items, slices -/
def gLen : List DM → Option DM := fun as => match as with
  | [(.lst ds, _)] => some (.int ds.length, .sh)
  | [(.tup ds, _)] => some (.int ds.length, .sh)
  | [(.str s, _)] => if s.length ≤ SZ then some (.int s.length, .sh) else none
  | [(.scr ns, _)] => some (.int ns.length, .sh)
  | _ => none
def LenP (K : PySem.W.Frag) : List V → Hp → VK → Prop := fun xs H Q => ∃ x n, xs = [x] ∧ LenV K x H n ∧ Q (.int n) H
theorem sqL_frz {K : PySem.W.Frag} {H : Hp} {a : Addr} {xs : List V} (h : (∃ o, H a = some (.frz o (.lst xs))) ∨ KSeq K a xs) : SqL K H a xs := by
  rcases h with ⟨o, h⟩ | h
  · exact .inl (.inr ⟨o, h⟩)
  · exact .inr h
theorem iLen : ImpN X (LenP X.K) gLen := by
  intro G H as vs d m Q e ra s gv
  unfold gLen at e
  split at e <;> try (cases e; done)
  · cases e
    obtain ⟨v, rfl, r1⟩ := ra.one
    obtain ⟨a, xs, rfl, ha, rs, _⟩ := r1.items s
    exact ⟨_, xs.length, rfl, .inl ⟨xs, .inl (.inl ha), rfl⟩, gv.sh s rfl (by simp [R, rs.length])⟩
  · cases e
    obtain ⟨v, rfl, r1⟩ := ra.one
    have r := r1.r s
    simp only [R] at r
    obtain ⟨a, xs, rfl, ha, rs⟩ := r
    exact ⟨_, xs.length, rfl, .inr ⟨xs, .inl (.inl ha), rfl⟩, gv.sh s rfl (by simp [R, rs.length])⟩
  · split at e <;> cases e
    rename_i hz
    obtain ⟨v, rfl, r1⟩ := ra.one
    have e1 := r1.isStr s; subst e1
    exact ⟨_, _, rfl, ⟨by rw [str_len, ← SZ_eq]; exact hz, rfl⟩, gv.sh s rfl (by simp [R, str_len])⟩
  · cases e
    obtain ⟨v, rfl, r1⟩ := ra.one
    have r := r1.r s
    simp only [R] at r
    obtain ⟨a, rfl, h⟩ := r
    exact ⟨_, _, rfl, .inl ⟨_, sqL_frz h, rfl⟩, gv.sh s rfl (by simp [R])⟩
/-- how an item of something is held -/
def itM (d : D) (m : Mo) : DM := (d, if hasL d then (if isSh m then .sh else .bo) else .sh)
theorem Gv.item {K : PySem.W.Frag} {G H : Hp} {d : D} {m m' : Mo} {Q : VK} {v : V} (gv : Gv K G H m d Q) (e : itM d m' = (d, m)) (s : Same G H) (r : R K H d v) (rg : isSh m' = true → R K G d v) : Q v H := by
  unfold itM at e
  simp only [Prod.mk.injEq, true_and] at e
  have ex := absb_ext s
  by_cases c : hasL d = true
  · rw [if_pos c] at e
    by_cases c2 : isSh m' = true
    · rw [if_pos c2] at e; subst e
      exact gv.here s ⟨rfl, rg c2⟩
    · rw [if_neg c2] at e; subst e
      exact gv.here s ⟨rfl, r⟩
  · rw [if_neg c] at e; subst e
    exact gv v H (absb G H) [] (same_refl H) ex.1 ex.2 List.nodup_nil (fun a ha => nomatch ha) ⟨rfl, R.absb s _ _ (by simpa using c) r⟩
def gIdx : List DM → Option DM := fun as => match as with
  | [(.lst ds, m), (.int i, _)] => match atI ds i with
    | some d => some (itM d m)
    | none => none
  | [(.tup ds, m), (.int i, _)] => match atI ds i with
    | some d => some (itM d m)
    | none => none
  | [(.str s, _), (.int i, _)] => if s.length ≤ SZ then match atI s i with
    | some c => some (.str [c], .sh)
    | none => none else none
  | [(.scr ns, _), (.int i, _)] => match atI ns i with
    | some n => some (.int n, .sh)
    | none => none
  | _ => none
theorem Rs.atI {K : PySem.W.Frag} {H : Hp} {ds : List D} {vs : List V} {i : Int} {d : D} (r : Rs K H ds vs) (e : L2.atI ds i = some d) : ∃ v, L2.atI vs i = some v ∧ R K H d v := by
  unfold L2.atI at e ⊢
  rw [← r.length]
  cases q : ixN ds.length i with
  | none => rw [q] at e; cases e
  | some j =>
    rw [q] at e
    simp only [Option.bind_some] at e ⊢
    exact r.get e
theorem rd_item {K : PySem.W.Frag} {G H : Hp} {m : Mo} {ds : List D} {v : V} (s : Same G H) (h : RM K G H m (.tup ds) v []) : ∃ a xs, v = .ref a ∧ H a = some (.tup xs) ∧ Rs K H ds xs ∧ (isSh m = true → Rs K G ds xs) := by
  have r := h.r s
  simp only [R] at r
  obtain ⟨a, xs, rfl, e, rs⟩ := r
  refine ⟨a, xs, rfl, e, rs, fun hm => ?_⟩
  have q : R K G (.tup ds) (.ref a) := by
    cases m <;> simp [isSh] at hm
    · obtain ⟨_, F', q⟩ := h; simp only [RT] at q; exact q.2
    · exact h.2
  simp only [R] at q
  obtain ⟨a', xs', e1, e2, q⟩ := q
  cases e1
  have := s _ _ e2
  rw [e] at this; cases this; exact q
theorem iIdx : ImpN X (r2N (rIx X.K)) gIdx := by
  intro G H as vs d m Q e ra s gv
  unfold gIdx at e
  split at e <;> try (cases e; done)
  · split at e <;> cases e
    rename_i ds m1 i m2 d' hd
    obtain ⟨v, w, rfl, r1, r2⟩ := ra.two
    have e2 := r2.isInt s; subst e2
    obtain ⟨a, xs, rfl, ha, rs, rg⟩ := r1.items s
    obtain ⟨x, hx, rx⟩ := rs.atI hd
    refine .inl ⟨a, xs, i, x, rfl, rfl, .inl (.inl ha), hx, gv.item rfl s rx fun h => ?_⟩
    obtain ⟨x', hx', rx'⟩ := (rg h).atI hd
    rw [hx] at hx'; cases hx'; exact rx'
  · split at e <;> cases e
    rename_i ds m1 i m2 d' hd
    obtain ⟨v, w, rfl, r1, r2⟩ := ra.two
    have e2 := r2.isInt s; subst e2
    obtain ⟨a, xs, rfl, ha, rs, rg⟩ := rd_item s r1
    obtain ⟨x, hx, rx⟩ := rs.atI hd
    refine .inr (.inl ⟨a, xs, i, x, rfl, rfl, .inl (.inl ha), hx, gv.item rfl s rx fun h => ?_⟩)
    obtain ⟨x', hx', rx'⟩ := (rg h).atI hd
    rw [hx] at hx'; cases hx'; exact rx'
  · split at e <;> try (cases e; done)
    rename_i hz
    split at e <;> cases e
    rename_i c hc
    obtain ⟨v, w, rfl, r1, r2⟩ := ra.two
    have e1 := r1.isStr s; subst e1
    have e2 := r2.isInt s; subst e2
    exact .inr (.inr ⟨_, _, c, rfl, rfl, by rw [str_len, ← SZ_eq]; exact hz, hc, gv.sh s rfl (by simp [R])⟩)
  · split at e <;> cases e
    rename_i n hn
    obtain ⟨v, w, rfl, r1, r2⟩ := ra.two
    have e2 := r2.isInt s; subst e2
    have r := r1.r s
    simp only [R] at r
    obtain ⟨a, rfl, h⟩ := r
    refine .inl ⟨a, _, _, .int n, rfl, rfl, sqL_frz h, ?_, gv.sh s rfl (by simp [R])⟩
    unfold L2.atI at hn ⊢
    rw [List.length_map]
    revert hn
    generalize ixN _ _ = q
    intro hn
    cases q with
    | none => cases hn
    | some j =>
      simp only [Option.bind_some] at hn ⊢
      rw [List.getElem?_map, hn]; rfl
/-- the items of xs[lo:hi] -/
def cutL {α : Type} (xs : List α) (lo hi : Option Int) : List α := (xs.drop (HT.sIx xs.length 0 lo)).take (HT.sIx xs.length xs.length hi - HT.sIx xs.length 0 lo)
def slD (d : D) (m : Mo) (lo hi : Option Int) : Option DM := match d with
  | .lst ds => newLst (cutL ds lo hi) (isSh m)
  | .str s => if s.length ≤ SZ then some (.str (cutL s lo hi), .sh) else none
  | .scr ns => some (.lst ((cutL ns lo hi).map .int), .full)
  | .tup ds => if hasLs ds = false ∧ ¬ (HT.sIx ds.length 0 lo = 0 ∧ HT.sIx ds.length ds.length hi = ds.length) then some (.tup (cutL ds lo hi), .sh) else none
  | _ => none
def rSlAll (K : PySem.W.Frag) : V → Option Int → Option Int → Hp → VK → Prop := fun x lo hi H Q => rSlL K x lo hi H Q ∨ rSlS x lo hi H Q ∨ rSlT K x lo hi H Q
theorem sl_all : SlR X (rSlAll X.K) := SlR.or sl_list (SlR.or sl_str sl_tup)
theorem Rs.cut {K : PySem.W.Frag} {H : Hp} {ds : List D} {xs : List V} (r : Rs K H ds xs) (lo hi : Option Int) : Rs K H (cutL ds lo hi) (cutV xs lo hi) := by
  unfold cutL cutV
  rw [← r.length]
  exact (r.drop _).take _
theorem hasLs_sub : ∀ {ds : List D}, hasLs ds = false → ∀ {es : List D}, (∀ d ∈ es, d ∈ ds) → hasLs es = false
  | ds, h, [], _ => rfl
  | ds, h, e :: es, k => by
    simp only [hasLs, Bool.or_eq_false_iff]
    refine ⟨?_, hasLs_sub h fun d hd => k d (List.mem_cons_of_mem _ hd)⟩
    obtain ⟨i, hi, he⟩ := List.getElem_of_mem (k e (by simp))
    exact hasLs_get h (i := i) (by rw [List.getElem?_eq_getElem hi, he])
theorem cutL_mem {α : Type} {xs : List α} {lo hi : Option Int} : ∀ d ∈ cutL xs lo hi, d ∈ xs := fun d hd => List.mem_of_mem_drop (List.mem_of_mem_take hd)
theorem slD_ok {K : PySem.W.Frag} {G H : Hp} {d0 : D} {m0 : Mo} {lo hi : Option Int} {d : D} {m : Mo} {v : V} {Q : VK} (e : slD d0 m0 lo hi = some (d, m)) (r : RM K G H m0 d0 v []) (s : Same G H) (gv : Gv K G H m d Q) : rSlAll K v lo hi H Q := by
  unfold slD at e
  split at e <;> try (cases e; done)
  · obtain ⟨a, xs, rfl, ha, rs, rg⟩ := r.items s
    exact .inl ⟨a, xs, rfl, .inl (.inl ha), gv.newL e s (rs.cut lo hi) fun h => (rg h).cut lo hi⟩
  · split at e <;> cases e
    rename_i hz
    have e1 := r.isStr s; subst e1
    refine .inr (.inl ⟨_, rfl, by rw [str_len, ← SZ_eq]; exact hz, gv.sh s rfl ?_⟩)
    simp only [R, cutS, str_len, cutL]
  · cases e
    have q := r.r s
    simp only [R] at q
    obtain ⟨a, rfl, h⟩ := q
    rename_i ns
    refine .inl ⟨a, _, rfl, sqL_frz h, ?_⟩
    have hr : ∀ (l : List Int), Rs K H (l.map .int) (l.map V.int) := fun l => by
      induction l with
      | nil => simp [Rs]
      | cons x l ih => exact Rs.cons (by simp [R]) ih
    have hl : ∀ (l : List Int), hasLs (l.map D.int) = false := fun l => by
      induction l with
      | nil => rfl
      | cons x l ih => simp [hasLs, hasL, ih]
    have e2 : cutV (ns.map V.int) lo hi = (cutL ns lo hi).map V.int := by
      unfold cutV cutL
      rw [List.length_map, ← List.map_drop, ← List.map_take]
    rw [e2]
    exact gv.newL (b := false) (by unfold newLst; rw [if_pos (hl _)]) s (hr _) (fun h => by cases h)
  · split at e <;> cases e
    rename_i ds hc
    obtain ⟨a, xs, rfl, ha, rs, rg⟩ := rd_item s r
    refine .inr (.inr ⟨a, xs, rfl, .inl (.inl ha), by rw [← rs.length]; exact hc.2, fun p np => ?_⟩)
    have k1 : Same H (upd H p (.tup (cutV xs lo hi))) := same_upd np
    have z2 : Same G (upd H p (.tup (cutV xs lo hi))) := s.trans k1
    have ex := absb_ext z2
    have hl : hasLs (cutL ds lo hi) = false := hasLs_sub hc.1 cutL_mem
    have e3 : Ext H G (absb G (upd H p (.tup (cutV xs lo hi)))) := by
      have := frzH_ext (F := []) k1 z2 (fun a ha => nomatch ha) (fun a ha => nomatch ha)
      have e0 : frzH G (upd H p (.tup (cutV xs lo hi))) [] = absb G (upd H p (.tup (cutV xs lo hi))) := by funext a; unfold frzH; simp
      rwa [e0] at this
    refine gv (.ref p) _ _ [] k1 e3 ex.2 List.nodup_nil (fun a ha => nomatch ha) ⟨rfl, R.absb z2 _ _ (by simpa [hasL] using hl) ?_⟩
    simp only [R]
    exact ⟨p, _, rfl, upd_same, Rs.mono k1 _ _ (rs.cut lo hi)⟩
def gSl0 : List DM → Option DM := fun as => match as with | [(d, m)] => slD d m none none | _ => none
def gSlL : List DM → Option DM := fun as => match as with | [(d, m), (.int i, _)] => slD d m (some i) none | _ => none
def gSlH : List DM → Option DM := fun as => match as with | [(d, m), (.int j, _)] => slD d m none (some j) | _ => none
def gSlB : List DM → Option DM := fun as => match as with | [(d, m), (.int i, _), (.int j, _)] => slD d m (some i) (some j) | _ => none
theorem iSl0 : ImpN X (fun vs H Q => match vs with | [x] => rSlAll X.K x none none H Q | _ => True) gSl0 := by
  intro G H as vs d m Q e ra s gv
  unfold gSl0 at e; split at e <;> try (cases e; done)
  obtain ⟨v, rfl, r1⟩ := ra.one
  exact slD_ok e r1 s gv
theorem iSlL : ImpN X (fun vs H Q => match vs with | [x, l] => ∃ i, l = .int i ∧ rSlAll X.K x (some i) none H Q | _ => True) gSlL := by
  intro G H as vs d m Q e ra s gv
  unfold gSlL at e; split at e <;> try (cases e; done)
  obtain ⟨v, w, rfl, r1, r2⟩ := ra.two
  have e2 := r2.isInt s; subst e2
  exact ⟨_, rfl, slD_ok e r1 s gv⟩
theorem iSlH : ImpN X (fun vs H Q => match vs with | [x, u] => ∃ i, u = .int i ∧ rSlAll X.K x none (some i) H Q | _ => True) gSlH := by
  intro G H as vs d m Q e ra s gv
  unfold gSlH at e; split at e <;> try (cases e; done)
  obtain ⟨v, w, rfl, r1, r2⟩ := ra.two
  have e2 := r2.isInt s; subst e2
  exact ⟨_, rfl, slD_ok e r1 s gv⟩
theorem iSlB : ImpN X (fun vs H Q => match vs with | [x, .int i, .int j] => rSlAll X.K x (some i) (some j) H Q | _ => True) gSlB := by
  intro G H as vs d m Q e ra s gv
  unfold gSlB at e; split at e <;> try (cases e; done)
  obtain ⟨v, w, u, rfl, r1, r2, r3⟩ := ra.three
  have e2 := r2.isInt s; subst e2
  have e3 := r3.isInt s; subst e3
  exact slD_ok e r1 s gv
theorem tySlB : ∀ as d, gSlB as = some d → ∃ a i m j m', as = [a, (.int i, m), (.int j, m')] := by
  intro as d e
  unfold gSlB at e; split at e <;> try (cases e; done)
  exact ⟨_, _, _, _, _, rfl⟩
/-! ### max, min, abs, sum, any, all -/
def gMax2 : List DM → Option DM := fun as => match as with | [(.int i, _), (.int j, _)] => some (.int (max i j), .sh) | _ => none
def gMin2 : List DM → Option DM := fun as => match as with | [(.int i, _), (.int j, _)] => some (.int (min i j), .sh) | _ => none
def gAbs : List DM → Option DM := fun as => match as with | [(.int i, _)] => some (.int (if i < 0 then -i else i), .sh) | _ => none
def rMax2 : List V → Hp → VK → Prop := fun xs H Q => ∃ i j, xs = [.int i, .int j] ∧ Q (.int (if j > i then j else i)) H
def rMin2 : List V → Hp → VK → Prop := fun xs H Q => ∃ i j, xs = [.int i, .int j] ∧ Q (.int (if j < i then j else i)) H
def rAbs1 : List V → Hp → VK → Prop := fun xs H Q => ∃ i, xs = [.int i] ∧ Q (.int (if i < 0 then -i else i)) H
theorem iMax2 : ImpN X rMax2 gMax2 := by
  intro G H as vs d m Q e ra s gv
  unfold gMax2 at e; split at e <;> cases e
  obtain ⟨v, w, rfl, r1, r2⟩ := ra.two
  have e1 := r1.isInt s; subst e1
  have e2 := r2.isInt s; subst e2
  refine ⟨_, _, rfl, gv.sh s rfl ?_⟩
  simp only [R]; congr 1; split <;> omega
theorem iMin2 : ImpN X rMin2 gMin2 := by
  intro G H as vs d m Q e ra s gv
  unfold gMin2 at e; split at e <;> cases e
  obtain ⟨v, w, rfl, r1, r2⟩ := ra.two
  have e1 := r1.isInt s; subst e1
  have e2 := r2.isInt s; subst e2
  refine ⟨_, _, rfl, gv.sh s rfl ?_⟩
  simp only [R]; congr 1; split <;> omega
theorem iAbs : ImpN X rAbs1 gAbs := by
  intro G H as vs d m Q e ra s gv
  unfold gAbs at e; split at e <;> cases e
  obtain ⟨v, rfl, r1⟩ := ra.one
  have e1 := r1.isInt s; subst e1
  exact ⟨_, rfl, gv.sh s rfl (by simp [R])⟩
def intsD : List D → Option (List Int)
  | [] => some []
  | .int i :: ds => (intsD ds).map (i :: ·)
  | _ => none
def blsD : List D → Option (List Bool)
  | [] => some []
  | .bl i :: ds => (blsD ds).map (i :: ·)
  | _ => none
def strsD : List D → Option (List (List Nat))
  | [] => some []
  | .str i :: ds => (strsD ds).map (i :: ·)
  | _ => none
theorem intsD_of : ∀ {ds : List D} {ns : List Int}, intsD ds = some ns → ds = ns.map .int
  | [], _, h => by simp [intsD] at h; subst h; rfl
  | d :: ds, ns, h => by
    cases d <;> simp [intsD] at h
    obtain ⟨l, hl, rfl⟩ := h
    rw [intsD_of hl]; rfl
theorem blsD_of : ∀ {ds : List D} {ns : List Bool}, blsD ds = some ns → ds = ns.map .bl
  | [], _, h => by simp [blsD] at h; subst h; rfl
  | d :: ds, ns, h => by
    cases d <;> simp [blsD] at h
    obtain ⟨l, hl, rfl⟩ := h
    rw [blsD_of hl]; rfl
theorem strsD_of : ∀ {ds : List D} {ns : List (List Nat)}, strsD ds = some ns → ds = ns.map .str
  | [], _, h => by simp [strsD] at h; subst h; rfl
  | d :: ds, ns, h => by
    cases d <;> simp [strsD] at h
    obtain ⟨l, hl, rfl⟩ := h
    rw [strsD_of hl]; rfl
theorem intsD_map : ∀ ns : List Int, intsD (ns.map .int) = some ns
  | [] => rfl
  | n :: ns => by simp [intsD, intsD_map ns]
theorem blsD_map : ∀ ns : List Bool, blsD (ns.map .bl) = some ns
  | [] => rfl
  | n :: ns => by simp [blsD, blsD_map ns]
theorem strsD_map : ∀ ns : List (List Nat), strsD (ns.map .str) = some ns
  | [] => rfl
  | n :: ns => by simp [strsD, strsD_map ns]
theorem Rs.ints {K : PySem.W.Frag} {H : Hp} : ∀ {ns : List Int} {vs : List V}, Rs K H (ns.map .int) vs → vs = ns.map V.int
  | [], _, h => by simpa only [List.map_nil, Rs] using h
  | n :: ns, _, h => by
    simp only [List.map_cons, Rs, R] at h
    obtain ⟨v, r, rfl, rfl, h2⟩ := h
    rw [Rs.ints h2]; rfl
theorem Rs.bls {K : PySem.W.Frag} {H : Hp} : ∀ {ns : List Bool} {vs : List V}, Rs K H (ns.map .bl) vs → vs = ns.map V.bl
  | [], _, h => by simpa only [List.map_nil, Rs] using h
  | n :: ns, _, h => by
    simp only [List.map_cons, Rs, R] at h
    obtain ⟨v, r, rfl, rfl, h2⟩ := h
    rw [Rs.bls h2]; rfl
theorem Rs.strs {K : PySem.W.Frag} {H : Hp} : ∀ {ns : List (List Nat)} {vs : List V}, Rs K H (ns.map .str) vs → vs = (ns.map fun s => (⟨s.toArray⟩ : Str)).map V.str
  | [], _, h => by simpa only [List.map_nil, Rs] using h
  | n :: ns, _, h => by
    simp only [List.map_cons, Rs, R] at h
    obtain ⟨v, r, rfl, rfl, h2⟩ := h
    rw [Rs.strs h2]; rfl
def gSum : List DM → Option DM := fun as => match as with
  | [(.lst ds, _)] => match intsD ds with | some ns => some (.int ns.sum, .sh) | none => none
  | _ => none
def gMin1 : List DM → Option DM := fun as => match as with
  | [(.lst ds, _)] => match intsD ds with | some (n :: ns) => some (.int (ns.foldl min n), .sh) | _ => none
  | _ => none
def gMax1 : List DM → Option DM := fun as => match as with
  | [(.lst ds, _)] => match intsD ds with | some (n :: ns) => some (.int (ns.foldl max n), .sh) | _ => none
  | _ => none
def gAny : List DM → Option DM := fun as => match as with
  | [(.lst ds, _)] => match blsD ds with | some ns => some (.bl (ns.any id), .sh) | none => none
  | _ => none
def gAll : List DM → Option DM := fun as => match as with
  | [(.lst ds, _)] => match blsD ds with | some ns => some (.bl (ns.all id), .sh) | none => none
  | _ => none
theorem iSum : ImpN X (rSum X.K) gSum := by
  intro G H as vs d m Q e ra s gv
  unfold gSum at e; split at e <;> try (cases e; done)
  split at e <;> cases e
  rename_i ds m1 ns hn
  obtain ⟨v, rfl, r1⟩ := ra.one
  obtain ⟨a, xs, rfl, ha, rs, _⟩ := r1.items s
  rw [intsD_of hn] at rs
  exact ⟨a, ns, rfl, .inl (.inl (by rw [ha, rs.ints])), gv.sh s rfl (by simp [R])⟩
theorem iAny : ImpN X (rAny X.K) gAny := by
  intro G H as vs d m Q e ra s gv
  unfold gAny at e; split at e <;> try (cases e; done)
  split at e <;> cases e
  rename_i ds m1 ns hn
  obtain ⟨v, rfl, r1⟩ := ra.one
  obtain ⟨a, xs, rfl, ha, rs, _⟩ := r1.items s
  rw [blsD_of hn] at rs
  exact ⟨a, ns, rfl, .inl (.inl (by rw [ha, rs.bls])), gv.sh s rfl (by simp [R])⟩
theorem iAll : ImpN X (rAll X.K) gAll := by
  intro G H as vs d m Q e ra s gv
  unfold gAll at e; split at e <;> try (cases e; done)
  split at e <;> cases e
  rename_i ds m1 ns hn
  obtain ⟨v, rfl, r1⟩ := ra.one
  obtain ⟨a, xs, rfl, ha, rs, _⟩ := r1.items s
  rw [blsD_of hn] at rs
  exact ⟨a, ns, rfl, .inl (.inl (by rw [ha, rs.bls])), gv.sh s rfl (by simp [R])⟩
theorem foldl_min_le : ∀ (ns : List Int) (n : Int), ns.foldl min n ≤ n ∧ ∀ x ∈ ns, ns.foldl min n ≤ x
  | [], n => ⟨Int.le_refl n, by simp⟩
  | a :: ns, n => by
    obtain ⟨h1, h2⟩ := foldl_min_le ns (min n a)
    simp only [List.foldl_cons]
    refine ⟨by omega, fun x hx => ?_⟩
    rcases List.mem_cons.mp hx with rfl | hx
    · omega
    · exact h2 x hx
theorem foldl_min_mem : ∀ (ns : List Int) (n : Int), ns.foldl min n ∈ n :: ns
  | [], n => by simp
  | a :: ns, n => by
    have := foldl_min_mem ns (min n a)
    simp only [List.foldl_cons, List.mem_cons] at this ⊢
    rcases this with h | h
    · rw [h]; by_cases c : n ≤ a
      · left; omega
      · right; left; omega
    · right; right; exact h
theorem foldl_max_ge : ∀ (ns : List Int) (n : Int), n ≤ ns.foldl max n ∧ ∀ x ∈ ns, x ≤ ns.foldl max n
  | [], n => ⟨Int.le_refl n, by simp⟩
  | a :: ns, n => by
    obtain ⟨h1, h2⟩ := foldl_max_ge ns (max n a)
    simp only [List.foldl_cons]
    refine ⟨by omega, fun x hx => ?_⟩
    rcases List.mem_cons.mp hx with rfl | hx
    · omega
    · exact h2 x hx
theorem foldl_max_mem : ∀ (ns : List Int) (n : Int), ns.foldl max n ∈ n :: ns
  | [], n => by simp
  | a :: ns, n => by
    have := foldl_max_mem ns (max n a)
    simp only [List.foldl_cons, List.mem_cons] at this ⊢
    rcases this with h | h
    · rw [h]; by_cases c : n ≤ a
      · right; left; omega
      · left; omega
    · right; right; exact h
theorem iMin1 : ImpN X (rMin X.K) gMin1 := by
  intro G H as vs d m Q e ra s gv
  unfold gMin1 at e; split at e <;> try (cases e; done)
  split at e <;> cases e
  rename_i ds m1 n ns hn
  obtain ⟨v, rfl, r1⟩ := ra.one
  obtain ⟨a, xs, rfl, ha, rs, _⟩ := r1.items s
  rw [intsD_of hn] at rs
  refine ⟨a, n :: ns, rfl, .inl (.inl (by rw [ha, rs.ints])), by simp, fun z hz hl => gv.sh s rfl ?_⟩
  simp only [R]; congr 1
  have h1 := foldl_min_le ns n
  have h2 := foldl_min_mem ns n
  have h3 := hl _ h2
  rcases List.mem_cons.mp hz with rfl | hz
  · omega
  · have := h1.2 z hz; omega
theorem iMax1 : ImpN X (rMax X.K) gMax1 := by
  intro G H as vs d m Q e ra s gv
  unfold gMax1 at e; split at e <;> try (cases e; done)
  split at e <;> cases e
  rename_i ds m1 n ns hn
  obtain ⟨v, rfl, r1⟩ := ra.one
  obtain ⟨a, xs, rfl, ha, rs, _⟩ := r1.items s
  rw [intsD_of hn] at rs
  refine ⟨a, n :: ns, rfl, .inl (.inl (by rw [ha, rs.ints])), by simp, fun z hz hl => gv.sh s rfl ?_⟩
  simp only [R]; congr 1
  have h1 := foldl_max_ge ns n
  have h2 := foldl_max_mem ns n
  have h3 := hl _ h2
  rcases List.mem_cons.mp hz with rfl | hz
  · omega
  · have := h1.2 z hz; omega
end
end SW
namespace SW
open PySem PySem.Spec PyProof.Rows L2

/-! ### slices with a written step -/
def stepL {α : Type} (l : List α) (k : Int) : List α := (sliceRange (if k > 0 then 0 else (l.length : Int) - 1) (if k > 0 then (l.length : Int) else -1) k).filterMap fun i => l[i]?
def tStep (K : PySem.W.Frag) (k : Int) (te : TE) : TE := fun σ H Q => te σ H fun x H1 => (∃ a xs, x = .ref a ∧ SqL K H1 a xs ∧ (stepL xs k).length ≤ sizeLine ∧ ∀ p, H1 p = none → Q (.ref p) (upd H1 p (.lst (stepL xs k)))) ∨
  (∃ z : Str, x = .str z ∧ k ≠ 1 ∧ (stepL z.cps.toList k).length ≤ sizeLine ∧ Q (.str ⟨(stepL z.cps.toList k).toArray⟩) H1)
theorem Vals.filterMap {xs : List V} {us : List Value} (r : Vals xs us) : ∀ (is : List Nat), Vals (is.filterMap fun i => xs[i]?) (is.filterMap fun i => us[i]?)
  | [] => .nil
  | i :: is => by
    have ih := Vals.filterMap r is
    by_cases h : i < xs.length
    · have h' : i < us.length := by rw [← r.length]; exact h
      obtain ⟨u, hu, ru⟩ := r.get (List.getElem?_eq_getElem h)
      rw [List.filterMap_cons, List.filterMap_cons, List.getElem?_eq_getElem h, hu]
      exact .cons ru ih
    · have h' : ¬ i < us.length := by rw [← r.length]; exact h
      rw [List.filterMap_cons, List.filterMap_cons, List.getElem?_eq_none (by omega), List.getElem?_eq_none (by omega)]
      exact ih
theorem pe_step {X : Cx} {e se : Expr} {te : TE} {k : Int} {p3 pos : Pos} (hk : k ≠ 0) (hse : PE X se (tC (.int k))) (he : PE X e te) : PE X (.Subscript e (.Slice none none (some se) p3) pos) (tStep X.K k te) := by
  refine ⟨fun pins s σ H Q I h => ?_⟩
  refine Subscript_ (thn (he.run pins s σ H _ I h) fun v s1 ⟨x, H1, I1, r1, q1⟩ => ?_)
  have hst : PO X (some se) (tPart (tC (.int k))) := po_some hse
  refine wpAny_Slice (thn (po_none.run pins s1 σ H1 (fun o H2 => o = none ∧ H2 = H1) I1 ⟨rfl, rfl⟩) fun vl s2 ⟨l, H2, I2, pl, el, e2⟩ => ?_)
  subst el e2
  refine thn (po_none.run pins s2 σ H2 (fun o H3 => o = none ∧ H3 = H2) I2 ⟨rfl, rfl⟩) fun vu s3 ⟨u, H3, I3, pu, eu, e3⟩ => ?_
  subst eu e3
  refine thn (hst.run pins s3 σ H3 (fun o H4 => o = some k ∧ H4 = H3) I3 ⟨k, rfl, rfl, rfl⟩) fun vs s4 ⟨o, H4, I4, ps, eo, e4⟩ => ?_
  subst eo e4
  have I5 : Inv X pins σ H4 { s4 with heap := s4.heap.push { cls := .type "slice", data := .fields #[vl, vu, vs] } } := I4.kept (t' := s4.toks) fun b ob q => Heap.get?_push_of_some _ q
  rcases q1 with ⟨a, xs, ex, hx, hz1, q⟩ | ⟨z, ex, hk1, hz1, q⟩
  · subst ex
    cases r1
    obtain ⟨its, r, ht, hz⟩ := I5.list hx
    have hlen := r.length
    show wpAny (model X.prog X.w) X.A (subscriptTail e (.Slice none none (some se) p3) (.ref a) (.ref s4.heap.objs.size)) (EP X pins σ Q) X.xe { s4 with heap := s4.heap.push { cls := .type "slice", data := .fields #[vl, vu, vs] } }
    refine tail_any (ops := [.ref a, .ref s4.heap.objs.size]) ht.isList.typeIs (PySem.slot_list_getitem.lookup) ?_ (by with_unfolding_all rfl)
    refine wpAny_getItem_list_slice ht.isList (Heap.IsSliceOf.new _ vl vu vs) pl pu ps (fun h => hk (Option.some.inj h)) ?_ (by rw [List.size_toArray]; omega)
    have ep : slicePick its.toArray none none (some k) = (stepL its k).toArray := by
      unfold slicePick stepL sliceBounds
      rw [List.size_toArray]
      by_cases c : k > 0
      · have c1 : ¬ k < 0 := by omega
        simp [c, c1]
      · have c1 : k < 0 := by omega
        simp [c, c1]
    rw [ep]
    have hv : Vals (stepL xs k) (stepL its k) := by
      unfold stepL
      rw [← hlen]
      exact Vals.filterMap r _
    refine ⟨.ref _, _, I5.laid (t' := s4.toks) (o := .lst (stepL xs k)) (fun b ob q => Heap.get?_push_of_some _ q) (Nat.le_refl _) ?_, rfl, q _ (I5.hok.fresh (Nat.le_refl _))⟩
    exact ⟨hz1, _, 0, hv, Heap.get?_push_size _ rfl⟩
  · subst ex
    obtain ⟨t, rfl⟩ := r1
    obtain ⟨ll, e1, e2⟩ := IsPart.raw pl
    obtain ⟨lu, e3, e4⟩ := IsPart.raw pu
    obtain ⟨ls, e5, e6⟩ := IsPart.raw ps
    subst e1; subst e3; subst e5
    have hls : (ls.map (·.1)).getD 1 = k := by rw [e6]; rfl
    show wpAny (model X.prog X.w) X.A (subscriptTail e (.Slice none none (some se) p3) (.str z t) (.ref s4.heap.objs.size)) (EP X pins σ Q) X.xe _
    refine tail_any (ops := [.str z t, .ref s4.heap.objs.size]) (typeIs_str _ z t) (F.slot_str_getitem.lookup) ?_ (by with_unfolding_all rfl)
    refine wpAny_getItem_str_slice (l := ll) (u := lu) (st := ls) (Heap.IsSliceOf.new _ _ _ _) (by rw [hls]; simp [hk]) ?_
    unfold sliceMade
    rw [hls]
    have hk1' : (k == 1) = false := by simpa using hk1
    rw [hk1', Bool.false_and, if_neg (by simp)]
    have ep : ((slicePicked z ll lu ls).filterMap (z.cps[·]?)) = stepL z.cps.toList k := by
      unfold slicePicked stepL Builtin.Str.strSliceIndices
      rw [e2, e4, hls]
      simp [Str.length]
    rw [ep]
    refine ⟨?_, ⟨.str _, H4, I5.tok _, ⟨_, rfl⟩, q⟩⟩
    show ((stepL z.cps.toList k).toArray).size ≤ sizeLine
    rw [List.size_toArray]; exact hz1
def gStep (k : Int) : List DM → Option DM := fun as => match as with
  | [(.lst ds, m)] => if (stepL ds k).length ≤ SZ then newLst (stepL ds k) (isSh m) else none
  | [(.str s, _)] => if k ≠ 1 ∧ (stepL s k).length ≤ SZ then some (.str (stepL s k), .sh) else none
  | _ => none
theorem Rs.filterMap {K : PySem.W.Frag} {H : Hp} {ds : List D} {vs : List V} (r : Rs K H ds vs) : ∀ (is : List Nat), Rs K H (is.filterMap fun i => ds[i]?) (is.filterMap fun i => vs[i]?)
  | [] => by simp [Rs]
  | i :: is => by
    have ih := Rs.filterMap r is
    by_cases h : i < ds.length
    · obtain ⟨u, hu, ru⟩ := r.get (List.getElem?_eq_getElem h)
      rw [List.filterMap_cons, List.filterMap_cons, List.getElem?_eq_getElem h, hu]
      exact Rs.cons ru ih
    · rw [List.filterMap_cons, List.filterMap_cons, List.getElem?_eq_none (by omega), List.getElem?_eq_none (by rw [← r.length]; omega)]
      exact ih
theorem Rs.step {K : PySem.W.Frag} {H : Hp} {ds : List D} {vs : List V} (r : Rs K H ds vs) (k : Int) : Rs K H (stepL ds k) (stepL vs k) := by
  unfold stepL; rw [← r.length]; exact r.filterMap _
theorem px_step {X : Cx} {e se : Expr} {x : Ex} {k : Int} {p3 pos : Pos} (hk : k ≠ 0) (hse : PE X se (tC (.int k))) (he : PE X e (tX X.K x)) : PE X (.Subscript e (.Slice none none (some se) p3) pos) (tX X.K (.pr (gStep k) [x])) := by
  refine (pe_step hk hse he).imp fun σ H Q h => ?_
  have hi : ImpN X (fun vs H1 Q => match vs with | [x] => (∃ a xs, x = .ref a ∧ SqL X.K H1 a xs ∧ (stepL xs k).length ≤ sizeLine ∧ ∀ p, H1 p = none → Q (.ref p) (upd H1 p (.lst (stepL xs k)))) ∨
      (∃ z : Str, x = .str z ∧ k ≠ 1 ∧ (stepL z.cps.toList k).length ≤ sizeLine ∧ Q (.str ⟨(stepL z.cps.toList k).toArray⟩) H1) | _ => True) (gStep k) := by
    intro G H as vs d m Q e ra s gv
    unfold gStep at e
    split at e <;> try (cases e; done)
    · split at e <;> try (cases e; done)
      rename_i hz
      obtain ⟨v, rfl, r1⟩ := ra.one
      obtain ⟨a, xs, rfl, ha, rs, rg⟩ := r1.items s
      exact .inl ⟨a, xs, rfl, .inl (.inl ha), by rw [← (rs.step k).length, ← SZ_eq]; exact hz, gv.newL e s (rs.step k) fun h => (rg h).step k⟩
    · split at e <;> cases e
      rename_i hz
      obtain ⟨v, rfl, r1⟩ := ra.one
      have e1 := r1.isStr s; subst e1
      exact .inr ⟨_, rfl, hz.1, by rw [← SZ_eq]; exact hz.2, gv.sh s rfl (by simp [R])⟩
  exact tX_mono (tAR_cons (hi.pr h)) fun _ _ q => tAR_nil q
theorem pe_m1 {X : Cx} {p1 p2 : Pos} {j : Nat} {i : Int} : PE X (.UnaryOp .USub (.Constant (.int i) j p1) p2) (tC (.int (-i))) := (pe_un un_neg pe_int).imp fun σ H Q h => ⟨i, rfl, h⟩
theorem px_negc {X : Cx} {p1 p2 : Pos} {j : Nat} {i : Int} : PE X (.UnaryOp .USub (.Constant (.int i) j p1) p2) (tX X.K (.lit (.int (-i)))) := px_lit pe_m1 fun _ => by simp [R]

section
variable {X : Cx}
/-! ### in -/
def vOf : D → V
  | .non => .non | .bl b => .bl b | .int i => .int i | .str s => .str ⟨s.toArray⟩ | _ => .non
def flD : D → Bool
  | .non => true | .bl _ => true | .int _ => true | .str _ => true | _ => false
theorem flD_v {K : PySem.W.Frag} {H : Hp} {d : D} {v : V} (f : flD d = true) (r : R K H d v) : v = vOf d ∧ flatV v = true := by
  cases d <;> simp [flD] at f <;> (simp only [R] at r; subst r; exact ⟨rfl, rfl⟩)
theorem flD_vs {K : PySem.W.Frag} {H : Hp} : ∀ {ds : List D} {vs : List V}, ds.all flD = true → Rs K H ds vs → vs = ds.map vOf ∧ vs.all flatV = true
  | [], _, _, r => by simp only [Rs] at r; subst r; exact ⟨rfl, rfl⟩
  | d :: ds, _, f, r => by
    rw [List.all_cons, Bool.and_eq_true] at f
    simp only [Rs] at r
    obtain ⟨v, t, rfl, h1, h2⟩ := r
    obtain ⟨rfl, f1⟩ := flD_v f.1 h1
    obtain ⟨rfl, f2⟩ := flD_vs f.2 h2
    exact ⟨rfl, by rw [List.all_cons, f1, f2]; rfl⟩
def rInAll (K : PySem.W.Frag) (neg : Bool) : R2 := fun x y H Q => (∃ (c : Nat) (z : Str), x = .str ⟨#[c]⟩ ∧ y = .str z ∧ Q (.bl (if neg then !decide (c ∈ z.cps.toList) else decide (c ∈ z.cps.toList))) H) ∨ rIn K neg x y H Q
theorem op_inAll : OpR X (compareOp .In) (rInAll X.K false) := OpR.or op_in_sign op_in_seq
theorem op_ninAll : OpR X (compareOp .NotIn) (rInAll X.K true) := OpR.or op_notIn_sign op_notIn_seq
def inD (x : D) (ds : List D) : Bool := inV (vOf x) (ds.map vOf)
def gInN (neg : Bool) : List DM → Option DM := fun as => match as with
  | [(.str [c], _), (.str z, _)] => some (.bl (if neg then !decide (c ∈ z) else decide (c ∈ z)), .sh)
  | [(x, _), (.lst ds, _)] => if flD x && ds.all flD then some (.bl (if neg then !inD x ds else inD x ds), .sh) else none
  | [(x, _), (.tup ds, _)] => if flD x && ds.all flD then some (.bl (if neg then !inD x ds else inD x ds), .sh) else none
  | _ => none
theorem iInN (neg : Bool) : ImpN X (r2N (rInAll X.K neg)) (gInN neg) := by
  intro G H as vs d m Q e ra s gv
  unfold gInN at e
  split at e <;> try (cases e; done)
  · cases e
    obtain ⟨v, w, rfl, r1, r2⟩ := ra.two
    have e1 := r1.isStr s; subst e1
    have e2 := r2.isStr s; subst e2
    exact .inl ⟨_, _, rfl, rfl, gv.sh s rfl (by simp [R])⟩
  · split at e <;> cases e
    rename_i hf
    simp only [Bool.and_eq_true] at hf
    obtain ⟨v, w, rfl, r1, r2⟩ := ra.two
    obtain ⟨rfl, f1⟩ := flD_v hf.1 (r1.r s)
    obtain ⟨a, xs, rfl, ha, rs, _⟩ := r2.items s
    obtain ⟨rfl, f2⟩ := flD_vs hf.2 rs
    exact .inr ⟨a, _, rfl, .inl (.inl (.inl ha)), f1, f2, gv.sh s rfl (by simp [R, inD])⟩
  · split at e <;> cases e
    rename_i hf
    simp only [Bool.and_eq_true] at hf
    obtain ⟨v, w, rfl, r1, r2⟩ := ra.two
    obtain ⟨rfl, f1⟩ := flD_v hf.1 (r1.r s)
    obtain ⟨a, xs, rfl, ha, rs, _⟩ := rd_item s r2
    obtain ⟨rfl, f2⟩ := flD_vs hf.2 rs
    exact .inr ⟨a, _, rfl, .inr (.inl (.inl ha)), f1, f2, gv.sh s rfl (by simp [R, inD])⟩
/-! ### texts -/
/-- the first place from i on -/
def idxFrom (c : Nat) : List Nat → Nat → Option Nat
  | [], _ => none
  | x :: r, i => if x = c then some i else idxFrom c r (i + 1)
def optI : Option Nat → Int
  | some i => i
  | none => -1
def fndD (s : List Nat) (c : Nat) (p : Nat) : Int := optI (idxFrom c (s.drop p) p)
theorem at_one {s : List Nat} {c i : Nat} : PySem.StrLaws.At (⟨s.toArray⟩ : Str) ⟨#[c]⟩ s.length i ↔ s[i]? = some c := by
  have h := TL.at_iff (x := (⟨s.toArray⟩ : Str)) (y := ⟨#[c]⟩) (by simp [TL.tl]) i
  rw [str_len] at h
  rw [h]
  unfold TL.pre TL.tl
  simp
  cases hd : s.drop i with
  | nil =>
    have : s.length ≤ i := by simpa using hd
    rw [List.getElem?_eq_none this]; simp
  | cons x r =>
    have : s[i]? = some x := by
      have h2 : (s.drop i)[0]? = some x := by rw [hd]; rfl
      rw [List.getElem?_drop] at h2; simpa using h2
    rw [this]; simp
theorem idxFrom_none {c : Nat} : ∀ {l : List Nat} {i : Nat}, idxFrom c l i = none ↔ c ∉ l
  | [], i => by simp [idxFrom]
  | x :: l, i => by
    simp only [idxFrom, List.mem_cons, not_or]
    by_cases h : x = c
    · simp [h]
    · rw [if_neg h, idxFrom_none]; constructor
      · exact fun h2 => ⟨fun z => h z.symm, h2⟩
      · exact fun h2 => h2.2
theorem idxFrom_some {c : Nat} : ∀ {l : List Nat} {i j : Nat}, idxFrom c l i = some j ↔ i ≤ j ∧ l[j - i]? = some c ∧ ∀ k, k < j - i → l[k]? ≠ some c
  | [], i, j => by simp [idxFrom]
  | x :: l, i, j => by
    simp only [idxFrom]
    by_cases h : x = c
    · rw [if_pos h]
      subst h
      constructor
      · intro e; cases e; simp
      · rintro ⟨h1, h2, h3⟩
        by_cases e : j = i
        · rw [e]
        · exact absurd (by simp) (h3 0 (by omega))
    · rw [if_neg h, idxFrom_some]
      constructor
      · rintro ⟨h1, h2, h3⟩
        refine ⟨by omega, ?_, fun k hk => ?_⟩
        · have : j - i = (j - (i + 1)) + 1 := by omega
          rw [this, List.getElem?_cons_succ]; exact h2
        · cases k with
          | zero => simpa using h
          | succ k => rw [List.getElem?_cons_succ]; exact h3 k (by omega)
      · rintro ⟨h1, h2, h3⟩
        by_cases e : j = i
        · subst e; simp at h2; exact absurd h2 h
        · have : j - i = (j - (i + 1)) + 1 := by omega
          rw [this, List.getElem?_cons_succ] at h2
          refine ⟨by omega, h2, fun k hk => ?_⟩
          have := h3 (k + 1) (by omega)
          rwa [List.getElem?_cons_succ] at this
theorem find3_one {s : List Nat} {c p : Nat} : Txt.find3 (⟨s.toArray⟩ : Str) ⟨#[c]⟩ (p : Int) = fndD s c p := by
  unfold Txt.find3 fndD
  have hf : PySem.fromIndex (⟨s.toArray⟩ : Str).length (p : Int) = p := by
    unfold PySem.fromIndex
    rw [if_neg (by omega)]; omega
  rw [hf, str_len, PySem.StrLaws.occ_eq]
  have hr : ∀ i ∈ List.range' p (s.length + 1 - p), p ≤ i := fun i hi => (List.mem_range'_1.mp hi).1
  rcases PySem.StrLaws.occ_first (⟨s.toArray⟩ : Str) ⟨#[c]⟩ s.length 1 (Nat.le_refl 1) (List.range' p (s.length + 1 - p)) p hr with ⟨h0, hn⟩ | ⟨pre, a, post, e, h0, ha, hn⟩
  · rw [h0]
    have : idxFrom c (s.drop p) p = none := by
      rw [idxFrom_none]
      intro hm
      obtain ⟨k, hk, ek⟩ := List.getElem_of_mem hm
      rw [List.length_drop] at hk
      rw [List.getElem_drop] at ek
      refine hn (p + k) (by rw [List.mem_range'_1]; omega) (at_one.mpr ?_)
      rw [List.getElem?_eq_getElem (by omega), ek]
    rw [this]; rfl
  · have hL : ∀ arr : Array Nat, arr[0]? = some a → (match arr.toList with | k :: _ => (k : Int) | [] => -1) = (a : Int) := by
      intro arr h
      have h1 : arr.toList[0]? = some a := by simpa using h
      cases hl : arr.toList with
      | nil => rw [hl] at h1; cases h1
      | cons b t => rw [hl] at h1; simp at h1; rw [h1]
    refine Eq.trans (hL _ h0) ?_
    have hpre : ∀ k, p ≤ k → k < a → k ∈ pre := by
      intro k hk hka
      have hlen : pre.length = a - p := by
        have h1 : (List.range' p (s.length + 1 - p))[pre.length]? = some a := by rw [e]; simp
        have hb : pre.length < s.length + 1 - p := by
          have := congrArg List.length e
          simp at this; omega
        rw [List.getElem?_range' hb] at h1
        have := Option.some.inj h1
        omega
      have h2 : (List.range' p (s.length + 1 - p))[k - p]? = pre[k - p]? := by rw [e, List.getElem?_append_left (by omega)]
      have hb : k - p < s.length + 1 - p := by
        have := congrArg List.length e
        simp at this; omega
      rw [List.getElem?_range' hb] at h2
      have : pre[k - p]? = some k := by rw [← h2]; congr 1; omega
      exact List.mem_of_getElem? this
    have hpa : p ≤ a := hr a (by rw [e]; simp)
    have : idxFrom c (s.drop p) p = some a := by
      rw [idxFrom_some]
      refine ⟨hpa, ?_, fun k hk => ?_⟩
      · rw [List.getElem?_drop]
        have := at_one.mp ha
        rw [← this]; congr 1; omega
      · rw [List.getElem?_drop]
        intro h
        exact hn (p + k) (hpre _ (by omega) (by omega)) (at_one.mpr h)
    rw [this]; rfl
def gFind2 : List DM → Option DM := fun as => match as with
  | [(.str s, _), (.str [c], _), (.int p, _)] => if 0 ≤ p then some (.int (fndD s c p.toNat), .sh) else none
  | _ => none
def rFind3 : V → List V → Hp → VK → Prop := fun x xs H Q => ∃ (a b : Str) (i : Int), x = .str a ∧ xs = [.str b, .int i] ∧ Q (.int (Txt.find3 a b i)) H
theorem iFind2 : ImpN X (fun vs H Q => match vs with | v :: ws => rFind3 v ws H Q | [] => True) gFind2 := by
  intro G H as vs d m Q e ra s gv
  unfold gFind2 at e
  split at e <;> try (cases e; done)
  split at e <;> cases e
  rename_i hp
  obtain ⟨v, w, u, rfl, r1, r2, r3⟩ := ra.three
  have e1 := r1.isStr s; subst e1
  have e2 := r2.isStr s; subst e2
  have e3 := r3.isInt s; subst e3
  refine ⟨_, _, _, rfl, rfl, gv.sh s rfl ?_⟩
  simp only [R]
  congr 1
  rename_i z c m1 m2 p m3
  rw [← find3_one]
  congr 1
  omega
theorem tyStr {K : PySem.W.Frag} {s : List Nat} {H : Hp} {v : V} (r : R K H (.str s) v) : tyV K "str" v H := by
  simp only [R] at r; subst r; exact rfl
theorem tyFind2 : ∀ as d, gFind2 as = some d → ∃ a r, as = a :: r ∧ ∀ H v, R X.K H a.1 v → tyV X.K "str" v H := by
  intro as d e
  unfold gFind2 at e
  split at e <;> try (cases e; done)
  exact ⟨_, _, rfl, fun H v r => tyStr r⟩
/-! ### list(..) -/
def keyToD : Key → D
  | .inl i => .int i
  | .inr x => .str x.cps.toList
def rListAll (K : PySem.W.Frag) : List V → Hp → VK → Prop := fun xs H Q => (∃ p ys, xs = [.ref p] ∧ (SqL K H p ys ∨ SqT K H p ys) ∧ ∀ l, H l = none → Q (.ref l) (upd H l (.lst ys))) ∨ rListD xs H Q
theorem call_listAll (hc : X.calm = true) : CallR X (.type "list") (rListAll X.K) := CallR.or call_list_of (call_list_dK hc)
def gList : List DM → Option DM := fun as => match as with
  | [(.lst ds, m)] => newLst ds (isSh m)
  | [(.tup ds, m)] => newLst ds (isSh m)
  | [(.dK ks ds, _)] => if ks.length = ds.length then newLst (ks.map keyToD) false else none
  | _ => none
theorem R_key {K : PySem.W.Frag} {H : Hp} (k : Key) : R K H (keyToD k) (kV k) := by
  cases k with
  | inl i => simp [keyToD, kV, R]
  | inr x => simp [keyToD, kV, R]
theorem Rs_keys {K : PySem.W.Frag} {H : Hp} : ∀ ks : List Key, Rs K H (ks.map keyToD) (ks.map kV)
  | [] => by simp [Rs]
  | k :: ks => Rs.cons (R_key k) (Rs_keys ks)
theorem iList : ImpN X (rListAll X.K) gList := by
  intro G H as vs d m Q e ra s gv
  unfold gList at e
  split at e <;> try (cases e; done)
  · obtain ⟨v, rfl, r1⟩ := ra.one
    obtain ⟨a, xs, rfl, ha, rs, rg⟩ := r1.items s
    exact .inl ⟨a, xs, rfl, .inl (.inl (.inl ha)), gv.newL e s rs rg⟩
  · obtain ⟨v, rfl, r1⟩ := ra.one
    obtain ⟨a, xs, rfl, ha, rs, rg⟩ := rd_item s r1
    exact .inl ⟨a, xs, rfl, .inr (.inl (.inl ha)), gv.newL e s rs rg⟩
  · split at e <;> try (cases e; done)
    rename_i hl
    obtain ⟨v, rfl, r1⟩ := ra.one
    have r := r1.r s
    simp only [R] at r
    obtain ⟨a, es, rfl, ha, h2, rs⟩ := r
    refine .inr ⟨a, _, rfl, ha, ?_⟩
    have e2 : ∀ (ks : List Key) (es : List V), ks.length = es.length → (ks.zip es).map (fun kv => kV kv.1) = ks.map kV := by
      intro ks
      induction ks with
      | nil => intro es h; rfl
      | cons k ks ih => intro es h; cases es with
        | nil => cases h
        | cons x es => simp only [List.zip_cons_cons, List.map_cons]; rw [ih es (by simpa using h)]
    rw [e2 _ _ h2]
    exact gv.newL e s (Rs_keys _) (fun h => by cases h)
/-! ### isinstance -/
def tyD : D → Option String
  | .non => some "NoneType" | .bl _ => some "bool" | .int _ => some "int" | .str _ => some "str" | .lst _ => some "list" | .tup _ => some "tuple" | .dK _ _ => some "dict" | .dT _ _ => some "dict" | _ => none
def tyList : List String := ["int", "bool", "str", "list", "tuple"]
def isiT (t T : String) : Bool := t == T || (t == "bool" && T == "int")
def gIsi : List DM → Option DM := fun as => match as with
  | [(d, _), (.raw (.ty T), _)] => match tyD d with
    | some t => if tyList.contains T then some (.bl (isiT t T), .sh) else none
    | none => none
  | _ => none
theorem kit_all : ∀ t ∈ ["NoneType", "bool", "int", "str", "list", "tuple", "dict"], ∀ T ∈ tyList, kitB t T = some (isiT t T) := by decide +kernel
theorem R.ty {K : PySem.W.Frag} {H : Hp} {d : D} {v : V} {t : String} (r : R K H d v) (e : tyD d = some t) : TyX K H v (.type t) ∧ t ∈ ["NoneType", "bool", "int", "str", "list", "tuple", "dict"] := by
  cases d <;> simp [tyD] at e <;> subst e <;> simp only [R] at r
  · subst r; exact ⟨.base .non, by simp⟩
  · subst r; exact ⟨.base (.bl _), by simp⟩
  · subst r; exact ⟨.base (.int _), by simp⟩
  · subst r; exact ⟨.base (.str _), by simp⟩
  · obtain ⟨a, xs, rfl, e, _⟩ := r; exact ⟨.base (.lst e), by simp⟩
  · obtain ⟨a, xs, rfl, e, _⟩ := r; exact ⟨.base (.tup e), by simp⟩
  · obtain ⟨a, xs, rfl, e, _⟩ := r; exact ⟨.base (.dK e), by simp⟩
  · obtain ⟨a, xs, rfl, e, _⟩ := r; exact ⟨.base (.dT e), by simp⟩
theorem iIsi : ImpN X (rIsi X.K) gIsi := by
  intro G H as vs d m Q e ra s gv
  unfold gIsi at e
  split at e <;> try (cases e; done)
  split at e <;> try (cases e; done)
  split at e <;> cases e
  rename_i t ht hT
  obtain ⟨v, w, rfl, r1, r2⟩ := ra.two
  have e2 := r2.r s
  simp only [R] at e2; subst e2
  obtain ⟨ty, hm⟩ := R.ty (r1.r s) ht
  exact ⟨v, _, _, _, _, rfl, .ty _, ty, kit_ty (kit_all t hm _ (by simpa using hT)), gv.sh s rfl (by simp [R])⟩
/-- a built-in class as a value -/
theorem px_ty {x : Str} {T : String} {pos : Pos} (hg : Gl X x) (hm : X.mg x = none) (hv : bootBuiltins x = some (.type T)) (hn : x ≠ "__name__" := by decide) (hd : (x == ("__debug__" : Str)) = false := by decide) : PE X (.Name x pos) (tX X.K (.lit (.raw (.ty T)))) :=
  px_lit (pe_bltn (v := .ty T) hg hm hv rfl hn hd) fun _ => by simp [R]
end
end SW
namespace SW
open PySem PySem.Spec PyProof.Rows L2

/-! ### sorted -/
def dle (d e : D) : Bool := PySem.W.dataLe false toPy d e
def alkA (l : List PyData) : Bool := l.all fun a => l.all fun b => PySem.W.alike a b
def sokA (l : List PyData) : Bool := (l.all fun a => match a with | .tuple (_ :: _) => true | _ => false) || (l.all fun a => match a with | .none => false | .tuple _ => false | _ => true)
def srtOk (ds : List D) : Bool := pyOks ds && alkA (ds.map toPy) && sokA (ds.map toPy) && ds.all fun d => decide ((toPy d).depth ≤ 64)
theorem alkA_of {l : List PyData} (h : alkA l = true) : PySem.W.AllAlike l := fun d hd e he => by
  unfold alkA at h
  rw [List.all_eq_true] at h
  have := h d hd
  rw [List.all_eq_true] at this
  exact this e he
theorem sokA_of {l : List PyData} (h : sokA l = true) : PySem.W.Sortable l := by
  unfold sokA at h
  rw [Bool.or_eq_true, List.all_eq_true, List.all_eq_true] at h
  rcases h with h | h
  · left
    intro d hd
    have := h d hd
    split at this
    · exact ⟨_, _, rfl⟩
    · cases this
  · right
    intro d hd
    have := h d hd
    refine ⟨fun e => ?_, fun xs e => ?_⟩ <;> (subst e; simp at this)
def rSortD (K : PySem.W.Frag) : List V → Hp → VK → Prop := fun vs H Q => ∃ a xs ds, vs = [.ref a] ∧ H a = some (.lst xs) ∧ Rs K H ds xs ∧ srtOk ds = true ∧ xs.length ≤ sizeLine ∧
  ∀ p, H p = none → Q (.ref p) (upd H p (.lst (((xs.zip ds).mergeSort fun a b => dle a.2 b.2).map (·.1))))
theorem zip_snd {α β : Type} : ∀ {xs : List α} {ds : List β}, ds.length = xs.length → (xs.zip ds).map (·.2) = ds
  | [], [], _ => rfl
  | x :: xs, d :: ds, h => by simp only [List.zip_cons_cons, List.map_cons]; rw [zip_snd (by simpa using h)]
  | [], d :: ds, h => by simp at h
  | x :: xs, [], h => by simp at h
theorem each_zip {K : PySem.W.Frag} {H : Hp} : ∀ {ds : List D} {xs : List V} {us : List Value}, Rs K H ds xs → Vals xs us → PySem.W.EachIs (fun v (b : V × D) => RelV b.1 v ∧ R K H b.2 b.1) us (xs.zip ds)
  | [], _, _, h, r => by simp only [Rs] at h; subst h; cases r; exact .nil
  | d :: ds, _, _, h, r => by
    simp only [Rs] at h
    obtain ⟨v, t, rfl, h1, h2⟩ := h
    cases r with
    | cons r1 r2 => exact .cons ⟨r1, h1⟩ (each_zip h2 r2)
theorem each_imp {α β : Type} {P Q : α → β → Prop} : ∀ {as : List α} {bs : List β}, PySem.W.EachIs P as bs → (∀ a b, b ∈ bs → P a b → Q a b) → PySem.W.EachIs Q as bs
  | _, _, .nil, _ => .nil
  | _, _, .cons h t, k => .cons (k _ _ (by simp) h) (each_imp t fun a b hb => k a b (List.mem_cons_of_mem _ hb))
theorem each_vals {K : PySem.W.Frag} {H : Hp} : ∀ {us : List Value} {zs : List (V × D)}, PySem.W.EachIs (fun v (b : V × D) => RelV b.1 v ∧ R K H b.2 b.1) us zs → Vals (zs.map (·.1)) us
  | _, _, .nil => .nil
  | _, _, .cons h t => .cons h.1 (each_vals t)
theorem pyOks_mem : ∀ {ds : List D}, pyOks ds = true → ∀ d ∈ ds, pyOk d = true
  | [], _, d, hd => by simp at hd
  | e :: ds, h, d, hd => by
    simp only [pyOks, Bool.and_eq_true] at h
    rcases List.mem_cons.mp hd with rfl | hd
    · exact h.1
    · exact pyOks_mem h.2 d hd
theorem zip_mem2 {α β : Type} {xs : List α} {ds : List β} {b : α × β} (h : b ∈ xs.zip ds) : b.2 ∈ ds := (List.of_mem_zip h).2
theorem cr_sortedD {X : Cx} (hu : X.A.units + 200 < cLine) : CallR X (.builtin "sorted") (rSortD X.K) := by
  intro pins s σ H vs us Q I r h
  obtain ⟨a, xs, ds, rfl, ha, rs, hk, hz, q⟩ := h
  obtain ⟨its, rv, hl, _⟩ := I.list (xs := xs) (.inl (.inl ha))
  rw [Vals.ref1 r]
  unfold srtOk at hk
  simp only [Bool.and_eq_true, List.all_eq_true, decide_eq_true_eq] at hk
  obtain ⟨⟨⟨h1, h2⟩, h3⟩, h4⟩ := hk
  have hzs := zip_snd (xs := xs) (ds := ds) rs.length
  have hmap : (xs.zip ds).map (fun b => toPy b.2) = ds.map toPy := by
    have e1 : (xs.zip ds).map (fun b => toPy b.2) = ((xs.zip ds).map (·.2)).map toPy := by rw [List.map_map]; rfl
    rw [e1, hzs]
  have ez := each_zip rs rv
  refine PySem.W.sorted_data (enc := fun b : V × D => toPy b.2) hl.isList ez (each_imp ez fun v b hb hr => Dp.reads I _ _ _ (R.dp _ _ (pyOks_mem h1 _ (zip_mem2 hb)) hr.2) hr.1) (by rw [hmap]; exact alkA_of h2) (by rw [hmap]; exact sokA_of h3) ?_ (fun b hb => ?_) fun out hlen he => ?_
  · rw [List.length_zip]; exact Nat.le_trans (Nat.min_le_left _ _) hz
  · have := h4 b.2 (zip_mem2 hb)
    show X.A.units + 2 + (toPy b.2).depth < cLine
    omega
  · obtain ⟨ep, he'⟩ := PyProof.Rows.sortedAll_at s.heap its out.toArray
    have hv := each_vals he
    have hlen2 : (((xs.zip ds).mergeSort (PySem.W.dataLe false fun b : V × D => toPy b.2)).map (·.1)).length ≤ sizeLine := by
      rw [List.length_map, List.length_mergeSort, List.length_zip]; exact Nat.le_trans (Nat.min_le_left _ _) hz
    exact ⟨.ref _, upd H (s.heap.objs.size + 1) (.lst _), I.laid (t' := s.toks) (fun _ _ => PyProof.Rows.sortedAll_old) (Nat.le_succ _) ⟨hlen2, out, ep, hv, he'⟩, rfl, q _ (I.hok.fresh (Nat.le_succ _))⟩
def gSorted : List DM → Option DM := fun as => match as with
  | [(.lst ds, m)] => if srtOk ds && decide (ds.length ≤ SZ) then newLst (ds.mergeSort dle) (isSh m) else none
  | _ => none
theorem Rs_of {K : PySem.W.Frag} {H : Hp} : ∀ {zs : List (V × D)}, (∀ z ∈ zs, R K H z.2 z.1) → Rs K H (zs.map (·.2)) (zs.map (·.1))
  | [], _ => by simp [Rs]
  | z :: zs, h => Rs.cons (h z (by simp)) (Rs_of fun y hy => h y (List.mem_cons_of_mem _ hy))
theorem Rs_zip {K : PySem.W.Frag} {H : Hp} : ∀ {ds : List D} {xs : List V}, Rs K H ds xs → ∀ z ∈ xs.zip ds, R K H z.2 z.1
  | [], _, h => by simp only [Rs] at h; subst h; simp
  | d :: ds, _, h => by
    simp only [Rs] at h
    obtain ⟨v, r, rfl, h1, h2⟩ := h
    intro z hz
    rw [List.zip_cons_cons] at hz
    rcases List.mem_cons.mp hz with rfl | hz
    · exact h1
    · exact Rs_zip h2 z hz
theorem sort_snd {xs : List V} {ds : List D} (h : ds.length = xs.length) : (((xs.zip ds).mergeSort fun a b => dle a.2 b.2).map (·.2)) = ds.mergeSort dle := by
  rw [List.map_mergeSort (s := dle) (fun a _ b _ => rfl), zip_snd h]
theorem iSorted {X : Cx} : ImpN X (rSortD X.K) gSorted := by
  intro G H as vs d m Q e ra s gv
  unfold gSorted at e
  split at e <;> try (cases e; done)
  split at e <;> try (cases e; done)
  rename_i ds0 m0 hc
  simp only [Bool.and_eq_true, decide_eq_true_eq] at hc
  obtain ⟨v, rfl, r1⟩ := ra.one
  obtain ⟨a, xs, rfl, ha, rs, rg⟩ := r1.items s
  have key : ∀ {H' : Hp}, Rs X.K H' ds0 xs → Rs X.K H' (ds0.mergeSort dle) (((xs.zip ds0).mergeSort fun a b => dle a.2 b.2).map (·.1)) := fun {H'} r => by
    have := Rs_of (K := X.K) (H := H') (zs := (xs.zip ds0).mergeSort fun a b => dle a.2 b.2) fun z hz => Rs_zip r z (List.mem_mergeSort.mp hz)
    rw [sort_snd r.length] at this
    exact this
  exact ⟨a, xs, _, rfl, ha, rs, hc.1, by rw [← rs.length, ← SZ_eq]; exact hc.2, gv.newL e s (key rs) fun h => key (rg h)⟩

/-! ### join -/
def gJoin : List DM → Option DM := fun as => match as with
  | [(.str s, _), (.lst ds, _)] => match strsD ds with
    | some l => if (l.map (·.length)).sum + l.length * s.length ≤ 16777216 then some (.str (TL.joinL s l), .sh) else none
    | none => none
  | _ => none
def rJoin (K : PySem.W.Frag) : V → List V → Hp → VK → Prop := fun x xs H Q => ∃ a p, ∃ ys : List Str, x = .str a ∧ xs = [.ref p] ∧ (SqL K H p (ys.map V.str) ∨ SqT K H p (ys.map V.str)) ∧ (ys.map (·.length)).sum + ys.length * a.length ≤ 16777216 ∧ Q (.str (Txt.join a ys)) H
theorem iJoin {X : Cx} : ImpN X (fun vs H Q => match vs with | v :: ws => rJoin X.K v ws H Q | [] => True) gJoin := by
  intro G H as vs d m Q e ra s gv
  unfold gJoin at e
  split at e <;> try (cases e; done)
  split at e <;> try (cases e; done)
  rename_i sp _ _ _ _ l hl
  split at e <;> cases e
  rename_i hz
  obtain ⟨v, w, rfl, r1, r2⟩ := ra.two
  have e1 := r1.isStr s; subst e1
  obtain ⟨a, xs, rfl, ha, rs, _⟩ := r2.items s
  rw [strsD_of hl] at rs
  have hx := rs.strs
  refine ⟨_, a, l.map fun s => (⟨s.toArray⟩ : Str), rfl, rfl, .inl (.inl (.inl (by rw [ha, hx]))), ?_, gv.sh s rfl ?_⟩
  · rw [List.map_map, List.length_map, str_len]
    have : (List.map (Str.length ∘ fun s : List Nat => (⟨s.toArray⟩ : Str)) l) = l.map (·.length) := List.map_congr_left fun z _ => str_len z
    rw [this]; exact hz
  · simp only [R]
    congr 1
    rw [TL.join_eq]
    have h2 := TL.tl_join (⟨sp.toArray⟩ : Str) (l.map fun s => (⟨s.toArray⟩ : Str))
    rw [List.map_map] at h2
    have e3 : (List.map (TL.tl ∘ fun s : List Nat => (⟨s.toArray⟩ : Str)) l) = l := by
      rw [List.map_congr_left (g := id) fun z _ => by simp [TL.tl]]; simp
    rw [e3] at h2
    apply Eq.trans (PySem.W.str_of_cps _) rfl
    simpa [TL.tl] using h2
theorem tyJoin {X : Cx} : ∀ as d, gJoin as = some d → ∃ a r, as = a :: r ∧ ∀ H v, R X.K H a.1 v → tyV X.K "str" v H := by
  intro as d e
  unfold gJoin at e
  split at e <;> try (cases e; done)
  exact ⟨_, _, rfl, fun H v r => tyStr r⟩

/-! ### dicts -/
theorem zip_put {κ : Type} [DecidableEq κ] (k : κ) (v : V) : ∀ (ks : List κ) (es : List V), ks.length = es.length → (ks.zip es).map (fun kv => if kv.1 = k then (kv.1, v) else kv) = ks.zip (List.zipWith (fun k' e' => if k' = k then v else e') ks es)
  | [], _, _ => rfl
  | a :: ks, [], h => by simp at h
  | a :: ks, e :: es, h => by
    simp only [List.zip_cons_cons, List.map_cons, List.zipWith_cons_cons]
    rw [zip_put k v ks es (by simpa using h)]
    by_cases c : a = k <;> simp [c]
theorem zip_any {κ : Type} [DecidableEq κ] (k : κ) : ∀ (ks : List κ) (es : List V), ks.length = es.length → ((ks.zip es).any fun kv => decide (kv.1 = k)) = decide (k ∈ ks)
  | [], _, _ => rfl
  | a :: ks, [], h => by simp at h
  | a :: ks, e :: es, h => by
    simp only [List.zip_cons_cons, List.any_cons]
    rw [zip_any k ks es (by simpa using h)]
    by_cases c : a = k
    · subst c; simp
    · have : ¬ k = a := fun z => c z.symm
      simp [c, this]
theorem put_zip {κ : Type} [DecidableEq κ] (k : κ) (v : V) {ks : List κ} {es : List V} (h : ks.length = es.length) :
    putK (ks.zip es) k v = if k ∈ ks then ks.zip (List.zipWith (fun k' e' => if k' = k then v else e') ks es) else (ks ++ [k]).zip (es ++ [v]) := by
  unfold putK
  rw [zip_any k ks es h]
  by_cases c : k ∈ ks
  · simp only [c, decide_true, if_true]; exact zip_put k v ks es h
  · simp only [c, decide_false, Bool.false_eq_true, if_false]
    rw [List.zip_append (by rw [h])]; rfl
theorem Rs.put {K : PySem.W.Frag} {H : Hp} {κ : Type} [DecidableEq κ] (k : κ) {d : D} {v : V} (hv : R K H d v) : ∀ {ks : List κ} {ds : List D} {es : List V}, ks.length = ds.length → Rs K H ds es → Rs K H (List.zipWith (fun k' d' => if k' = k then d else d') ks ds) (List.zipWith (fun k' e' => if k' = k then v else e') ks es)
  | [], [], _, _, h => by simp [Rs]
  | [], d :: ds, _, h, _ => by simp at h
  | a :: ks, [], _, h, _ => by simp at h
  | a :: ks, e :: ds, _, h, r => by
    simp only [Rs] at r
    obtain ⟨w, t, rfl, h1, h2⟩ := r
    simp only [List.zipWith_cons_cons]
    refine Rs.cons ?_ (Rs.put k hv (by simpa using h) h2)
    by_cases c : a = k <;> simp [c, hv, h1]
theorem hasLs_append : ∀ {ds es : List D}, hasLs (ds ++ es) = (hasLs ds || hasLs es)
  | [], es => by simp [hasLs]
  | d :: ds, es => by simp [hasLs, hasLs_append, Bool.or_assoc]
theorem hasLs_put {κ : Type} [DecidableEq κ] (k : κ) {d : D} (hd : hasL d = false) : ∀ {ks : List κ} {ds : List D}, hasLs ds = false → hasLs (List.zipWith (fun k' d' => if k' = k then d else d') ks ds) = false
  | [], ds, h => by simp [hasLs]
  | a :: ks, [], h => by simp [hasLs]
  | a :: ks, e :: ds, h => by
    simp only [hasLs, Bool.or_eq_false_iff] at h
    simp only [List.zipWith_cons_cons, hasLs, Bool.or_eq_false_iff]
    refine ⟨?_, hasLs_put k hd h.2⟩
    by_cases c : a = k <;> simp [c, hd, h.1]
theorem keyD_v {K : PySem.W.Frag} {H : Hp} {d : D} {k : Key} {v : V} (e : keyD d = some k) (r : R K H d v) : v = kV k := by
  cases d <;> simp [keyD] at e <;> subst e <;> (simp only [R] at r; subst r; rfl)
theorem keysD_v {K : PySem.W.Frag} {H : Hp} : ∀ {ds : List D} {ks : List Key} {vs : List V}, keysD ds = some ks → Rs K H ds vs → vs = ks.map kV
  | [], ks, vs, e, r => by simp [keysD] at e; subst e; simp only [Rs] at r; subst r; rfl
  | d :: ds, ks, vs, e, r => by
    simp only [keysD] at e
    split at e <;> cases e
    rename_i k r' ek er
    simp only [Rs] at r
    obtain ⟨v, t, rfl, h1, h2⟩ := r
    rw [keyD_v ek h1, keysD_v er h2]; rfl
section
variable {K : PySem.W.Frag} {H0 G0 G H : Hp} {ρ : Env} {σ : L2.St} {fp : Nat → List Addr}
/-- an owned flat dict stands anew -/
theorem At.dict (I : Ok K G H ρ σ fp) (b : Bs H0 G0 G H fp) {i : Nat} {l : Addr} {o : HO} {d' : SW.D} {Gz : List Addr} {m' : Mo} (hi : i < ρ.length) (hl : l ∈ fp i) (hv : σ[i]? = some (some (.ref l)))
    (q : RM K (frzH G H Gz) (upd H l o) m' d' (.ref l) [l]) (hz : ∀ a ∈ Gz, G a = none ∧ H0 a = none ∧ ∀ j, j ≠ i → a ∉ fp j) (lz : l ∉ Gz) : At K H0 G0 ((dropB ρ).set i (some (d', m'))) σ (upd H l o) := by
  have gl : frzH G H Gz l = none := frzH_none (I.mu i l hl) (I.off i l hl) lz
  have offz : ∀ a ∈ Gz, G a = none := fun a ha => (hz a ha).1
  refine ⟨frzH G H Gz, _, I.write hi hl hv (frzH_same I.sub offz) (same_upd_of (frzH_sub I.sub) gl) (F' := [l]) q (by simp) (fun a ha => ?_) (fun j a hj ha => frzH_none (I.mu j a ha) (I.off j a ha) fun h => (hz a h).2.2 j hj ha), ?_, ?_, fun j a ha => ?_⟩
  · simp at ha; subst ha
    exact ⟨gl, fun j hj h => hj (I.dj j i a h hl)⟩
  · exact fun c o e => by rw [upd_ne (ne_of_none e (b.new i l hl))]; exact b.kH _ _ e
  · exact b.kG.trans (same_refl H0) (frzH_ext b.kH I.sub offz fun a ha => (hz a ha).2.1)
  · by_cases c : j = i <;> simp [c] at ha
    · subst ha; exact b.new i a hl
    · exact b.new j a ha
/-- what an expression gives, and what stood -/
theorem At.expr2 {x : Ex} {d : SW.D} {m : Mo} {Q : VK} (I : Ok K G H ρ σ fp) (b : Bs H0 G0 G H fp) (e : ev x ρ = some (d, m))
    (k : ∀ v H' G' F, Same H H' → Ext H G G' → Ok K G' H' ρ σ fp → Bs H0 G0 G' H' fp → RM K G' H' m d v F → F.Nodup → (∀ a ∈ F, H a = none ∧ G' a = none ∧ H0 a = none ∧ ∀ j, a ∉ fp j) → Q v H') : tX K x σ H Q :=
  ⟨ρ, G, fp, d, m, I, e, fun v H' G' F s x z nd new r => k v H' G' F s x (I.grow s x z) (b.grow s x) r nd fun a ha => ⟨(new a ha).1, (new a ha).2, new_back b.kH (fun c hc => (new c hc).1) a ha, fun j hj => by
    obtain ⟨o, ho, _⟩ := I.mu j a hj
    rw [(new a ha).1] at ho; cases ho⟩⟩
theorem own_dict {m : Mo} {c : SW.D} {v : V} {F : List Addr} (hm : isOw m = true) (hc : (∃ ks ds, c = .dK ks ds) ∨ ∃ ks ds, c = .dT ks ds) (h : RM K G H m c v F) : ∃ l, v = .ref l ∧ l ∈ F := by
  rcases hc with ⟨ks, ds, rfl⟩ | ⟨ks, ds, rfl⟩ <;> cases m <;> simp [isOw] at hm
  · simp only [RM, RT] at h; obtain ⟨a, _, rfl, rfl, _⟩ := h; exact ⟨a, rfl, by simp⟩
  · simp only [RM, RF] at h; obtain ⟨a, _, F', rfl, rfl, _⟩ := h; exact ⟨a, rfl, by simp⟩
  · simp only [RM, RT] at h; obtain ⟨a, _, rfl, rfl, _⟩ := h; exact ⟨a, rfl, by simp⟩
  · simp only [RM, RF] at h; obtain ⟨a, _, F', rfl, rfl, _⟩ := h; exact ⟨a, rfl, by simp⟩
/-- the items of an owned dict, in the frozen heap -/
theorem dict_items {κ : Type} {m : Mo} {c : SW.D} {ds : List SW.D} {es : List V} {v : V} {Fp Fz : List Addr} (hm : isOw m = true) (s : Same G H) (off : ∀ a ∈ Fz, G a = none) (hF : ∀ a ∈ Fp, a ∈ Fz ∨ ∃ l, v = .ref l ∧ a = l)
    (hc : (∃ ks : List Key, c = .dK ks ds ∧ ∃ l, v = .ref l ∧ H l = some (.dK (ks.zip es)) ∧ ks.length = es.length) ∨ ∃ ks : List (List Key), c = .dT ks ds ∧ ∃ l, v = .ref l ∧ H l = some (.dT (ks.zip es)) ∧ ks.length = es.length) (h : RM K G H m c v Fp)
    (nl : ∀ l, v = .ref l → ∀ F', Fp = l :: F' → l ∉ F') : Rs K (frzH G H Fz) ds es := by
  have zinj : ∀ {κ : Type} {ks : List κ} {es es' : List V}, ks.length = es.length → ks.length = es'.length → ks.zip es = ks.zip es' → es = es' := by
    intro κ ks es es' h1 h2 h3
    have a1 := zip_snd (xs := ks) (ds := es) h1.symm
    have a2 := zip_snd (xs := ks) (ds := es') h2.symm
    rw [← a1, ← a2, h3]
  rcases hc with ⟨ks, rfl, l, rfl, e, hk⟩ | ⟨ks, rfl, l, rfl, e, hk⟩ <;> cases m <;> simp [isOw] at hm
  · simp only [RM, RT] at h
    obtain ⟨a, es', e1, rfl, e2, hk', r⟩ := h
    cases e1
    have e3 : ks.zip es = ks.zip es' := by rw [e] at e2; injection e2 with e2; injection e2
    cases zinj hk hk' e3
    exact Rs.mono (frzH_same s off) _ _ r
  · simp only [RM, RF] at h
    obtain ⟨a, es', F', e1, rfl, e2, hk', r⟩ := h
    cases e1
    have e3 : ks.zip es = ks.zip es' := by rw [e] at e2; injection e2 with e2; injection e2
    cases zinj hk hk' e3
    refine RFs.frz (frzH_same s off) (fun a o e i => frzH_imm e i) _ _ _ (fun a ha => ?_) r
    unfold frzH
    rcases hF a (List.mem_cons_of_mem _ ha) with h | ⟨l', e4, rfl⟩
    · rw [if_pos h]
    · cases e4; exact absurd ha (nl _ rfl _ rfl)
  · simp only [RM, RT] at h
    obtain ⟨a, es', e1, rfl, e2, hk', r⟩ := h
    cases e1
    have e3 : ks.zip es = ks.zip es' := by rw [e] at e2; injection e2 with e2; injection e2
    cases zinj hk hk' e3
    exact Rs.mono (frzH_same s off) _ _ r
  · simp only [RM, RF] at h
    obtain ⟨a, es', F', e1, rfl, e2, hk', r⟩ := h
    cases e1
    have e3 : ks.zip es = ks.zip es' := by rw [e] at e2; injection e2 with e2; injection e2
    cases zinj hk hk' e3
    refine RFs.frz (frzH_same s off) (fun a o e i => frzH_imm e i) _ _ _ (fun a ha => ?_) r
    unfold frzH
    rcases hF a (List.mem_cons_of_mem _ ha) with h | ⟨l', e4, rfl⟩
    · rw [if_pos h]
    · cases e4; exact absurd ha (nl _ rfl _ rfl)
end
section
variable {X : Cx} {H0 : Hp} {N : Nat} {pos : Pos}
theorem qs_dput {i : Nat} {o k value : Expr} {xk xe : Ex} {p : Pos} (hu : X.A.units + 1 < cLine) (ho : PE X o (tVar i)) (hk : PE X k (tX X.K xk)) (hv : PE X value (tX X.K xe)) (hs : swapsWith value (some (.Subscript o k p)) pos.line X.env = pure false := by rfl) :
    PS X (.Assign [.Subscript o k p] value pos) (tS X.K H0 N (.dput i xk xe)) := by
  refine (ps_dput hu ho hk hv hs).imp fun D σ H h => ?_
  obtain ⟨G0, ρ, q0, ⟨G, fp, I, b⟩, e, f⟩ := h
  simp only [evS] at e
  split at e <;> try (cases e; done)
  rename_i c m es
  split at e <;> try (cases e; done)
  rename_i pv kd km ee ek
  split at e <;> cases e
  rename_i q eq
  have hi : i < ρ.length := (List.getElem?_eq_some_iff.mp es).1
  refine At.expr2 I b (d := pv.1) (m := pv.2) ee fun v H1 G1 F1 s1 x1 I1 b1 r1 nd1 new1 => ?_
  obtain ⟨vd, hvd, rd0⟩ := I1.get es
  refine ⟨vd, hvd, ?_⟩
  refine At.expr2 I1 b1 (d := kd) (m := km) ek fun y H3 G3 F3 s3 x3 I3 b3 r3 nd3 new3 => ?_
  obtain ⟨vd', hvd', rd3⟩ := I3.get es
  rw [hvd] at hvd'; cases hvd'
  have rv := r1.grow x3.1 s3
  have ry := r3.r I3.sub
  -- all that is new is frozen, but the dict itself
  have main : ∀ (l : Addr), vd = .ref l → l ∈ fp i → ∃ Fz : List Addr, (∀ a ∈ Fz, G3 a = none ∧ H0 a = none ∧ ∀ j, j ≠ i → a ∉ fp j) ∧ l ∉ Fz ∧ (∀ a ∈ F1, a ∈ Fz) ∧ ∀ a ∈ fp i, a ∈ Fz ∨ ∃ l', vd = .ref l' ∧ a = l' := by
    intro l hl hlm
    refine ⟨(fp i).filter (fun a => decide (a ≠ l)) ++ F1, fun a ha => ?_, fun h => ?_, fun a ha => List.mem_append_right _ ha, fun a ha => ?_⟩
    · rcases List.mem_append.mp ha with ha | ha
      · have ha' := (List.mem_filter.mp ha).1
        exact ⟨I3.off i a ha', b3.new i a ha', fun j hj h => hj (I3.dj j i a h ha')⟩
      · exact ⟨off_grow (r1.mu a ha) (new1 a ha).2.1 x3, (new1 a ha).2.2.1, fun j _ => (new1 a ha).2.2.2 j⟩
    · rcases List.mem_append.mp h with h | h
      · simp at h
      · exact (new1 l h).2.2.2 i hlm
    · by_cases c : a = l
      · exact .inr ⟨l, hl, c⟩
      · exact .inl (List.mem_append_left _ (List.mem_filter.mpr ⟨ha, by simpa using c⟩))
  have ndi := I3.nd i
  have nl : ∀ l, vd = .ref l → ∀ F', fp i = l :: F' → l ∉ F' := fun l _ F' hf => by rw [hf] at ndi; exact (List.nodup_cons.mp ndi).1
  unfold putD at eq
  split at eq
  · -- keys are ints and texts
    rename_i ks ds
    split at eq <;> try (cases eq; done)
    rename_i k' ek'
    split at eq <;> cases eq
    rename_i hc
    simp only [Bool.and_eq_true, decide_eq_true_eq, Bool.not_eq_true'] at hc
    obtain ⟨⟨⟨⟨⟨hm, hb⟩, hz⟩, hlen⟩, hp⟩, hds⟩ := hc
    obtain ⟨l, rfl, hlm⟩ := own_dict hm (.inl ⟨ks, ds, rfl⟩) rd3
    obtain ⟨Fz, hFz, lFz, hF1, hfp⟩ := main l rfl hlm
    have offz : ∀ a ∈ Fz, G3 a = none := fun a ha => (hFz a ha).1
    have rr := rd3.r I3.sub
    simp only [SW.R] at rr
    obtain ⟨l', es', e1, hH, hke, rs⟩ := rr
    cases e1
    have hy := keyD_v ek' ry
    have rz := dict_items (κ := Key) hm I3.sub offz hfp (.inl ⟨ks, rfl, l, rfl, hH, hke⟩) rd3 nl
    have rvz := rv.frz I3.sub offz hF1 (.inl hp)
    have hzip : (ks.zip es').length = ks.length := by rw [List.length_zip, hke]; omega
    refine ⟨l, _, rfl, .inl ⟨_, k', hH, hy, by rw [hzip, ← SZ_eq]; exact hz, rfl⟩, f _ _ ?_⟩
    refine At.dict I3 b3 hi hlm hvd ?_ hFz lFz
    simp only [RM, RF]
    by_cases ck : k' ∈ ks
    · have e5 : putL k' pv.1 ks ds = (ks, List.zipWith (fun k'' d' => if k'' = k' then pv.1 else d') ks ds) := if_pos ck
      rw [e5]
      refine ⟨l, List.zipWith (fun k'' e' => if k'' = k' then v else e') ks es', [], rfl, rfl, ?_, ?_, RFs.flat (hasLs_put k' hp hds) (Rs.put k' rvz hlen rz)⟩
      · rw [upd_same, put_zip k' v hke, if_pos ck]
      · simp [hke]
    · have e5 : putL k' pv.1 ks ds = (ks ++ [k'], ds ++ [pv.1]) := if_neg ck
      rw [e5]
      refine ⟨l, es' ++ [v], [], rfl, rfl, ?_, by simp [hke], RFs.flat (by rw [hasLs_append]; simp [hds, hasLs, hp]) (rz.append (Rs.one rvz))⟩
      rw [upd_same, put_zip k' v hke, if_neg ck]
  · rename_i ks ds
    split at eq <;> try (cases eq; done)
    rename_i ts
    split at eq <;> try (cases eq; done)
    rename_i k' ek'
    split at eq <;> cases eq
    rename_i hc
    simp only [Bool.and_eq_true, decide_eq_true_eq, Bool.not_eq_true'] at hc
    obtain ⟨⟨⟨hm, hb⟩, hz⟩, hlen⟩ := hc
    obtain ⟨l, rfl, hlm⟩ := own_dict hm (.inr ⟨ks, ds, rfl⟩) rd3
    obtain ⟨Fz, hFz, lFz, hF1, hfp⟩ := main l rfl hlm
    have offz : ∀ a ∈ Fz, G3 a = none := fun a ha => (hFz a ha).1
    have rr := rd3.r I3.sub
    simp only [SW.R] at rr
    obtain ⟨l', es', e1, hH, hke, rs⟩ := rr
    cases e1
    simp only [SW.R] at ry
    obtain ⟨tb, txs, rfl, htb, rts⟩ := ry
    have hy := keysD_v ek' rts
    subst hy
    have rz := dict_items (κ := List Key) hm I3.sub offz hfp (.inr ⟨ks, rfl, l, rfl, hH, hke⟩) rd3 nl
    have hbp : hasL pv.1 = false ∨ (pv.2 ≠ .bo ∧ pv.2 ≠ .bt) := by
      have hb' : isB pv = false := by simpa using hb
      unfold isB at hb'
      cases hl : hasL pv.1 with
      | false => exact .inl rfl
      | true => rw [hl] at hb'; simp at hb'; exact .inr hb'
    have rvz := rv.frz I3.sub offz hF1 hbp
    have hzip : (ks.zip es').length = ks.length := by rw [List.length_zip, hke]; omega
    refine ⟨l, _, rfl, .inr ⟨_, k', tb, hH, rfl, htb, by rw [hzip, ← SZ_eq]; exact hz, rfl⟩, f _ _ ?_⟩
    refine At.dict I3 b3 hi hlm hvd ?_ hFz lFz
    have new : ∃ es2, (putL k' pv.1 ks ds).1.length = es2.length ∧ putK (ks.zip es') k' v = (putL k' pv.1 ks ds).1.zip es2 ∧ Rs X.K (frzH G3 H3 Fz) (putL k' pv.1 ks ds).2 es2 := by
      by_cases ck : k' ∈ ks
      · have e5 : putL k' pv.1 ks ds = (ks, List.zipWith (fun k'' d' => if k'' = k' then pv.1 else d') ks ds) := if_pos ck
        rw [e5]
        exact ⟨List.zipWith (fun k'' e' => if k'' = k' then v else e') ks es', by simp [hke], by rw [put_zip k' v hke, if_pos ck], Rs.put k' rvz hlen rz⟩
      · have e5 : putL k' pv.1 ks ds = (ks ++ [k'], ds ++ [pv.1]) := if_neg ck
        rw [e5]
        exact ⟨es' ++ [v], by simp [hke], by rw [put_zip k' v hke, if_neg ck], rz.append (Rs.one rvz)⟩
    obtain ⟨es2, hl2, hp2, r2⟩ := new
    by_cases cf : (!hasL pv.1 && !hasLs ds) = true
    · rw [if_pos cf]
      simp only [Bool.and_eq_true, Bool.not_eq_true'] at cf
      simp only [RM, RF]
      refine ⟨l, es2, [], rfl, rfl, by rw [upd_same, hp2], hl2, RFs.flat ?_ r2⟩
      unfold putL
      by_cases ck : k' ∈ ks
      · rw [if_pos ck]; exact hasLs_put k' cf.1 cf.2
      · rw [if_neg ck]; rw [hasLs_append]; simp [cf.2, hasLs, cf.1]
    · rw [if_neg cf]
      simp only [RM, RT]
      exact ⟨l, es2, rfl, rfl, by rw [upd_same, hp2], hl2, r2⟩
  · cases eq
/-- {key: value}, both written -/
theorem px_disp1 {ke ve : Expr} {k : Key} {d : D} {v : V} (hk : PE X ke (tC (kV k))) (hv : PE X ve (tC v)) (hf : hasL d = false) (hr : ∀ H, R X.K H d v) (hpp : ∀ {trs}, trs = [(tC (kV k), tC v)] → PPs X pos [some ke] [ve] trs) :
    PE X (.Dict [some ke] [ve] pos) (tX X.K (.pr (fun _ => some (.dK [k] [d], .full)) [])) := by
  refine (pe_disp (hpp rfl) rfl rfl (by simp) (by simp)).imp fun σ H Q h => ?_
  obtain ⟨ρ, G, fp, d', m, I, e, gv⟩ := h
  simp [ev, evs] at e
  obtain ⟨rfl, rfl⟩ := e
  intro p np
  refine ⟨upd_same, [(k, v)], rfl, by simp, ?_⟩
  have e1 : upd (upd H p (.dK [])) p (.dK (mergeK [] [(k, v)])) = upd H p (.dK [(k, v)]) := by rw [upd_upd]; rfl
  rw [e1]
  have k1 : Same H (upd H p (.dK [(k, v)])) := same_upd np
  have gp : G p = none := by
    cases q : G p with
    | none => rfl
    | some o => have := I.sub _ _ q; rw [np] at this; cases this
  refine gv (.ref p) _ G [p] k1 (Ext.refl _ _) (I.sub.trans k1) (by simp) (fun a ha => by simp at ha; subst ha; exact ⟨np, gp⟩) ?_
  simp only [RM, RF]
  exact ⟨p, [v], [], rfl, rfl, upd_same, rfl, RFs.flat (by simp [hasLs, hf]) (Rs.one (hr G))⟩
end
end SW
namespace SW
open PySem PySem.Spec PyProof.Rows L2

def Kp (H G : Hp) (fp : Nat → List Addr) (G' : Hp) : Prop := Same G G' ∧ ∀ a, Mu H a → G a = none → (∀ j, a ∉ fp j) → G' a = none
/-- what is wanted behind a value that is moved -/
def Fm (K : PySem.W.Frag) (H0 G0 G H : Hp) (fp : Nat → List Addr) (ρ' : Env) (σ : L2.St) (P : List V → Hp → Hp → List Addr → Prop) (Q : List V → Hp → Prop) : Prop :=
  ∀ vs H' G' fp' F, Same H H' → Kp H G fp G' → Ok K G' H' ρ' σ fp' → Bs H0 G0 G' H' fp' → (∀ j a, a ∈ fp' j → a ∈ fp j) → F.Nodup → (∀ a ∈ F, G' a = none ∧ (H a = none ∨ ∃ j, a ∈ fp j) ∧ ∀ j, a ∉ fp' j) → P vs G' H' F → Q vs H'
def tM (K : PySem.W.Frag) (H0 : Hp) (x : Mx) : TE := fun σ H Q => ∃ ρ G0 G fp ρ' d m, Ok K G H ρ σ fp ∧ Bs H0 G0 G H fp ∧ evM x ρ = some (ρ', d, m) ∧
  Fm K H0 G0 G H fp ρ' σ (fun vs G' H' F => ∃ v, vs = [v] ∧ RM K G' H' m d v F) fun vs H' => ∀ v, vs = [v] → Q v H'
def tAM (K : PySem.W.Frag) (H0 : Hp) (xs : List Mx) : TA := fun σ H Q => ∃ ρ G0 G fp ρ' as, Ok K G H ρ σ fp ∧ Bs H0 G0 G H fp ∧ evMs xs ρ = some (ρ', as) ∧
  Fm K H0 G0 G H fp ρ' σ (fun vs G' H' F => RMs K G' H' as vs F) Q
section
variable {X : Cx} {H0 : Hp} {N : Nat} {pos : Pos}
theorem pm_ex {e : Expr} {x : Ex} (h : PE X e (tX X.K x)) : PE X e (tM X.K H0 (.ex x)) := h.imp fun σ H Q q => by
  obtain ⟨ρ, G0, G, fp, ρ', d, m, I, b, e, k⟩ := q
  simp only [evM] at e
  split at e <;> cases e
  rename_i ee
  refine ⟨ρ, G, fp, d, m, I, ee, fun v H' G' F s x z nd new r => ?_⟩
  refine k [v] H' G' fp F s ⟨x.1, fun a ha hg _ => off_grow ha hg x⟩ (I.grow s x z) (b.grow s x) (fun j a h => h) nd (fun a ha => ⟨(new a ha).2, .inl (new a ha).1, fun j hj => ?_⟩) ⟨v, rfl, r⟩ v rfl
  obtain ⟨o, ho, _⟩ := I.mu j a hj
  rw [(new a ha).1] at ho; cases ho
theorem pm_mv {e : Expr} {i : Nat} (h : PE X e (tVar i)) : PE X e (tM X.K H0 (.mv i)) := h.imp fun σ H Q q => by
  obtain ⟨ρ, G0, G, fp, ρ', d, m, I, b, e, k⟩ := q
  simp only [evM] at e
  split at e <;> cases e
  rename_i ee
  obtain ⟨v, hv, r⟩ := I.get ee
  refine ⟨v, hv, ?_⟩
  refine k [v] H G (fun j => if j = i then [] else fp j) (fp i) (same_refl H) ⟨same_refl G, fun a _ h _ => h⟩ (I.drop i) ⟨b.kH, b.kG, fun j a ha => ?_⟩ (fun j a ha => ?_) (I.nd i) (fun a ha => ⟨I.off i a ha, .inr ⟨i, ha⟩, fun j hj => ?_⟩) ⟨v, rfl, r⟩ v rfl
  · by_cases c : j = i <;> simp [c] at ha; exact b.new j a ha
  · by_cases c : j = i <;> simp [c] at ha; exact ha
  · by_cases c : j = i
    · simp [c] at hj
    · simp [c] at hj; exact c (I.dj j i a hj ha)
theorem pm_nil : PA X [] (tAM X.K H0 []) := pa_nil.imp fun σ H Q q => by
  obtain ⟨ρ, G0, G, fp, ρ', as, I, b, e, k⟩ := q
  simp only [evMs, Option.some.injEq, Prod.mk.injEq] at e
  obtain ⟨rfl, rfl⟩ := e
  exact k [] H G fp [] (same_refl H) ⟨same_refl G, fun a _ h _ => h⟩ I b (fun j a h => h) List.nodup_nil (fun a ha => absurd ha (by simp)) (by simp [RMs])
theorem pm_cons {e : Expr} {es : List Expr} {x : Mx} {xs : List Mx} (h1 : PE X e (tM X.K H0 x)) (h2 : PA X es (tAM X.K H0 xs)) (hst : starEach (e :: es) X.env = (false, eval e X.env) :: starEach es X.env := by rfl) : PA X (e :: es) (tAM X.K H0 (x :: xs)) := (pa_cons h1 h2 hst).imp fun σ H Q q => by
  obtain ⟨ρ, G0, G, fp, ρ', as, I, b, e, k⟩ := q
  simp only [evMs] at e
  split at e <;> try (cases e; done)
  rename_i ρ1 p e1
  split at e <;> cases e
  rename_i as e2
  refine ⟨ρ, G0, G, fp, ρ1, p.1, p.2, I, b, e1, fun vs H1 G1 fp1 F1 s1 k1 I1 b1 sub1 nd1 new1 r1 => ?_⟩
  obtain ⟨v0, rfl, r1⟩ := r1
  rintro v hv; cases hv
  refine ⟨ρ1, G0, G1, fp1, ρ', as, I1, b1, e2, fun vs H2 G2 fp2 F2 s2 k2 I2 b2 sub2 nd2 new2 r2 => ?_⟩
  refine k (v0 :: vs) H2 G2 fp2 (F1 ++ F2) (s1.trans s2) ⟨k1.1.trans k2.1, fun a ma ga oa => k2.2 a (ma.mono s1) (k1.2 a ma ga oa) fun j h => oa j (sub1 j a h)⟩ I2 b2 (fun j a h => sub1 j a (sub2 j a h)) ?_ ?_ ?_
  · refine List.nodup_append.mpr ⟨nd1, nd2, fun a ha c hc z => ?_⟩
    subst z
    rcases (new2 a hc).2.1 with h | ⟨j, h⟩
    · obtain ⟨o, ho, _⟩ := r1.mu a ha
      rw [h] at ho; cases ho
    · exact (new1 a ha).2.2 j h
  · intro a ha
    rcases List.mem_append.mp ha with ha | ha
    · exact ⟨k2.2 a (r1.mu a ha) (new1 a ha).1 (new1 a ha).2.2, (new1 a ha).2.1, fun j h => (new1 a ha).2.2 j (sub2 j a h)⟩
    · refine ⟨(new2 a ha).1, ?_, (new2 a ha).2.2⟩
      rcases (new2 a ha).2.1 with h | ⟨j, h⟩
      · exact .inl (new_back s1 (fun c (hc : c ∈ [a]) => by simp at hc; subst hc; exact h) a (by simp))
      · exact .inr ⟨j, sub1 j a h⟩
  · simp only [RMs]
    exact ⟨v0, vs, F1, F2, rfl, rfl, r1.grow k2.1 s2, r2⟩
theorem pm_ife {c a b : Expr} {xc : Ex} {xa xb : Mx} (hc : PT X c (tT X.K xc)) (ha : PE X a (tM X.K H0 xa)) (hb : PE X b (tM X.K H0 xb)) : PE X (.IfExp c a b pos) (tM X.K H0 (.ife xc xa xb)) := by
  refine (pe_ifExp hc ha hb).imp fun σ H Q q => ?_
  obtain ⟨ρ, G0, G, fp, ρ', d, m, I, b, e, k⟩ := q
  simp only [evM] at e
  have go : ∀ {H1 G1 : Hp}, Same H H1 → Ext H G G1 → Same G1 H1 → Fm X.K H0 G0 G1 H1 fp ρ' σ (fun vs G' H' F => ∃ v, vs = [v] ∧ RM X.K G' H' m d v F) fun vs H' => ∀ v, vs = [v] → Q v H' := by
    intro H1 G1 s e1 z vs H' G' fp' F s2 kp I' b' sub nd new r
    refine k vs H' G' fp' F (s.trans s2) ⟨e1.1.trans kp.1, fun a ma ga oa => kp.2 a (ma.mono s) (off_grow ma ga e1) oa⟩ I' b' sub nd (fun a ha => ⟨(new a ha).1, ?_, (new a ha).2.2⟩) r
    rcases (new a ha).2.1 with h | h
    · exact .inl (new_back s (fun c (hc : c ∈ [a]) => by simp at hc; subst hc; exact h) a (by simp))
    · exact .inr h
  split at e <;> try (cases e; done)
  · rename_i mc ec
    exact ⟨ρ, G, fp, true, mc, I, ec, fun H1 G1 s x z => ⟨ρ, G0, G1, fp, ρ', d, m, I.grow s x z, b.grow s x, e, go s x z⟩⟩
  · rename_i mc ec
    exact ⟨ρ, G, fp, false, mc, I, ec, fun H1 G1 s x z => ⟨ρ, G0, G1, fp, ρ', d, m, I.grow s x z, b.grow s x, e, go s x z⟩⟩
/-- the frozen heap takes in what a tuple or a list holds -/
theorem Ok.frz {K : PySem.W.Frag} {G H : Hp} {ρ : Env} {σ : L2.St} {fp : Nat → List Addr} {F : List Addr} (I : Ok K G H ρ σ fp) (off : ∀ a ∈ F, G a = none ∧ ∀ j, a ∉ fp j) : Ok K (frzH G H F) H ρ σ fp where
  len := I.len
  sl := fun i s e => let ⟨o, e1, q⟩ := I.sl i s e; ⟨o, e1, q.grow (frzH_same I.sub fun a ha => (off a ha).1) (same_refl H)⟩
  dj := I.dj
  nd := I.nd
  off := fun i a ha => frzH_none (I.mu i a ha) (I.off i a ha) fun h => (off a h).2 i ha
  mu := I.mu
  sub := frzH_sub I.sub
theorem Bs.frz {H0 G0 G H : Hp} {fp : Nat → List Addr} {F : List Addr} (b : Bs H0 G0 G H fp) (s : Same G H) (off : ∀ a ∈ F, G a = none) (new : ∀ a ∈ F, H0 a = none) : Bs H0 G0 (frzH G H F) H fp :=
  ⟨b.kH, b.kG.trans (same_refl H0) (frzH_ext b.kH s off new), b.new⟩
theorem Kp.frz {H H1 G G1 : Hp} {fp : Nat → List Addr} {F : List Addr} (s : Same H H1) (z : Same G1 H1) (k : Kp H G fp G1) (off : ∀ a ∈ F, G1 a = none) (new : ∀ a ∈ F, H a = none ∨ ∃ j, a ∈ fp j) : Kp H G fp (frzH G1 H1 F) := by
  refine ⟨k.1.trans (frzH_same z off), fun a ma ga oa => frzH_none (ma.mono s) (k.2 a ma ga oa) fun h => ?_⟩
  rcases new a h with h | ⟨j, h⟩
  · obtain ⟨o, ho, _⟩ := ma
    rw [h] at ho; cases ho
  · exact oa j h
theorem newH0 {H0 G0 G H : Hp} {fp : Nat → List Addr} (b : Bs H0 G0 G H fp) {a : Addr} (h : H a = none ∨ ∃ j, a ∈ fp j) : H0 a = none := by
  rcases h with h | ⟨j, h⟩
  · exact new_back b.kH (fun c (hc : c ∈ [a]) => by simp at hc; subst hc; exact h) a (by simp)
  · exact b.new j a h
theorem e0 (G H : Hp) : absb G H = frzH G H [] := by funext a; unfold frzH; simp
theorem pm_tup {es : List Expr} {xs : List Mx} {k : Nat} (h : PA X es (tAM X.K H0 xs)) : PE X (.Tuple es k pos) (tM X.K H0 (.tup xs)) := by
  refine (pe_tup h).imp fun σ H Q q => ?_
  obtain ⟨ρ, G0, G, fp, ρ', d, m, I, b, e, k⟩ := q
  simp only [evM] at e
  split at e <;> try (cases e; done)
  rename_i ρ1 as ea
  split at e <;> try (cases e; done)
  rename_i hl
  split at e <;> cases e
  rename_i em
  refine ⟨ρ, G0, G, fp, ρ', as, I, b, ea, fun vs H1 G1 fp1 F s1 kp I1 b1 sub nd new r => ⟨by rw [← r.len, ← SZ_eq]; exact hl, fun p np => ?_⟩⟩
  unfold mkTup at em
  split at em
  · cases em
  rename_i hb
  have hb' : as.any isB = false := by simpa using hb
  simp only [Option.some.injEq, Prod.mk.injEq] at em
  obtain ⟨rfl, rfl⟩ := em
  have k1 : Same H1 (upd H1 p (.tup vs)) := same_upd np
  have z := I1.sub
  have pF : p ∉ F := fun hm => by obtain ⟨o, ho, _⟩ := r.mu p hm; rw [np] at ho; cases ho
  by_cases hf : hasLs (as.map (·.1)) = true ∧ as.all isFu = true
  · rw [if_pos hf.1, if_pos hf.2] at k
    have off : ∀ a ∈ ([] : List Addr), G1 a = none ∧ ∀ j, a ∉ fp1 j := fun a ha => absurd ha (by simp)
    have I2 := (I1.frz off).grow k1 (Ext.refl _ _) ((frzH_sub z).trans k1)
    have b2 := (b1.frz z (F := []) (fun a ha => absurd ha (by simp)) (fun a ha => absurd ha (by simp))).grow k1 (Ext.refl _ _)
    refine k [.ref p] _ (frzH G1 H1 []) fp1 F (s1.trans k1) (kp.frz s1 z (fun a ha => absurd ha (by simp)) (fun a ha => absurd ha (by simp))) I2 b2 sub nd (fun a ha => ⟨frzH_none (r.mu a ha) (new a ha).1 (by simp), (new a ha).2⟩) ⟨_, rfl, ?_⟩ _ rfl
    simp only [RM, RF]
    refine .inr ⟨hf.1, p, vs, rfl, upd_same, ?_⟩
    have q := r.full z hf.2
    rw [← e0]
    exact RFs.keep (same_refl _) (fun a o e i => k1 _ _ e) _ _ _ (fun a ha => by obtain ⟨o, ho, _⟩ := r.mu a ha; rw [ho]; exact k1 _ _ ho) q
  · have off : ∀ a ∈ F, G1 a = none ∧ ∀ j, a ∉ fp1 j := fun a ha => ⟨(new a ha).1, (new a ha).2.2⟩
    have z2 : Same (frzH G1 H1 F) (upd H1 p (.tup vs)) := (frzH_sub z).trans k1
    have I2 := ((I1.frz off).grow k1 (Ext.refl _ _) z2)
    have b2 := ((b1.frz z (F := F) (fun a ha => (off a ha).1) (fun a ha => newH0 b (new a ha).2.1)).grow k1 (Ext.refl _ _))
    have I3 := I2.frz (F := []) (fun a ha => absurd ha (by simp))
    have b3 := b2.frz z2 (F := []) (fun a ha => absurd ha (by simp)) (fun a ha => absurd ha (by simp))
    have kp3 := (kp.frz s1 z (fun a ha => (off a ha).1) (fun a ha => (new a ha).2.1)).frz (s1.trans k1) z2 (F := []) (fun a ha => absurd ha (by simp)) (fun a ha => absurd ha (by simp))
    have hm : (if hasLs (as.map (·.1)) then (if as.all isFu then Mo.full else Mo.sh) else Mo.sh) = .sh := by
      by_cases h1 : hasLs (as.map (·.1)) = true
      · rw [if_pos h1, if_neg (fun h2 => hf ⟨h1, h2⟩)]
      · rw [if_neg h1]
    rw [hm] at k
    refine k [.ref p] _ _ fp1 [] (s1.trans k1) kp3 I3 b3 sub List.nodup_nil (fun a ha => absurd ha (by simp)) ⟨_, rfl, rfl, ?_⟩ _ rfl
    simp only [R]
    exact ⟨p, vs, rfl, frzH_imm upd_same rfl, Rs.mono (frzH_same z2 (fun a ha => absurd ha (by simp))) _ _ (r.frz z (fun a ha => (off a ha).1) (fun a ha => ha) hb')⟩
theorem pm_lst {es : List Expr} {xs : List Mx} (h : PA X es (tAM X.K H0 xs)) : PE X (.List es pos) (tM X.K H0 (.lst xs)) := by
  refine (pe_lst h).imp fun σ H Q q => ?_
  obtain ⟨ρ, G0, G, fp, ρ', d, m, I, b, e, k⟩ := q
  simp only [evM] at e
  split at e <;> try (cases e; done)
  rename_i ρ1 as ea
  split at e <;> try (cases e; done)
  rename_i hl
  split at e <;> cases e
  rename_i em
  refine ⟨ρ, G0, G, fp, ρ', as, I, b, ea, fun vs H1 G1 fp1 F s1 kp I1 b1 sub nd new r => ⟨by rw [← r.len, ← SZ_eq]; exact hl, fun p np => ?_⟩⟩
  unfold mkLst at em
  split at em
  · cases em
  rename_i hb
  have hb' : as.any isB = false := by simpa using hb
  simp only [Option.some.injEq, Prod.mk.injEq] at em
  obtain ⟨rfl, rfl⟩ := em
  have k1 : Same H1 (upd H1 p (.lst vs)) := same_upd np
  have z := I1.sub
  have pF : p ∉ F := fun hm => by obtain ⟨o, ho, _⟩ := r.mu p hm; rw [np] at ho; cases ho
  have hp : H p = none := new_back s1 (F := [p]) (by simpa using np) p (by simp)
  have gp : ∀ F', p ∉ F' → frzH G1 H1 F' p = none := fun F' hp' => by
    unfold frzH absb
    rw [if_neg hp', np]
    cases q : G1 p with
    | none => rfl
    | some o => have := z _ _ q; rw [np] at this; cases this
  have pfp : ∀ j, p ∉ fp1 j := fun j h => by obtain ⟨o, ho, _⟩ := I1.mu j p h; rw [np] at ho; cases ho
  by_cases hf : as.all isFu = true
  · rw [if_pos hf] at k
    have off : ∀ a ∈ ([] : List Addr), G1 a = none ∧ ∀ j, a ∉ fp1 j := fun a ha => absurd ha (by simp)
    have I2 := (I1.frz off).grow k1 (Ext.refl _ _) ((frzH_sub z).trans k1)
    have b2 := (b1.frz z (F := []) (fun a ha => absurd ha (by simp)) (fun a ha => absurd ha (by simp))).grow k1 (Ext.refl _ _)
    refine k [.ref p] _ (frzH G1 H1 []) fp1 (p :: F) (s1.trans k1) (kp.frz s1 z (fun a ha => absurd ha (by simp)) (fun a ha => absurd ha (by simp))) I2 b2 sub (List.nodup_cons.mpr ⟨pF, nd⟩) (fun a ha => ?_) ⟨_, rfl, ?_⟩ _ rfl
    · rcases List.mem_cons.mp ha with rfl | ha
      · exact ⟨gp [] (by simp), .inl hp, pfp⟩
      · exact ⟨frzH_none (r.mu a ha) (new a ha).1 (by simp), (new a ha).2⟩
    · simp only [RM, RF]
      refine ⟨p, vs, F, rfl, rfl, upd_same, ?_⟩
      have q := r.full z hf
      rw [← e0]
      exact RFs.keep (same_refl _) (fun a o e i => k1 _ _ e) _ _ _ (fun a ha => by obtain ⟨o, ho, _⟩ := r.mu a ha; rw [ho]; exact k1 _ _ ho) q
  · rw [if_neg hf] at k
    have off : ∀ a ∈ F, G1 a = none ∧ ∀ j, a ∉ fp1 j := fun a ha => ⟨(new a ha).1, (new a ha).2.2⟩
    have I2 := ((I1.frz off).grow k1 (Ext.refl _ _) ((frzH_sub z).trans k1))
    have b2 := ((b1.frz z (F := F) (fun a ha => (off a ha).1) (fun a ha => newH0 b (new a ha).2.1)).grow k1 (Ext.refl _ _))
    have kp2 := kp.frz s1 z (fun a ha => (off a ha).1) (fun a ha => (new a ha).2.1)
    refine k [.ref p] _ _ fp1 [p] (s1.trans k1) kp2 I2 b2 sub (by simp) (fun a ha => ?_) ⟨_, rfl, ?_⟩ _ rfl
    · simp at ha; subst ha; exact ⟨gp F pF, .inl hp, pfp⟩
    · simp only [RM, RT]
      exact ⟨p, vs, rfl, rfl, upd_same, r.frz z (fun a ha => (off a ha).1) (fun a ha => ha) hb'⟩
/-! ### statements -/
theorem qs_setM {i : Nat} {x : Mx} {nm : Str} {e : Expr} {p : Pos} (hN : X.N.Nodup) (hi : X.N[i]? = some nm) (hx : Loc X.env.scope nm) (he : PE X e (tM X.K H0 x)) (hs : swapsWith e (some (.Name nm p)) pos.line X.env = pure false := by rfl)
    (hf : X.fn nm = true ∨ X.env.scope.names.lookup nm = some .local := by first | exact .inl rfl | exact .inr rfl | assumption) : PS X (.Assign [.Name nm p] e pos) (tS X.K H0 N (.setM i x)) := by
  refine (ps_set hN hi hx he hs hf).imp fun D σ H h => ?_
  obtain ⟨G0, ρ, o, ⟨G, fp, I, b⟩, e, f⟩ := h
  simp only [evS] at e
  split at e <;> try (cases e; done)
  rename_i ρ' q ee
  split at e <;> cases e
  rename_i hl
  refine ⟨ρ, G0, G, fp, ρ', q.1, q.2, I, b, ee, fun vs H1 G1 fp1 F s1 kp I1 b1 sub nd new r => ?_⟩
  obtain ⟨v0, rfl, r⟩ := r
  rintro v hv; cases hv
  exact f _ _ (At.set I1 b1 hl r nd fun a ha => ⟨(new a ha).1, newH0 b (new a ha).2.1, fun j _ => (new a ha).2.2 j⟩)
theorem qs_retM {e : Expr} {x : Mx} (he : PE X e (tM X.K H0 x)) : PS X (.Return (some e) pos) (tS X.K H0 N (.retM x)) := by
  refine (ps_ret he).imp fun D σ H h => ?_
  obtain ⟨G0, ρ, o, ⟨G, fp, I, b⟩, e, f⟩ := h
  simp only [evS] at e
  split at e <;> cases e
  rename_i ρ' q ee
  refine ⟨ρ, G0, G, fp, ρ', q.1, q.2, I, b, ee, fun vs H1 G1 fp1 F s1 kp I1 b1 sub nd new r => ?_⟩
  obtain ⟨v0, rfl, r⟩ := r
  rintro v hv; cases hv
  exact f _ H1 G1 F b1.kH b1.kG I1.sub nd (fun a ha => ⟨newH0 b (new a ha).2.1, (new a ha).1⟩) r
theorem evM_fst : ∀ (x : Mx) (ρ ρ' : Env) (p : DM), evM x ρ = some (ρ', p) → ∀ (i : Nat) (s : DM), ρ'[i]? = some (some s) → ρ[i]? = some (some s) := by
  suffices h : (∀ (x : Mx) (ρ ρ' : Env) (p : DM), evM x ρ = some (ρ', p) → ∀ (i : Nat) (s : DM), ρ'[i]? = some (some s) → ρ[i]? = some (some s)) from h
  intro x
  refine Mx.rec (motive_1 := fun x => ∀ (ρ ρ' : Env) (p : DM), evM x ρ = some (ρ', p) → ∀ (i : Nat) (s : DM), ρ'[i]? = some (some s) → ρ[i]? = some (some s))
    (motive_2 := fun xs => ∀ (ρ ρ' : Env) (p : List DM), evMs xs ρ = some (ρ', p) → ∀ (i : Nat) (s : DM), ρ'[i]? = some (some s) → ρ[i]? = some (some s)) ?_ ?_ ?_ ?_ ?_ ?_ ?_ x
  · intro e ρ ρ' p h i s hi
    simp only [evM] at h
    split at h <;> cases h; exact hi
  · intro j ρ ρ' p h i s hi
    simp only [evM] at h
    split at h <;> cases h
    by_cases c : j = i
    · subst c
      by_cases hl : j < ρ.length
      · rw [List.getElem?_set_self hl] at hi; cases hi
      · rw [List.getElem?_eq_none (by simpa using hl)] at hi; cases hi
    · rw [List.getElem?_set_ne c] at hi; exact hi
  · intro es ih ρ ρ' p h i s hi
    simp only [evM] at h
    split at h <;> try (cases h; done)
    rename_i ea
    split at h <;> try (cases h; done)
    split at h <;> cases h
    exact ih _ _ _ ea i s hi
  · intro es ih ρ ρ' p h i s hi
    simp only [evM] at h
    split at h <;> try (cases h; done)
    rename_i ea
    split at h <;> try (cases h; done)
    split at h <;> cases h
    exact ih _ _ _ ea i s hi
  · intro c a b iha ihb ρ ρ' p h i s hi
    simp only [evM] at h
    split at h <;> try (cases h; done)
    · exact iha _ _ _ h i s hi
    · exact ihb _ _ _ h i s hi
  · intro ρ ρ' p h i s hi
    simp only [evMs, Option.some.injEq, Prod.mk.injEq] at h
    rw [h.1]; exact hi
  · intro e es ih1 ih2 ρ ρ' p h i s hi
    simp only [evMs] at h
    split at h <;> try (cases h; done)
    rename_i e1
    split at h <;> cases h
    rename_i e2
    exact ih1 _ _ _ e1 i s (ih2 _ _ _ e2 i s hi)
theorem qs_appM {i : Nat} {x : Mx} {o e call : Expr} (ho : PE X o (tVar i)) (he : PE X e (tM X.K H0 x)) (hcall : ∀ to t, PE X o to → PA X [e] t → PE X call (tBM X.K "list" rAppend to t)) (hs : swapsWith call none pos.line X.env = pure false := by rfl)
    (hst : starEach [e] X.env = (false, eval e X.env) :: starEach [] X.env := by rfl) : PS X (.Expr call pos) (tS X.K H0 N (.appM i x)) := by
  refine (ps_expr (hcall _ _ ho (pa_cons he pa_nil hst)) hs).imp fun D σ H h => ?_
  obtain ⟨G0, ρ, o, ⟨G, fp, I, b⟩, e, f⟩ := h
  simp only [evS] at e
  split at e <;> try (cases e; done)
  rename_i ρ' q0 ee
  split at e <;> try (cases e; done)
  rename_i ds m es
  split at e <;> cases e
  rename_i q eq
  obtain ⟨v, hv, rm⟩ := I.get (evM_fst _ _ _ _ ee i _ es)
  have rv := rm.r I.sub
  simp only [R] at rv
  obtain ⟨l, xs, rfl, hl, _⟩ := rv
  refine ⟨_, hv, .inl ⟨rfl, xs, .inl (.inl hl)⟩, ?_⟩
  refine ⟨ρ, G0, G, fp, ρ', q0.1, q0.2, I, b, ee, fun vs H1 G1 fp1 F s1 kp I1 b1 sub nd new r => ?_⟩
  obtain ⟨v0, rfl, r⟩ := r
  rintro y hy; cases hy
  obtain ⟨l', xs', e1, h1, hz, at1⟩ := At.append I1 b1 es hv eq r nd fun a ha => ⟨(new a ha).1, newH0 b (new a ha).2.1, (new a ha).2.2⟩
  cases e1
  exact ⟨l, xs', v0, rfl, rfl, h1, hz, f _ _ at1⟩
/-- a name set to a list made by turns, on one line -/
theorem qs_setc {i : Nat} {y : Str} {py : Pos} {elt tg iter : Expr} {ifs : List Expr} {scope : Scope} {own : List (Str × Nat)} {pos spos : Pos} {p : Pt} {ig : IG} {src : List Ex} {c e : Ex} (hy : X.N[i]? = some y) (hyl : X.env.scope.names.lookup y = some .local)
    (hsw : swapsWith (.ListComp elt [⟨tg, iter, ifs, 0⟩] scope pos) (some (.Name y py)) spos.line X.env = pure true) (hc : X.calm = true) (hN : X.N.Nodup)
    (hi : PI X tg iter (tI X.K ig src)) (ok : BlkOk X.N X.env.scope scope own) (hp : ∀ j ∈ p.ix, j ∈ own.map (·.2))
    (hg : ∀ (s : Shared) (H : Hp) (C : Addr) (cl : List (Str × Addr)) (fp : List Addr), PG (X.blk s H scope (compEnvC scope cl C X.env) fp) tg (tG X.K p))
    (ht : ∀ (s : Shared) (H : Hp) (C : Addr) (cl : List (Str × Addr)) (fp : List Addr), PTs (X.blk s H scope (compEnvC scope cl C X.env) fp) ifs (tT X.K c))
    (he : ∀ (s : Shared) (H : Hp) (C : Addr) (cl : List (Str × Addr)) (fp : List Addr), PE (X.blk s H scope (compEnvC scope cl C X.env) fp) elt (tX X.K e)) (hs : ∀ x, foldedSetIterable iter X.env x = pure x := by intro _; rfl) :
    PS X (.Assign [.Name y py] (.ListComp elt [⟨tg, iter, ifs, 0⟩] scope pos) spos) (tS X.K H0 N (.set i (.comp p (own.map (·.2)) ig src c e))) := by
  refine (ps_setLc hc hN hy hyl hsw hi ok hg ht he hs).imp fun D σ H h => ?_
  obtain ⟨G0, ρ, o, ⟨G, fp, I, b⟩, e, f⟩ := h
  simp only [evS] at e
  split at e <;> try (cases e; done)
  rename_i d m ee
  split at e <;> cases e
  rename_i hl
  exact lc_of hp (At.expr I b ee fun v H' G' F I' b' r nd new => f _ _ (At.set I' b' hl r nd fun a ha => ⟨(new a ha).1, (new a ha).2.1, fun j _ => (new a ha).2.2 j⟩))
def gLt := g2I (fun _ _ => true) fun i j => .bl (decide (i < j))
theorem iLt : ImpN X (r2N (rI0 fun i j => .bl (decide (i < j)))) gLt := imp2I (fv := fun i j => .bl (decide (i < j))) (fun _ _ _ _ _ q => ⟨_, _, rfl, rfl, q⟩) (fun _ _ _ => by simp [R])
end
end SW
namespace SW
open PySem PySem.Spec PyProof.Rows L2

def FUEL : Nat := 1000000
/-- a def's answer: n arguments, its body, so many names -/
def fB (n : Nat) (b : List Sx) (N : Nat) (ds : List D) : Option DM := if ds.length = n then runB FUEL b ds N else none
theorem fB_len {n N : Nat} {b : List Sx} {ds : List D} {d : DM} (h : fB n b N ds = some d) : ds.length = n := by
  unfold fB at h
  split at h
  · assumption
  · cases h
theorem fB_run {n N : Nat} {b : List Sx} {ds : List D} {d : D} {m : Mo} (h : fB n b N ds = some (d, m)) : ∃ M, runB M b ds N = some (d, m) := by
  unfold fB at h
  split at h
  · exact ⟨FUEL, h⟩
  · cases h
theorem fnB {P : Program} {w : World} {K : PySem.W.Frag} {mg : Str → Option Value} {base : Heap} {x qual : Str} {st : Stmt} {fa : Addr} {fd : FuncData} {Ns ps : List Str} {k : Nat} {xs : List Sx} {n NN : Nat}
    (F : Fun K x qual st fa fd) (S : FnScope Ns ps (defScope st)) (hn : ps.length = n) (hN : Ns.length = NN)
    (hb : ∀ (cdv : Value) (A : Around) (outer : List PySem.Env) (s : Shared) (H : Hp) (E : XK) (N : Nat), Room k (A.deeper (envOfC qual (defScope st) s.heap.objs.size fa cdv)) →
      PSs (cxOf CX0 P w K mg base Ns qual (defScope st) fa cdv A outer s H E).nox (defBody st) (tSS K H N xs)) : FnOk P w K mg base CX0 (k + 1) fa fd ps (spP K (fB n xs NN)) := by
  subst hn hN
  exact fnP F S (fun ds d h => fB_len h) hb fun ds d m h => fB_run h
theorem u200 {k : Nat} {A : Around} (hr : Room k A) : A.units + 200 < cLine := by have := hr.un; omega
end SW
namespace SW
open PySem PySem.Spec PyProof.Rows L2

/-! ### how big an int is -/
def Bd (n : Nat) (i : Int) : Prop := i.natAbs < 2 ^ n
theorem Bd.mono {n m : Nat} {i : Int} (h : Bd n i) (k : n ≤ m) : Bd m i := Nat.lt_of_lt_of_le h (Nat.pow_le_pow_right (by decide) k)
theorem Bd.add {n m : Nat} {i j : Int} (h : Bd n i) (k : Bd m j) : Bd (max n m + 1) (i + j) := by
  have h1 : Bd (max n m) i := h.mono (Nat.le_max_left _ _)
  have h2 : Bd (max n m) j := k.mono (Nat.le_max_right _ _)
  unfold Bd at *
  rw [Nat.pow_succ]
  generalize 2 ^ max n m = z at *
  omega
theorem Bd.sub {n m : Nat} {i j : Int} (h : Bd n i) (k : Bd m j) : Bd (max n m + 1) (i - j) := by
  have h1 : Bd (max n m) i := h.mono (Nat.le_max_left _ _)
  have h2 : Bd (max n m) j := k.mono (Nat.le_max_right _ _)
  unfold Bd at *
  rw [Nat.pow_succ]
  generalize 2 ^ max n m = z at *
  omega
theorem Bd.mul {n m : Nat} {i j : Int} (h : Bd n i) (k : Bd m j) : Bd (n + m) (i * j) := by
  unfold Bd at *
  rw [Int.natAbs_mul, Nat.pow_add]
  exact Nat.mul_lt_mul'' h k
theorem Bd.bits {n : Nat} {i : Int} (h : Bd n i) : Builtin.Int.intBits i ≤ n := by
  unfold Builtin.Int.intBits Bd at *
  split
  · exact Nat.zero_le _
  · rename_i hz
    have : i.natAbs ≠ 0 := by simpa using hz
    have := (Nat.log2_lt this).mpr h
    omega
theorem Bd.of_bits {n : Nat} {i : Int} (h : Builtin.Int.intBits i ≤ n) : Bd n i := by
  unfold Builtin.Int.intBits at h
  unfold Bd
  split at h
  · rename_i hz
    have : i = 0 := by simpa using hz
    subst this
    exact Nat.pow_pos (by decide)
  · rename_i hz
    have h0 : i.natAbs ≠ 0 := by simpa using hz
    exact (Nat.log2_lt h0).mp (by omega)
theorem Bd.ok {n m : Nat} {i j : Int} (h : Bd n i) (k : Bd m j) (e : n + m ≤ 134217728) : bitsOk i j = true := by
  have := h.bits
  have := k.bits
  unfold bitsOk
  exact decide_eq_true (by omega)
theorem Bd.nat {n : Nat} {k : Nat} (h : k < 2 ^ n) : Bd n (k : Int) := by simpa [Bd] using h
theorem Bd.lit {n : Nat} {k : Int} (h : decide (k.natAbs < 2 ^ n) = true) : Bd n k := by unfold Bd; exact of_decide_eq_true h

/-! ### loops -/
theorem forGo_ind {p : Pt} {m : Mo} {b : SW.Env → Option Out} (I : Nat → SW.Env → Prop) : ∀ (ds : List D) (k : Nat) (ρ : SW.Env), I k ρ →
    (∀ i d ρ, ds[i]? = some d → I (k + i) ρ → ∃ ρ1 ρ2, bindP p d m ρ = some ρ1 ∧ (b ρ1 = some (.nx ρ2) ∨ b ρ1 = some (.ct ρ2)) ∧ I (k + i + 1) ρ2) → ∃ ρ', forGo p m b ds ρ = some (.nx ρ') ∧ I (k + ds.length) ρ'
  | [], k, ρ, h, _ => ⟨ρ, rfl, h⟩
  | d :: ds, k, ρ, h, st => by
    obtain ⟨ρ1, ρ2, e1, e2, h2⟩ := st 0 d ρ rfl h
    obtain ⟨ρ', e3, h3⟩ := forGo_ind I ds (k + 1) ρ2 h2 fun i d' ρ' e' h' => by
      have := st (i + 1) d' ρ' (by simpa using e') (by rw [show k + (i + 1) = k + 1 + i by omega]; exact h')
      rw [show k + (i + 1) + 1 = k + 1 + i + 1 by omega] at this
      exact this
    refine ⟨ρ', ?_, by rw [List.length_cons, show k + (ds.length + 1) = k + 1 + ds.length by omega]; exact h3⟩
    rcases e2 with e2 | e2 <;> simp only [forGo, e1, e2, e3]
/-- while: a measure that falls -/
theorem whlGo_ind {c : SW.Env → Option DM} {b : SW.Env → Option Out} (I : Nat → SW.Env → Prop) (hstep : ∀ m ρ, I m ρ → (∃ mm, c ρ = some (.bl false, mm)) ∨ (∃ mm ρ2 m', c ρ = some (.bl true, mm) ∧ (b ρ = some (.nx ρ2) ∨ b ρ = some (.ct ρ2)) ∧ m' < m ∧ I m' ρ2)) :
    ∀ (n m : Nat) (ρ : SW.Env), m < n → I m ρ → ∃ ρ' m', whlGo c b n ρ = some (.nx ρ') ∧ I m' ρ' ∧ ∃ mm, c ρ' = some (.bl false, mm)
  | 0, m, ρ, h, _ => absurd h (Nat.not_lt_zero _)
  | n + 1, m, ρ, h, hi => by
    rcases hstep m ρ hi with ⟨mm, e⟩ | ⟨mm, ρ2, m', e1, e2, lt, hi2⟩
    · exact ⟨ρ, m, by simp only [whlGo, e], hi, mm, e⟩
    · obtain ⟨ρ', m'', e3, h3⟩ := whlGo_ind I hstep n m' ρ2 (by omega) hi2
      refine ⟨ρ', m'', ?_, h3⟩
      rcases e2 with e2 | e2 <;> simp only [whlGo, e1, e2, e3]
theorem evS_fors {N : Nat} {p : Pt} {ig : IG} {src : List Ex} {body : List Sx} {ρ : SW.Env} {as : List DM} {ds : List D} {m : Mo} (h : evs src ρ = some as) (h2 : ig (as.map fz) = some (ds, m, true)) : evS N (.fors p ig src body) ρ = forGo p m (evB N body) ds ρ := by
  simp only [evS, h, h2]
theorem evS_whl {N : Nat} {c : Ex} {body : List Sx} {ρ : SW.Env} : evS N (.whl c body) ρ = whlGo (ev c) (evB N body) N ρ := by
  simp only [evS]
theorem igR1_nat {r : Nat} {m : Mo} (h : r < 1000000) : igR1 [(.int r, m)] = some (rngD 0 1 r, .sh, true) := by
  have r1 : (-4611686018427387904 : Int) ≤ (r : Int) := by omega
  have r2 : (r : Int) < 4611686018427387904 := by omega
  simp [igR1, inR, B62, r1, r2]
theorem rngD_len {a c : Int} {n : Nat} : (rngD a c n).length = n := by simp [rngD]
theorem rngD_get {a c : Int} {n i : Nat} {d : D} (h : (rngD a c n)[i]? = some d) : i < n ∧ d = .int (a + i * c) := by
  have hi : i < n := by
    rcases Nat.lt_or_ge i n with q | q
    · exact q
    · rw [List.getElem?_eq_none (by rw [rngD_len]; exact q)] at h; cases h
  refine ⟨hi, ?_⟩
  simp [rngD, hi] at h
  exact h.symm
theorem compGo_filter {p : Pt} {m : Mo} {c e : SW.Env → Option DM} {ρ : SW.Env} (q : D → Bool) (g : D → DM) : ∀ ds : List D, (∀ d ∈ ds, ∃ ρ1 mm, bindP p d m ρ = some ρ1 ∧ c ρ1 = some (.bl (q d), mm) ∧ (q d = true → ∃ a, e ρ1 = some a ∧ nmz a.1 a.2 = g d)) → compGo p m c e ρ ds = some ((ds.filter q).map g)
  | [], _ => rfl
  | d :: ds, h => by
    obtain ⟨ρ1, mm, e1, e2, e3⟩ := h d (List.mem_cons_self ..)
    have ih := compGo_filter (p := p) (m := m) (c := c) (e := e) (ρ := ρ) q g ds fun d' hd => h d' (List.mem_cons_of_mem _ hd)
    cases hq : q d with
    | true =>
      obtain ⟨a, ea, eg⟩ := e3 hq
      rw [hq] at e2
      simp only [compGo, e1, e2, ea, ih, eg, List.filter_cons, hq, if_true, List.map_cons]
    | false =>
      rw [hq] at e2
      simp only [compGo, e1, e2, ih, List.filter_cons, hq, Bool.false_eq_true, if_false]
theorem compGo_all {p : Pt} {m : Mo} {c e : SW.Env → Option DM} {ρ : SW.Env} (g : D → DM) (ds : List D) (h : ∀ d ∈ ds, ∃ ρ1 mm a, bindP p d m ρ = some ρ1 ∧ c ρ1 = some (.bl true, mm) ∧ e ρ1 = some a ∧ nmz a.1 a.2 = g d) : compGo p m c e ρ ds = some (ds.map g) := by
  have := compGo_filter (p := p) (m := m) (c := c) (e := e) (ρ := ρ) (fun _ => true) g ds fun d hd => let ⟨ρ1, mm, a, e1, e2, e3, e4⟩ := h d hd; ⟨ρ1, mm, e1, e2, fun _ => ⟨a, e3, e4⟩⟩
  rw [this, List.filter_eq_self.mpr (fun _ _ => rfl)]
theorem ev_comp {p : Pt} {vs : List Nat} {ig : IG} {src : List Ex} {c e : Ex} {ρ : SW.Env} {as : List DM} {ds : List D} {m : Mo} {st : Bool} {r : List DM} (h : evs src ρ = some as) (h2 : ig (as.map fz) = some (ds, m, st)) (h3 : compGo p m (ev c) (ev e) (wipeE ρ vs) ds = some r) (h4 : ds.length ≤ 1000000) : ev (.comp p vs ig src c e) ρ = mkLst r := by
  have h4' : ds.length ≤ SZ := Nat.le_trans h4 (by decide)
  simp only [ev, h, h2, h3, h4', if_true]
theorem mkLst_flat {r : List DM} (h : ∀ a ∈ r, hasL a.1 = false) : mkLst r = some (.lst (r.map (·.1)), .full) := by
  have h1 : r.any isB = false := by
    rw [List.any_eq_false]
    intro a ha
    simp [isB, h a ha]
  have h2 : r.all isFu = true := by
    rw [List.all_eq_true]
    intro a ha
    simp [isFu, h a ha]
  unfold mkLst
  rw [h1, h2]; rfl
theorem gAll_bls {bs : List Bool} {m : Mo} : gAll [(.lst (bs.map .bl), m)] = some (.bl (bs.all id), .sh) := by
  simp only [gAll, blsD_map]
theorem gAny_bls {bs : List Bool} {m : Mo} : gAny [(.lst (bs.map .bl), m)] = some (.bl (bs.any id), .sh) := by
  simp only [gAny, blsD_map]
theorem sz_pos {n : Nat} (h : n ≤ 1000000) : n ≤ SZ := Nat.le_trans h (by decide)
theorem hasLs_ints : ∀ ns : List Int, hasLs (ns.map D.int) = false
  | [] => rfl
  | n :: ns => by rw [List.map_cons]; unfold hasLs; rw [hasLs_ints ns]; rfl
theorem hasLs_strs : ∀ ns : List (List Nat), hasLs (ns.map D.str) = false
  | [] => rfl
  | n :: ns => by rw [List.map_cons]; unfold hasLs; rw [hasLs_strs ns]; rfl
theorem callG_sh {f : List D → Option DM} {as : List DM} (h : as.all (fun p => !hasL p.1 || p.2 == .sh) = true) : callG f as = f (as.map (·.1)) := by
  unfold callG
  cases f (as.map (·.1)) with
  | none => rfl
  | some p => obtain ⟨d, m⟩ := p; exact if_pos h
theorem atI_nat {α : Type} (xs : List α) (k : Nat) : L2.atI xs (k : Int) = xs[k]? := by
  unfold L2.atI L2.ixN
  rw [if_pos (by omega)]
  by_cases h : k < xs.length
  · rw [if_pos (by omega)]; simp
  · rw [if_neg (by omega), List.getElem?_eq_none (Nat.le_of_not_lt h)]; rfl
/-- the end of a law: the script as it comes -/
theorem law_of {K : PySem.W.Frag} {f : List D → Option DM} {H : Hp} {a : Addr} {ns : List Int} {m : Mo} {E : XK} (ho : Only H) (hS : SqL K H a (ns.map V.int)) (e : f [.scr ns] = some (.bl true, m)) : spP K f [.ref a] H (fun v _ => v = .bl true) E := by
  refine ⟨H, [.scr ns], .bl true, m, same_refl H, ?_, e, ?_⟩
  · refine Rs.one ?_
    simp only [R]
    refine ⟨a, rfl, ?_⟩
    rcases hS with h | h
    · rcases h with h | ⟨o, h⟩
      · rcases ho a with z | ⟨o, xs, z⟩
        · rw [h] at z; cases z
        · rw [h] at z; cases z
      · exact .inl ⟨o, h⟩
    · exact .inr h
  · intro v H' G' F _ _ z _ _ r
    have := r.r z
    simpa only [R] using this
end SW
namespace SW
open PySem

/-! ### == of data, told -/
def sOk (s : List Nat) : Bool := s.all fun c => decide (c < 1114112)
mutual
/-- data with small signs -/
def okD : D → Bool
  | .non => true
  | .bl _ => true
  | .int _ => true
  | .str s => sOk s
  | .lst ds => okDs ds
  | .tup ds => okDs ds
  | .dK _ _ => false
  | .dT _ _ => false
  | .scr _ => false
  | .obj _ _ _ => false
  | .raw _ => false
def okDs : List D → Bool
  | [] => true
  | d :: ds => okD d && okDs ds
end
mutual
/-- no True or False in it -/
def noB : D → Bool
  | .bl _ => false
  | .lst ds => noBs ds
  | .tup ds => noBs ds
  | .non => true
  | .int _ => true
  | .str _ => true
  | .dK _ _ => true
  | .dT _ _ => true
  | .scr _ => true
  | .obj _ _ _ => true
  | .raw _ => true
def noBs : List D → Bool
  | [] => true
  | d :: ds => noB d && noBs ds
end
theorem strOk_of {s : List Nat} (h : sOk s = true) : PyData.strOk ⟨s.toArray⟩ = true := by
  unfold sOk at h
  unfold PyData.strOk
  simpa using h
mutual
theorem okD_can : ∀ d : D, okD d = true → (toPy d).canLay0 = true
  | .non, _ => rfl
  | .bl _, _ => rfl
  | .int _, _ => rfl
  | .str s, h => by simp only [okD] at h; simp only [toPy, PyData.canLay0]; exact strOk_of h
  | .lst ds, h => by simp only [okD] at h; simp only [toPy, PyData.canLay0]; exact okDs_can ds h
  | .tup ds, h => by simp only [okD] at h; simp only [toPy, PyData.canLay0]; exact okDs_can ds h
  | .dK _ _, h => by simp [okD] at h
  | .dT _ _, h => by simp [okD] at h
  | .scr _, h => by simp [okD] at h
  | .obj _ _ _, h => by simp [okD] at h
  | .raw _, h => by simp [okD] at h
theorem okDs_can : ∀ ds : List D, okDs ds = true → PyData.canLayAll0 (toPys ds) = true
  | [], _ => rfl
  | d :: ds, h => by
    simp only [okDs, Bool.and_eq_true] at h
    simp only [toPys, PyData.canLayAll0, okD_can d h.1, okDs_can ds h.2, Bool.and_self]
end
mutual
theorem okD_py : ∀ d : D, okD d = true → pyOk d = true
  | .non, _ => rfl
  | .bl _, _ => rfl
  | .int _, _ => rfl
  | .str s, h => rfl
  | .lst ds, h => by simp only [okD] at h; simp only [pyOk]; exact okDs_py ds h
  | .tup ds, h => by simp only [okD] at h; simp only [pyOk]; exact okDs_py ds h
  | .dK _ _, h => by simp [okD] at h
  | .dT _ _, h => by simp [okD] at h
  | .scr _, h => by simp [okD] at h
  | .obj _ _ _, h => by simp [okD] at h
  | .raw _, h => by simp [okD] at h
theorem okDs_py : ∀ ds : List D, okDs ds = true → pyOks ds = true
  | [], _ => rfl
  | d :: ds, h => by
    simp only [okDs, Bool.and_eq_true] at h
    simp only [pyOks, okD_py d h.1, okDs_py ds h.2, Bool.and_self]
end
mutual
theorem dpth_py : ∀ d : D, (toPy d).depth = dpth d
  | .non => rfl
  | .bl _ => rfl
  | .int _ => rfl
  | .str s => rfl
  | .lst ds => by simp only [toPy, PyData.depth, dpth, dpths_py ds]
  | .tup ds => by simp only [toPy, PyData.depth, dpth, dpths_py ds]
  | .dK _ _ => rfl
  | .dT _ _ => rfl
  | .scr _ => rfl
  | .obj _ _ _ => rfl
  | .raw _ => rfl
theorem dpths_py : ∀ ds : List D, PyData.depthAll (toPys ds) = dpths ds
  | [] => rfl
  | d :: ds => by simp only [toPys, PyData.depthAll, dpths, dpth_py d, dpths_py ds]
end
theorem eqOk_of {d : D} (h : okD d = true) (k : dpth d ≤ 64) : eqOk d = true := by
  unfold eqOk SeqAt.shaped
  rw [okD_py d h, okD_can d h, dpth_py]
  simp [k]
mutual
theorem eqD_iff : ∀ d e : D, okD d = true → okD e = true → noB d = true → noB e = true → (PyData.eqv (toPy d) (toPy e) = true ↔ d = e)
  | .non, e, _, k, _, n => by cases e <;> simp [toPy, PyData.eqv, okD] at k ⊢
  | .bl _, _, _, _, h, _ => by simp [noB] at h
  | .int i, e, _, k, _, n => by cases e <;> simp [toPy, PyData.eqv, okD, noB] at k n ⊢
  | .str s, e, _, k, _, n => by cases e <;> simp [toPy, PyData.eqv, okD, noB] at k n ⊢
  | .lst ds, e, h, k, n, n' => by
    cases e <;> simp [toPy, PyData.eqv, okD, noB] at k n' ⊢
    simp only [okD] at h; simp only [noB] at n
    exact eqDs_iff ds _ h k n n'
  | .tup ds, e, h, k, n, n' => by
    cases e <;> simp [toPy, PyData.eqv, okD, noB] at k n' ⊢
    simp only [okD] at h; simp only [noB] at n
    exact eqDs_iff ds _ h k n n'
  | .dK _ _, _, h, _, _, _ => by simp [okD] at h
  | .dT _ _, _, h, _, _, _ => by simp [okD] at h
  | .scr _, _, h, _, _, _ => by simp [okD] at h
  | .obj _ _ _, _, h, _, _, _ => by simp [okD] at h
  | .raw _, _, h, _, _, _ => by simp [okD] at h
theorem eqDs_iff : ∀ ds es : List D, okDs ds = true → okDs es = true → noBs ds = true → noBs es = true → (PyData.eqvAll (toPys ds) (toPys es) = true ↔ ds = es)
  | [], es, _, _, _, _ => by cases es <;> simp [toPys, PyData.eqvAll]
  | d :: ds, es, h, k, n, n' => by
    cases es with
    | nil => simp [toPys, PyData.eqvAll]
    | cons e es =>
      simp only [okDs, noBs, Bool.and_eq_true] at h k n n'
      simp only [toPys, PyData.eqvAll, Bool.and_eq_true, List.cons.injEq]
      rw [eqD_iff d e h.1 k.1 n.1 n'.1, eqDs_iff ds es h.2 k.2 n.2 n'.2]
end
theorem gAll_map {α : Type} {l : List α} {f : α → Bool} {m : Mo} : gAll [(.lst (l.map fun a => D.bl (f a)), m)] = some (.bl (l.all f), .sh) := by
  have := gAll_bls (bs := l.map f) (m := m)
  rw [List.map_map] at this
  simpa [Function.comp_def] using this
theorem gAny_map {α : Type} {l : List α} {f : α → Bool} {m : Mo} : gAny [(.lst (l.map fun a => D.bl (f a)), m)] = some (.bl (l.any f), .sh) := by
  have := gAny_bls (bs := l.map f) (m := m)
  rw [List.map_map] at this
  simpa [Function.comp_def] using this
theorem gEq_of {d e : D} {m n : Mo} (h : okD d = true) (h1 : dpth d ≤ 64) (k : okD e = true) (k1 : dpth e ≤ 64) : gEq [(d, m), (e, n)] = some (.bl (eqD d e), .sh) := by
  simp [gEq, eqOk_of h h1, eqOk_of k k1]
theorem gNe_of {d e : D} {m n : Mo} (h : okD d = true) (h1 : dpth d ≤ 64) (k : okD e = true) (k1 : dpth e ≤ 64) : gNe [(d, m), (e, n)] = some (.bl (!eqD d e), .sh) := by
  simp [gNe, eqOk_of h h1, eqOk_of k k1]
theorem eqD_self {d : D} (h : okD d = true) (n : noB d = true) : eqD d d = true := (eqD_iff d d h h n n).mpr rfl
theorem eqD_ne {d e : D} (h : okD d = true) (k : okD e = true) (n : noB d = true) (n' : noB e = true) (ne : d ≠ e) : eqD d e = false := by
  cases q : eqD d e with
  | false => rfl
  | true => exact absurd ((eqD_iff d e h k n n').mp q) ne
theorem eqD_ii (i j : Int) : eqD (.int i) (.int j) = decide (i = j) := by
  simp [eqD, toPy, PyData.eqv]; rfl
theorem eqD_ss (a b : List Nat) : eqD (.str a) (.str b) = decide (a = b) := by
  by_cases h : a = b
  · subst h; simp [eqD, toPy, PyData.eqv]
  · simp [eqD, toPy, PyData.eqv, h]
theorem gEq_ii {i j : Int} {m n : Mo} : gEq [(.int i, m), (.int j, n)] = some (.bl (decide (i = j)), .sh) := by
  rw [gEq_of rfl (by simp [dpth]) rfl (by simp [dpth]), eqD_ii]
theorem gNe_ii {i j : Int} {m n : Mo} : gNe [(.int i, m), (.int j, n)] = some (.bl (!decide (i = j)), .sh) := by
  rw [gNe_of rfl (by simp [dpth]) rfl (by simp [dpth]), eqD_ii]
theorem gEq_ss {i j : List Nat} {m n : Mo} (h : sOk i = true) (k : sOk j = true) : gEq [(.str i, m), (.str j, n)] = some (.bl (decide (i = j)), .sh) := by
  rw [gEq_of (by simpa [okD] using h) (by simp [dpth]) (by simpa [okD] using k) (by simp [dpth]), eqD_ss]
theorem gNe_ss {i j : List Nat} {m n : Mo} (h : sOk i = true) (k : sOk j = true) : gNe [(.str i, m), (.str j, n)] = some (.bl (!decide (i = j)), .sh) := by
  rw [gNe_of (by simpa [okD] using h) (by simp [dpth]) (by simpa [okD] using k) (by simp [dpth]), eqD_ss]
theorem igR3_small {a b c : Int} {m n k : Mo} (h1 : a.natAbs < 1000000) (h2 : b.natAbs < 1000000) (h3 : c ≠ 0) (h4 : c.natAbs < 1000000) : igR3 [(.int a, m), (.int b, n), (.int c, k)] = some (rngD a c (rngN a b c), .sh, true) := by
  have z : 0 ≤ Builtin.Range.rangeSize a b c ∧ Builtin.Range.rangeSize a b c < 4000000 := by
    unfold Builtin.Range.rangeSize
    split
    · split
      · have := Int.ediv_nonneg (a := b - a - 1) (b := c) (by omega) (by omega)
        have := Int.ediv_le_self (a := b - a - 1) c (by omega)
        omega
      · omega
    · split
      · have := Int.ediv_nonneg (a := a - b - 1) (b := -c) (by omega) (by omega)
        have := Int.ediv_le_self (a := a - b - 1) (-c) (by omega)
        omega
      · omega
  have fl : ∀ x : Int, x.natAbs < 8000000 → Builtin.Range.rangeFitsLong x = true := fun x hx => by
    unfold Builtin.Range.rangeFitsLong
    simp
    omega
  have s : Builtin.Range.small a b c = true := by
    unfold Builtin.Range.small
    rw [fl a (by omega), fl b (by omega), fl c (by omega), fl _ (by omega)]
    simp
    right
    split
    · exact fl _ (by omega)
    · exact fl _ (by omega)
  have z := z.1
  have c4 : c.natAbs < 1073741824 := by omega
  simp [igR3, s, z, h3, c4]
/-! ### slices told -/
theorem cutL_to {α : Type} (s : List α) (j : Nat) : cutL s none (some (j : Int)) = s.take j := by
  unfold cutL
  rw [HT.sIx_none, HT.sIx_nat, List.drop_zero, Nat.sub_zero, List.take_eq_take_iff]
  omega
theorem cutL_from {α : Type} (s : List α) (i : Nat) : cutL s (some (i : Int)) none = s.drop i := by
  unfold cutL
  rw [HT.sIx_none, HT.sIx_nat]
  rcases Nat.le_total i s.length with h | h
  · rw [Nat.min_eq_left h, List.take_of_length_le (by rw [List.length_drop]; exact Nat.le_refl _)]
  · rw [Nat.min_eq_right h, List.drop_eq_nil_of_le h, Nat.sub_self, List.take_zero]
theorem cutL_mid {α : Type} (s : List α) (i j : Nat) : cutL s (some (i : Int)) (some (j : Int)) = (s.drop i).take (j - i) := by
  unfold cutL
  rw [HT.sIx_nat, HT.sIx_nat]
  rcases Nat.le_total i s.length with h | h
  · rw [Nat.min_eq_left h, List.take_eq_take_iff, List.length_drop]
    omega
  · rw [Nat.min_eq_right h, List.drop_eq_nil_of_le h, List.drop_eq_nil_of_le (Nat.le_refl _), List.take_nil, List.take_nil]
theorem stepL_rev {α : Type} (l : List α) : stepL l (-1) = l.reverse := by
  unfold stepL
  rw [if_neg (by decide), if_neg (by decide), PySem.W.krv_sliceRange]
  apply List.ext_getElem?
  intro i
  have key : ∀ (m : Nat), m ≤ l.length → ((List.range m).map fun k => l.length - 1 - k).filterMap (fun i => l[i]?) = l.reverse.take m := by
    intro m
    induction m with
    | zero => intro _; simp
    | succ m ih =>
      intro hm
      rw [List.range_succ, List.map_append, List.filterMap_append, ih (by omega), List.take_add_one]
      congr 1
      have h1 : l.length - 1 - m < l.length := by omega
      rw [List.getElem?_reverse (by omega)]
      simp [List.getElem?_eq_getElem h1]
  rw [key l.length (Nat.le_refl _), List.take_of_length_le (by simp)]
theorem srtOk_strs (l : List (List Nat)) : srtOk (l.map .str) = true := by
  have h1 : pyOks (l.map .str) = true := by
    induction l with
    | nil => rfl
    | cons a l ih => simp only [List.map_cons, pyOks, pyOk, ih, Bool.and_self]
  have h2 : alkA ((l.map .str).map toPy) = true := by
    unfold alkA
    rw [List.all_eq_true]
    intro a ha
    rw [List.all_eq_true]
    intro b hb
    simp only [List.map_map, List.mem_map, Function.comp_def, toPy] at ha hb
    obtain ⟨x, _, rfl⟩ := ha
    obtain ⟨y, _, rfl⟩ := hb
    rfl
  have h3 : sokA ((l.map .str).map toPy) = true := by
    unfold sokA
    rw [Bool.or_eq_true]; right
    rw [List.all_eq_true]
    intro a ha
    simp only [List.map_map, List.mem_map, Function.comp_def, toPy] at ha
    obtain ⟨x, _, rfl⟩ := ha
    rfl
  unfold srtOk
  rw [h1, h2, h3]
  simp [toPy, PyData.depth]
/-- texts in order -/
def sle (a b : List Nat) : Bool := dle (.str a) (.str b)
theorem gSorted_strs {l : List (List Nat)} {m : Mo} (h : l.length ≤ 1000000) : gSorted [(.lst (l.map .str), m)] = some (.lst ((l.mergeSort sle).map .str), .full) := by
  have h2 : l.length ≤ SZ := Nat.le_trans h (by decide)
  have e : (l.map D.str).mergeSort dle = (l.mergeSort sle).map .str := (List.map_mergeSort (r := sle) (s := dle) (f := D.str) (l := l) fun _ _ _ _ => rfl).symm
  simp only [gSorted, srtOk_strs, List.length_map, h2, decide_true, Bool.and_self, if_true, e, newLst, hasLs_strs]
/-! ### dicts of texts to True -/
def kS (a : List Nat) : L2.Key := .inr ⟨a.toArray⟩
theorem kS_inj {a b : List Nat} : kS a = kS b ↔ a = b := by
  unfold kS
  constructor
  · intro h
    have := Sum.inr.inj h
    have := congrArg (fun s : Str => s.cps.toList) this
    simpa using this
  · intro h; rw [h]
theorem keyToD_kS (a : List Nat) : keyToD (kS a) = .str a := by simp [keyToD, kS]
def addN (kl : List (List Nat)) (x : List Nat) : List (List Nat) := if x ∈ kl then kl else kl ++ [x]
theorem putL_kS (kl : List (List Nat)) (x : List Nat) : putL (kS x) (.bl true) (kl.map kS) (kl.map fun _ => .bl true) = ((addN kl x).map kS, (addN kl x).map fun _ => D.bl true) := by
  have e : kS x ∈ kl.map kS ↔ x ∈ kl := by
    rw [List.mem_map]
    constructor
    · rintro ⟨y, hy, e⟩; rw [kS_inj] at e; subst e; exact hy
    · intro h; exact ⟨x, h, rfl⟩
  unfold putL addN
  by_cases h : x ∈ kl
  · rw [if_pos (e.mpr h), if_pos h]
    congr 1
    clear e h
    induction kl with
    | nil => rfl
    | cons a kl ih => simp only [List.map_cons, List.zipWith_cons_cons, ih]; split <;> rfl
  · rw [if_neg (fun q => h (e.mp q)), if_neg h]
    simp
theorem hasLs_tr {α : Type} : ∀ l : List α, hasLs (l.map fun _ => D.bl true) = false
  | [] => rfl
  | _ :: l => by simpa [hasLs, hasL] using hasLs_tr l
theorem putD_kS {kl : List (List Nat)} {x : List Nat} (h : kl.length ≤ 1000000) : putD (.dK (kl.map kS) (kl.map fun _ => .bl true)) .full (.str x) (.bl true, .sh) = some (.dK ((addN kl x).map kS) ((addN kl x).map fun _ => .bl true), .full) := by
  have h2 : kl.length < SZ := Nat.lt_of_le_of_lt h (by decide)
  have e := putL_kS kl x
  unfold kS at e
  simp [putD, keyD, isOw, isB, hasL, hasLs_tr, h2, kS] 
  exact ⟨congrArg Prod.fst e, congrArg Prod.snd e⟩
theorem gList_kS {kl : List (List Nat)} {m : Mo} : gList [(.dK (kl.map kS) (kl.map fun _ => .bl true), m)] = some (.lst (kl.map .str), .full) := by
  have e : (kl.map kS).map keyToD = kl.map .str := by
    rw [List.map_map]
    exact List.map_congr_left fun a _ => keyToD_kS a
  simp only [gList, List.length_map, if_true, e, newLst, hasLs_strs]
theorem okDs_ints : ∀ ns : List Int, okDs (ns.map .int) = true
  | [] => rfl
  | n :: ns => by simp only [List.map_cons, okDs, okD, okDs_ints ns, Bool.and_self]
theorem noBs_ints : ∀ ns : List Int, noBs (ns.map .int) = true
  | [] => rfl
  | n :: ns => by simp only [List.map_cons, noBs, noB, noBs_ints ns, Bool.and_self]
theorem dpths_ints : ∀ ns : List Int, dpths (ns.map .int) = 0
  | [] => rfl
  | n :: ns => by simp only [List.map_cons, dpths, dpth, dpths_ints ns]; rfl
theorem okDs_strs : ∀ ns : List (List Nat), (∀ w ∈ ns, sOk w = true) → okDs (ns.map .str) = true
  | [], _ => rfl
  | n :: ns, h => by simp only [List.map_cons, okDs, okD, h n (List.mem_cons_self ..), okDs_strs ns fun w hw => h w (List.mem_cons_of_mem _ hw), Bool.and_self]
theorem noBs_strs : ∀ ns : List (List Nat), noBs (ns.map .str) = true
  | [] => rfl
  | n :: ns => by simp only [List.map_cons, noBs, noB, noBs_strs ns, Bool.and_self]
theorem dpths_strs : ∀ ns : List (List Nat), dpths (ns.map .str) = 0
  | [] => rfl
  | n :: ns => by simp only [List.map_cons, dpths, dpth, dpths_strs ns]; rfl
end SW
namespace SW
open PySem PySem.Spec PyProof.Rows L2

/-! ### enumerate of a text -/
def IteT (x : Str) : It :=
  ⟨fun i _ => i < x.cps.size, fun i H v H' => ∃ T c, v = .ref T ∧ H T = none ∧ H' = upd H T (.tup [.int (i : Nat), .str ⟨#[c]⟩]) ∧ x.cps[i]? = some c, fun i _ => x.cps.size ≤ i⟩
theorem turn_enumT {P : Program} {w : World} {K : PySem.W.Frag} {elts : List Expr} {kk : Nat} {tpos : Pos} (x : Str) (t : Tok) (e it : Addr) :
    Turn P w K (.Tuple elts kk tpos) (IteT x) [e, it] e (fun i h => (∃ old, IsEnum h e it ((i : Nat) : Int) old) ∧ h.IsStrIter it (strIterType x) x t i ∧ e ≠ it ∧ i ≤ x.cps.size) where
  mem := by simp
  obj := fun i h st b hb => by
    obtain ⟨⟨old, he⟩, ⟨o, ho, hc, hd⟩, _⟩ := st
    have e' : b = e ∨ b = it := by simpa using hb
    rcases e' with z | z
    · rw [z]; exact ⟨_, he, fun v q => nomatch q⟩
    · rw [z]; exact ⟨o, ho, fun v q => by rw [hd] at q; cases q⟩
  keep := fun i h h' st k => let ⟨⟨old, he⟩, ⟨o, ho, r⟩, hne⟩ := st; ⟨⟨old, k e (by simp) _ he⟩, ⟨o, k it (by simp) _ ho, r⟩, hne⟩
  item := by
    intro X hP hw hK hc i pins s σ H E I hf st hg
    subst hP hw hK
    obtain ⟨⟨old, he⟩, hit, hne, hle⟩ := st
    have hel : e < s.heap.objs.size := Heap.lt_size he
    have hil : it < s.heap.objs.size := by obtain ⟨_, q, _⟩ := hit; exact Heap.lt_size q
    have D := Draws.text (prog := X.prog) (w := X.w) (A := X.A.in1) (I.ok.hd hc) it x t
    refine wpAny_pyNext_enum_itemD D he hit hg hne (by simpa using hne) fun u h' tk hu ho hit' hT hsz hk => ?_
    obtain ⟨c, tc, hxc, rfl⟩ := hu
    refine ⟨_, rfl, wpAny_letOwnedTupleGo_enum (s := { s with heap := h', toks := tk + 1 }) ho fun h'' he' sb => ?_⟩
    have hT2 : h''.get? s.heap.objs.size = some { cls := .type "tuple", data := .seq #[.int i tk, .str ⟨#[c]⟩ tc] } := (sb.2 _ (Nat.ne_of_gt hel)).trans hT
    have new : ObjOk X.prog X.w (upd H s.heap.objs.size (.tup [.int (i : Nat), .str ⟨#[c]⟩])) h'' s.heap.objs.size (.tup [.int (i : Nat), .str ⟨#[c]⟩]) :=
      ⟨by show 2 ≤ sizeLine; decide, [.int i tk, .str ⟨#[c]⟩ tc], .cons ⟨_, rfl⟩ (.cons ⟨_, rfl⟩ .nil), ⟨_, hT2, rfl, _, rfl⟩⟩
    have I1 : Inv X pins σ (upd H s.heap.objs.size (.tup [.int (i : Nat), .str ⟨#[c]⟩])) { s with heap := h'', toks := tk + 1 } :=
      I.turnedNew (ch := [e, it]) (fun b ob hb q => (sb.2 b (fun z => hb (by simp [z]))).trans (hk b ob (fun z => hb (by simp [z])) (fun z => hb (by simp [z])) q)) hf (Nat.le_refl _) new
    refine ⟨.ref s.heap.objs.size, _, I1, rfl, ⟨_, c, rfl, I.hok.fresh (Nat.le_refl _), rfl, hxc⟩, ⟨⟨.str ⟨#[c]⟩ tc, ?_⟩, ?_, hne, hg⟩, fun b hb => ?_⟩
    · have e1 : ((i + 1 : Nat) : Int) = (i : Int) + 1 := by omega
      rw [e1]; exact he'
    · obtain ⟨o, ho, r⟩ := hit'
      exact ⟨o, (sb.2 it (Ne.symm hne)).trans ho, r⟩
    · have hb' : b < s.heap.objs.size := by
        have e' : b = e ∨ b = it := by simpa using hb
        rcases e' with z | z
        · rw [z]; exact hel
        · rw [z]; exact hil
      rw [upd_ne (Nat.ne_of_lt hb')]
      exact (hf b hb).1
  done := by
    intro X hP hw hK hc i pins s σ H E I hf st hg
    subst hP hw hK
    obtain ⟨⟨old, he⟩, hit, hne, hle⟩ := st
    have hi : i = x.cps.size := Nat.le_antisymm hle hg
    subst hi
    obtain ⟨f0, f1, f2, f3, f4, f5⟩ := hf it (by simp)
    have D := Draws.text (prog := X.prog) (w := X.w) (A := X.A.in1) (I.ok.hd hc) it x t
    exact wpAny_pyNext_enum_endD D he hit fun h' eb => ⟨rfl, I.turned (t' := s.toks) (fun b o hb q => eb b o hb q) f0 f1 f3 f4 f5⟩
  self := fun A i s Q E st h => let ⟨⟨_, he⟩, _⟩ := st; wpAny_pyIter_enum he h
def iEnumA (K : PySem.W.Frag) (ta : TA) : TI := fun σ H R => ta σ H fun vs H1 => (∃ a xs, vs = [.ref a] ∧ SqL K H1 a xs ∧ R (Ite K a) H1) ∨ ∃ x, vs = [.str x] ∧ R (IteT x) H1
theorem pi_enumA {X : Cx} {e : Expr} {ta : TA} {p pos tpos : Pos} {elts : List Expr} {kk : Nat} (hg : Gl X "enumerate") (hm : X.mg "enumerate" = none) (ha : PA X [e] ta) (hs : starEach [e] X.env = [(false, eval e X.env)] := by rfl) :
    PI X (.Tuple elts kk tpos) (.Call (.Name "enumerate" p) [e] [] pos) (iEnumA X.K ta) := by
  refine ⟨fun pins s σ H R I h => ?_⟩
  refine Call_ (ld_blt I hg hm boot_enumerate (PyProof.Rows.callWith_type1 (thn (ha.run pos pins s σ H _ I h) fun us s1 ⟨vs, H1, I1, r1, q1⟩ => ?_) hs rfl))
  rcases q1 with ⟨a, xs, ex, hq, q⟩ | ⟨x, ex, q⟩
  · subst ex
    cases r1 with
    | cons r rr =>
      cases rr
      cases r
      obtain ⟨its, rv, p', hz⟩ := I1.list hq
      refine call_enumerate_list p'.isList fun h' he hit hsz hk => wpAny_pyIter_enum he ?_
      have I2 : Inv X pins σ H1 { s1 with heap := h' } := I1.kept (t' := s1.toks) hk
      refine ⟨s1.heap.objs.size + 1, [s1.heap.objs.size + 1, s1.heap.objs.size], _, _, H1, rfl, I2, turn_enum a (s1.heap.objs.size + 1) s1.heap.objs.size, ⟨⟨.none, he⟩, hit, Nat.succ_ne_self _⟩, fun b hb => ?_, q⟩
      have e' : b = s1.heap.objs.size + 1 ∨ b = s1.heap.objs.size := by simpa using hb
      have hle : s1.heap.objs.size ≤ b := by
        rcases e' with z | z
        · rw [z]; exact Nat.le_add_right _ _
        · rw [z]; exact Nat.le_refl _
      exact I1.fpOk hle (I1.hok.fresh hle)
  · subst ex
    cases r1 with
    | cons r rr =>
      cases rr
      obtain ⟨t, rfl⟩ := r
      refine call_enumerate_str fun h' he hit hsz hk => wpAny_pyIter_enum he ?_
      have I2 : Inv X pins σ H1 { s1 with heap := h' } := I1.kept (t' := s1.toks) hk
      refine ⟨s1.heap.objs.size + 1, [s1.heap.objs.size + 1, s1.heap.objs.size], _, _, H1, rfl, I2, turn_enumT x t (s1.heap.objs.size + 1) s1.heap.objs.size, ⟨⟨.none, he⟩, hit, Nat.succ_ne_self _, Nat.zero_le _⟩, fun b hb => ?_, q⟩
      have e' : b = s1.heap.objs.size + 1 ∨ b = s1.heap.objs.size := by simpa using hb
      have hle : s1.heap.objs.size ≤ b := by
        rcases e' with z | z
        · rw [z]; exact Nat.le_add_right _ _
        · rw [z]; exact Nat.le_refl _
      exact I1.fpOk hle (I1.hok.fresh hle)
/-! ### the rule of enumerate -/
def enD : Nat → List D → List D
  | _, [] => []
  | i, d :: ds => .tup [.int (i : Nat), d] :: enD (i + 1) ds
theorem enD_get : ∀ (ds : List D) (k i : Nat) (d : D), (enD k ds)[i]? = some d → ∃ e, ds[i]? = some e ∧ d = .tup [.int ((k + i : Nat)), e]
  | [], k, i, d, h => by simp [enD] at h
  | e :: ds, k, 0, d, h => by simp [enD] at h; exact ⟨e, rfl, h.symm⟩
  | e :: ds, k, i + 1, d, h => by
    obtain ⟨e', h1, h2⟩ := enD_get ds (k + 1) i d (by simpa [enD] using h)
    exact ⟨e', by simpa using h1, by rw [h2, show k + 1 + i = k + (i + 1) by omega]⟩
theorem enD_len : ∀ (ds : List D) (k : Nat), (enD k ds).length = ds.length
  | [], _ => rfl
  | _ :: ds, k => by simp [enD, enD_len ds]
def igEnum : IG := fun as => match as with
  | [(.lst ds, .sh)] => some (enD 0 ds, .sh, true)
  | [(.lst ds, .bo)] => if hasLs ds then none else some (enD 0 ds, .sh, false)
  | [(.str s, _)] => some (enD 0 (strD s), .sh, true)
  | _ => none
/-- a pair made anew of an int and a shared item -/
theorem pair_new {K : PySem.W.Frag} {H G : Hp} {T : Addr} {d e : D} {x y : V} (s : Same G H) (nT : H T = none) (h1 : R K (absb G (upd H T (.tup [x, y]))) d x) (h2 : R K (absb G (upd H T (.tup [x, y]))) e y) :
    Same H (upd H T (.tup [x, y])) ∧ Ext H G (absb G (upd H T (.tup [x, y]))) ∧ Same (absb G (upd H T (.tup [x, y]))) (upd H T (.tup [x, y])) ∧ RM K (absb G (upd H T (.tup [x, y]))) (upd H T (.tup [x, y])) .sh (.tup [d, e]) (.ref T) [] := by
  have k1 : Same H (upd H T (.tup [x, y])) := same_upd nT
  have ex := absb_ext (s.trans k1)
  refine ⟨k1, ⟨ex.1.1, fun a ha => ?_⟩, ex.2, rfl, ?_⟩
  · rcases ex.1.2 a ha with q | q | ⟨o, q, io⟩
    · exact .inl q
    · exact .inr (.inl (new_back k1 (fun c (hc : c ∈ [a]) => by simp at hc; subst hc; exact q) a (by simp)))
    · by_cases c : a = T
      · subst c; exact .inr (.inl nT)
      · rw [upd_ne c] at q; exact .inr (.inr ⟨o, q, io⟩)
  · simp only [R]
    exact ⟨T, [x, y], rfl, absb_imm upd_same rfl, Rs.cons h1 (Rs.one h2)⟩
theorem yl_enumT {K : PySem.W.Frag} {G B : Hp} {s : List Nat} : Yl K (IteT ⟨s.toArray⟩) (enD 0 (strD s)) .sh B G := by
  intro i H1 sB
  refine ⟨fun hi => ?_, fun d hd => ?_⟩
  · show s.toArray.size ≤ i
    rw [enD_len] at hi; simp [strD] at hi ⊢; exact hi
  · obtain ⟨e, he, rfl⟩ := enD_get _ _ _ _ hd
    simp only [strD, List.getElem?_map, Option.map_eq_some_iff] at he
    obtain ⟨c, hc, rfl⟩ := he
    have hi : i < s.length := (List.getElem?_eq_some_iff.mp hc).1
    refine ⟨by show i < s.toArray.size; simpa using hi, fun x H' hy => ?_⟩
    obtain ⟨T, c', rfl, nT, rfl, hc'⟩ := hy
    have : c' = c := by
      have h : s.toArray[i]? = some c' := hc'
      rw [List.getElem?_toArray, hc] at h
      exact (Option.some.inj h).symm
    subst this
    refine ⟨same_upd nT, fun G' s' sG => ?_⟩
    have q := pair_new (K := K) (d := .int ((0 + i : Nat))) (e := .str [c']) (x := .int (i : Nat)) (y := .str ⟨#[c']⟩) s' nT (by simp [R]) (by simp [R])
    exact ⟨_, q.2.1, q.2.2.1, q.2.2.2⟩
theorem yl_enumL {K : PySem.W.Frag} {G : Hp} {a : Addr} {xs : List V} {ds : List D} (B : Hp) (hB : B a = some (.lst xs)) (hl : ds.length = xs.length)
    (hv : ∀ (i : Nat) (d : D), ds[i]? = some d → ∃ v, xs[i]? = some v ∧ ∀ H' G', Same B H' → Same G G' → Same G' H' → R K (absb G' H') d v) : Yl K (Ite K a) (enD 0 ds) .sh B G := by
  intro i H1 sB
  have h1 : SqL K H1 a xs := .inl (.inl (sB _ _ hB))
  refine ⟨fun hi => ⟨xs, h1, by rw [enD_len] at hi; omega⟩, fun d hd => ?_⟩
  obtain ⟨e, he, rfl⟩ := enD_get _ _ _ _ hd
  obtain ⟨v, ev, r⟩ := hv i e he
  refine ⟨⟨xs, v, h1, ev⟩, fun x H' hy => ?_⟩
  obtain ⟨T, y, rfl, nT, rfl, f⟩ := hy
  have : y = v := Option.some.inj ((f _ h1).symm.trans ev)
  subst this
  refine ⟨same_upd nT, fun G' s' sG => ?_⟩
  have k1 : Same H1 (upd H1 T (.tup [.int (i : Nat), y])) := same_upd nT
  have q := pair_new (K := K) (d := .int ((0 + i : Nat))) (e := e) (x := .int (i : Nat)) (y := y) s' nT (by simp [R]) (r _ G' (sB.trans k1) sG (s'.trans k1))
  exact ⟨_, q.2.1, q.2.2.1, q.2.2.2⟩
theorem tA_one {K : PySem.W.Frag} {σ : L2.St} {H : Hp} {x : Ex} {W : List V → Hp → Prop} (h : tX K x σ H fun v H1 => W [v] H1) : tAR K [x] σ H W := by
  obtain ⟨ρ, G, fp, d, m, I, e, gv⟩ := h
  refine ⟨ρ, G, fp, [(d, m)], I, by simp [evs, e], fun vs H' G' F s ex z nd new r => ?_⟩
  simp only [RMs] at r
  obtain ⟨v, r1, F1, F2, rfl, rfl, h1, rfl, rfl⟩ := r
  rw [List.append_nil] at nd new
  exact gv v H' G' F1 s ex z nd new h1
theorem pix_enumerate {X : Cx} {elts : List Expr} {kk : Nat} {tpos p pos : Pos} {l : Expr} {x : Ex} (hg : Gl X "enumerate") (hm : X.mg "enumerate" = none) (hl : PA X [l] (tAR X.K [x])) (hs : starEach [l] X.env = [(false, eval l X.env)] := by rfl) :
    PI X (.Tuple elts kk tpos) (.Call (.Name "enumerate" p) [l] [] pos) (tI X.K igEnum [x]) := by
  refine ⟨fun pins s σ H R I q => ?_⟩
  obtain ⟨ρ, G, fp, as, ds, m, st, ok, ea, ei, k⟩ := q
  obtain ⟨p', ep, rfl⟩ := evs_one ea
  simp only [List.map_cons, List.map_nil] at ei
  have gv := tI_one (x := x) ok ei k
  obtain ⟨d, pm⟩ := p'
  generalize hm' : (fz (d, pm)).2 = m' at gv ei
  have e0 : fz (d, pm) = (d, m') := by rw [← hm']; rfl
  rw [e0] at ei
  rw [e0] at gv
  refine (pi_enumA hg hm hl hs).run pins s σ H R I (tA_one ⟨ρ, G, fp, d, pm, ok, ep, fun v H1 G1 F s1 e1 z1 n1 w1 r1 => ?_⟩)
  obtain ⟨G1, z1, rm, h⟩ := gv v H1 G1 F s1 e1 z1 n1 w1 r1
  have rr := rm.r z1
  unfold igEnum at ei
  split at ei <;> try (cases ei; done)
  · rename_i es heq
    simp only [List.cons.injEq, Prod.mk.injEq, and_true] at heq
    obtain ⟨rfl, rfl⟩ := heq
    simp only [Option.some.injEq, Prod.mk.injEq] at ei
    obtain ⟨rfl, rfl, rfl⟩ := ei
    simp only [SW.R] at rr
    obtain ⟨a, xs, rfl, ea', rs⟩ := rr
    obtain ⟨_, r'⟩ := rm
    simp only [SW.R] at r'
    obtain ⟨a', xs', e1, e2, rs'⟩ := r'
    cases e1
    have e3 := z1 _ _ e2
    rw [ea'] at e3; cases e3
    refine .inl ⟨a, xs, rfl, .inl (.inl ea'), h _ G1 z1 (fun _ => same_refl G1) (yl_enumL G1 e2 rs.length fun i d hd => ?_)⟩
    obtain ⟨v, ev, q⟩ := rs'.get hd
    exact ⟨v, ev, fun H' G' _ sG s' => SW.R.mono ((absb_ext s').1.1) _ _ (SW.R.mono sG _ _ q)⟩
  · rename_i es heq
    simp only [List.cons.injEq, Prod.mk.injEq, and_true] at heq
    obtain ⟨rfl, rfl⟩ := heq
    split at ei <;> try (cases ei; done)
    rename_i hfl
    simp only [Option.some.injEq, Prod.mk.injEq] at ei
    obtain ⟨rfl, rfl, rfl⟩ := ei
    simp only [SW.R] at rr
    obtain ⟨a, xs, rfl, ea', rs⟩ := rr
    refine .inl ⟨a, xs, rfl, .inl (.inl ea'), h _ H1 (same_refl H1) (fun z => by cases z) (yl_enumL H1 ea' rs.length fun i d hd => ?_)⟩
    obtain ⟨v, ev, q⟩ := rs.get hd
    exact ⟨v, ev, fun H' G' sB sG s' => SW.R.absb s' _ _ (hasLs_get (by simpa using hfl) hd) (SW.R.mono sB _ _ q)⟩
  · rename_i z _ heq
    simp only [List.cons.injEq, Prod.mk.injEq, and_true] at heq
    obtain ⟨rfl, rfl⟩ := heq
    simp only [Option.some.injEq, Prod.mk.injEq] at ei
    obtain ⟨rfl, rfl, rfl⟩ := ei
    simp only [SW.R] at rr
    subst rr
    exact .inr ⟨_, rfl, h _ G1 z1 (fun _ => same_refl G1) yl_enumT⟩
end SW
namespace SW
open PySem PySem.Spec PyProof.Rows L2

/-! ### rfind of a sign ahead of a place -/
def lstFrom (c : Nat) : List Nat → Nat → Option Nat
  | [], _ => none
  | x :: r, i => match lstFrom c r (i + 1) with
    | some j => some j
    | none => if x = c then some i else none
theorem lstFrom_none {c : Nat} : ∀ {l : List Nat} {i : Nat}, lstFrom c l i = none ↔ c ∉ l
  | [], i => by simp [lstFrom]
  | x :: l, i => by
    have ih := lstFrom_none (c := c) (l := l) (i := i + 1)
    simp only [lstFrom, List.mem_cons, not_or]
    cases e : lstFrom c l (i + 1) with
    | some j =>
      rw [e] at ih
      simp only [reduceCtorEq, false_iff] at ih
      simp only [reduceCtorEq, false_iff]
      exact fun h => ih h.2
    | none =>
      have h2 := ih.mp e
      by_cases h : x = c
      · simp [h]
      · simp only [if_neg h, true_iff]
        exact ⟨fun z => h z.symm, h2⟩
theorem lstFrom_some {c : Nat} : ∀ {l : List Nat} {i j : Nat}, lstFrom c l i = some j → i ≤ j ∧ l[j - i]? = some c ∧ ∀ k, j - i < k → l[k]? ≠ some c
  | [], i, j, h => by simp [lstFrom] at h
  | x :: l, i, j, h => by
    simp only [lstFrom] at h
    cases e : lstFrom c l (i + 1) with
    | some j' =>
      rw [e] at h
      simp only [Option.some.injEq] at h
      subst h
      obtain ⟨h1, h2, h3⟩ := lstFrom_some e
      refine ⟨by omega, ?_, fun k hk => ?_⟩
      · rw [show j' - i = (j' - (i + 1)) + 1 by omega]; exact h2
      · cases k with
        | zero => omega
        | succ k => exact h3 k (by omega)
    | none =>
      rw [e] at h
      simp only at h
      split at h <;> cases h
      rename_i hx
      subst hx
      refine ⟨Nat.le_refl _, by simp, fun k hk => ?_⟩
      cases k with
      | zero => omega
      | succ k =>
        have := lstFrom_none.mp e
        intro q
        exact this (List.mem_of_getElem? q)
def rfD (s : List Nat) (c hi : Nat) : Int := optI (lstFrom c (s.take hi) 0)
theorem at_hi {s : List Nat} {c i hi : Nat} (h : hi ≤ s.length) : PySem.StrLaws.At (⟨s.toArray⟩ : Str) ⟨#[c]⟩ hi i ↔ (s.take hi)[i]? = some c := by
  have l1 : (⟨#[c]⟩ : Str).length = 1 := rfl
  constructor
  · intro ⟨h1, h2⟩
    rw [l1] at h1
    have : PySem.StrLaws.At (⟨s.toArray⟩ : Str) ⟨#[c]⟩ s.length i := ⟨by rw [l1]; omega, h2⟩
    rw [at_one] at this
    rw [List.getElem?_take_of_lt (by omega)]; exact this
  · intro h1
    have hi' : i < hi := by
      rcases Nat.lt_or_ge i hi with q | q
      · exact q
      · rw [List.getElem?_eq_none (by rw [List.length_take]; omega)] at h1; cases h1
    rw [List.getElem?_take_of_lt hi'] at h1
    have := (at_one (s := s) (c := c) (i := i)).mpr h1
    exact ⟨by rw [l1]; omega, this.2⟩
theorem rfind_one {s : List Nat} {c hi : Nat} (h : hi ≤ s.length) : Txt.rfindIn (⟨s.toArray⟩ : Str) ⟨#[c]⟩ 0 (hi : Int) = rfD s c hi := by
  unfold Txt.rfindIn rfD
  have hf : PySem.fromIndex (⟨s.toArray⟩ : Str).length 0 = 0 := rfl
  have ht : PySem.toIndexW (⟨s.toArray⟩ : Str).length (hi : Int) = hi := by
    unfold PySem.toIndexW
    rw [if_neg (by omega), str_len]; omega
  rw [hf, ht, PySem.StrLaws.last_eq]
  have key := PySem.StrLaws.last_run (⟨s.toArray⟩ : Str) ⟨#[c]⟩ hi (List.range' 0 (hi + 1 - 0)) [] none (fun _ h => nomatch h) (fun _ h => nomatch h) (by simpa using List.pairwise_lt_range' (s := 0) (n := hi + 1 - 0))
  have mem : ∀ i, PySem.StrLaws.At (⟨s.toArray⟩ : Str) ⟨#[c]⟩ hi i → i ∈ [] ++ List.range' 0 (hi + 1 - 0) := fun i hA => by
    have := hA.1
    simp [List.mem_range'] <;> omega
  cases hr : (forIn (List.range' 0 (hi + 1 - 0)) none (PySem.StrLaws.lastBody (⟨s.toArray⟩ : Str) ⟨#[c]⟩ hi)).run with
  | none =>
    rw [hr] at key
    have : lstFrom c (s.take hi) 0 = none := by
      rw [lstFrom_none]
      intro hm
      obtain ⟨i, hi', e⟩ := List.getElem_of_mem hm
      have hA := (at_hi h (c := c) (i := i)).mpr (by rw [List.getElem?_eq_getElem hi', e])
      exact key i (mem i hA) hA
    rw [this]; rfl
  | some a =>
    rw [hr] at key
    have h1 := (at_hi h).mp key.1
    have : lstFrom c (s.take hi) 0 = some a := by
      cases e : lstFrom c (s.take hi) 0 with
      | none => exact absurd (List.mem_of_getElem? h1) (lstFrom_none.mp e)
      | some j =>
        obtain ⟨_, h2, h3⟩ := lstFrom_some e
        rw [Nat.sub_zero] at h2 h3
        have l1 : ¬ j < a := fun q => h3 a q h1
        have l2 : ¬ a < j := fun q => by
          have hA := (at_hi h).mpr h2
          exact key.2 j (mem j hA) q hA
        rw [show j = a by omega]
    rw [this]; rfl
section
variable {X : Cx}
def gRfind3 : List DM → Option DM := fun as => match as with
  | [(.str s, _), (.str [c], _), (.int lo, _), (.int hi, _)] => if lo = 0 ∧ 0 ≤ hi ∧ hi.toNat ≤ s.length then some (.int (rfD s c hi.toNat), .sh) else none
  | _ => none
def rRfind4 : V → List V → Hp → VK → Prop := fun x xs H Q => ∃ (a b : Str) (i j : Int), x = .str a ∧ xs = [.str b, .int i, .int j] ∧ Q (.int (Txt.rfindIn a b i j)) H
theorem iRfind3 : ImpN X (fun vs H Q => match vs with | v :: ws => rRfind4 v ws H Q | [] => True) gRfind3 := by
  intro G H as vs d m Q e ra s gv
  unfold gRfind3 at e
  split at e <;> try (cases e; done)
  rename_i z _ c _ lo _ hi _
  split at e <;> cases e
  rename_i hc
  obtain ⟨rfl, h0, h1⟩ := hc
  simp only [RAs] at ra
  obtain ⟨v1, r1, rfl, q1, v2, r2, rfl, q2, v3, r3, rfl, q3, v4, r4, rfl, q4, rfl⟩ := ra
  have e1 := q1.isStr s; subst e1
  have e2 := q2.isStr s; subst e2
  have e3 := q3.isInt s; subst e3
  have e4 := q4.isInt s; subst e4
  refine ⟨_, _, _, _, rfl, rfl, ?_⟩
  have hh : (hi : Int) = ((hi.toNat : Nat) : Int) := by omega
  have := rfind_one (s := z) (c := c) (hi := hi.toNat) h1
  rw [← hh] at this
  rw [this]
  exact gv.sh s rfl (by simp [R])
theorem tyRfind3 : ∀ as d, gRfind3 as = some d → ∃ a r, as = a :: r ∧ ∀ H v, R X.K H a.1 v → tyV X.K "str" v H := by
  intro as d e
  unfold gRfind3 at e
  split at e <;> try (cases e; done)
  exact ⟨_, _, rfl, fun H v r => tyStr r⟩
/-! ### < of data -/
def ltOk (d e : D) : Bool := pyOk d && pyOk e && PySem.W.alike (toPy d) (toPy e) && !isNonD d && decide (min (dpth d) (dpth e) ≤ 64)
def ltD (d e : D) : Bool := PySem.W.dataLt (toPy d) (toPy e)
def rCmD (K : PySem.W.Frag) (f : PyData → PyData → Bool) : R2 := fun x y H Q => ∃ d e, Dp K H x d ∧ Dp K H y e ∧ PySem.W.alike d e = true ∧ d ≠ .none ∧ min d.depth e.depth ≤ 64 ∧ Q (.bl (f d e)) H
theorem op_ltD (hu : X.A.units + 64 < cLine) : OpR X (compareOp .Lt) (rCmD X.K fun d e => PySem.W.dataLt d e) := by
  intro pins s σ H x y v u Q I rx ry h
  obtain ⟨d, e, hd, he, al, nn, dp, q⟩ := h
  obtain ⟨as, r1⟩ := Dp.reads I d x v hd rx
  obtain ⟨bs, r2⟩ := Dp.reads I e y u he ry
  exact PySem.W.lt_data r1 r2 al nn (by omega) ⟨.bl _, H, I, rfl, q⟩
theorem op_gtD (hu : X.A.units + 64 < cLine) : OpR X (compareOp .Gt) (rCmD X.K fun d e => PySem.W.dataLt e d) := by
  intro pins s σ H x y v u Q I rx ry h
  obtain ⟨d, e, hd, he, al, nn, dp, q⟩ := h
  obtain ⟨as, r1⟩ := Dp.reads I d x v hd rx
  obtain ⟨bs, r2⟩ := Dp.reads I e y u he ry
  exact PySem.W.gt_data r1 r2 al nn (by omega) ⟨.bl _, H, I, rfl, q⟩
theorem op_leD (hu : X.A.units + 64 < cLine) : OpR X (compareOp .LtE) (rCmD X.K fun d e => !PySem.W.dataLt e d) := by
  intro pins s σ H x y v u Q I rx ry h
  obtain ⟨d, e, hd, he, al, nn, dp, q⟩ := h
  obtain ⟨as, r1⟩ := Dp.reads I d x v hd rx
  obtain ⟨bs, r2⟩ := Dp.reads I e y u he ry
  exact PySem.W.le_data r1 r2 al nn (by omega) ⟨.bl _, H, I, rfl, q⟩
theorem op_geD (hu : X.A.units + 64 < cLine) : OpR X (compareOp .GtE) (rCmD X.K fun d e => !PySem.W.dataLt d e) := by
  intro pins s σ H x y v u Q I rx ry h
  obtain ⟨d, e, hd, he, al, nn, dp, q⟩ := h
  obtain ⟨as, r1⟩ := Dp.reads I d x v hd rx
  obtain ⟨bs, r2⟩ := Dp.reads I e y u he ry
  exact PySem.W.ge_data r1 r2 al nn (by omega) ⟨.bl _, H, I, rfl, q⟩
/-- comparisons: ints told at once, other data by their order -/
def gCm (fi : Int → Int → Bool) (f : PyData → PyData → Bool) : List DM → Option DM := fun as => match as with
  | [(.int i, _), (.int j, _)] => some (.bl (fi i j), .sh)
  | [(d, _), (e, _)] => if ltOk d e then some (.bl (f (toPy d) (toPy e)), .sh) else none
  | _ => none
def rCmA (K : PySem.W.Frag) (fi : Int → Int → Bool) (f : PyData → PyData → Bool) : R2 := fun x y H Q => rI0 (fun i j => .bl (fi i j)) x y H Q ∨ rCmD K f x y H Q
theorem iCm {fi : Int → Int → Bool} {f : PyData → PyData → Bool} : ImpN X (r2N (rCmA X.K fi f)) (gCm fi f) := by
  intro G H as vs d m Q e ra s gv
  unfold gCm at e
  split at e <;> try (cases e; done)
  · cases e
    obtain ⟨v, w, rfl, r1, r2⟩ := ra.two
    have e1 := r1.isInt s; subst e1
    have e2 := r2.isInt s; subst e2
    exact .inl ⟨_, _, rfl, rfl, gv.sh s rfl (by simp [R])⟩
  · split at e <;> cases e
    rename_i hb
    simp only [Bool.and_eq_true, ltOk, decide_eq_true_eq, Bool.not_eq_true'] at hb
    obtain ⟨v, w, rfl, r1, r2⟩ := ra.two
    refine .inr ⟨_, _, R.dp _ _ hb.1.1.1.1 (r1.r s), R.dp _ _ hb.1.1.1.2 (r2.r s), hb.1.1.2, ?_, ?_, gv.sh s rfl (by simp [R])⟩
    · have h1 := hb.1.2
      have h2 := hb.1.1.1.1
      rename_i d0 _ _ _ _
      cases d0 <;> simp [isNonD, toPy, pyOk] at h1 h2 ⊢
    · rw [dpth_py, dpth_py]; exact hb.2
def gLtA := gCm (fun i j => decide (i < j)) fun d e => PySem.W.dataLt d e
def gGtA := gCm (fun i j => decide (j < i)) fun d e => PySem.W.dataLt e d
def gLeA := gCm (fun i j => decide (i ≤ j)) fun d e => !PySem.W.dataLt e d
def gGeA := gCm (fun i j => decide (j ≤ i)) fun d e => !PySem.W.dataLt d e
theorem op_ltA (hu : X.A.units + 64 < cLine) : OpR X (compareOp .Lt) (rCmA X.K (fun i j => decide (i < j)) fun d e => PySem.W.dataLt d e) := OpR.or op_lt (op_ltD hu)
theorem op_gtA (hu : X.A.units + 64 < cLine) : OpR X (compareOp .Gt) (rCmA X.K (fun i j => decide (j < i)) fun d e => PySem.W.dataLt e d) := OpR.or op_gt (op_gtD hu)
theorem op_leA (hu : X.A.units + 64 < cLine) : OpR X (compareOp .LtE) (rCmA X.K (fun i j => decide (i ≤ j)) fun d e => !PySem.W.dataLt e d) := OpR.or op_le (op_leD hu)
theorem op_geA (hu : X.A.units + 64 < cLine) : OpR X (compareOp .GtE) (rCmA X.K (fun i j => decide (j ≤ i)) fun d e => !PySem.W.dataLt d e) := OpR.or op_ge (op_geD hu)
/-! ### in a dict -/
def rInDict (neg : Bool) : R2 := fun x y H Q => ∃ a o, y = .ref a ∧ DGet H a x o ∧ Q (.bl (if neg then !o.isSome else o.isSome)) H
theorem op_inDict (hu : X.A.units + 1 < cLine) : OpR X (compareOp .In) (rInDict false) := by
  intro pins s σ H x y v u Q I rx ry h
  obtain ⟨a, o, rfl, g, q⟩ := h
  cases ry
  exact d_in hu I g rx fun s' I' => ⟨.bl _, H, I', rfl, q⟩
theorem op_ninDict (hu : X.A.units + 1 < cLine) : OpR X (compareOp .NotIn) (rInDict true) := by
  intro pins s σ H x y v u Q I rx ry h
  obtain ⟨a, o, rfl, g, q⟩ := h
  cases ry
  exact d_notIn hu I g rx fun s' I' => ⟨.bl _, H, I', rfl, q⟩
def rIn2 (K : PySem.W.Frag) (neg : Bool) : R2 := fun x y H Q => rInAll K neg x y H Q ∨ rInDict neg x y H Q
theorem op_in2 (hu : X.A.units + 64 < cLine) : OpR X (compareOp .In) (rIn2 X.K false) := OpR.or op_inAll (op_inDict (by omega))
theorem op_nin2 (hu : X.A.units + 64 < cLine) : OpR X (compareOp .NotIn) (rIn2 X.K true) := OpR.or op_ninAll (op_ninDict (by omega))
def memD {κ : Type} [DecidableEq κ] (k : κ) (ks : List κ) : Bool := decide (k ∈ ks)
def gIn2 (neg : Bool) : List DM → Option DM := fun as => match as with
  | [(k, _), (.dK ks ds, _)] => match keyD k with
    | some k' => if ks.length = ds.length then some (.bl (if neg then !memD k' ks else memD k' ks), .sh) else none
    | none => none
  | [(.tup es, _), (.dT ks ds, _)] => match keysD es with
    | some k' => if ks.length = ds.length then some (.bl (if neg then !memD k' ks else memD k' ks), .sh) else none
    | none => none
  | as => gInN neg as
theorem val_some {κ : Type} [DecidableEq κ] (k : κ) : ∀ (ks : List κ) (es : List V), ks.length = es.length → (valV (ks.zip es) k).isSome = memD k ks
  | [], _, _ => by simp [valV, memD]
  | a :: ks, e :: es, h => by
    have ih := val_some k ks es (by simpa using h)
    unfold valV memD at *
    rw [List.zip_cons_cons, List.find?_cons]
    by_cases c : a = k
    · subst c; simp
    · simp only [c, decide_false]
      rw [ih]
      have : ¬ k = a := fun z => c z.symm
      simp [this]
theorem iIn2 (neg : Bool) : ImpN X (r2N (rIn2 X.K neg)) (gIn2 neg) := by
  intro G H as vs d m Q e ra s gv
  unfold gIn2 at e
  split at e
  · rename_i k _ ks ds _
    split at e <;> try (cases e; done)
    rename_i k' ek
    split at e <;> cases e
    rename_i hl
    obtain ⟨v, w, rfl, r1, r2⟩ := ra.two
    have hv := keyD_v ek (r1.r s)
    subst hv
    have rr := r2.r s
    simp only [SW.R] at rr
    obtain ⟨a, es, rfl, ea, hle, rs⟩ := rr
    exact .inr ⟨a, _, rfl, DGet.k ea, by rw [val_some k' ks es hle]; exact gv.sh s rfl (by simp [SW.R])⟩
  · rename_i es _ ks ds _
    split at e <;> try (cases e; done)
    rename_i k' ek
    split at e <;> cases e
    rename_i hl
    obtain ⟨v, w, rfl, r1, r2⟩ := ra.two
    have r1' := r1.r s
    simp only [SW.R] at r1'
    obtain ⟨b, xs, rfl, eb, rs1⟩ := r1'
    have hv := keysD_v ek rs1
    subst hv
    have rr := r2.r s
    simp only [SW.R] at rr
    obtain ⟨a, es', rfl, ea, hle, rs⟩ := rr
    exact .inr ⟨a, _, rfl, DGet.t ea eb, by rw [val_some k' ks es' hle]; exact gv.sh s rfl (by simp [SW.R])⟩
  · have h := iInN neg G H as vs d m Q e ra s gv
    obtain ⟨v, w, rfl, _⟩ : ∃ v w, vs = [v, w] ∧ True := by
      unfold gInN at e
      split at e <;> try (cases e; done)
      all_goals (obtain ⟨v, w, rfl, _, _⟩ := ra.two; exact ⟨v, w, rfl, trivial⟩)
    exact .inl h
end
end SW
namespace SW
open PySem

theorem forGo_nx {p : Pt} {m : Mo} {b : SW.Env → Option Out} {d : D} {ds : List D} {ρ ρ1 ρ2 : SW.Env} (h1 : bindP p d m ρ = some ρ1) (h2 : b ρ1 = some (.nx ρ2)) : forGo p m b (d :: ds) ρ = forGo p m b ds ρ2 := by
  simp only [forGo, h1, h2]
theorem forGo_rt {p : Pt} {m n : Mo} {b : SW.Env → Option Out} {d e : D} {ds : List D} {ρ ρ1 : SW.Env} (h1 : bindP p d m ρ = some ρ1) (h2 : b ρ1 = some (.rt e n)) : forGo p m b (d :: ds) ρ = some (.rt e n) := by
  simp only [forGo, h1, h2]
theorem gLtA_ii {i j : Int} {m n : Mo} : gLtA [(.int i, m), (.int j, n)] = some (.bl (decide (i < j)), .sh) := rfl
theorem gGtA_ii {i j : Int} {m n : Mo} : gGtA [(.int i, m), (.int j, n)] = some (.bl (decide (j < i)), .sh) := rfl
theorem gLeA_ii {i j : Int} {m n : Mo} : gLeA [(.int i, m), (.int j, n)] = some (.bl (decide (i ≤ j)), .sh) := rfl
theorem gGeA_ii {i j : Int} {m n : Mo} : gGeA [(.int i, m), (.int j, n)] = some (.bl (decide (j ≤ i)), .sh) := rfl
theorem gIn2_cs {c : Nat} {z : List Nat} {b : Bool} {m n : Mo} : gIn2 b [(.str [c], m), (.str z, n)] = some (.bl (if b then !decide (c ∈ z) else decide (c ∈ z)), .sh) := rfl
theorem gIn2_kS {kl : List (List Nat)} {x : List Nat} {m n : Mo} : gIn2 false [(.str x, m), (.dK (kl.map kS) (kl.map fun _ => .bl true), n)] = some (.bl (decide (x ∈ kl)), .sh) := by
  have e : keyD (.str x) = some (kS x) := rfl
  have h : memD (kS x) (kl.map kS) = decide (x ∈ kl) := by
    unfold memD
    rw [Bool.eq_iff_iff]
    simp only [decide_eq_true_eq, List.mem_map]
    constructor
    · rintro ⟨y, hy, h⟩; rw [kS_inj] at h; rw [← h]; exact hy
    · intro h; exact ⟨x, h, rfl⟩
  simp only [gIn2, e, List.length_map, if_true, h, Bool.false_eq_true, if_false]
theorem eqD_bb (a b : Bool) : eqD (.bl a) (.bl b) = (a == b) := by simp [eqD, toPy, PyData.eqv]
theorem gNe_bb {a b : Bool} {m n : Mo} : gNe [(.bl a, m), (.bl b, n)] = some (.bl (a != b), .sh) := by
  rw [gNe_of rfl (by simp [dpth]) rfl (by simp [dpth]), eqD_bb]; rfl
theorem gEq_bb {a b : Bool} {m n : Mo} : gEq [(.bl a, m), (.bl b, n)] = some (.bl (a == b), .sh) := by
  rw [gEq_of rfl (by simp [dpth]) rfl (by simp [dpth]), eqD_bb]
/-- shorter, or as long and ahead in order -/
def rlt (x y : List Nat) : Bool := decide (x.length < y.length) || (decide (x.length = y.length) && decide (x < y))
theorem gLtA_len {x y : List Nat} {m n : Mo} : gLtA [(.tup [.int (x.length : Int), .str x], m), (.tup [.int (y.length : Int), .str y], n)] = some (.bl (rlt x y), .sh) := by
  have ok : ltOk (.tup [.int (x.length : Int), .str x]) (.tup [.int (y.length : Int), .str y]) = true := by
    simp [ltOk, pyOk, pyOks, toPy, toPys, PySem.W.alike, PySem.W.alikeAll, isNonD, dpth, dpths]
  have e : PySem.W.dataLt (toPy (.tup [.int (x.length : Int), .str x])) (toPy (.tup [.int (y.length : Int), .str y])) = rlt x y := by
    simp only [toPy, toPys]
    rw [PySem.W.dataLt_pair rfl rfl, PySem.W.dataLt_int, PySem.W.dataLt_str]
    simp only [PyData.eqv, rlt]
    by_cases h : x.length = y.length
    · have h2 : ¬ x.length < y.length := by omega
      by_cases h3 : x = y
      · subst h3; simp [List.lt_irrefl]
      · simp [h, h3]
    · have h' : ¬ (x.length : Int) = y.length := by omega
      simp [h, h']
  unfold gLtA gCm
  simp only [ok, if_true, e]
theorem rlt_len {x y : List Nat} (h : rlt x y = true) : x.length ≤ y.length := by
  unfold rlt at h
  simp at h
  omega
theorem rlt_nlen {x y : List Nat} (h : rlt x y = false) : y.length ≤ x.length := by
  unfold rlt at h
  simp at h
  omega
theorem rlt_trans {x y z : List Nat} (h : rlt x y = true) (k : rlt y z = true) : rlt x z = true := by
  unfold rlt at *
  simp at h k ⊢
  rcases h with h | ⟨h, h'⟩ <;> rcases k with k | ⟨k, k'⟩
  · exact .inl (by omega)
  · exact .inl (by omega)
  · exact .inl (by omega)
  · exact .inr ⟨by omega, List.lt_trans h' k'⟩
/-! ### texts in order, told -/
theorem sle_eq (a b : List Nat) : sle a b = decide (a ≤ b) := by
  have := congrFun (congrFun (PySem.W.dataLe_str (fun z : List Nat => (⟨z.toArray⟩ : Str))) a) b
  have e : sle a b = PySem.W.dataLe false (fun z : List Nat => PyData.str (⟨z.toArray⟩ : Str)) a b := rfl
  rw [e, this]
theorem sle_trans (a b c : List Nat) (h : sle a b = true) (k : sle b c = true) : sle a c = true := by
  rw [sle_eq] at *
  simp only [decide_eq_true_eq] at *
  exact List.le_trans h k
theorem sle_total (a b : List Nat) : (sle a b || sle b a) = true := by
  rw [sle_eq, sle_eq]
  simp only [Bool.or_eq_true, decide_eq_true_eq]
  exact List.le_total a b
theorem sle_antisymm {a b : List Nat} (h : sle a b = true) (k : sle b a = true) : a = b := by
  rw [sle_eq] at *
  simp only [decide_eq_true_eq] at *
  exact List.le_antisymm h k
theorem sorted_eq : ∀ {l m : List (List Nat)}, l.Pairwise (fun a b => sle a b = true) → m.Pairwise (fun a b => sle a b = true) → l.Perm m → l = m
  | [], m, _, _, p => (List.nil_perm.mp p).symm ▸ rfl
  | a :: l, [], _, _, p => by simp at p
  | a :: l, b :: m, hl, hm, p => by
    rw [List.pairwise_cons] at hl hm
    have hab : a = b := by
      rcases List.mem_cons.mp (p.subset (List.mem_cons_self ..)) with h | h
      · exact h
      · rcases List.mem_cons.mp (p.symm.subset (List.mem_cons_self ..)) with h' | h'
        · exact h'.symm
        · exact sle_antisymm (hl.1 _ h') (hm.1 _ h)
    subst hab
    rw [sorted_eq hl.2 hm.2 (List.perm_cons a |>.mp p)]
/-- rows told by what they hold, in order -/
theorem sorted_set {l m : List (List Nat)} (hl : l.Pairwise (fun a b => sle a b = true)) (hm : m.Pairwise (fun a b => sle a b = true)) (nl : l.Nodup) (nm : m.Nodup) (h : ∀ x, x ∈ l ↔ x ∈ m) : l = m :=
  sorted_eq hl hm ((List.perm_ext_iff_of_nodup nl nm).mpr h)
theorem sort_pw (l : List (List Nat)) : (l.mergeSort sle).Pairwise fun a b => sle a b = true := List.pairwise_mergeSort sle_trans sle_total l
theorem map_str_inj {l m : List (List Nat)} : l.map D.str = m.map D.str ↔ l = m := by
  constructor
  · intro h
    have inj : Function.Injective (D.str) := fun a b e => by cases e; rfl
    exact (List.map_inj_right (fun _ _ e => inj e)).mp h
  · intro h; rw [h]
theorem gEq_strs {l m : List (List Nat)} {a b : Mo} (h : ∀ w ∈ l, sOk w = true) (k : ∀ w ∈ m, sOk w = true) : gEq [(.lst (l.map .str), a), (.lst (m.map .str), b)] = some (.bl (decide (l = m)), .sh) := by
  have o1 : okD (.lst (l.map .str)) = true := by simp only [okD, okDs_strs l h]
  have o2 : okD (.lst (m.map .str)) = true := by simp only [okD, okDs_strs m k]
  have n1 : noB (.lst (l.map .str)) = true := by simp only [noB, noBs_strs]
  have n2 : noB (.lst (m.map .str)) = true := by simp only [noB, noBs_strs]
  rw [gEq_of o1 (by simp only [dpth, dpths_strs]; decide) o2 (by simp only [dpth, dpths_strs]; decide)]
  congr 3
  rw [Bool.eq_iff_iff, decide_eq_true_eq]
  have := eqD_iff _ _ o1 o2 n1 n2
  unfold eqD
  rw [this]
  simp only [D.lst.injEq]
  exact map_str_inj
end SW
namespace SW
open PySem PySem.Spec PyProof.Rows L2

/-! ### zip of two lists -/
def zpD : List D → List D → List D
  | d :: ds, e :: es => .tup [d, e] :: zpD ds es
  | _, _ => []
theorem zpD_get : ∀ (ds es : List D) (i : Nat) (d : D), (zpD ds es)[i]? = some d → ∃ a b, ds[i]? = some a ∧ es[i]? = some b ∧ d = .tup [a, b]
  | [], _, i, d, h => by simp [zpD] at h
  | _ :: _, [], i, d, h => by simp [zpD] at h
  | a :: ds, b :: es, 0, d, h => by simp [zpD] at h; exact ⟨a, b, rfl, rfl, h.symm⟩
  | a :: ds, b :: es, i + 1, d, h => by
    obtain ⟨x, y, h1, h2, h3⟩ := zpD_get ds es i d (by simpa [zpD] using h)
    exact ⟨x, y, by simpa using h1, by simpa using h2, h3⟩
theorem zpD_len : ∀ (ds es : List D), (zpD ds es).length = min ds.length es.length
  | [], _ => by simp [zpD]
  | _ :: _, [] => by simp [zpD]
  | _ :: ds, _ :: es => by simp [zpD, zpD_len ds es]
def okZ (m : Mo) (ds : List D) : Bool := m == .sh || (m == .bo && !hasLs ds)
def igZip : IG := fun as => match as with
  | [(.lst ds, m), (.lst es, n)] => if okZ m ds && okZ n es then some (zpD ds es, .sh, m == .sh && n == .sh) else none
  | _ => none
theorem yl_zip {K : PySem.W.Frag} {G : Hp} {a b : Addr} {xs ys : List V} {ds es : List D} (B : Hp) (hA : B a = some (.lst xs)) (hB : B b = some (.lst ys)) (hl : ds.length = xs.length) (hl2 : es.length = ys.length)
    (hv : ∀ (i : Nat) (d : D), ds[i]? = some d → ∃ v, xs[i]? = some v ∧ ∀ H' G', Same B H' → Same G G' → Same G' H' → R K (absb G' H') d v)
    (hw : ∀ (i : Nat) (d : D), es[i]? = some d → ∃ v, ys[i]? = some v ∧ ∀ H' G', Same B H' → Same G G' → Same G' H' → R K (absb G' H') d v) : Yl K (Itz K a b) (zpD ds es) .sh B G := by
  intro i H1 sB
  have h1 : SqL K H1 a xs := .inl (.inl (sB _ _ hA))
  have h2 : SqL K H1 b ys := .inl (.inl (sB _ _ hB))
  refine ⟨fun hi => ⟨xs, ys, h1, h2, by rw [zpD_len] at hi; omega⟩, fun d hd => ?_⟩
  obtain ⟨e1, e2, he1, he2, rfl⟩ := zpD_get _ _ _ _ hd
  obtain ⟨v, ev, r⟩ := hv i e1 he1
  obtain ⟨w, ew, r'⟩ := hw i e2 he2
  refine ⟨⟨xs, ys, v, w, h1, h2, ev, ew⟩, fun x H' hy => ?_⟩
  obtain ⟨T, y, z, rfl, nT, rfl, f, g⟩ := hy
  have q1 : y = v := Option.some.inj ((f _ h1).symm.trans ev)
  have q2 : z = w := Option.some.inj ((g _ h2).symm.trans ew)
  subst q1 q2
  refine ⟨same_upd nT, fun G' s' sG => ?_⟩
  have k1 : Same H1 (upd H1 T (.tup [y, z])) := same_upd nT
  have q := pair_new (K := K) (d := e1) (e := e2) (x := y) (y := z) s' nT (r _ G' (sB.trans k1) sG (s'.trans k1)) (r' _ G' (sB.trans k1) sG (s'.trans k1))
  exact ⟨_, q.2.1, q.2.2.1, q.2.2.2⟩
theorem okZ_items {K : PySem.W.Frag} {G H : Hp} {m : Mo} {ds : List D} {v : V} (z : Same G H) (h : okZ m ds = true) (r : RM K G H m (.lst ds) v []) : ∃ a xs, v = .ref a ∧ H a = some (.lst xs) ∧ (m = .sh → G a = some (.lst xs) ∧ Rs K G ds xs) ∧ ds.length = xs.length ∧
    ∀ (i : Nat) (d : D), ds[i]? = some d → ∃ v, xs[i]? = some v ∧ ∀ H' G', Same H H' → Same G G' → Same G' H' → R K (absb G' H') d v := by
  have rr := r.r z
  simp only [SW.R] at rr
  obtain ⟨a, xs, rfl, ea, rs⟩ := rr
  have fr : m = .sh → G a = some (.lst xs) ∧ Rs K G ds xs := fun e => by
    subst e
    obtain ⟨_, r'⟩ := r
    simp only [SW.R] at r'
    obtain ⟨a', xs', e1, e2, rs'⟩ := r'
    cases e1
    have e3 := z _ _ e2
    rw [ea] at e3; cases e3
    exact ⟨e2, rs'⟩
  refine ⟨a, xs, rfl, ea, fr, rs.length, fun i d hd => ?_⟩
  by_cases c : m = .sh
  · obtain ⟨v, ev, q⟩ := (fr c).2.get hd
    exact ⟨v, ev, fun H' G' _ sG s' => SW.R.mono ((absb_ext s').1.1) _ _ (SW.R.mono sG _ _ q)⟩
  · have hfl : hasLs ds = false := by
      unfold okZ at h
      simp [c] at h
      exact h.2
    obtain ⟨v, ev, q⟩ := rs.get hd
    exact ⟨v, ev, fun H' G' sB sG s' => SW.R.absb s' _ _ (hasLs_get hfl hd) (SW.R.mono sB _ _ q)⟩
theorem pix_zip {X : Cx} {e e2 : Expr} {xs : List Ex} {p pos tpos : Pos} {elts : List Expr} {kk : Nat} (hg : Gl X "zip") (hm : X.mg "zip" = none) (ha : PA X [e, e2] (tAR X.K xs))
    (hs : starEach [e, e2] X.env = (false, eval e X.env) :: starEach [e2] X.env := by rfl) (hpl : (backTo pos (starEach [e2] X.env)).any (·.1) = false := by rfl) :
    PI X (.Tuple elts kk tpos) (.Call (.Name "zip" p) [e, e2] [] pos) (tI X.K igZip xs) := by
  refine ⟨fun pins s σ H R I q => ?_⟩
  obtain ⟨as, ds, m, st, ei, h⟩ := tI_args q
  obtain ⟨ρ, G, fp, as', ok, ea, k⟩ := h
  refine (pi_zip hg hm ha hs hpl).run pins s σ H R I ⟨ρ, G, fp, as', ok, ea, fun vs H' G' F s1 e1 z1 nd new r => ?_⟩
  obtain ⟨G1, z, ra, h⟩ := k vs H' G' F s1 e1 z1 nd new r
  unfold igZip at ei
  split at ei <;> try (cases ei; done)
  rename_i l1 m1 l2 m2
  split at ei <;> cases ei
  rename_i hok
  simp only [Bool.and_eq_true] at hok
  obtain ⟨v, w, rfl, r1, r2⟩ := ra.two
  obtain ⟨a, ys, rfl, hA, gA, n1, i1⟩ := okZ_items z hok.1 r1
  obtain ⟨b, zs, rfl, hB, gB, n2, i2⟩ := okZ_items z hok.2 r2
  refine ⟨a, b, ys, zs, rfl, .inl (.inl hA), .inl (.inl hB), ?_⟩
  by_cases c : m1 = .sh ∧ m2 = .sh
  · refine h _ G1 z (fun _ => same_refl G1) (yl_zip G1 (gA c.1).1 (gB c.2).1 n1 n2 (fun i d hd => ?_) fun i d hd => ?_)
    · obtain ⟨v, ev, q⟩ := (gA c.1).2.get hd
      exact ⟨v, ev, fun H2 G2 _ sG s' => SW.R.mono ((absb_ext s').1.1) _ _ (SW.R.mono sG _ _ q)⟩
    · obtain ⟨v, ev, q⟩ := (gB c.2).2.get hd
      exact ⟨v, ev, fun H2 G2 _ sG s' => SW.R.mono ((absb_ext s').1.1) _ _ (SW.R.mono sG _ _ q)⟩
  · refine h _ H' (same_refl _) (fun q => ?_) (yl_zip H' hA hB n1 n2 i1 i2)
    simp at q
    exact absurd q c
end SW
namespace SW
open PySem PySem.Spec PyProof.Rows L2

/-! ### sets of ints and texts, of any length below the line -/
def kyE (e : Int × Value) : L2.Key := match e.2 with
  | .int i _ => .inl i
  | .str x _ => .inr x
  | _ => .inl 0
def OkE (P : Program) (w : World) (e : Int × Value) : Prop := ∃ k : L2.Key, RelV (kV k) e.2 ∧ e.1 = (mixKind P w).hash k
theorem kyE_of {k : L2.Key} {n : Int} {u : Value} (r : RelV (kV k) u) : kyE (n, u) = k := by
  cases k with
  | inl i => obtain ⟨t, rfl⟩ := r; rfl
  | inr x => obtain ⟨t, rfl⟩ := r; rfl
theorem okE_is {P : Program} {w : World} {e : Int × Value} (g : OkE P w e) (k : L2.Key) : (mixKind P w).is k e.2 = true ↔ kyE e = k := by
  obtain ⟨j, r, _⟩ := g
  have h1 : kyE e = j := kyE_of (n := e.1) r
  rw [h1]
  constructor
  · intro h; exact (mixKind P w).inj e.2 j k (kV_is r) h
  · rintro rfl; exact kV_is r
theorem okE_elems {P : Program} {w : World} {l : List (Int × Value)} (g : ∀ e ∈ l, OkE P w e) : ElemsOf (mixKind P w) l := fun e he => by
  obtain ⟨k, r, q⟩ := g e he
  exact ⟨⟨k, kV_is r, q⟩, key_scan r⟩
/-- the set at a: L what was put in, in any turn, with repeats -/
structure KS (P : Program) (w : World) (h : Heap) (a : Addr) (L : List L2.Key) (o : Obj) (es : Array (Int × Value)) (ep : Nat) (t : SetTable) : Prop where
  at_ : h.get? a = some o
  ex : o.ExactSet
  dat : o.data = .set es ep t
  ok : ∀ e ∈ es.toList, OkE P w e
  nd : (es.toList.map kyE).Nodup
  mem : ∀ k, k ∈ L ↔ k ∈ es.toList.map kyE
  few : es.size ≤ L.length
  fit : t.fits es.size = true
  ris : Ris t.place.toList
  led : w.params.followText "set-order" = true ∨ t.led = true
def KSet (P : Program) (w : World) (h : Heap) (a : Addr) (L : List L2.Key) : Prop := ∃ o es ep t, KS P w h a L o es ep t
theorem KSet.at {P : Program} {w : World} {h h' : Heap} {a : Addr} {L : List L2.Key} (R : KSet P w h a L) (k : ∀ o, h.get? a = some o → h'.get? a = some o) : KSet P w h' a L := by
  obtain ⟨o, es, ep, t, S⟩ := R
  exact ⟨o, es, ep, t, k _ S.at_, S.ex, S.dat, S.ok, S.nd, S.mem, S.few, S.fit, S.ris, S.led⟩

section
variable {P : Program} {w : World} {A : Around} {E : Value → Shared → Prop} {s : Shared} {a : Addr} {L : List L2.Key}

theorem ks_tail {f : Bool → Sem Unit} (hf : ∀ (c : Bool) (s2 : Shared) (Q2 : Unit → Shared → Prop), Q2 () s2 → wpAny (model P w) A (f c) Q2 E s2)
    {ob : Obj} {xs : Array (Int × Value)} {eq : Nat} {tb : SetTable} (hob : s.heap.get? a = some ob) (hx : ob.ExactSet) (hda : ob.data = .set xs eq tb)
    {ys : Array (Int × Value)} {t2 : SetTable} (gy : ∀ e ∈ ys.toList, OkE P w e) (ny : (ys.toList.map kyE).Nodup) (my : ∀ k, k ∈ L ↔ k ∈ ys.toList.map kyE) (fy : ys.size ≤ L.length)
    (hby : ys.size < scanBound) (ff : t2.fits ys.size = true) (rr : Ris t2.place.toList) (ll : w.params.followText "set-order" = true ∨ t2.led = true) {dm : Bool} {Z : Option Bool → Shared → Prop}
    (hZ : ∀ h', Heap.SameBut a s.heap h' → KSet P w h' a L → Z (some true) { s with heap := h' }) :
    wpAny (model P w) A (do
        storeSet a ys t2
        if (!dm && t2.tooFull) = true then do
            f (relayAll t2 ys (SetTable.grown ys.size)).2.2
            storeSet a (relayAll t2 ys (SetTable.grown ys.size)).1 (relayAll t2 ys (SetTable.grown ys.size)).2.1
            pure (some true)
          else pure (some true)) Z E s := by
  refine wpAny_bind (wpAny_storeSet_of hob hda ?_ (fits_of_scanBound hby))
  have ho2 := L2.store_at (es' := ys) (t' := t2) hob hda
  have same1 := Heap.SameBut.update s.heap a (Obj.putSet ys t2)
  split
  · have pp := relayAll_perm t2 ys (SetTable.grown ys.size)
    have q1 := relayAll_fits t2 ys (SetTable.grown ys.size)
    have q2 := L2.relayAll_ris t2 ys (SetTable.grown ys.size)
    have q3 := L2.relayAll_led t2 ys (SetTable.grown ys.size)
    generalize relayAll t2 ys (SetTable.grown ys.size) = W at pp q1 q2 q3 ⊢
    obtain ⟨zs, t3, gv⟩ := W
    dsimp only at pp q1 q2 q3 ⊢
    have ez : zs.size = ys.size := by rw [← Array.length_toList, pp.length_eq, Array.length_toList]
    refine wpAny_bind (hf _ _ _ ?_)
    refine wpAny_bind (wpAny_storeSet_of ho2 rfl ?_ (fits_of_scanBound (by rw [ez]; exact hby)))
    have ho3 := L2.store_at (es' := zs) (t' := t3) ho2 rfl
    refine wpAny_pure (hZ _ (same1.trans (Heap.SameBut.update _ a _)) ?_)
    exact ⟨_, zs, _, t3, ho3, hx, rfl, fun e he => gy e (pp.mem_iff.mp he), (pp.map kyE).nodup_iff.mpr ny, fun k => (my k).trans (pp.map kyE).mem_iff.symm, by rw [ez]; exact fy, q1, q2,
      ll.imp id fun z => by rw [q3]; exact z⟩
  · exact wpAny_pure (hZ _ same1 ⟨_, ys, _, t2, ho2, hx, rfl, gy, ny, my, fy, ff, rr, ll⟩)

theorem ks_add {k : L2.Key} {u : Value} {Q : Bool → Shared → Prop} (S : KSet P w s.heap a L) (r : RelV (kV k) u) (room : L.length + 1 < scanBound)
    (hQ : ∀ b h', Heap.SameBut a s.heap h' → KSet P w h' a (k :: L) → Q b { s with heap := h' }) : wpAny (model P w) A (setAddHashed a u ((mixKind P w).hash k)) Q E s := by
  obtain ⟨ob, xs, eq, tb, S⟩ := S
  have hky : (mixKind P w).is k u = true := kV_is r
  have hsn : u.scannable = true := key_scan r
  have hels : ElemsOf (mixKind P w) xs.toList := okE_elems S.ok
  have hbx : xs.size < scanBound := Nat.lt_of_le_of_lt S.few (by omega)
  unfold setAddHashed setAddHashedIn
  refine wpAny_holding (wpAny_bind (wpAny_setState_of S.at_ S.dat S.fit ?_))
  dsimp only
  rw [byScan_of hsn hbx hels]
  simp only [↓reduceIte]
  unfold setAddByScan
  refine wpAny_bind ?_
  refine wpAny_bind (wpAny_rule ?_)
  refine wpAny_bind (wpAny_setScan_of hky S.at_ S.dat S.fit hels ?_)
  cases hfind : List.findIdx? (fun e => (mixKind P w).is k e.2) xs.toList with
  | some j =>
    dsimp only
    obtain ⟨hjl, hpj, _⟩ := List.findIdx?_eq_some_iff_getElem.mp hfind
    have hin : k ∈ xs.toList.map kyE := List.mem_map.mpr ⟨xs.toList[j], List.getElem_mem hjl, (okE_is (S.ok _ (List.getElem_mem hjl)) k).mp hpj⟩
    refine wpAny_pure (wpAny_pure ?_)
    exact hQ _ s.heap (Heap.SameBut.refl a s.heap) ⟨ob, xs, eq, tb, S.at_, S.ex, S.dat, S.ok, S.nd, fun i => by
      rw [List.mem_cons, S.mem i]
      exact ⟨fun z => z.elim (fun e => by rw [e]; exact hin) id, .inr⟩, Nat.le_succ_of_le S.few, S.fit, S.ris, S.led⟩
  | none =>
    dsimp only
    have hout : k ∉ xs.toList.map kyE := fun z => by
      obtain ⟨e, he, q⟩ := List.mem_map.mp z
      have c := List.findIdx?_eq_none_iff.mp hfind e he
      rw [(okE_is (S.ok e he) k).mpr q] at c
      cases c
    have rules : ∀ (c : Bool) {s2 : Shared} {Q2 : Unit → Shared → Prop}, Q2 () s2 → wpAny (model P w) A (match c with | true => rule "set.scan.the-table-gave-way" | false => pure ()) Q2 E s2 :=
      fun c s2 Q2 z => by cases c <;> first | exact wpAny_pure z | exact wpAny_rule z
    have pn := layNew_perm tb xs ((mixKind P w).hash k) u
    have n1 := layNew_fits tb xs ((mixKind P w).hash k) u
    have n2 := L2.layNew_ris tb xs ((mixKind P w).hash k) u S.ris
    have n3 := L2.layNew_led tb xs ((mixKind P w).hash k) u
    generalize layNew tb xs ((mixKind P w).hash k) u = W at pn n1 n2 n3 ⊢
    obtain ⟨ys, t1, dm, gv⟩ := W
    dsimp only at pn n1 n2 n3 ⊢
    rw [Array.toList_push] at pn
    have pk : ys.toList.Perm (((mixKind P w).hash k, u) :: xs.toList) := pn.trans (List.perm_append_singleton _ _)
    have pky : (ys.toList.map kyE).Perm (k :: xs.toList.map kyE) := by
      have := pk.map kyE
      rwa [List.map_cons, kyE_of r] at this
    have gy : ∀ e ∈ ys.toList, OkE P w e := fun e he => by
      rcases List.mem_cons.mp (pk.mem_iff.mp he) with z | z
      · rw [z]; exact ⟨k, r, rfl⟩
      · exact S.ok e z
    have ny : (ys.toList.map kyE).Nodup := pky.nodup_iff.mpr (List.nodup_cons.mpr ⟨hout, S.nd⟩)
    have my : ∀ i, i ∈ k :: L ↔ i ∈ ys.toList.map kyE := fun i => by rw [pky.mem_iff, List.mem_cons, List.mem_cons, S.mem i]
    have ey : ys.size = xs.size + 1 := by rw [← Array.length_toList, pk.length_eq, List.length_cons, Array.length_toList]
    have fy : ys.size ≤ (k :: L).length := by have := S.few; simp; omega
    have hby : ys.size < scanBound := by have := S.few; omega
    have ll : w.params.followText "set-order" = true ∨ t1.led = true := S.led.imp id fun z => by rw [n3]; exact z
    have fin : ∀ h', Heap.SameBut a s.heap h' → KSet P w h' a (k :: L) → Q true { s with heap := h' } := fun h' sb z => hQ true h' sb z
    refine wpAny_bind (rules _ ?_)
    split
    · refine wpAny_bind ?_
      rw [hashByValue_scannable 8 hsn]
      refine wpAny_pure ?_
      refine ks_tail (L := k :: L) ?_ S.at_ S.ex S.dat gy ny my fy hby ?_ ?_ ?_ ?_
      · intro c s2 Q2 z; cases c <;> first | exact wpAny_pure z | exact wpAny_rule z
      · first | (split <;> first | exact n1 | exact SetTable.fits_plain_off n1) | exact n1
      · first | (split <;> exact n2) | exact n2
      · first | (split <;> exact ll) | exact ll
      · intro h' sb z; dsimp only; exact wpAny_pure (fin h' sb z)
    · refine wpAny_bind (wpAny_pure ?_)
      simp only [↓reduceIte]
      refine ks_tail (L := k :: L) ?_ S.at_ S.ex S.dat gy ny my fy hby n1 n2 ll ?_
      · intro c s2 Q2 z; cases c <;> first | exact wpAny_pure z | exact wpAny_rule z
      · intro h' sb z; dsimp only; exact wpAny_pure (fin h' sb z)

/-- what is walked put in, one by one -/
theorem ks_loop {I : Addr} {fp wr : List Addr} {G : Array GenState → Array GenState → Prop} {n : Nat} {Pv : Nat → Value → Prop} {St : Nat → Shared → Prop} {R : Result → Shared → Prop}
    (W : WalksS P w A.in1 I fp wr G n Pv St) (T : Addr) (hT : T ∉ fp) (ks : List L2.Key) (hn : n = ks.length) (hb : ks.length + 1 < scanBound) (hv : ∀ i v, Pv i v → ∃ k, ks[i]? = some k ∧ RelV (kV k) v) :
    ∀ (m i : Nat) (s : Shared), n - i = m → i ≤ n → St i s → KSet P w s.heap T (ks.take i).reverse →
      (∀ s', Moved (T :: wr) G s s' → KSet P w s'.heap T ks.reverse → R (.ok (.ret .none)) s') →
      codeAny (model P w) A (.builtin "set.update.loop" ⟨[.ref T, .ref I], []⟩) R s := by
  have hTw : T ∉ wr := fun h => hT (W.sub _ h)
  have mono : ∀ b ∈ wr, b ∈ T :: wr := fun b z => List.mem_cons_of_mem _ z
  intro m
  induction m with
  | zero =>
    intro i s hm hi hst hS hR
    have ei : i = n := by omega
    subst ei
    refine codeAny_builtin F.entry_set_update_loop ?_
    rw [Around.under_plainId F.plain_set_update_loop _]
    show wpAny _ A.in1 (pyNext (.ref I) >>= _) _ _ s
    refine wpAny_bind (W.done s _ _ hst fun s2 mv => ?_)
    show wpAny _ A.in1 (ret Value.none) _ _ s2
    rw [List.take_of_length_le (by omega)] at hS
    exact wpAny_pure (hR s2 (mv.mono mono) (hS.at fun o e => mv.heap T o hTw e))
  | succ m ih =>
    intro i s hm hi hst hS hR
    have hlt : i < n := by omega
    refine codeAny_builtin F.entry_set_update_loop ?_
    rw [Around.under_plainId F.plain_set_update_loop _]
    show wpAny _ A.in1 (pyNext (.ref I) >>= _) _ _ s
    refine wpAny_bind (W.item i s _ _ hlt hst fun v s2 hP hst2 mv => ?_)
    obtain ⟨k, hk, rk⟩ := hv i v hP
    have hS2 : KSet P w s2.heap T (ks.take i).reverse := hS.at fun o e => mv.heap T o hTw e
    show wpAny _ A.in1 (holding [v] (setAdd T v) >>= _) _ _ s2
    refine wpAny_bind (wpAny_holding ?_)
    unfold setAdd
    refine wpAny_holding ?_
    refine wpAny_bind ((mixKind P w).pyHash (k := k) (kV_is rk) ?_)
    refine ks_add (s := { s2 with toks := s2.toks + 1 }) hS2 rk (by rw [List.length_reverse, List.length_take]; omega) fun b h' sb hS3 => ?_
    have hS4 : KSet P w h' T (ks.take (i + 1)).reverse := by
      rw [List.take_add_one, hk]
      simpa using hS3
    refine wpAny_pure ⟨plainId_quiet F.plain_set_update_loop _, ih (i + 1) _ (by omega) hlt (W.frame _ s2 _ _ hst2 (Nat.le_succ _) fun b hb o e => ?_) hS4 fun s3 mv3 hS5 => ?_⟩
    · rw [sb.2 b (fun z : b = T => hT (by rw [← z]; exact hb))]; exact e
    · refine hR s3 (Moved.trans W.gtrans ((mv.mono mono).then_heap (Nat.le_succ _) fun b o hb e => ?_) mv3) hS5
      rw [sb.2 b (fun z : b = T => hb (by rw [z]; exact List.mem_cons_self))]; exact e
theorem ks_new {h : Heap} (ho : h.get? a = some { cls := .type "set", dict := none, data := .set #[] 0 (.fresh 0 0 (!w.params.followText "set-order")) }) : KSet P w h a [] :=
  ⟨_, #[], 0, _, ho, ⟨rfl, rfl, rfl⟩, rfl, (fun e he => by simp at he), (by simp), (fun k => by simp), Nat.le_refl _, (by rfl), List.Pairwise.nil, by
    cases hc : w.params.followText "set-order"
    · exact .inr rfl
    · exact .inl rfl⟩
end

abbrev emptyS (w : World) : Obj := { cls := .type "set", dict := none, data := .set #[] 0 (.fresh 0 0 (!w.params.followText "set-order")) }
section
variable {P : Program} {w : World} {A : Around} {E : Value → Shared → Prop} {s : Shared}
/-- set(x), by what set.__init__ does with x -/
theorem call_set_by (x : Value) (ks : List L2.Key) {Q : Value → Shared → Prop}
    (up : ∀ {Af : Around} {Ef : Value → Shared → Prop} (Qf : Unit → Shared → Prop), Af.handled = A.handled → (∀ h' tk, KSet P w h' s.heap.objs.size ks → (∀ b o, s.heap.get? b = some o → h'.get? b = some o) → Qf () { s with heap := h', toks := tk }) →
      wpAny (model P w) Af (Builtin.Frozenset.updateFrom "set.__init__" s.heap.objs.size x) Qf Ef { s with heap := s.heap.push (emptyS w) })
    (h : ∀ h' tk, KSet P w h' s.heap.objs.size ks → (∀ b o, s.heap.get? b = some o → h'.get? b = some o) → Q (.ref s.heap.objs.size) { s with heap := h', toks := tk }) :
    wpAny (model P w) A (call (.type "set") [x]) Q E s := by
  obtain ⟨cc, tt, hmr⟩ := F.called_set.mro
  have hmk := F.called_set.made
  have hsu := F.called_set.sub
  refine wpAny_call (codeAny_of_tree ?_); show wpAny _ _ (callAny (.type "set") _) _ _ _
  refine wpAny_pure ⟨Code.quiet_builtin _ (by decide +kernel), codeAny_builtin F.entry_type_call ?_⟩; rw [Around.under_plain (weight_type_call_type "set" [x] []) rfl]
  have n1 := F.called_set.notType
  have n2 := F.called_set.canCreate
  have n3 := F.typeCall_set_1 x
  repeat (any_goals (first | assumption | wp_step))
  refine codeAny_mono (L2.code_set_led1 x (E := E) (Q₁ := fun obj s1 => obj = .ref s.heap.objs.size ∧ s1 = { s with heap := s.heap.push (emptyS w) }) ⟨rfl, rfl⟩) fun r s1 hr => ?_
  cases r with
  | error e => exact hr
  | ok fl =>
    cases fl with
    | ret obj =>
      obtain ⟨rfl, rfl⟩ := hr
      have hS : (s.heap.push (emptyS w)).get? s.heap.objs.size = some (emptyS w) := Heap.get?_push_size _ rfl
      have hT : Shared.TypeIs { s with heap := s.heap.push (emptyS w) } (.ref s.heap.objs.size) "set" := ⟨_, hS, rfl⟩
      have n4 := F.called_set.init.lookup
      have n5 := F.called_set.init.bind (.ref s.heap.objs.size)
      repeat (any_goals (first | assumption | wp_step))
      refine codeAny_mono (codeAny_call_builtin (R := wants (fun r s2 => r = .none ∧ ∃ h' tk, s2 = { s with heap := h', toks := tk } ∧ KSet P w h' s.heap.objs.size ks ∧ (∀ b o, s.heap.get? b = some o → h'.get? b = some o)) E) F.called_set.init.plain F.entry_set_init (check_set_init_1 hT ?_)) fun r2 s2 hr2 => ?_
      · unfold Builtin.«set.__init__» noKeywords
        generalize hU : Builtin.Frozenset.updateFrom = U
        wp_walk
        subst hU
        exact up _ (by simp) fun h' tk g1 g2 => wpAny_pure ⟨rfl, h', tk, rfl, g1, g2⟩
      · cases r2 with
        | error e => exact hr2
        | ok fl2 =>
          cases fl2 with
          | ret r =>
            obtain ⟨rfl, h', tk, rfl, hS', hk'⟩ := hr2
            repeat (any_goals (first | assumption | wp_step))
            exact h _ _ hS' hk'
          | _ => exact hr2.elim
    | _ => exact hr.elim

theorem vals_at : ∀ {ks : List L2.Key} {us : List Value}, Vals (ks.map kV) us → ∀ (i : Nat) (v : Value), us[i]? = some v → ∃ k, ks[i]? = some k ∧ RelV (kV k) v
  | [], _, r, i, v, h => by cases r; simp at h
  | k :: ks, _, r, i, v, h => by
    cases r with
    | cons r1 r2 =>
      cases i with
      | zero => simp at h; subst h; exact ⟨k, rfl, r1⟩
      | succ i => exact vals_at r2 i v (by simpa using h)
theorem no_get {h : Heap} {b : Addr} (hb : h.objs.size ≤ b) : h.get? b = none := by
  cases q : h.get? b with
  | none => rfl
  | some o => exact absurd (Nat.lt_of_lt_of_le (Heap.lt_size q) hb) (Nat.lt_irrefl _)
theorem up_list {l : Addr} {us : List Value} {ks : List L2.Key} (hl : s.heap.IsList l us.toArray) (rv : Vals (ks.map kV) us) (hb : ks.length + 1 < scanBound) {Af : Around} {Ef : Value → Shared → Prop} (Qf : Unit → Shared → Prop) (hh : Af.handled = none)
    (k : ∀ h' tk, KSet P w h' s.heap.objs.size ks.reverse → (∀ b o, s.heap.get? b = some o → h'.get? b = some o) → Qf () { s with heap := h', toks := tk }) :
    wpAny (model P w) Af (Builtin.Frozenset.updateFrom "set.__init__" s.heap.objs.size (.ref l)) Qf Ef { s with heap := s.heap.push (emptyS w) } := by
  obtain ⟨⟨oc, od, oda, os⟩, hol, hcl, nl, hdl⟩ := hl
  simp only at hcl hdl
  subst hcl hdl
  have hlen : us.length = ks.length := by rw [← rv.length, List.length_map]
  have hol2 : (s.heap.push (emptyS w)).get? l = some { cls := .type "list", dict := od, data := .seq us.toArray nl, slots := os } := Heap.get?_push_of_some _ hol
  have x1 := F.sub_list_set
  have x2 := F.sub_list_frozenset
  have x3 : (Value.type "list" == Value.type "dict") = false := by decide
  have hl1 : (s.heap.push (emptyS w)).IsList l us.toArray := ⟨_, hol2, rfl, nl, rfl⟩
  unfold Builtin.Frozenset.updateFrom
  generalize hPI : pyIter = PI
  wp_walk
  subst hPI
  refine wpAny_pyIter_list hl1 ?_
  refine wpAny_bind (wpAny_runValue ?_)
  have hlt : l < s.heap.objs.size := Heap.lt_size hol
  have sz : (s.heap.push (emptyS w)).objs.size = s.heap.objs.size + 1 := Heap.size_push ..
  have hh2 : Af.in1.handled = none := by simp [hh]
  have ne1 : l ≠ (s.heap.push (emptyS w)).objs.size := by rw [sz]; exact Nat.ne_of_lt (Nat.lt_succ_of_lt hlt)
  have hT : s.heap.objs.size ∉ [(s.heap.push (emptyS w)).objs.size, l] := by
    rw [sz]; simp only [List.mem_cons, List.not_mem_nil, or_false, not_or]
    exact ⟨Nat.ne_of_lt (Nat.lt_succ_self _), Nat.ne_of_gt hlt⟩
  refine ks_loop ((Walks.list hh2 _ l ne1 us.toArray).toS) s.heap.objs.size hT ks (by simp [hlen]) hb (fun i v hv => vals_at rv i v (by simpa using hv)) (us.toArray.size - 0) 0 _ rfl (Nat.zero_le _)
    ⟨⟨_, Heap.get?_push_size _ rfl, rfl, rfl⟩, hl1.push _⟩ (ks_new (Heap.get?_push_of_some _ (Heap.get?_push_size _ rfl))) fun s2 mv hS => ?_
  obtain ⟨h2, g2, d2, t2, o2⟩ := s2
  have y1 : g2 = s.gens := mv.gens
  have y2 : d2 = s.drawn := mv.drawn
  have y3 : o2 = s.os := mv.os
  subst y1 y2 y3
  show wpAny _ _ _ _ _ _
  refine wpAny_pure (k h2 t2 hS fun b o e => ?_)
  have hb := Heap.lt_size e
  refine mv.heap b o (fun z => ?_) (Heap.get?_push_of_some _ (Heap.get?_push_of_some _ e))
  simp only [List.mem_cons, List.not_mem_nil, or_false, sz] at z
  rcases z with z | z
  · exact Nat.ne_of_lt hb z
  · exact Nat.ne_of_lt (Nat.lt_succ_of_lt hb) z
theorem up_text {x : Str} {t : Tok} (hb : x.cps.size + 1 < scanBound) {Af : Around} {Ef : Value → Shared → Prop} (Qf : Unit → Shared → Prop) (hh : Af.handled = none)
    (k : ∀ h' tk, KSet P w h' s.heap.objs.size ((x.cps.toList.map fun c => (.inr ⟨#[c]⟩ : L2.Key)).reverse) → (∀ b o, s.heap.get? b = some o → h'.get? b = some o) → Qf () { s with heap := h', toks := tk }) :
    wpAny (model P w) Af (Builtin.Frozenset.updateFrom "set.__init__" s.heap.objs.size (.str x t)) Qf Ef { s with heap := s.heap.push (emptyS w) } := by
  unfold Builtin.Frozenset.updateFrom
  refine wpAny_bind (L2.Fz.anySet ?_)
  simp only [Bool.false_eq_true, if_false]
  generalize hPI : pyIter = PI
  wp_walk
  subst hPI
  refine wpAny_pyIter_str fun o St hW hst => ?_
  refine wpAny_bind (wpAny_runValue ?_)
  have sz : (s.heap.push (emptyS w)).objs.size = s.heap.objs.size + 1 := Heap.size_push ..
  have hh2 : Af.in1.handled = none := by simp [hh]
  have hT : s.heap.objs.size ∉ [(s.heap.push (emptyS w)).objs.size] := by
    rw [sz]; simp only [List.mem_cons, List.not_mem_nil, or_false]
    exact Nat.ne_of_lt (Nat.lt_succ_self _)
  refine ks_loop ((hW _ hh2).toS) s.heap.objs.size hT (x.cps.toList.map fun c => (.inr ⟨#[c]⟩ : L2.Key)) (by simp) (by simpa using hb) (fun i v hv => ?_) (x.cps.size - 0) 0 _ rfl (Nat.zero_le _)
    hst (ks_new (Heap.get?_push_of_some _ (Heap.get?_push_size _ rfl))) fun s2 mv hS => ?_
  · obtain ⟨c, u, hc, rfl⟩ := hv
    refine ⟨.inr ⟨#[c]⟩, ?_, ⟨u, rfl⟩⟩
    have : x.cps.toList[i]? = some c := by rw [Array.getElem?_toList]; exact hc
    simp [List.getElem?_map, this]
  obtain ⟨h2, g2, d2, t2, o2⟩ := s2
  have y1 : g2 = s.gens := mv.gens
  have y2 : d2 = s.drawn := mv.drawn
  have y3 : o2 = s.os := mv.os
  subst y1 y2 y3
  show wpAny _ _ _ _ _ _
  refine wpAny_pure (k h2 t2 hS fun b o e => ?_)
  have hb := Heap.lt_size e
  refine mv.heap b o (fun z => ?_) (Heap.get?_push_of_some _ (Heap.get?_push_of_some _ e))
  simp only [List.mem_cons, List.not_mem_nil, or_false, sz] at z
  rcases z with z | z
  · exact Nat.ne_of_lt hb z
  · exact Nat.ne_of_lt (Nat.lt_succ_of_lt hb) z

/-! ### sorted of such a set -/
def kPy : L2.Key → PyData
  | .inl i => .int i
  | .inr x => .str x
def oneSort (ks : List L2.Key) : Prop := (∀ k ∈ ks, ∃ i, k = .inl i) ∨ ∀ k ∈ ks, ∃ x, k = .inr x
theorem each_keys : ∀ {us : List Value}, (∀ u ∈ us, ∃ e : Int × Value, OkE P w e ∧ e.2 = u) → PySem.W.EachIs (fun v k => RelV (kV k) v) us (us.map fun u => kyE (0, u))
  | [], _ => .nil
  | u :: us, h => by
    obtain ⟨e, ⟨k, r, _⟩, q⟩ := h u (List.mem_cons_self ..)
    rw [q] at r
    refine .cons ?_ (each_keys fun v hv => h v (List.mem_cons_of_mem _ hv))
    show RelV (kV (kyE (0, u))) u
    rw [kyE_of r]; exact r
theorem each_kvals : ∀ {us : List Value} {ks : List L2.Key}, PySem.W.EachIs (fun v k => RelV (kV k) v) us ks → Vals (ks.map kV) us
  | _, _, .nil => .nil
  | _, _, .cons h t => .cons h (each_kvals t)
theorem ks_sorted {a : Addr} {L : List L2.Key} (S : KSet P w s.heap a L) (hh : A.handled = none) (one : oneSort L) (few : L.length < scanBound) (hu : A.units + 200 < cLine) {Q : Value → Shared → Prop}
    (hQ : ∀ s2 p (out : List Value) (c : Nat) (ks : List L2.Key), (∀ b o, s.heap.get? b = some o → s2.heap.get? b = some o) → s2.gens = s.gens → s2.os = s.os → s.heap.objs.size ≤ p →
      s2.heap.get? p = some (seqObj "list" out.toArray c) → Vals ((ks.mergeSort (PySem.W.dataLe false kPy)).map kV) out → ks.length ≤ L.length → ks.Nodup → (∀ k, k ∈ ks ↔ k ∈ L) → Q (.ref p) s2) :
    wpAny (model P w) A (call (.builtin "sorted") [.ref a]) Q E s := by
  obtain ⟨ob, es, ep, t, S⟩ := S
  have hsz : es.size < scanBound := Nat.lt_of_le_of_lt S.few few
  refine Calls.call_function_entry kind_sorted plain_sorted entry_sorted (args_sorted1 _) ?_; unfold Builtin.«sorted»
  refine wpAny_bind (m := checkCount "sorted" 1 1 _) (wpAny_pure ?_)
  refine wpAny_bind (L2.collect_set (A := A.in1) hh ⟨ob, S.at_, S.ex.1, S.dat⟩ S.fit hsz S.ris S.led fun s1 vs k1 hz g1 o1 pm => ?_)
  have hlen : vs.length = es.size := by rw [pm.length_eq, List.length_map, Array.length_toList]
  have hel : ∀ u ∈ vs, ∃ e : Int × Value, OkE P w e ∧ e.2 = u := fun u hu => by
    obtain ⟨e, he, q⟩ := List.mem_map.mp (pm.mem_iff.mp hu)
    exact ⟨e, S.ok e he, q⟩
  have ek := each_keys hel
  generalize hks : (vs.map fun u => kyE (0, u)) = ks at ek
  have pk : ks.Perm (es.toList.map kyE) := by
    have := pm.map fun u => kyE (0, u)
    rw [List.map_map, hks] at this
    exact this
  have mem : ∀ k, k ∈ ks ↔ k ∈ L := fun k => by rw [pk.mem_iff, S.mem k]
  have one2 : oneSort ks := by
    rcases one with h | h
    · exact .inl fun k hk => h k ((mem k).mp hk)
    · exact .inr fun k hk => h k ((mem k).mp hk)
  refine wpAny_bind (wpAny_newList ?_ (by rw [hlen]; exact fits_of_scanBound hsz))
  have hoL : (s1.heap.push (seqObj "list" vs.toArray 0)).get? s1.heap.objs.size = some (seqObj "list" vs.toArray 0) := Heap.get?_push_size _ rfl
  have er : PySem.W.EachIs (fun v b => ∃ as, PySem.Reads (s1.heap.push (seqObj "list" vs.toArray 0)) v (kPy b) as ∧ s1.heap.objs.size ∉ as) vs ks := ek.mono fun v k r => by
    cases k with
    | inl i => obtain ⟨t, rfl⟩ := r; exact ⟨[], .int _ _, by simp⟩
    | inr x => obtain ⟨t, rfl⟩ := r; exact ⟨[], .str _ _, by simp⟩
  have al : PySem.W.AllAlike (ks.map kPy) := fun d hd e he => by
    obtain ⟨k, hk, rfl⟩ := List.mem_map.mp hd
    obtain ⟨j, hj, rfl⟩ := List.mem_map.mp he
    rcases one2 with h | h
    · obtain ⟨i, rfl⟩ := h k hk
      obtain ⟨i2, rfl⟩ := h j hj
      rfl
    · obtain ⟨i, rfl⟩ := h k hk
      obtain ⟨i2, rfl⟩ := h j hj
      rfl
  have so : PySem.W.Sortable (ks.map kPy) := .inr fun d hd => by
    obtain ⟨k, hk, rfl⟩ := List.mem_map.mp hd
    cases k <;> exact ⟨by simp [kPy], fun _ => by simp [kPy]⟩
  have dz : ∀ b, b ∈ ks → A.in1.units + 1 + (kPy b).depth < cLine := fun b _ => by
    have : (kPy b).depth = 0 := by cases b <;> rfl
    rw [this]
    have : A.in1.units = A.units + 1 := rfl
    omega
  refine wpAny_bind (wpAny_holding (PySem.W.list_sort_data hoL ek er al so ?_ dz fun out hl ho => ?_))
  · have := S.few; rw [← pk.length_eq.symm, List.length_map, Array.length_toList]; exact fits_of_scanBound hsz
  obtain ⟨c, hc⟩ := sortedHeap_at (vs := vs) (out := out.toArray) hoL
  refine wpAny_pure ⟨_, rfl, hQ _ s1.heap.objs.size out c ks (fun b u e => ?_) g1 o1 hz hc (each_kvals ho) ?_ (pk.nodup_iff.mpr S.nd) mem⟩
  · have q := k1 b u e
    have hlt := Heap.lt_size q
    show (sortedHeap (s1.heap.push (seqObj "list" vs.toArray 0)) s1.heap.objs.size vs out.toArray).get? b = some u
    rw [sortedHeap_old (Nat.ne_of_lt hlt) (by rw [size_push']; exact Nat.lt_succ_of_lt hlt)]
    exact Heap.get?_push_of_some _ q
  · rw [pk.length_eq, List.length_map, Array.length_toList]; exact S.few
end
end SW
namespace SW
open PySem PySem.Spec PyProof.Rows L2

/-! ### sorted(set(x)) -/
def rSSet (K : PySem.W.Frag) : V → Hp → VK → Prop := fun x H Q => ∃ L : List L2.Key, oneSort L ∧ L.length + 1 < scanBound ∧ ((∃ z : Str, x = .str z ∧ L = z.cps.toList.map fun c => .inr ⟨#[c]⟩) ∨ (∃ a, x = .ref a ∧ SqL K H a (L.map kV))) ∧
  ∀ (ks : List L2.Key) (p : Addr), ks.length ≤ L.length → ks.Nodup → (∀ k, k ∈ ks ↔ k ∈ L) → H p = none → Q (.ref p) (upd H p (.lst ((ks.mergeSort (PySem.W.dataLe false kPy)).map kV)))
def tSSet (K : PySem.W.Frag) (ta : TE) : TE := fun σ H Q => ta σ H fun x H1 => rSSet K x H1 Q
theorem pe_sset {X : Cx} {a : Expr} {ta : TE} {p p2 q pos : Pos} (hu : X.A.units + 200 < cLine) (hg : Gl X "sorted") (hm : X.mg "sorted" = none) (hg2 : Gl X "set") (hm2 : X.mg "set" = none) (ha : PE X a ta) (hc : X.calm = true := by rfl)
    (na : starEach [a] X.env = (false, eval a X.env) :: starEach [] X.env := by rfl) : PE X (.Call (.Name "sorted" p) [.Call (.Name "set" p2) [a] [] q] [] pos) (tSSet X.K ta) := by
  refine ⟨fun pins s σ H Q I h => ?_⟩
  refine Call_ (ld_blt I hg hm (u := .builtin "sorted") (by decide +kernel) ?_)
  refine PyProof.Rows.callWith_builtin1 (PyProof.Rows.args_cons ?_ rfl) rfl rfl
  refine Call_ (ld_blt I hg2 hm2 boot_set ?_)
  refine PyProof.Rows.callWith_type1 (PyProof.Rows.args_cons (thn (ha.run pins s σ H _ I h) fun v s1 ⟨x, H1, I1, r1, q1⟩ => PyProof.Rows.args_nil ?_) na) na rfl
  obtain ⟨L, one, few, hx, q1⟩ := q1
  have fin : ∀ (h' : Heap) (tk : Nat), KSet X.prog X.w h' s1.heap.objs.size L.reverse → (∀ b o, s1.heap.get? b = some o → h'.get? b = some o) →
      wpAny (model X.prog X.w) X.A (call (.builtin "sorted") [.ref s1.heap.objs.size]) (fun v s' => ∃ x H', Inv X pins σ H' s' ∧ RelV x v ∧ Q x H') X.xe { s1 with heap := h', toks := tk } := by
    intro h' tk S hk
    have I2 : Inv X pins σ H1 { s1 with heap := h', toks := tk } := I1.kept hk
    refine ks_sorted S (I2.ok.hd hc) ?_ (by rw [List.length_reverse]; omega) hu fun s2 p out c ks kk g o hp hg2 vo hl nd mem => ?_
    · rcases one with z | z
      · exact .inl fun k hk => z k (List.mem_reverse.mp hk)
      · exact .inr fun k hk => z k (List.mem_reverse.mp hk)
    · rw [List.length_reverse] at hl
      have hn : H1 p = none := I2.hok.fresh hp
      have hlen : ((ks.mergeSort (PySem.W.dataLe false kPy)).map kV).length ≤ sizeLine := by rw [List.length_map, List.length_mergeSort]; exact Nat.le_of_lt (Nat.lt_of_le_of_lt hl (by have := few; unfold scanBound at this; rw [sizeLine_eq]; omega))
      exact ⟨.ref p, upd H1 p (.lst ((ks.mergeSort (PySem.W.dataLe false kPy)).map kV)), I2.call' (ch := []) o (Un.laid kk hp hn) (I2.hok.laid kk hp ⟨hlen, out, c, vo, hg2⟩) (by rw [g]; exact I2.bare) (fun _ z => nomatch z), rfl, q1 ks p hl nd (fun k => by rw [mem k, List.mem_reverse]) hn⟩
  rcases hx with ⟨z, rfl, rfl⟩ | ⟨b, rfl, hq⟩
  · obtain ⟨t, rfl⟩ := r1
    refine call_set_by _ _ (fun Qf hf k => up_text (t := t) (by simpa using few) Qf (by rw [hf]; exact I1.ok.hd hc) k) fun h' tk S hk => PyProof.Rows.args_nil (fin h' tk S hk)
  · cases r1
    obtain ⟨its, rv, pl, hz⟩ := I1.list hq
    refine call_set_by _ _ (fun Qf hf k => up_list pl.isList rv few Qf (by rw [hf]; exact I1.ok.hd hc) k) fun h' tk S hk => PyProof.Rows.args_nil (fin h' tk S hk)
def setS (l : List (List Nat)) : List (List Nat) := l.eraseDups.mergeSort sle
def sigs (s : List Nat) : List (List Nat) := setS (s.map fun c => [c])
def ile (a b : Int) : Bool := decide (a ≤ b)
def setI (l : List Int) : List Int := l.eraseDups.mergeSort ile
def gSSet : List DM → Option DM := fun as => match as with
  | [(.str s, _)] => if s.length < 4000 then some (.lst ((sigs s).map .str), .full) else none
  | [(.lst ds, _)] => if ds.length < 4000 then (match strsD ds with
    | some l => some (.lst ((setS l).map .str), .full)
    | none => match intsD ds with
      | some l => some (.lst ((setI l).map .int), .full)
      | none => none) else none
  | _ => none
theorem mem_eraseDups {α : Type} [BEq α] [LawfulBEq α] {l : List α} {x : α} : x ∈ l.eraseDups ↔ x ∈ l := by
  induction h : l.length using Nat.strongRecOn generalizing l with
  | _ n ih =>
    cases l with
    | nil => simp
    | cons a l =>
      rw [List.eraseDups_cons, List.mem_cons, List.mem_cons]
      have hlt : (l.filter fun b => !b == a).length < n := by
        rw [← h, List.length_cons]
        exact Nat.lt_succ_of_le (List.length_filter_le ..)
      rw [ih _ hlt rfl, List.mem_filter]
      by_cases c : x = a
      · simp [c]
      · simp [c]
theorem nd_eraseDups {α : Type} [BEq α] [LawfulBEq α] {l : List α} : l.eraseDups.Nodup := by
  induction h : l.length using Nat.strongRecOn generalizing l with
  | _ n ih =>
    cases l with
    | nil => simp
    | cons a l =>
      rw [List.eraseDups_cons]
      have hlt : (l.filter fun b => !b == a).length < n := by
        rw [← h, List.length_cons]
        exact Nat.lt_succ_of_le (List.length_filter_le ..)
      refine List.nodup_cons.mpr ⟨fun hm => ?_, ih _ hlt rfl⟩
      have := mem_eraseDups.mp hm
      rw [List.mem_filter] at this
      simp at this
theorem setS_pw (l : List (List Nat)) : (setS l).Pairwise fun a b => sle a b = true := sort_pw _
theorem setS_nd (l : List (List Nat)) : (setS l).Nodup := (List.mergeSort_perm _ _).nodup_iff.mpr nd_eraseDups
theorem setS_mem {l : List (List Nat)} {x : List Nat} : x ∈ setS l ↔ x ∈ l := by
  unfold setS; rw [List.mem_mergeSort, mem_eraseDups]
theorem ile_pw (l : List Int) : (l.mergeSort ile).Pairwise fun a b => a ≤ b := by
  have := List.pairwise_mergeSort (le := ile) (fun a b c h k => by simp only [ile, decide_eq_true_eq] at *; omega) (fun a b => by simp only [ile, Bool.or_eq_true, decide_eq_true_eq]; omega) l
  exact this.imp fun h => by simpa [ile] using h
theorem int_sorted_eq {l m : List Int} (hl : l.Pairwise (· ≤ ·)) (hm : m.Pairwise (· ≤ ·)) (p : l.Perm m) : l = m := p.eq_of_pairwise (fun a b _ _ h k => by omega) hl hm
theorem setI_pw (l : List Int) : (setI l).Pairwise (· ≤ ·) := ile_pw _
theorem setI_nd (l : List Int) : (setI l).Nodup := (List.mergeSort_perm _ _).nodup_iff.mpr nd_eraseDups
theorem setI_mem {l : List Int} {x : Int} : x ∈ setI l ↔ x ∈ l := by
  unfold setI; rw [List.mem_mergeSort, mem_eraseDups]
def strK (k : L2.Key) : List Nat := match k with
  | .inr x => x.cps.toList
  | .inl _ => []
def intK (k : L2.Key) : Int := match k with
  | .inl i => i
  | .inr _ => 0
theorem keys_strs {ks : List L2.Key} {l : List (List Nat)} (nd : ks.Nodup) (mem : ∀ k, k ∈ ks ↔ k ∈ l.map kS) : ks.mergeSort (PySem.W.dataLe false kPy) = (setS l).map kS := by
  have e0 : ∀ k ∈ ks, kS (strK k) = k := fun k hk => by
    obtain ⟨x, _, rfl⟩ := List.mem_map.mp ((mem k).mp hk)
    rfl
  have e1 : ks = (ks.map strK).map kS := by
    rw [List.map_map]
    conv => lhs; rw [← List.map_id ks]
    exact List.map_congr_left fun k hk => (e0 k hk).symm
  have hnd : (ks.map strK).Nodup := by
    have : ((ks.map strK).map kS).Nodup := e1 ▸ nd
    exact List.Pairwise.of_map kS (fun _ _ hne e => hne (congrArg kS e)) this
  have hmem : ∀ x, x ∈ ks.map strK ↔ x ∈ l := fun x => by
    constructor
    · intro h
      obtain ⟨k, hk, rfl⟩ := List.mem_map.mp h
      obtain ⟨y, hy, rfl⟩ := List.mem_map.mp ((mem k).mp hk)
      exact hy
    · intro h
      exact List.mem_map.mpr ⟨kS x, (mem _).mpr (List.mem_map_of_mem h), rfl⟩
  have h2 : (ks.map strK).mergeSort sle = setS l := sorted_set (sort_pw _) (setS_pw l) ((List.mergeSort_perm _ _).nodup_iff.mpr hnd) (setS_nd l) fun x => by rw [List.mem_mergeSort, hmem, setS_mem]
  rw [e1, ← List.map_mergeSort (r := sle) (f := kS) (fun a _ b _ => rfl), h2]
theorem keys_ints {ks : List L2.Key} {l : List Int} (nd : ks.Nodup) (mem : ∀ k, k ∈ ks ↔ k ∈ l.map Sum.inl) : ks.mergeSort (PySem.W.dataLe false kPy) = (setI l).map Sum.inl := by
  have e0 : ∀ k ∈ ks, (Sum.inl (intK k) : L2.Key) = k := fun k hk => by
    obtain ⟨x, _, rfl⟩ := List.mem_map.mp ((mem k).mp hk)
    rfl
  have e1 : ks = (ks.map intK).map Sum.inl := by
    rw [List.map_map]
    conv => lhs; rw [← List.map_id ks]
    exact List.map_congr_left fun k hk => (e0 k hk).symm
  have hnd : (ks.map intK).Nodup := by
    have : ((ks.map intK).map (Sum.inl : Int → L2.Key)).Nodup := e1 ▸ nd
    exact List.Pairwise.of_map Sum.inl (fun _ _ hne e => hne (congrArg Sum.inl e)) this
  have hmem : ∀ x, x ∈ ks.map intK ↔ x ∈ l := fun x => by
    constructor
    · intro h
      obtain ⟨k, hk, rfl⟩ := List.mem_map.mp h
      obtain ⟨y, hy, rfl⟩ := List.mem_map.mp ((mem k).mp hk)
      exact hy
    · intro h
      exact List.mem_map.mpr ⟨Sum.inl x, (mem _).mpr (List.mem_map_of_mem h), rfl⟩
  have h2 : (ks.map intK).mergeSort ile = setI l := int_sorted_eq (ile_pw _) (setI_pw l) (((List.mergeSort_perm _ _).trans ((List.perm_ext_iff_of_nodup hnd nd_eraseDups).mpr fun x => by rw [hmem, mem_eraseDups])).trans (List.mergeSort_perm _ _).symm)
  rw [e1, ← List.map_mergeSort (r := ile) (f := Sum.inl) (fun a _ b _ => ?_), h2]
  have h3 := congrFun (congrFun (PySem.W.dataLe_int (fun z : Int => z)) a) b
  have e : PySem.W.dataLe false kPy (.inl a) (.inl b) = PySem.W.dataLe false (fun z : Int => PyData.int z) a b := rfl
  exact (e.trans h3).symm
theorem Rs.ofStrs {K : PySem.W.Frag} {H : Hp} : ∀ l : List (List Nat), Rs K H (l.map .str) ((l.map kS).map kV)
  | [] => by simp [Rs]
  | x :: l => Rs.cons (by simp only [R]; rfl) (Rs.ofStrs l)
theorem Rs.ofInts {K : PySem.W.Frag} {H : Hp} : ∀ l : List Int, Rs K H (l.map .int) ((l.map (Sum.inl : Int → L2.Key)).map kV)
  | [] => by simp [Rs]
  | x :: l => Rs.cons (by simp only [R]; rfl) (Rs.ofInts l)
theorem iSSet {X : Cx} : ImpN X (fun vs H Q => match vs with | [x] => rSSet X.K x H Q | _ => True) gSSet := by
  intro G H as vs d m Q e ra s gv
  unfold gSSet at e
  split at e
  · rename_i st mm
    split at e <;> cases e
    rename_i hl
    obtain ⟨v, rfl, r1⟩ := ra.one
    have e1 := r1.isStr s; subst e1
    have eL : (st.map fun c => (.inr ⟨#[c]⟩ : L2.Key)) = (st.map fun c => [c]).map kS := by rw [List.map_map]; rfl
    refine ⟨st.map fun c => .inr ⟨#[c]⟩, .inr fun k hk => ?_, by rw [List.length_map]; unfold scanBound; omega, .inl ⟨_, rfl, rfl⟩, fun ks p _ nd mem np => ?_⟩
    · obtain ⟨c, _, rfl⟩ := List.mem_map.mp hk; exact ⟨_, rfl⟩
    · rw [eL] at mem
      rw [keys_strs nd mem]
      exact gv.newL (b := true) (by simp [newLst, hasLs_strs, sigs]) s (Rs.ofStrs _) (fun _ => Rs.ofStrs _) p np
  · rename_i ds mm
    split at e <;> try (cases e; done)
    rename_i hl
    obtain ⟨v, rfl, r1⟩ := ra.one
    obtain ⟨a, xs, rfl, ha, rs, _⟩ := r1.items s
    split at e
    · rename_i l hs
      cases e
      have e1 := strsD_of hs
      subst e1
      have ex : xs = (l.map kS).map kV := by rw [rs.strs, List.map_map, List.map_map]; rfl
      refine ⟨l.map kS, .inr fun k hk => ?_, by rw [List.length_map]; rw [List.length_map] at hl; unfold scanBound; omega, .inr ⟨a, rfl, .inl (.inl (by rw [ha, ex]))⟩, fun ks p _ nd mem np => ?_⟩
      · obtain ⟨c, _, rfl⟩ := List.mem_map.mp hk; exact ⟨_, rfl⟩
      · rw [keys_strs nd mem]
        exact gv.newL (b := true) (by simp [newLst, hasLs_strs]) s (Rs.ofStrs _) (fun _ => Rs.ofStrs _) p np
    · split at e <;> cases e
      rename_i l hs
      have e1 := intsD_of hs
      subst e1
      have ex : xs = (l.map (Sum.inl : Int → L2.Key)).map kV := by rw [rs.ints, List.map_map]; rfl
      refine ⟨l.map Sum.inl, .inl fun k hk => ?_, by rw [List.length_map]; rw [List.length_map] at hl; unfold scanBound; omega, .inr ⟨a, rfl, .inl (.inl (by rw [ha, ex]))⟩, fun ks p _ nd mem np => ?_⟩
      · obtain ⟨c, _, rfl⟩ := List.mem_map.mp hk; exact ⟨_, rfl⟩
      · rw [keys_ints nd mem]
        exact gv.newL (b := true) (by simp [newLst, hasLs_ints]) s (Rs.ofInts _) (fun _ => Rs.ofInts _) p np
  · cases e
theorem px_sset {X : Cx} {a : Expr} {xa : Ex} {p p2 q pos : Pos} (hu : X.A.units + 200 < cLine) (hg : Gl X "sorted") (hm : X.mg "sorted" = none) (hg2 : Gl X "set") (hm2 : X.mg "set" = none) (ha : PE X a (tX X.K xa)) (hc : X.calm = true := by rfl)
    (na : starEach [a] X.env = (false, eval a X.env) :: starEach [] X.env := by rfl) : PE X (.Call (.Name "sorted" p) [.Call (.Name "set" p2) [a] [] q] [] pos) (tX X.K (.pr gSSet [xa])) :=
  (pe_sset hu hg hm hg2 hm2 ha hc na).imp fun _ _ _ h => tX_mono (tAR_cons (iSSet.pr h)) fun _ _ q => tAR_nil q
end SW
namespace SW
open PySem PySem.Spec PyProof.Rows L2

theorem hasLs_set {d : D} (hd : hasL d = false) : ∀ {ds : List D} {i : Nat}, hasLs ds = false → hasLs (ds.set i d) = false
  | [], _, _ => rfl
  | e :: ds, 0, h => by
    simp only [hasLs, Bool.or_eq_false_iff] at h
    simp [List.set, hasLs, hd, h.2]
  | e :: ds, i + 1, h => by
    simp only [hasLs, Bool.or_eq_false_iff] at h
    simp [List.set, hasLs, h.1, hasLs_set hd h.2]
section
variable {X : Cx} {H0 : Hp} {N : Nat} {pos : Pos}
/-- a list's place written (no lists within) -/
theorem qs_seti {i : Nat} {o k value : Expr} {xk xe : Ex} {p : Pos} (ho : PE X o (tVar i)) (hk : PE X k (tX X.K xk)) (hv : PE X value (tX X.K xe)) (hs : swapsWithSole [.Subscript o k p] value pos.line X.env = pure false := by rfl) (hw : swappedStores [.Subscript o k p] value X.env = pure none := by rfl)
    (h1 : (assignEach [.Subscript o k p] X.env).map (·.2) = [assign (.Subscript o k p) X.env] := by rfl)
    (ha : ∀ v, assign (.Subscript o k p) X.env v = (do
      let ov ← holding [v] (eval o X.env)
      let iv ← holding [v, ov] (eval k X.env)
      standAt p
      holding [v, ov, iv] (setItem ov iv v)
      release [v, ov, iv] []) := by intro _; rfl) : PS X (.Assign [.Subscript o k p] value pos) (tS X.K H0 N (.seti i xk xe)) := by
  refine (ps_asg hv (pg_sub ho hk set_list ha) hs hw h1).imp fun D σ H h => ?_
  obtain ⟨G0, ρ, q0, ⟨G, fp, I, b⟩, e, f⟩ := h
  simp only [evS] at e
  split at e <;> try (cases e; done)
  rename_i ds m es
  split at e <;> try (cases e; done)
  rename_i pv kd km ee ek
  split at e <;> try (cases e; done)
  rename_i j ej
  split at e <;> cases e
  rename_i hc
  simp only [Bool.and_eq_true, Bool.not_eq_true'] at hc
  obtain ⟨⟨⟨hm, hb⟩, hp⟩, hds⟩ := hc
  have hi : i < ρ.length := (List.getElem?_eq_some_iff.mp es).1
  refine At.expr2 I b (d := pv.1) (m := pv.2) ee fun v H1 G1 F1 s1 x1 I1 b1 r1 nd1 new1 => ?_
  obtain ⟨vd, hvd, rd0⟩ := I1.get es
  refine ⟨vd, hvd, ?_⟩
  refine At.expr2 I1 b1 (d := kd) (m := km) ek fun y H3 G3 F3 s3 x3 I3 b3 r3 nd3 new3 => ?_
  obtain ⟨vd', hvd', rd3⟩ := I3.get es
  rw [hvd] at hvd'; cases hvd'
  have rv := r1.grow x3.1 s3
  have ry := r3.r I3.sub
  obtain ⟨l, xs, F', rfl, hF, hl, rs, _⟩ := own_list hm I3.sub rd3
  have hlm : l ∈ fp i := by rw [hF]; simp
  have hkd : ∃ n, kd = .int n ∧ ixN ds.length n = some j := by
    unfold ixD at ej
    split at ej
    · exact ⟨_, rfl, ej⟩
    · cases ej
  obtain ⟨n, rfl, hn⟩ := hkd
  simp only [SW.R] at ry
  subst ry
  have Fz1 : ∀ a ∈ F1, G3 a = none ∧ H0 a = none ∧ ∀ j, j ≠ i → a ∉ fp j := fun a ha => ⟨off_grow (r1.mu a ha) (new1 a ha).2.1 x3, (new1 a ha).2.2.1, fun j _ => (new1 a ha).2.2.2 j⟩
  have lF1 : l ∉ F1 := fun h => (new1 l h).2.2.2 i hlm
  have rvz := rv.frz I3.sub (fun a ha => (Fz1 a ha).1) (fun a ha => ha) (.inl hp)
  refine ⟨l, xs, n, j, rfl, rfl, hl, by rw [← rs.length]; exact hn, f _ _ ?_⟩
  refine At.dict I3 b3 hi hlm hvd ?_ Fz1 lF1
  have rz : Rs X.K (frzH G3 H3 F1) ds xs := by
    have q := Rs.absb I3.sub ds xs hds rs
    refine Rs.mono (fun a o e => ?_) _ _ q
    unfold frzH
    split
    · exact (absb_ext I3.sub).2 _ _ e
    · exact e
  simp only [RM, RF]
  refine ⟨l, xs.set j v, [], rfl, rfl, upd_same, RFs.flat ?_ (Rs.set rvz j rz)⟩
  exact hasLs_set hp hds
/-- a, b, c = x, y, z -/
theorem qs_par3 {i j l : Nat} {x y z : Str} {a b c : Expr} {xa xb xc : Ex} {px py pz pt : Pos} {kt k2 pt2} (hc : X.calm = true) (hN : X.N.Nodup) (hi : X.N[i]? = some x) (hj : X.N[j]? = some y) (hl : X.N[l]? = some z) (hij : i ≠ j) (hil : i ≠ l) (hjl : j ≠ l)
    (hx : X.env.scope.names.lookup x = some .local) (hy : X.env.scope.names.lookup y = some .local) (hz : X.env.scope.names.lookup z = some .local) (ha : PA X [a, b, c] (tAR X.K [xa, xb, xc]))
    (hw : swappedStores [.Tuple [.Name x px, .Name y py, .Name z pz] kt pt] (.Tuple [a, b, c] k2 pt2) X.env = pure (some [x, y, z]))
    (hs : swapsWithSole [.Tuple [.Name x px, .Name y py, .Name z pz] kt pt] (.Tuple [a, b, c] k2 pt2) pos.line X.env = pure false := by rfl) :
    PS X (.Assign [.Tuple [.Name x px, .Name y py, .Name z pz] kt pt] (.Tuple [a, b, c] k2 pt2) pos) (tS X.K H0 N (.par3 i j l xa xb xc)) := by
  refine (ps_par3 hc hN hi hj hl hij hil hjl hx hy hz ha hw hs).imp fun D σ H h => ?_
  obtain ⟨G0, ρ, o, ⟨G, fp, I, b⟩, e, f⟩ := h
  simp only [evS] at e
  split at e <;> try (cases e; done)
  rename_i p1 e1
  split at e <;> try (cases e; done)
  rename_i p2 e2
  split at e <;> try (cases e; done)
  rename_i p3 e3
  split at e <;> cases e
  rename_i hl
  refine ⟨ρ, G, fp, [p1, p2, p3], I, by simp [evs, e1, e2, e3], fun vs H' G' F s ex z nd new r => ?_⟩
  simp only [RMs] at r
  obtain ⟨v, r1, F1, F2, rfl, rfl, h1, w, r2, F3, F4, rfl, rfl, h2, u, r3, F5, F6, rfl, rfl, h3, rfl, rfl⟩ := r
  simp only [List.append_nil] at nd new
  rw [List.nodup_append, List.nodup_append] at nd
  have I' := I.grow s ex z
  have b' := b.grow s ex
  have nf : ∀ a ∈ F1 ++ (F3 ++ F5), G' a = none ∧ H0 a = none ∧ ∀ j, a ∉ fp j := fun a ha => ⟨(new a ha).2, new_back b.kH (fun c hc => (new c hc).1) a ha, fun j hj => by
    obtain ⟨o, ho, _⟩ := I.mu j a hj
    rw [(new a ha).1] at ho; cases ho⟩
  have n1 : ∀ a ∈ F1, a ∈ F1 ++ (F3 ++ F5) := fun a ha => List.mem_append_left _ ha
  have n2 : ∀ a ∈ F3, a ∈ F1 ++ (F3 ++ F5) := fun a ha => List.mem_append_right _ (List.mem_append_left _ ha)
  have n3 : ∀ a ∈ F5, a ∈ F1 ++ (F3 ++ F5) := fun a ha => List.mem_append_right _ (List.mem_append_right _ ha)
  refine ⟨v, w, u, rfl, f _ _ ?_⟩
  have I3 := I'.set hl.1 h1 nd.1 fun a ha => let q := nf a (n1 a ha); ⟨q.1, fun j _ => q.2.2 j⟩
  have b3 : Bs H0 G0 G' H' (fun j => if j = i then F1 else fp j) := ⟨b'.kH, b'.kG, fun j a ha => by
    by_cases c : j = i <;> simp [c] at ha
    · exact (nf a (n1 a ha)).2.1
    · exact b'.new j a ha⟩
  have I4 := I3.set (i := j) (by simpa using hl.2.1) h2 nd.2.1.1 fun a ha => let q := nf a (n2 a ha); ⟨q.1, fun k hk => by
    by_cases c : k = i
    · simp only [c, if_true]; exact fun h => nd.2.2 a h a (List.mem_append_left _ ha) rfl
    · simp only [c, if_false]; exact q.2.2 k⟩
  have b4 : Bs H0 G0 G' H' (fun k => if k = j then F3 else if k = i then F1 else fp k) := ⟨b'.kH, b'.kG, fun k a ha => by
    by_cases c : k = j
    · simp only [c, if_true] at ha; exact (nf a (n2 a ha)).2.1
    · simp only [c, if_false] at ha; exact b3.new k a ha⟩
  refine At.set I4 b4 (by simpa using hl.2.2.1) h3 nd.2.1.2.1 fun a ha => let q := nf a (n3 a ha); ⟨q.1, q.2.1, fun k hk => ?_⟩
  by_cases c : k = j
  · simp only [c, if_true]; exact fun h => nd.2.1.2.2 a h a ha rfl
  · simp only [c, if_false]
    by_cases c2 : k = i
    · simp only [c2, if_true]; exact fun h => nd.2.2 a h a (List.mem_append_right _ ha) rfl
    · simp only [c2, if_false]; exact q.2.2 k
/-! ### a op b op' c, of ints -/
def gCh (f g : Int → Int → Bool) : List DM → Option DM := fun as => match as with
  | [(.int i, _), (.int j, _), (.int k, _)] => some (.bl (f i j && g j k), .sh)
  | _ => none
theorem chain_read {f g : Int → Int → Bool} {xa xb xc : Ex} {σ : L2.St} {H : Hp} {Q : VK} (h : tX X.K (.pr (gCh f g) [xa, xb, xc]) σ H Q) :
    tChain (rI0 fun i j => .bl (f i j)) (rI0 fun i j => .bl (g i j)) (tX X.K xa) (tX X.K xb) (tX X.K xc) σ H Q := by
  obtain ⟨ρ, G, fp, d, m, I, e, gv⟩ := h
  simp only [ev] at e
  split at e <;> try (cases e; done)
  rename_i as ea
  obtain ⟨p1, r1, e1, ea1, rfl⟩ := evs_cons ea
  obtain ⟨p2, r2, e2, ea2, rfl⟩ := evs_cons ea1
  obtain ⟨p3, r3, e3, ea3, rfl⟩ := evs_cons ea2
  simp [evs] at ea3; subst ea3
  unfold gCh at e
  split at e <;> cases e
  rename_i i _ j _ k _ he
  simp only [List.map_cons, List.map_nil, List.cons.injEq, and_true] at he
  have h1 := congrArg Prod.fst he.1
  have h2 := congrArg Prod.fst he.2.1
  have h3 := congrArg Prod.fst he.2.2
  simp only [fz] at h1 h2 h3
  refine ⟨ρ, G, fp, p1.1, p1.2, I, e1, fun v1 H1 G1 F1 s1 x1 z1 n1 w1 q1 => ⟨ρ, G1, fp, p2.1, p2.2, I.grow s1 x1 z1, e2, fun v2 H2 G2 F2 s2 x2 z2 n2 w2 q2 => ?_⟩⟩
  have rv1 := q1.r z1
  have rv2 := q2.r z2
  rw [h1] at rv1
  rw [h2] at rv2
  simp only [SW.R] at rv1 rv2
  subst rv1 rv2
  refine ⟨i, j, rfl, rfl, _, rfl, ?_⟩
  have gv2 := gv.trans (s1.trans s2) (x1.trans s1 x2)
  cases hf : f i j with
  | false =>
    rw [hf] at gv2
    (try dsimp only); rw [if_neg (by simp)]
    exact gv2.sh z2 rfl (by simp [SW.R])
  | true =>
    (try dsimp only); rw [if_pos rfl]
    refine ⟨ρ, G2, fp, p3.1, p3.2, (I.grow s1 x1 z1).grow s2 x2 z2, e3, fun v3 H3 G3 F3 s3 x3 z3 n3 w3 q3 => ?_⟩
    have rv3 := q3.r z3
    rw [h3] at rv3
    simp only [SW.R] at rv3
    subst rv3
    refine ⟨j, k, rfl, rfl, ?_⟩
    have gv3 := gv2.trans s3 x3
    rw [hf] at gv3
    exact gv3.sh z3 rfl (by simp [SW.R])
theorem px_chain {op op' : CmpOp} {f g : Int → Int → Bool} {a b c : Expr} {xa xb xc : Ex} (ho : OpR X (compareOp op) (rI0 fun i j => .bl (f i j))) (ho' : OpR X (compareOp op') (rI0 fun i j => .bl (g i j))) (ha : PE X a (tX X.K xa)) (hb : PE X b (tX X.K xb)) (hc : PE X c (tX X.K xc))
    (hm : lastMarks [op, op'] [b, c] = false := by with_unfolding_all rfl) : PE X (.Compare a [op, op'] [b, c] pos) (tX X.K (.pr (gCh f g) [xa, xb, xc])) :=
  (pe_chain ho ho' ha hb hc hm).imp fun _ _ _ h => chain_read h
theorem ptx_chain {op op' : CmpOp} {f g : Int → Int → Bool} {a b c : Expr} {xa xb xc : Ex} (ho : OpR X (compareOp op) (rI0 fun i j => .bl (f i j))) (ho' : OpR X (compareOp op') (rI0 fun i j => .bl (g i j))) (ha : PE X a (tX X.K xa)) (hb : PE X b (tX X.K xb)) (hc : PE X c (tX X.K xc))
    (hm : lastMarks [op, op'] [b, c] = false := by with_unfolding_all rfl) : PT X (.Compare a [op, op'] [b, c] pos) (tT X.K (.pr (gCh f g) [xa, xb, xc])) :=
  (pt_chain ho ho' ha hb hc hm).imp fun _ _ _ h => chain_read (tX_tT h)
/-! ### d[k] -/
def atK {κ : Type} [DecidableEq κ] (k : κ) : List κ → List D → Option D
  | [], _ => none
  | _ :: _, [] => none
  | a :: ks, d :: ds => if a = k then some d else atK k ks ds
def gDGet : List DM → Option DM := fun as => match as with
  | [(.dK ks ds, m), (k, _)] => match keyD k with
    | some k' => match atK k' ks ds with
      | some d => some (itM d m)
      | none => none
    | none => none
  | [(.dT ks ds, m), (.tup es, _)] => match keysD es with
    | some k' => match atK k' ks ds with
      | some d => some (itM d m)
      | none => none
    | none => none
  | _ => none
theorem atK_val {K : PySem.W.Frag} {H : Hp} {κ : Type} [DecidableEq κ] (k : κ) : ∀ {ks : List κ} {ds : List D} {es : List V} {d : D}, ks.length = es.length → Rs K H ds es → atK k ks ds = some d → ∃ v, valV (ks.zip es) k = some v ∧ R K H d v
  | [], ds, es, d, _, _, h => by simp [atK] at h
  | a :: ks, [], es, d, _, _, h => by simp [atK] at h
  | a :: ks, d0 :: ds, es, d, hl, r, h => by
    simp only [Rs] at r
    obtain ⟨v, w, rfl, r1, r2⟩ := r
    simp only [atK] at h
    unfold valV
    rw [List.zip_cons_cons, List.find?_cons]
    by_cases c : a = k
    · subst c
      simp at h
      subst h
      exact ⟨v, by simp, r1⟩
    · rw [if_neg c] at h
      obtain ⟨v2, h1, h2⟩ := atK_val k (by simpa using hl) r2 h
      unfold valV at h1
      exact ⟨v2, by simp [c]; simpa using h1, h2⟩
theorem RM.dictG {K : PySem.W.Frag} {G H : Hp} {m : Mo} {c : D} {v : V} (s : Same G H) (h : RM K G H m c v []) (hc : isSh m = true) : R K G c v ∨ ∃ F', RT K G H c v F' := by
  cases m <;> simp [isSh] at hc
  · exact .inr h.2
  · exact .inl h.2
theorem iDGet : ImpN X (r2N fun x y H Q => ∃ a v, x = .ref a ∧ DGet H a y (some v) ∧ Q v H) gDGet := by
  intro G H as vs d m Q e ra s gv
  unfold gDGet at e
  split at e
  · rename_i ks ds m0 k _
    split at e <;> try (cases e; done)
    rename_i k' ek
    split at e <;> cases e
    rename_i d0 ea
    obtain ⟨v, w, rfl, r1, r2⟩ := ra.two
    have hv := keyD_v ek (r2.r s)
    subst hv
    have rr := r1.r s
    simp only [SW.R] at rr
    obtain ⟨a, es, rfl, eH, hle, rs⟩ := rr
    obtain ⟨y, hy, ry⟩ := atK_val k' hle rs ea
    refine ⟨a, y, rfl, by rw [← hy]; exact DGet.k eH, gv.item rfl s ry fun hs => ?_⟩
    rcases r1.dictG s hs with h | ⟨F', h⟩
    · simp only [SW.R] at h
      obtain ⟨a2, es2, e1, eG, hle2, rs2⟩ := h
      cases e1
      obtain ⟨y2, hy2, ry2⟩ := atK_val k' hle2 rs2 ea
      have e3 := s _ _ eG
      rw [eH] at e3
      injection e3 with e3
      injection e3 with e3
      rw [e3] at hy
      rw [hy] at hy2
      cases hy2
      exact ry2
    · simp only [RT] at h
      obtain ⟨a2, es2, e1, _, eG, hle2, rs2⟩ := h
      cases e1
      obtain ⟨y2, hy2, ry2⟩ := atK_val k' hle2 rs2 ea
      rw [eH] at eG
      injection eG with e3
      injection e3 with e3
      rw [e3] at hy
      rw [hy] at hy2
      cases hy2
      exact ry2
  · rename_i ks ds m0 tes _
    split at e <;> try (cases e; done)
    rename_i k' ek
    split at e <;> cases e
    rename_i d0 ea
    obtain ⟨v, w, rfl, r1, r2⟩ := ra.two
    have r2' := r2.r s
    simp only [SW.R] at r2'
    obtain ⟨b, xs, rfl, eb, rs1⟩ := r2'
    have hv := keysD_v ek rs1
    subst hv
    have rr := r1.r s
    simp only [SW.R] at rr
    obtain ⟨a, es, rfl, eH, hle, rs⟩ := rr
    obtain ⟨y, hy, ry⟩ := atK_val k' hle rs ea
    refine ⟨a, y, rfl, by rw [← hy]; exact DGet.t eH eb, gv.item rfl s ry fun hs => ?_⟩
    rcases r1.dictG s hs with h | ⟨F', h⟩
    · simp only [SW.R] at h
      obtain ⟨a2, es2, e1, eG, hle2, rs2⟩ := h
      cases e1
      obtain ⟨y2, hy2, ry2⟩ := atK_val k' hle2 rs2 ea
      have e3 := s _ _ eG
      rw [eH] at e3
      injection e3 with e3
      injection e3 with e3
      rw [e3] at hy
      rw [hy] at hy2
      cases hy2
      exact ry2
    · simp only [RT] at h
      obtain ⟨a2, es2, e1, _, eG, hle2, rs2⟩ := h
      cases e1
      obtain ⟨y2, hy2, ry2⟩ := atK_val k' hle2 rs2 ea
      rw [eH] at eG
      injection eG with e3
      injection e3 with e3
      rw [e3] at hy
      rw [hy] at hy2
      cases hy2
      exact ry2
  · cases e
theorem px_dget {o i : Expr} {xo xi : Ex} (hu : X.A.units + 1 < cLine) (ho : PE X o (tX X.K xo)) (hi : PE X i (tX X.K xi)) (hs : NoSl i) : PE X (.Subscript o i pos) (tX X.K (.pr gDGet [xo, xi])) :=
  (pe_dget hu ho hi hs).imp fun _ _ _ h => two_args iDGet h
/-- a new dict -/
theorem px_dnewK : PE X (.Dict [] [] pos) (tX X.K (.pr (fun _ => some (.dK [] [], .full)) [])) := pe_dnewK.imp fun σ H Q h => by
  obtain ⟨ρ, G, fp, d, m, I, e, gv⟩ := h
  simp [ev, evs] at e
  obtain ⟨rfl, rfl⟩ := e
  intro p np
  have gp : G p = none := by
    cases q : G p with
    | none => rfl
    | some o => have := I.sub _ _ q; rw [np] at this; cases this
  refine gv (.ref p) _ G [p] (same_upd np) (Ext.refl H G) (I.sub.trans (same_upd np)) (by simp) (fun a ha => by simp at ha; subst ha; exact ⟨np, gp⟩) ?_
  simp only [RM, RF]
  exact ⟨p, [], [], rfl, rfl, upd_same, rfl, by simp [RFs]⟩
theorem px_dnewT : PE X (.Dict [] [] pos) (tX X.K (.pr (fun _ => some (.dT [] [], .full)) [])) := pe_dnewT.imp fun σ H Q h => by
  obtain ⟨ρ, G, fp, d, m, I, e, gv⟩ := h
  simp [ev, evs] at e
  obtain ⟨rfl, rfl⟩ := e
  intro p np
  have gp : G p = none := by
    cases q : G p with
    | none => rfl
    | some o => have := I.sub _ _ q; rw [np] at this; cases this
  refine gv (.ref p) _ G [p] (same_upd np) (Ext.refl H G) (I.sub.trans (same_upd np)) (by simp) (fun a ha => by simp at ha; subst ha; exact ⟨np, gp⟩) ?_
  simp only [RM, RF]
  exact ⟨p, [], [], rfl, rfl, upd_same, rfl, by simp [RFs]⟩
/-! texts put together in place -/
def gAddS : List DM → Option DM := fun as => match as with
  | [(.str i, _), (.str j, _)] => if i.length + j.length ≤ SZ then some (.str (i ++ j), .sh) else none
  | _ => none
theorem iAddS : ImpN X (r2N fun x y H Q => ∃ i j : Str, x = .str i ∧ y = .str j ∧ i.length + j.length ≤ sizeLine ∧ Q (.str (i ++ j)) H) gAddS := by
  intro G H as vs d m Q e ra s gv
  unfold gAddS at e
  split at e <;> try (cases e; done)
  split at e <;> cases e
  rename_i i _ j _ hz
  obtain ⟨v, w, rfl, r1, r2⟩ := ra.two
  have e1 := r1.isStr s; subst e1
  have e2 := r2.isStr s; subst e2
  refine ⟨_, _, rfl, rfl, by rw [str_len, str_len, ← SZ_eq]; exact hz, gv.sh s rfl ?_⟩
  simp only [R]
  congr 1
  show Str.mk _ = Str.mk _
  simp
end
end SW
namespace SW
open PySem PySem.Spec PyProof.Rows L2

/-! ### comprehensions and loops told over lists of one's own -/
theorem ev_comp_filter {α : Type} {p : Pt} {vs : List Nat} {ig : IG} {src : List Ex} {c e : Ex} {ρ : SW.Env} {as : List DM} {m : Mo} {st : Bool} (l : List α) (inj : α → D) (q : α → Bool) (f : α → D) (h : evs src ρ = some as) (h2 : ig (as.map fz) = some (l.map inj, m, st)) (h4 : l.length ≤ 1000000)
    (h3 : ∀ a ∈ l, ∃ ρ1 mm, bindP p (inj a) m (wipeE ρ vs) = some ρ1 ∧ ev c ρ1 = some (.bl (q a), mm) ∧ (q a = true → ∃ n, ev e ρ1 = some (f a, n) ∧ hasL (f a) = false)) : ev (.comp p vs ig src c e) ρ = some (.lst ((l.filter q).map f), .full) := by
  have go : ∀ l : List α, (∀ a ∈ l, ∃ ρ1 mm, bindP p (inj a) m (wipeE ρ vs) = some ρ1 ∧ ev c ρ1 = some (.bl (q a), mm) ∧ (q a = true → ∃ n, ev e ρ1 = some (f a, n) ∧ hasL (f a) = false)) →
      compGo p m (ev c) (ev e) (wipeE ρ vs) (l.map inj) = some ((l.filter q).map fun a => (f a, .sh)) ∧ ∀ x ∈ (l.filter q).map (fun a => (f a, Mo.sh)), hasL x.1 = false := by
    intro l
    induction l with
    | nil => intro _; exact ⟨rfl, by simp⟩
    | cons a l ih =>
      intro h
      obtain ⟨ρ1, mm, e1, e2, e3⟩ := h a (List.mem_cons_self ..)
      obtain ⟨ih1, ih2⟩ := ih fun b hb => h b (List.mem_cons_of_mem _ hb)
      cases hq : q a with
      | true =>
        obtain ⟨n, en, hl⟩ := e3 hq
        rw [hq] at e2
        refine ⟨?_, fun x hx => ?_⟩
        · simp only [List.map_cons, compGo, e1, e2, en, ih1, List.filter_cons, hq, if_true, nmz, hl, Bool.false_eq_true, if_false]
        · rw [List.filter_cons, if_pos hq, List.map_cons] at hx
          rcases List.mem_cons.mp hx with rfl | hx
          · exact hl
          · exact ih2 x hx
      | false =>
        rw [hq] at e2
        refine ⟨?_, fun x hx => ?_⟩
        · simp only [List.map_cons, compGo, e1, e2, ih1, List.filter_cons, hq, Bool.false_eq_true, if_false]
        · rw [List.filter_cons, if_neg (by simp [hq])] at hx
          exact ih2 x hx
  obtain ⟨g1, g2⟩ := go l h3
  rw [ev_comp h h2 g1 (by rw [List.length_map]; exact h4), mkLst_flat g2]
  simp [List.map_map, Function.comp_def]
theorem ev_comp_map {α : Type} {p : Pt} {vs : List Nat} {ig : IG} {src : List Ex} {c e : Ex} {ρ : SW.Env} {as : List DM} {m : Mo} {st : Bool} (l : List α) (inj : α → D) (f : α → D) (h : evs src ρ = some as) (h2 : ig (as.map fz) = some (l.map inj, m, st)) (h4 : l.length ≤ 1000000)
    (h3 : ∀ a ∈ l, ∃ ρ1 mm n, bindP p (inj a) m (wipeE ρ vs) = some ρ1 ∧ ev c ρ1 = some (.bl true, mm) ∧ ev e ρ1 = some (f a, n) ∧ hasL (f a) = false) : ev (.comp p vs ig src c e) ρ = some (.lst (l.map f), .full) := by
  have := ev_comp_filter (p := p) (vs := vs) (c := c) (e := e) l inj (fun _ => true) f h h2 h4 fun a ha => by
    obtain ⟨ρ1, mm, n, e1, e2, e3, e4⟩ := h3 a ha
    exact ⟨ρ1, mm, e1, e2, fun _ => ⟨n, e3, e4⟩⟩
  rw [this, List.filter_eq_self.mpr (fun _ _ => rfl)]
/-- a loop whose state is told by what is behind it -/
theorem forGo_list {α : Type} {p : Pt} {m : Mo} {b : SW.Env → Option Out} (inj : α → D) (I : List α → SW.Env → Prop) : ∀ (l done : List α) (ρ : SW.Env), I done ρ →
    (∀ done a ρ, a ∈ l → I done ρ → ∃ ρ1 ρ2, bindP p (inj a) m ρ = some ρ1 ∧ (b ρ1 = some (.nx ρ2) ∨ b ρ1 = some (.ct ρ2)) ∧ I (done ++ [a]) ρ2) → ∃ ρ', forGo p m b (l.map inj) ρ = some (.nx ρ') ∧ I (done ++ l) ρ'
  | [], done, ρ, h, _ => ⟨ρ, rfl, by simpa using h⟩
  | a :: l, done, ρ, h, st => by
    obtain ⟨ρ1, ρ2, e1, e2, h2⟩ := st done a ρ (List.mem_cons_self ..) h
    obtain ⟨ρ', e3, h3⟩ := forGo_list inj I l (done ++ [a]) ρ2 h2 fun d b ρ hb => st d b ρ (List.mem_cons_of_mem _ hb)
    refine ⟨ρ', ?_, by simpa using h3⟩
    rw [List.map_cons]
    rcases e2 with e2 | e2 <;> simp only [forGo, e1, e2, e3]
theorem forGo_pre {α : Type} {p : Pt} {m : Mo} {b : SW.Env → Option Out} (inj : α → D) (I : List α → SW.Env → Prop) (l : List α) (ρ : SW.Env) (h0 : I [] ρ)
    (st : ∀ done a rest ρ, l = done ++ a :: rest → I done ρ → ∃ ρ1 ρ2, bindP p (inj a) m ρ = some ρ1 ∧ (b ρ1 = some (.nx ρ2) ∨ b ρ1 = some (.ct ρ2)) ∧ I (done ++ [a]) ρ2) : ∃ ρ', forGo p m b (l.map inj) ρ = some (.nx ρ') ∧ I l ρ' := by
  have go : ∀ (r done : List α) (ρ : SW.Env), l = done ++ r → I done ρ → ∃ ρ', forGo p m b (r.map inj) ρ = some (.nx ρ') ∧ I (done ++ r) ρ' := by
    intro r
    induction r with
    | nil => intro done ρ _ h; exact ⟨ρ, rfl, by simpa using h⟩
    | cons a r ih =>
      intro done ρ e h
      obtain ⟨ρ1, ρ2, e1, e2, h2⟩ := st done a r ρ e h
      obtain ⟨ρ', e3, h3⟩ := ih (done ++ [a]) ρ2 (by simpa using e) h2
      refine ⟨ρ', ?_, by simpa using h3⟩
      rw [List.map_cons]
      rcases e2 with e2 | e2 <;> simp only [forGo, e1, e2, e3]
  simpa using go l [] ρ rfl h0
/-! one step of a body, by lemmas alone (the kernel need not look into evB) -/
theorem nrfl {α : Type} {a b : α} (h : a = b) : a = b := h
def seqO (o : Option Out) (k : SW.Env → Option Out) : Option Out := match o with
  | some (.nx ρ) => k ρ
  | o => o
theorem seqO_nx (ρ : SW.Env) (k : SW.Env → Option Out) : seqO (some (.nx ρ)) k = k ρ := nrfl rfl
theorem seqO_rt (d : D) (m : Mo) (k : SW.Env → Option Out) : seqO (some (.rt d m)) k = some (.rt d m) := nrfl rfl
theorem seqO_bk (ρ : SW.Env) (k : SW.Env → Option Out) : seqO (some (.bk ρ)) k = some (.bk ρ) := nrfl rfl
theorem seqO_ct (ρ : SW.Env) (k : SW.Env → Option Out) : seqO (some (.ct ρ)) k = some (.ct ρ) := nrfl rfl
theorem seqO_none (k : SW.Env → Option Out) : seqO none k = none := nrfl rfl
theorem evB_nl (N : Nat) (ρ : SW.Env) : evB N [] ρ = some (.nx ρ) := by simp only [evB]
theorem evB_cn (N : Nat) (s : Sx) (r : List Sx) (ρ : SW.Env) : evB N (s :: r) ρ = seqO (evS N s ρ) (evB N r) := by
  simp only [evB]
  generalize evS N s ρ = q
  cases q with
  | none => rfl
  | some o => cases o <;> rfl
def pickB (c : Option DM) (t f : List Sx) : Option (List Sx) := match c with
  | some (.bl true, _) => some t
  | some (.bl false, _) => some f
  | _ => none
def runP (N : Nat) (o : Option (List Sx)) (ρ : SW.Env) : Option Out := match o with
  | some xs => evB N xs ρ
  | none => none
theorem pickB_t (m : Mo) (t f : List Sx) : pickB (some (.bl true, m)) t f = some t := nrfl rfl
theorem pickB_f (m : Mo) (t f : List Sx) : pickB (some (.bl false, m)) t f = some f := nrfl rfl
theorem runP_some (N : Nat) (xs : List Sx) (ρ : SW.Env) : runP N (some xs) ρ = evB N xs ρ := nrfl rfl
theorem evS_ifs (N : Nat) (c : Ex) (t f : List Sx) (ρ : SW.Env) : evS N (.ifs c t f) ρ = runP N (pickB (ev c ρ) t f) ρ := by
  simp only [evS]
  generalize ev c ρ = q
  cases q with
  | none => rfl
  | some p =>
    obtain ⟨d, m⟩ := p
    cases d with
    | bl b => cases b <;> rfl
    | _ => rfl
/-! .. and of an expression -/
def prO (g : List DM → Option DM) (o : Option (List DM)) : Option DM := match o with
  | some as => g (as.map fz)
  | none => none
theorem prO_some (g : List DM → Option DM) (as : List DM) : prO g (some as) = g (as.map fz) := nrfl rfl
theorem prO_none (g : List DM → Option DM) : prO g none = none := nrfl rfl
def lstO (o : Option (List DM)) : Option DM := match o with
  | some as => if as.length ≤ SZ then mkLst as else none
  | none => none
theorem lstO_some (as : List DM) : lstO (some as) = if as.length ≤ SZ then mkLst as else none := nrfl rfl
def tupO (o : Option (List DM)) : Option DM := match o with
  | some as => if as.length ≤ SZ then mkTup as else none
  | none => none
theorem tupO_some (as : List DM) : tupO (some as) = if as.length ≤ SZ then mkTup as else none := nrfl rfl
def consO (a : Option DM) (r : Option (List DM)) : Option (List DM) := match a, r with
  | some a, some r => some (a :: r)
  | _, _ => none
theorem consO_some (a : DM) (r : List DM) : consO (some a) (some r) = some (a :: r) := nrfl rfl
theorem consO_none (r : Option (List DM)) : consO none r = none := nrfl rfl
def andO (c : Option DM) (b : Ex) : Option Ex := match c with
  | some (.bl true, _) => some b
  | some (.bl false, _) => some (.lit (.bl false))
  | _ => none
def orO (c : Option DM) (b : Ex) : Option Ex := match c with
  | some (.bl true, _) => some (.lit (.bl true))
  | some (.bl false, _) => some b
  | _ => none
def ifO (c : Option DM) (a b : Ex) : Option Ex := match c with
  | some (.bl true, _) => some a
  | some (.bl false, _) => some b
  | _ => none
def runE (o : Option Ex) (ρ : SW.Env) : Option DM := match o with
  | some e => ev e ρ
  | none => none
theorem andO_t (m : Mo) (b : Ex) : andO (some (.bl true, m)) b = some b := nrfl rfl
theorem andO_f (m : Mo) (b : Ex) : andO (some (.bl false, m)) b = some (.lit (.bl false)) := nrfl rfl
theorem orO_t (m : Mo) (b : Ex) : orO (some (.bl true, m)) b = some (.lit (.bl true)) := nrfl rfl
theorem orO_f (m : Mo) (b : Ex) : orO (some (.bl false, m)) b = some b := nrfl rfl
theorem ifO_t (m : Mo) (a b : Ex) : ifO (some (.bl true, m)) a b = some a := nrfl rfl
theorem ifO_f (m : Mo) (a b : Ex) : ifO (some (.bl false, m)) a b = some b := nrfl rfl
theorem runE_some (e : Ex) (ρ : SW.Env) : runE (some e) ρ = ev e ρ := nrfl rfl
theorem evx_pr (g : List DM → Option DM) (es : List Ex) (ρ : SW.Env) : ev (.pr g es) ρ = prO g (evs es ρ) := by
  simp only [ev]; generalize evs es ρ = q; cases q <;> rfl
theorem evx_lst (es : List Ex) (ρ : SW.Env) : ev (.lst es) ρ = lstO (evs es ρ) := by
  simp only [ev]; generalize evs es ρ = q; cases q <;> rfl
theorem evx_tup (es : List Ex) (ρ : SW.Env) : ev (.tup es) ρ = tupO (evs es ρ) := by
  simp only [ev]; generalize evs es ρ = q; cases q <;> rfl
theorem evx_nil (ρ : SW.Env) : evs [] ρ = some [] := by simp only [evs]
theorem evx_cons (e : Ex) (es : List Ex) (ρ : SW.Env) : evs (e :: es) ρ = consO (ev e ρ) (evs es ρ) := by
  simp only [evs]; generalize ev e ρ = a; generalize evs es ρ = q; cases a <;> cases q <;> rfl
theorem evx_and (a b : Ex) (ρ : SW.Env) : ev (.and_ a b) ρ = runE (andO (ev a ρ) b) ρ := by
  simp only [ev]
  generalize ev a ρ = q
  cases q with
  | none => rfl
  | some p =>
    obtain ⟨d, m⟩ := p
    cases d with
    | bl c => cases c <;> rfl
    | _ => rfl
theorem evx_or (a b : Ex) (ρ : SW.Env) : ev (.or_ a b) ρ = runE (orO (ev a ρ) b) ρ := by
  simp only [ev]
  generalize ev a ρ = q
  cases q with
  | none => rfl
  | some p =>
    obtain ⟨d, m⟩ := p
    cases d with
    | bl c => cases c <;> rfl
    | _ => rfl
theorem evx_ife (c a b : Ex) (ρ : SW.Env) : ev (.ife c a b) ρ = runE (ifO (ev c ρ) a b) ρ := by
  simp only [ev]
  generalize ev c ρ = q
  cases q with
  | none => rfl
  | some p =>
    obtain ⟨d, m⟩ := p
    cases d with
    | bl c => cases c <;> rfl
    | _ => rfl
def varO (o : Option Slot) : Option DM := match o with
  | some (some (d, m)) => some (nmz d (rd m))
  | _ => none
theorem varO_some (d : D) (m : Mo) : varO (some (some (d, m))) = some (nmz d (rd m)) := nrfl rfl
theorem evx_var (i : Nat) (ρ : SW.Env) : ev (.var i) ρ = varO ρ[i]? := by
  simp only [ev]
  generalize ρ[i]? = q
  cases q with
  | none => rfl
  | some s => cases s with
    | none => rfl
    | some p => obtain ⟨d, m⟩ := p; rfl
theorem evx_lit (d : D) (ρ : SW.Env) : ev (.lit d) ρ = if hasL d then none else some (d, .sh) := by simp only [ev]
def finO (o : Option Out) : Option DM := match o with
  | some (.rt d m) => some (d, m)
  | some (.nx _) => some (.non, .sh)
  | _ => none
theorem finO_rt (d : D) (m : Mo) : finO (some (.rt d m)) = some (d, m) := nrfl rfl
theorem finO_nx (ρ : SW.Env) : finO (some (.nx ρ)) = some (.non, .sh) := nrfl rfl
theorem runB_f (N : Nat) (xs : List Sx) (ds : List D) (n : Nat) : runB N xs ds n = finO (evB N xs (st0 ds n)) := nrfl rfl
def drS (s : Slot) : Slot := match s with
  | some (_, .bo) => none
  | some (_, .bt) => none
  | s => s
theorem drop_nil : dropB [] = [] := rfl
theorem drop_cons (s : Slot) (ρ : SW.Env) : dropB (s :: ρ) = drS s :: dropB ρ := rfl
theorem drS_none : drS none = none := rfl
theorem drS_sh (d : D) : drS (some (d, .sh)) = some (d, .sh) := rfl
theorem drS_full (d : D) : drS (some (d, .full)) = some (d, .full) := rfl
theorem drS_top (d : D) : drS (some (d, .top)) = some (d, .top) := rfl
theorem drS_bo (d : D) : drS (some (d, .bo)) = none := rfl
theorem joinL_nil : ∀ ws : List (List Nat), TL.joinL [] ws = ws.flatten
  | [] => rfl
  | [p] => by simp [TL.joinL]
  | p :: q :: r => by rw [TL.joinL, joinL_nil (q :: r)]; simp
theorem gJoin_nil {ws : List (List Nat)} {m n : Mo} (h : ws.flatten.length ≤ 1000000) : gJoin [(.str [], m), (.lst (ws.map .str), n)] = some (.str ws.flatten, .sh) := by
  simp only [gJoin, strsD_map, joinL_nil]
  rw [if_pos]
  rw [List.length_flatten] at h
  have e : (List.map (fun x : List Nat => x.length) ws).sum = (List.map List.length ws).sum := rfl
  simp only [List.length_nil, Nat.mul_zero, Nat.add_zero, e]
  omega
theorem gSum_ints {l : List Int} {m : Mo} : gSum [(.lst (l.map .int), m)] = some (.int l.sum, .sh) := by
  simp only [gSum, intsD_map]
theorem gSSet_str {s : List Nat} {m : Mo} (h : s.length < 4000) : gSSet [(.str s, m)] = some (.lst ((sigs s).map .str), .full) := by
  simp only [gSSet, if_pos h]
theorem gSSet_strs {l : List (List Nat)} {m : Mo} (h : l.length < 4000) : gSSet [(.lst (l.map .str), m)] = some (.lst ((setS l).map .str), .full) := by
  simp only [gSSet, List.length_map, if_pos h, strsD_map]
theorem rngN_up {a : Int} {n : Nat} : rngN a (a + n) 1 = n := by
  unfold rngN Builtin.Range.rangeSize
  rw [if_pos (by decide)]
  split
  · simp; omega
  · simp; omega
theorem rngN_down {n : Nat} : rngN ((n : Int) - 1) (-1) (-1) = n := by
  unfold rngN Builtin.Range.rangeSize
  rw [if_neg (by decide)]
  split
  · simp
  · simp; omega
theorem strD_map (s : List Nat) : strD s = s.map fun c => D.str [c] := rfl
theorem enD_map : ∀ (ds : List D) (k : Nat), enD k ds = (ds.zipIdx k).map fun x => D.tup [.int (x.2 : Int), x.1]
  | [], _ => rfl
  | d :: ds, k => by rw [List.zipIdx_cons, List.map_cons, ← enD_map ds (k + 1)]; rfl
theorem gNe_strs {l m : List (List Nat)} {a b : Mo} (h : ∀ w ∈ l, sOk w = true) (k : ∀ w ∈ m, sOk w = true) : gNe [(.lst (l.map .str), a), (.lst (m.map .str), b)] = some (.bl (!decide (l = m)), .sh) := by
  have o1 : okD (.lst (l.map .str)) = true := by simp only [okD, okDs_strs l h]
  have o2 : okD (.lst (m.map .str)) = true := by simp only [okD, okDs_strs m k]
  have n1 : noB (.lst (l.map .str)) = true := by simp only [noB, noBs_strs]
  have n2 : noB (.lst (m.map .str)) = true := by simp only [noB, noBs_strs]
  rw [gNe_of o1 (by simp only [dpth, dpths_strs]; decide) o2 (by simp only [dpth, dpths_strs]; decide)]
  have e := eqD_iff _ _ o1 o2 n1 n2
  have e2 : eqD (.lst (l.map .str)) (.lst (m.map .str)) = decide (l = m) := by
    rw [Bool.eq_iff_iff, decide_eq_true_eq]
    unfold eqD
    rw [e]
    simp only [D.lst.injEq]
    exact map_str_inj
  rw [e2]
theorem cutL_m1 {α : Type} (s : List α) : cutL s none (some (-1)) = s.dropLast := by
  have e : HT.sIx s.length s.length (some (-1)) = s.length - 1 := by
    unfold HT.sIx
    simp only
    rw [if_pos (by decide)]
    omega
  unfold cutL
  rw [HT.sIx_none, e, List.drop_zero, Nat.sub_zero, List.dropLast_eq_take]
theorem stepL_mem {α : Type} {l : List α} {k : Int} {x : α} (h : x ∈ stepL l k) : x ∈ l := by
  unfold stepL at h
  obtain ⟨i, _, hi⟩ := List.mem_filterMap.mp h
  exact List.mem_of_getElem? hi
theorem stepL_two {α : Type} (l : List α) : (stepL l 2).length ≤ (l.length + 1) / 2 := by
  unfold stepL
  rw [if_pos (by decide), if_pos (by decide)]
  refine Nat.le_trans (List.length_filterMap_le _ _) ?_
  unfold sliceRange
  rw [List.length_map, List.length_range, if_pos (by decide)]
  split <;> omega
theorem gMul_str {s : List Nat} {n : Nat} {m k : Mo} (h : s.length * n ≤ 1000000) (hn : n ≤ 1000000) : gMul [(.str s, m), (.int n, k)] = some (.str (List.replicate n s).flatten, .sh) := by
  have h1 : inR (n : Int) = true := by
    have q1 : (-4611686018427387904 : Int) ≤ (n : Int) := by omega
    have q2 : (n : Int) < 4611686018427387904 := by omega
    simp [inR, B62, q1, q2]
  have h2 : decide (s.length * n ≤ SZ) = true := decide_eq_true (Nat.le_trans h (by decide))
  simp only [gMul, Int.toNat_natCast, h1, h2]
  rfl
theorem srtOk_ints (l : List Int) : srtOk (l.map .int) = true := by
  have h1 : pyOks (l.map .int) = true := by
    induction l with
    | nil => rfl
    | cons a l ih => simp only [List.map_cons, pyOks, pyOk, ih, Bool.and_self]
  have h2 : alkA ((l.map .int).map toPy) = true := by
    unfold alkA
    rw [List.all_eq_true]
    intro a ha
    rw [List.all_eq_true]
    intro b hb
    simp only [List.map_map, List.mem_map, Function.comp_def, toPy] at ha hb
    obtain ⟨x, _, rfl⟩ := ha
    obtain ⟨y, _, rfl⟩ := hb
    rfl
  have h3 : sokA ((l.map .int).map toPy) = true := by
    unfold sokA
    rw [Bool.or_eq_true]; right
    rw [List.all_eq_true]
    intro a ha
    simp only [List.map_map, List.mem_map, Function.comp_def, toPy] at ha
    obtain ⟨x, _, rfl⟩ := ha
    rfl
  unfold srtOk
  rw [h1, h2, h3]
  simp [toPy, PyData.depth]
theorem gSorted_ints {l : List Int} {m : Mo} (h : l.length ≤ 1000000) : gSorted [(.lst (l.map .int), m)] = some (.lst ((l.mergeSort ile).map .int), .full) := by
  have h2 : l.length ≤ SZ := Nat.le_trans h (by decide)
  have e : (l.map D.int).mergeSort dle = (l.mergeSort ile).map .int := (List.map_mergeSort (r := ile) (s := dle) (f := D.int) (l := l) fun a _ b _ => by
    have h3 := congrFun (congrFun (PySem.W.dataLe_int (fun z : Int => z)) a) b
    have e : dle (.int a) (.int b) = PySem.W.dataLe false (fun z : Int => PyData.int z) a b := rfl
    exact (e.trans h3).symm).symm
  simp only [gSorted, srtOk_ints, List.length_map, h2, decide_true, Bool.and_self, if_true, e, newLst, hasLs_ints]
theorem map_int_inj {l m : List Int} : l.map D.int = m.map D.int ↔ l = m := by
  constructor
  · intro h
    have inj : Function.Injective (D.int) := fun a b e => by cases e; rfl
    exact (List.map_inj_right (fun _ _ e => inj e)).mp h
  · intro h; rw [h]
theorem eqD_ints {l m : List Int} : eqD (.lst (l.map .int)) (.lst (m.map .int)) = decide (l = m) := by
  have o : ∀ l : List Int, okD (.lst (l.map .int)) = true := fun l => by simp only [okD, okDs_ints]
  have n : ∀ l : List Int, noB (.lst (l.map .int)) = true := fun l => by simp only [noB, noBs_ints]
  rw [Bool.eq_iff_iff, decide_eq_true_eq]
  have := eqD_iff _ _ (o l) (o m) (n l) (n m)
  unfold eqD
  rw [this]
  simp only [D.lst.injEq]
  exact map_int_inj
theorem gEq_ints {l m : List Int} {a b : Mo} : gEq [(.lst (l.map .int), a), (.lst (m.map .int), b)] = some (.bl (decide (l = m)), .sh) := by
  rw [gEq_of (by simp only [okD, okDs_ints]) (by simp only [dpth, dpths_ints]; decide) (by simp only [okD, okDs_ints]) (by simp only [dpth, dpths_ints]; decide), eqD_ints]
theorem gNe_ints {l m : List Int} {a b : Mo} : gNe [(.lst (l.map .int), a), (.lst (m.map .int), b)] = some (.bl (!decide (l = m)), .sh) := by
  rw [gNe_of (by simp only [okD, okDs_ints]) (by simp only [dpth, dpths_ints]; decide) (by simp only [okD, okDs_ints]) (by simp only [dpth, dpths_ints]; decide), eqD_ints]
end SW
namespace SW
open PySem PySem.Spec PyProof.Rows L2
open PySem.W (kdx_alive)

/-! ### list(zip(a, b)) -/
section
variable {prog : Program} {w : World} {A : Around} {E : Value → Shared → Prop} {s : Shared} {z TI TO i1 i2 l1 l2 S : Addr} {xs ys : Array Value}
theorem zl_no_len : typeLookup (.type "zip") "__len__" = pure none := by rw [typeLookup_type, builtinLookup_eq_fast]; kernel_rfl
theorem zl_no_hint : typeLookup (.type "zip") "__length_hint__" = pure none := by rw [typeLookup_type, builtinLookup_eq_fast]; kernel_rfl
def ZSt (z TI TO i1 i2 l1 l2 S : Addr) (xs ys : Array Value) (i : Nat) (h : Heap) : Prop :=
  IsPair h TI (.ref i1) (.ref i2) ∧ h.IsListIter i1 l1 i ∧ h.IsListIter i2 l2 i ∧ h.IsList l1 xs ∧ h.IsList l2 ys ∧
  ((IsZip h z TI TO .none ∧ ∃ a b, IsPair h TO a b) ∨ ∃ T f oT, IsZipHeld h z TI TO T f ∧ h.get? T = some oT ∧ T ≠ z ∧ T ≠ i1 ∧ T ≠ i2 ∧ T ≠ S)
structure ZOff (z TI TO i1 i2 l1 l2 S : Addr) : Prop where
  dz : z < S
  dTI : TI < S
  dTO : TO < S
  di1 : i1 < S
  di2 : i2 < S
  dl1 : l1 < S
  dl2 : l2 < S
theorem ZSt.frame {i : Nat} {h₁ h₂ : Heap} (O : ZOff z TI TO i1 i2 l1 l2 S) (st : ZSt z TI TO i1 i2 l1 l2 S xs ys i h₁) (hk : ∀ b o, b ≠ S → h₁.get? b = some o → h₂.get? b = some o) : ZSt z TI TO i1 i2 l1 l2 S xs ys i h₂ := by
  obtain ⟨hTI, h1, h2, hl1, hl2, hz⟩ := st
  refine ⟨hk _ _ (Nat.ne_of_lt O.dTI) hTI, h1.at fun o e => hk _ o (Nat.ne_of_lt O.di1) e, h2.at fun o e => hk _ o (Nat.ne_of_lt O.di2) e, hl1.at fun o e => hk _ o (Nat.ne_of_lt O.dl1) e, hl2.at fun o e => hk _ o (Nat.ne_of_lt O.dl2) e, ?_⟩
  rcases hz with ⟨hz, a, b, hTO⟩ | ⟨T, f, oT, hz, hT, r1, r2, r3, r4⟩
  · exact .inl ⟨hk _ _ (Nat.ne_of_lt O.dz) hz, a, b, hk _ _ (Nat.ne_of_lt O.dTO) hTO⟩
  · exact .inr ⟨T, f, oT, hk _ _ (Nat.ne_of_lt O.dz) hz, hk _ _ r4 hT, r1, r2, r3, r4⟩
theorem zl_item {i : Nat} {x y : Value} {Q : Option Value → Shared → Prop} (D : ZipApart z TI TO i1 i2 l1 l2) (st : ZSt z TI TO i1 i2 l1 l2 S xs ys i s.heap) (hS : S < s.heap.objs.size) (ex : xs[i]? = some x) (ey : ys[i]? = some y)
    (hQ : ∀ h', ZSt z TI TO i1 i2 l1 l2 S xs ys (i + 1) h' → IsPair h' s.heap.objs.size x y → (∀ c o, c ≠ z → c ≠ TO → c ≠ i1 → c ≠ i2 → s.heap.get? c = some o → h'.get? c = some o) → Q (some (.ref s.heap.objs.size)) { s with heap := h' }) :
    wpAny (model prog w) A (pyNext (.ref z)) Q E s := by
  obtain ⟨hTI, h1, h2, hl1, hl2, hz⟩ := st
  have lt : ∀ {c o}, s.heap.get? c = some o → s.heap.objs.size ≠ c := fun e => Nat.ne_of_gt (Heap.lt_size e)
  have n1 : s.heap.objs.size ≠ i1 := let ⟨_, e, _⟩ := h1; lt e
  have n2 : s.heap.objs.size ≠ i2 := let ⟨_, e, _⟩ := h2; lt e
  rcases hz with ⟨hz, a, b, hTO⟩ | ⟨T, f, oT, hz, hT, r1, r2, r3, r4⟩
  · refine wpAny_pyNext_zip_item D hz hTI hTO h1 h2 hl1 hl2 ex ey fun h' a1 a2 a3 a4 a5 a6 hk => ?_
    exact hQ h' ⟨hk _ _ D.TIz D.TITO D.TIi1 D.TIi2 hTI, a3, a4, hl1.at fun o e => hk _ o D.l1z D.l1TO D.l1i1 D.l1i2 e, hl2.at fun o e => hk _ o D.l2z D.l2TO D.l2i1 D.l2i2 e,
        .inr ⟨s.heap.objs.size, false, _, a1, a5, lt hz, n1, n2, Nat.ne_of_gt hS⟩⟩ a5 fun c o c1 c2 c3 c4 e => hk c o c1 c2 c3 c4 e
  · refine wpAny_pyNext_zip_item_held D hz hT hTI h1 h2 hl1 hl2 ex ey fun h' a1 a3 a4 a5 a6 hk => ?_
    exact hQ h' ⟨hk _ _ D.TIz D.TIi1 D.TIi2 hTI, a3, a4, hl1.at fun o e => hk _ o D.l1z D.l1i1 D.l1i2 e, hl2.at fun o e => hk _ o D.l2z D.l2i1 D.l2i2 e,
        .inr ⟨T, true, oT, a1, hk _ _ r1 r2 r3 hT, r1, r2, r3, r4⟩⟩ a5 fun c o c1 _ c3 c4 e => hk c o c1 c3 c4 e
theorem zl_done {i : Nat} {Q : Option Value → Shared → Prop} (hA : A.handled = none) (D : ZipApart z TI TO i1 i2 l1 l2) (st : ZSt z TI TO i1 i2 l1 l2 S xs ys i s.heap) (hend : xs[i]? = none ∨ ys[i]? = none)
    (hQ : ∀ h', (∀ c o, c ≠ z → c ≠ TO → c ≠ i1 → c ≠ i2 → s.heap.get? c = some o → h'.get? c = some o) → Q none { s with heap := h' }) :
    wpAny (model prog w) A (pyNext (.ref z)) Q E s := by
  obtain ⟨hTI, h1, h2, hl1, hl2, hz⟩ := st
  rcases hz with ⟨hz, a, b, hTO⟩ | ⟨T, f, oT, hz, hT, r1, r2, r3, r4⟩
  · exact wpAny_pyNext_zip_end hA D hz hTI hTO h1 h2 hl1 hl2 hend fun h' hk => hQ h' fun c o c1 c2 c3 c4 e => hk c o c1 c2 c3 c4 e
  · exact wpAny_pyNext_zip_end_held hA D hz hT hTI h1 h2 hl1 hl2 hend fun h' hk => hQ h' fun c o c1 _ c3 c4 e => hk c o c1 c3 c4 e
/-- the tuples made so far -/
structure ZlG (xs ys : Array Value) (lo : Addr) (h : Heap) (as : List Addr) : Prop where
  rise : as.Pairwise (· < ·)
  above : ∀ a ∈ as, lo < a
  pairs : ∀ (j : Nat) (a : Addr), as[j]? = some a → ∃ x y, xs[j]? = some x ∧ ys[j]? = some y ∧ IsPair h a x y
theorem ZlG.there {lo : Addr} {h : Heap} {as : List Addr} (g : ZlG xs ys lo h as) {a : Addr} (ha : a ∈ as) : a < h.objs.size := by
  obtain ⟨j, hj⟩ := List.mem_iff_getElem?.mp ha
  obtain ⟨_, _, _, _, e⟩ := g.pairs j a hj
  exact Heap.lt_size e
variable {R : Result → Shared → Prop}
theorem zl_loop (hh : A.handled = none) (D : ZipApart z TI TO i1 i2 l1 l2) (O : ZOff z TI TO i1 i2 l1 l2 S) (hn : min xs.size ys.size ≤ sizeLine) (res : Value) {h₁ : Heap}
    (hR : ∀ h' tk acc c as, (∀ b o, b ≠ S → b ≠ z → b ≠ TO → b ≠ i1 → b ≠ i2 → h₁.get? b = some o → h'.get? b = some o) → h'.get? S = some { cls := .type "list", dict := none, data := .seq acc c, slots := #[] } → as.length = min xs.size ys.size → ZlG xs ys S h' as →
      acc.toList = as.map Value.ref → R (.ok (.ret res)) { s with heap := h', toks := tk }) :
    ∀ (k i : Nat) (h : Heap) (tk c : Nat) (acc : Array Value) (as : List Addr), min xs.size ys.size - i = k → i ≤ min xs.size ys.size → ZSt z TI TO i1 i2 l1 l2 S xs ys i h → (∀ b o, b ≠ S → b ≠ z → b ≠ TO → b ≠ i1 → b ≠ i2 → h₁.get? b = some o → h.get? b = some o) →
      h.get? S = some { cls := .type "list", dict := none, data := .seq acc c, slots := #[] } → acc.toList = as.map Value.ref → as.length = i → ZlG xs ys S h as →
      codeAny (model prog w) A (.builtin "list.extend.loop" ⟨[.ref S, .ref z, res], []⟩) R { s with heap := h, toks := tk } := by
  have gz := Nat.ne_of_gt O.dz
  have gTO := Nat.ne_of_gt O.dTO
  have gi1 := Nat.ne_of_gt O.di1
  have gi2 := Nat.ne_of_gt O.di2
  intro k
  induction k with
  | zero =>
    intro i h tk c acc as hk hi hst hkeep hS hacc hal hG
    have hin : i = min xs.size ys.size := by omega
    refine codeAny_builtin PySem.F.entry_extend_loop ?_
    rw [Around.under_plainId PySem.F.plain_extend_loop _]
    show wpAny _ A.in1 (pyNext (.ref z) >>= _) _ _ _
    have hend : xs[i]? = none ∨ ys[i]? = none := by
      rcases Nat.le_total xs.size ys.size with q | q
      · exact .inl (Array.getElem?_eq_none (by omega))
      · exact .inr (Array.getElem?_eq_none (by omega))
    refine wpAny_bind (zl_done (s := { s with heap := h, toks := tk }) (A := A.in1) hh D hst hend fun h' he => ?_)
    refine wpAny_pure (hR h' tk acc c as (fun b o b0 b1 b2 b3 b4 e => he b o b1 b2 b3 b4 (hkeep b o b0 b1 b2 b3 b4 e)) (he S _ gz gTO gi1 gi2 hS) (by omega) ⟨hG.rise, hG.above, fun j a hj => ?_⟩ hacc)
    obtain ⟨x, y, e1, e2, e3⟩ := hG.pairs j a hj
    have ha := hG.above a (List.mem_of_getElem? hj)
    exact ⟨x, y, e1, e2, he a _ (Nat.ne_of_gt (Nat.lt_trans O.dz ha)) (Nat.ne_of_gt (Nat.lt_trans O.dTO ha)) (Nat.ne_of_gt (Nat.lt_trans O.di1 ha)) (Nat.ne_of_gt (Nat.lt_trans O.di2 ha)) e3⟩
  | succ k ih =>
    intro i h tk c acc as hk hi hst hkeep hS hacc hal hG
    have hix : i < xs.size := by omega
    have hiy : i < ys.size := by omega
    have ex := Array.getElem?_eq_getElem hix
    have ey := Array.getElem?_eq_getElem hiy
    have hsz : acc.size = i := by rw [← Array.length_toList, hacc, List.length_map, hal]
    refine codeAny_builtin PySem.F.entry_extend_loop ?_
    rw [Around.under_plainId PySem.F.plain_extend_loop _]
    show wpAny _ A.in1 (pyNext (.ref z) >>= _) _ _ _
    refine wpAny_bind (zl_item (s := { s with heap := h, toks := tk }) (S := S) D hst (Heap.lt_size hS) ex ey fun h' hst' ht hkp => ?_)
    dsimp only at ht hkp ⊢
    have hS' := hkp S _ gz gTO gi1 gi2 hS
    have up : ∀ b o, b ≠ S → h'.get? b = some o → (h'.update S (Obj.mapSeq (·.push (Value.ref h.objs.size)))).get? b = some o := fun b o hb e => (Heap.get?_update_other _ _ (Ne.symm hb)).trans e
    have hSl : S < h.objs.size := Heap.lt_size hS
    show wpAny _ A.in1 (updateSeq S (·.push (Value.ref h.objs.size)) >>= _) _ _ _
    refine wpAny_bind ?_
    refine wpAny_updateSeq hS' rfl (wpAny_pure ⟨plainId_quiet PySem.F.plain_extend_loop _, ih (i + 1) _ tk _ (acc.push (Value.ref h.objs.size)) (as ++ [h.objs.size]) (by omega) (by omega) (hst'.frame O up)
      (fun b o b0 b1 b2 b3 b4 e => up b o b0 (hkp b o b1 b2 b3 b4 (hkeep b o b0 b1 b2 b3 b4 e))) (Heap.get?_update_self _ hS' rfl) (by rw [Array.toList_push, hacc, List.map_append]; rfl) (by rw [List.length_append, hal]; rfl) ⟨?_, ?_, ?_⟩⟩) (by rw [hsz]; omega) (by show (acc.push (Value.ref h.objs.size)).size ≤ sizeLine + 1; rw [Array.size_push, hsz]; omega)
    · refine List.pairwise_append.mpr ⟨hG.rise, List.pairwise_singleton _ _, fun a ha b hb => ?_⟩
      rw [List.mem_singleton.mp hb]
      exact hG.there ha
    · intro a ha
      rcases List.mem_append.mp ha with ha | ha
      · exact hG.above a ha
      · rw [List.mem_singleton.mp ha]; exact hSl
    · intro j b hj
      rcases Nat.lt_trichotomy j as.length with q1 | q1 | q1
      · rw [List.getElem?_append_left q1] at hj
        obtain ⟨x', y', e1, e2, e3⟩ := hG.pairs j b hj
        have hb := hG.above b (List.mem_of_getElem? hj)
        exact ⟨x', y', e1, e2, up b _ (Nat.ne_of_gt hb) (hkp b _ (Nat.ne_of_gt (Nat.lt_trans O.dz hb)) (Nat.ne_of_gt (Nat.lt_trans O.dTO hb)) (Nat.ne_of_gt (Nat.lt_trans O.di1 hb)) (Nat.ne_of_gt (Nat.lt_trans O.di2 hb)) e3)⟩
      · subst q1
        have hb : h.objs.size = b := by simpa using hj
        subst hb
        exact ⟨_, _, by rw [hal]; exact ex, by rw [hal]; exact ey, up _ _ (Nat.ne_of_gt hSl) ht⟩
      · have hnone : (as ++ [h.objs.size])[j]? = none := List.getElem?_eq_none (by rw [List.length_append, List.length_singleton]; omega)
        rw [hnone] at hj; cases hj
theorem zl_extend (hh : A.handled = none) (D : ZipApart z TI TO i1 i2 l1 l2) (O : ZOff z TI TO i1 i2 l1 l2 S) (hz : s.heap.get? z = some { cls := .type "zip", dict := none, data := .fields #[.none, .bool false, .bool false, .ref TI, .ref TO], slots := #[] }) (st : ZSt z TI TO i1 i2 l1 l2 S xs ys 0 s.heap) (res : Value) (c₀ : Nat) (hS : s.heap.get? S = some { cls := .type "list", data := .seq #[] c₀ })
    (hR : ∀ h' tk acc c as, (∀ b o, b ≠ S → b ≠ z → b ≠ TO → b ≠ i1 → b ≠ i2 → s.heap.get? b = some o → h'.get? b = some o) → h'.get? S = some { cls := .type "list", dict := none, data := .seq acc c, slots := #[] } → as.length = min xs.size ys.size → ZlG xs ys S h' as →
      acc.toList = as.map Value.ref → R (.ok (.ret res)) { s with heap := h', toks := tk }) (hn : min xs.size ys.size ≤ sizeLine) :
    wpAny (model prog w) A.in1 (Builtin.List.listExtendWith (.ref S) (.ref z) res)
      (fun fin s' => match fin with | .done f => R (.ok f) s' | .again c' => c'.quiet = true ∧ codeAny (model prog w) A c' R s') (fun e s' => R (.error e) s') s := by
  have hT : s.TypeIs (.ref z) "zip" := ⟨_, hz, rfl⟩
  have key : ∀ (h : Heap) (c₁ tk : Nat), (∀ b o, b ≠ S → s.heap.get? b = some o → h.get? b = some o) →
      h.get? S = some { cls := .type "list", data := .seq #[] c₁ } → codeAny (model prog w) A (.builtin "list.extend.loop" ⟨[.ref S, .ref z, res], []⟩) R { s with heap := h, toks := tk } := by
    intro h c₁ tk hk hS₁
    exact zl_loop (s := s) (h₁ := s.heap) hh D O hn res hR (min xs.size ys.size) 0 h tk c₁ #[] [] (Nat.sub_zero _) (Nat.zero_le _) (st.frame O hk) (fun b o hb _ _ _ _ e => hk b o hb e) hS₁ rfl rfl
      ⟨List.Pairwise.nil, (fun _ ha => nomatch ha), (fun j a hj => by simp at hj)⟩
  unfold Builtin.List.listExtendWith
  refine wpAny_bind (wpAny_typeOf (T := "zip") hT ?_)
  have h1 : Builtin.List.listSameRef (.ref S) (.ref z) = false := by simp [Builtin.List.listSameRef, Nat.ne_of_gt O.dz]
  have h2 : (Value.type "zip" == Value.type "list") = false := by decide
  have h3 : (Value.type "zip" == Value.type "tuple") = false := by decide
  simp only [h1, h2, h3, Bool.or_false, Bool.false_eq_true, if_false]
  refine wpAny_bind (wpAny_pyIter_zip hz ?_)
  refine wpAny_bind (wpAny_holding ?_)
  unfold Builtin.List.listLengthHint
  refine wpAny_bind (wpAny_specialOf hT zl_no_len ?_)
  show wpAny _ A.in1 (specialOf (Value.ref z) (Str.ofString "__length_hint__") >>= _) _ _ _
  refine wpAny_bind (wpAny_specialOf hT zl_no_hint ?_)
  refine wpAny_pure ?_
  show wpAny _ A.in1 (rule "list.extend.makes-room" >>= fun _ => Builtin.List.listTouch (.ref S) >>= fun _ =>
    again (.builtin "list.extend.loop" ⟨[.ref S, .ref z, res], []⟩)) _ _ _
  refine wpAny_bind (wpAny_rule ?_)
  refine wpAny_bind ?_
  show wpAny _ _ (updateSeq S (·.push .none) >>= fun _ => updateSeq S (·.pop)) _ _ _
  refine wpAny_bind (wpAny_updateSeq hS rfl ?_)
  have hS₂ := Heap.get?_update_self (Obj.mapSeq (·.push Value.none)) hS rfl
  refine wpAny_updateSeq (hz := by seq_fits) hS₂ rfl ?_
  have hS₃ := Heap.get?_update_self (Obj.mapSeq (·.pop)) hS₂ rfl
  refine wpAny_pure ⟨plainId_quiet PySem.F.plain_extend_loop _, key _ _ _ (fun b o hb e => ?_) hS₃⟩
  exact (Heap.get?_update_other _ _ (Ne.symm hb)).trans ((Heap.get?_update_other _ _ (Ne.symm hb)).trans e)
theorem zl_init (hh : A.handled = none) (D : ZipApart z TI TO i1 i2 l1 l2) (O : ZOff z TI TO i1 i2 l1 l2 S) (hz : s.heap.get? z = some { cls := .type "zip", dict := none, data := .fields #[.none, .bool false, .bool false, .ref TI, .ref TO], slots := #[] }) (st : ZSt z TI TO i1 i2 l1 l2 S xs ys 0 s.heap) (hS : s.heap.get? S = some { cls := .type "list", data := .seq #[] })
    (hR : ∀ h' tk acc c as, (∀ b o, b ≠ S → b ≠ z → b ≠ TO → b ≠ i1 → b ≠ i2 → s.heap.get? b = some o → h'.get? b = some o) → h'.get? S = some { cls := .type "list", dict := none, data := .seq acc c, slots := #[] } → as.length = min xs.size ys.size → ZlG xs ys S h' as →
      acc.toList = as.map Value.ref → R (.ok (.ret .none)) { s with heap := h', toks := tk }) (hn : min xs.size ys.size ≤ sizeLine) :
    wpAny (model prog w) A.in1 (Builtin.«list.__init__» ⟨[.ref S, .ref z], []⟩)
      (fun fin s' => match fin with | .done f => R (.ok f) s' | .again c' => c'.quiet = true ∧ codeAny (model prog w) A c' R s') (fun e s' => R (.error e) s') s := by
  show wpAny _ _ (do let old ← Builtin.List.listItems (.ref S); Builtin.List.listUpdate (.ref S) (fun _ => #[]); letGo old.toList.reverse; Builtin.List.listExtendWith (.ref S) (.ref z) .none) _ _ s
  refine wpAny_bind ?_
  unfold Builtin.List.listItems
  refine wpAny_bind (wpAny_seqItems hS rfl (wpAny_pure ?_))
  show wpAny _ _ (updateSeq S (fun _ => #[]) >>= fun _ => letGo (#[] : Array Value).toList.reverse >>= fun _ => Builtin.List.listExtendWith (.ref S) (.ref z) .none) _ _ s
  refine wpAny_bind (wpAny_updateSeq hS rfl ?_)
  have hS₂ := Heap.get?_update_self (Obj.mapSeq (fun _ => (#[] : Array Value))) hS rfl
  have oth : ∀ b o, b ≠ S → s.heap.get? b = some o → (s.heap.update S (Obj.mapSeq (fun _ => (#[] : Array Value)))).get? b = some o :=
    fun b o hb e => (Heap.get?_update_other _ _ (Ne.symm hb)).trans e
  refine wpAny_bind (wpAny_letGo ?_)
  exact zl_extend hh D O (oth z _ (Nat.ne_of_lt O.dz) hz) (st.frame O oth) .none _ hS₂ (fun h' tk acc c as hk hS' hl hG hacc => hR h' tk acc c as (fun b o b0 b1 b2 b3 b4 e => hk b o b0 b1 b2 b3 b4 (oth b o b0 e)) hS' hl hG hacc) hn
theorem zl_call {a b : Value} {Q : Value → Shared → Prop} (hh : A.handled = none) (D : ZipApart z TI TO i1 i2 l1 l2) (hz : IsZip s.heap z TI TO .none) (hTI : IsPair s.heap TI (.ref i1) (.ref i2)) (hTO : IsPair s.heap TO a b) (h1 : s.heap.IsListIter i1 l1 0) (h2 : s.heap.IsListIter i2 l2 0) (hl1 : s.heap.IsList l1 xs) (hl2 : s.heap.IsList l2 ys) (hn : min xs.size ys.size ≤ sizeLine)
    (hQ : ∀ h' tk acc c as, (∀ b o, b ≠ z → b ≠ TO → b ≠ i1 → b ≠ i2 → s.heap.get? b = some o → h'.get? b = some o) → h'.get? s.heap.objs.size = some { cls := .type "list", dict := none, data := .seq acc c, slots := #[] } → as.length = min xs.size ys.size → ZlG xs ys s.heap.objs.size h' as →
      acc.toList = as.map Value.ref → Q (.ref s.heap.objs.size) { s with heap := h', toks := tk }) :
    wpAny (model prog w) A (call (.type "list") [.ref z]) Q E s := by
  refine callType_codes (Q₁ := fun obj s₁ => obj = .ref s.heap.objs.size ∧ s₁ = { s with heap := s.heap.push { cls := .type "list", data := .seq #[] } }) PySem.F.called_list (PySem.F.typeCall_list_1 _) PySem.F.entry_list_init
    (code_list_new _ ⟨rfl, rfl⟩) fun obj s₁ h₁ => ?_
  obtain ⟨rfl, rfl⟩ := h₁
  have hS : (s.heap.push { cls := .type "list", data := .seq #[] }).get? s.heap.objs.size = some { cls := .type "list", data := .seq #[] } := Heap.get?_push_size _ rfl
  have O : ZOff z TI TO i1 i2 l1 l2 s.heap.objs.size := ⟨Heap.lt_size hz, Heap.lt_size hTI, Heap.lt_size hTO, let ⟨_, e, _⟩ := h1; Heap.lt_size e, let ⟨_, e, _⟩ := h2; Heap.lt_size e, let ⟨_, e, _⟩ := hl1; Heap.lt_size e, let ⟨_, e, _⟩ := hl2; Heap.lt_size e⟩
  have st : ZSt z TI TO i1 i2 l1 l2 s.heap.objs.size xs ys 0 s.heap := ⟨hTI, h1, h2, hl1, hl2, .inl ⟨hz, a, b, hTO⟩⟩
  refine ⟨⟨_, hS, rfl⟩, PySem.F.args_list_init_2 _ _, zl_init (A := A.in1) hh D O (Heap.get?_push_of_some _ hz) (st.frame O fun b o _ e => Heap.get?_push_of_some _ e) hS (fun h' tk acc c as hk hS' hl hG hacc => ?_) hn⟩
  exact ⟨rfl, hQ h' tk acc c as (fun b o b1 b2 b3 b4 e => hk b o (Nat.ne_of_lt (Heap.lt_size e)) b1 b2 b3 b4 (Heap.get?_push_of_some _ e)) hS' hl hG hacc⟩
end
/-- the tuples tracked at their addresses -/
def putZ : Hp → List Addr → List (V × V) → Hp
  | H, a :: as, p :: kvs => putZ (upd H a (.tup [p.1, p.2])) as kvs
  | H, _, _ => H
theorem putZ_off {b : Addr} : ∀ (as : List Addr) (kvs : List (V × V)) (H : Hp), b ∉ as → putZ H as kvs b = H b
  | [], _, _, _ => rfl
  | _ :: _, [], _, _ => rfl
  | a :: as, p :: kvs, H, h => by
    show putZ (upd H a (.tup [p.1, p.2])) as kvs b = H b
    rw [putZ_off as kvs _ (fun z => h (List.mem_cons_of_mem _ z)), upd_ne (fun z => h (by rw [z]; exact List.mem_cons_self))]
theorem putZ_at : ∀ (as : List Addr) (kvs : List (V × V)) (H : Hp), as.length = kvs.length → as.Nodup → Paired (fun (t : Addr) (p : V × V) => putZ H as kvs t = some (.tup [p.1, p.2])) as kvs
  | [], [], _, _, _ => .nil
  | [], _ :: _, _, h, _ => by cases h
  | _ :: _, [], _, h, _ => by cases h
  | a :: as, p :: kvs, H, h, hn => by
    have hn' := List.nodup_cons.mp hn
    have ih := putZ_at as kvs (upd H a (.tup [p.1, p.2])) (Nat.succ.inj h) hn'.2
    refine .cons ?_ ih
    show putZ (upd H a (.tup [p.1, p.2])) as kvs a = some (.tup [p.1, p.2])
    rw [putZ_off as kvs _ hn'.1, upd_same]
def rLZip (K : PySem.W.Frag) : List V → Hp → VK → Prop := fun vs H Q => ∃ (a b : Addr) (xs ys : List V), vs = [.ref a, .ref b] ∧ SqL K H a xs ∧ SqL K H b ys ∧ xs.length ≤ 1000000 ∧
  ∀ (H' : Hp) (p : Addr) (ts : List Addr), (∀ b o, H b = some o → H' b = some o) → H p = none → (∀ t ∈ ts, H t = none) → p ∉ ts → H' p = some (.lst (ts.map V.ref)) → Paired (fun (t : Addr) (q : V × V) => H' t = some (.tup [q.1, q.2])) ts (xs.zip ys) → Q (.ref p) H'
def tLZip (K : PySem.W.Frag) (ta : TA) : TE := fun σ H Q => ta σ H fun vs H1 => rLZip K vs H1 Q
theorem vals_zip_get : ∀ {xs : List V} {its : List Value} {j : Nat} {x : V} {u : Value}, Vals xs its → xs[j]? = some x → its[j]? = some u → RelV x u
  | _, _, _, _, _, .nil, h, _ => by cases h
  | _, _, 0, _, _, .cons r _, h, k => by
    have e1 := Option.some.inj h
    have e2 := Option.some.inj k
    subst e1 e2
    exact r
  | _, _, j + 1, _, _, .cons _ t, h, k => vals_zip_get (j := j) t h k
theorem zip_laid {X : Cx} {pins : List (Addr × Obj)} {σ : L2.St} {H : Hp} {s : Shared} {h' : Heap} {tk : Nat} {xs ys : List V} {its its2 : List Value} {acc : Array Value} {c : Nat} {S : Addr} {as : List Addr} (I : Inv X pins σ H s) (hSle : s.heap.objs.size ≤ S) (hz : xs.length ≤ 1000000) (rv : Vals xs its) (rv2 : Vals ys its2)
    (hk : ∀ b o, s.heap.get? b = some o → h'.get? b = some o) (hS : h'.get? S = some { cls := .type "list", dict := none, data := .seq acc c, slots := #[] }) (hl : as.length = min its.length its2.length) (hG : ZlG its.toArray its2.toArray S h' as) (hacc : acc.toList = as.map Value.ref) :
    ∃ H' : Hp, (∀ b o, H b = some o → H' b = some o) ∧ H S = none ∧ (∀ t ∈ as, H t = none) ∧ S ∉ as ∧ H' S = some (.lst (as.map V.ref)) ∧ Paired (fun (t : Addr) (q : V × V) => H' t = some (.tup [q.1, q.2])) as (xs.zip ys) ∧ Inv X pins σ H' { s with heap := h', toks := tk } := by
  have k1 := rv.length
  have k2 := rv2.length
  have lk : as.length = (xs.zip ys).length := by rw [List.length_zip]; omega
  have hSn : S ∉ as := fun z => Nat.lt_irrefl _ (hG.above _ z)
  have nd : as.Nodup := List.Pairwise.imp (fun {a b} (h : a < b) => Nat.ne_of_lt h) hG.rise
  have new : ∀ t ∈ as, H t = none := fun t ht => I.hok.fresh (Nat.le_trans hSle (Nat.le_of_lt (hG.above t ht)))
  have newS : H S = none := I.hok.fresh hSle
  have atP := putZ_at as (xs.zip ys) (upd H S (.lst (as.map V.ref))) lk nd
  have off : ∀ b, b ∉ as → b ≠ S → putZ (upd H S (.lst (as.map V.ref))) as (xs.zip ys) b = H b := fun b h1 h2 => by rw [putZ_off as _ _ h1, upd_ne h2]
  have low : ∀ b o, s.heap.get? b = some o → b ∉ as ∧ b ≠ S := fun b o e => ⟨fun z => absurd (Heap.lt_size e) (Nat.not_lt.mpr (Nat.le_trans hSle (Nat.le_of_lt (hG.above b z)))), Nat.ne_of_lt (Nat.lt_of_lt_of_le (Heap.lt_size e) hSle)⟩
  have kp : ∀ b u, H b = some u → (putZ (upd H S (.lst (as.map V.ref))) as (xs.zip ys)) b = some u := fun b u e => by
    rw [off b (fun z => by rw [new b z] at e; cases e) (fun z => by rw [z, newS] at e; cases e)]
    exact e
  have eS : putZ (upd H S (.lst (as.map V.ref))) as (xs.zip ys) S = some (.lst (as.map V.ref)) := by rw [putZ_off as _ _ hSn, upd_same]
  refine ⟨putZ (upd H S (.lst (as.map V.ref))) as (xs.zip ys), kp, newS, new, hSn, eS, atP, ?_⟩
  refine I.call' (ch := []) rfl ⟨fun b o q _ _ _ => hk b o q, fun b o q _ _ _ => ⟨o.slots, hk b o q⟩, fun b o q n _ => ?_, fun b o q _ => ⟨o, hk b o q⟩, fun b xs q => kp b _ q, fun b o u q => kp b _ q, fun b ps q => ⟨#[], by rw [kp b _ q]; simp⟩⟩ (fun b u q => ?_) I.bare fun b z => by simp at z
  · obtain ⟨z1, z2⟩ := low b o q
    rw [off b z1 z2]
    exact n
  · by_cases hb : b ∈ as
    · obtain ⟨j, pk, e1, e2, e3⟩ := LiI.paired_ix atP hb
      rw [e3] at q
      cases q
      obtain ⟨x, y, f1, f2, f3⟩ := hG.pairs j b e1
      rw [List.getElem?_toArray] at f1 f2
      obtain ⟨g1, g2⟩ := List.getElem?_zip_eq_some.mp e2
      exact ⟨by show 2 ≤ sizeLine; decide, [x, y], .cons (vals_zip_get rv g1 f1) (.cons (vals_zip_get rv2 g2 f2) .nil), ⟨_, f3, rfl, _, rfl⟩⟩
    · by_cases hb2 : b = S
      · rw [hb2] at q ⊢
        rw [eS] at q
        cases q
        refine ⟨by rw [List.length_map, sizeLine_eq]; omega, acc.toList, c, by rw [hacc]; exact LiI.vals_refs as, ?_⟩
        rw [Array.toArray_toList]
        exact hS
      · rw [off b hb hb2] at q
        exact (I.hok b u q).stay (fun d v _ y => hk d v y) (fun d y => kp d _ y) fun d xs y => kp d _ y
theorem pe_listZip {X : Cx} {e e2 : Expr} {ta : TA} {p p2 pos pos2 : Pos} (hg : Gl X "list") (hm : X.mg "list" = none) (hg2 : Gl X "zip") (hm2 : X.mg "zip" = none) (ha : PA X [e, e2] ta) (hc : X.calm = true := by rfl)
    (hs : starEach [e, e2] X.env = (false, eval e X.env) :: starEach [e2] X.env := by rfl) (hpl : (backTo pos2 (starEach [e2] X.env)).any (·.1) = false := by rfl)
    (na : starEach [.Call (.Name "zip" p2) [e, e2] [] pos2] X.env = (false, eval (.Call (.Name "zip" p2) [e, e2] [] pos2) X.env) :: starEach [] X.env := by rfl) : PE X (.Call (.Name "list" p) [.Call (.Name "zip" p2) [e, e2] [] pos2] [] pos) (tLZip X.K ta) := by
  refine ⟨fun pins s σ H Q I h => ?_⟩
  refine Call_ (ld_blt I hg hm boot_list ?_)
  refine PyProof.Rows.callWith_type1 (PyProof.Rows.args_cons ?_ na) na rfl
  refine Call_ (ld_blt I hg2 hm2 PyProof.Rows.boot_zip (PyProof.Rows.callWith_type1 (thn (ha.run pos2 pins s σ H _ I h) fun us s1 ⟨vs, H1, I1, r1, q1⟩ => ?_) hs hpl))
  obtain ⟨a, b, xs, ys, ex, hqx, hqy, hlen, q⟩ := q1
  subst ex
  cases r1 with
  | cons r rr =>
    cases rr with
    | cons r' rr =>
      cases rr
      cases r
      cases r'
      obtain ⟨its, rv, p1, _⟩ := I1.list hqx
      obtain ⟨its2, rv2, p2', _⟩ := I1.list hqy
      have la : a < s1.heap.objs.size := p1.lt
      have lb : b < s1.heap.objs.size := p2'.lt
      have lx := rv.length
      refine call_zip_2 p1.isList p2'.isList fun h' hz hTI hTO h1 h2 hsz hk => ?_
      refine PyProof.Rows.args_nil ?_
      refine zl_call (s := { s1 with heap := h' }) (I1.ok.hd hc) (PySem.W.ktu_apart s1.heap.objs.size a b la lb) hz hTI hTO h1 h2 (p1.isList.at fun o e => hk a o e) (p2'.isList.at fun o e => hk b o e) (by rw [List.size_toArray, List.size_toArray, sizeLine_eq]; omega) fun h2' tk acc c as hk2 hS hl hG hacc => ?_
      have hS' : h2'.get? h'.objs.size = some { cls := .type "list", dict := none, data := .seq acc c, slots := #[] } := hS
      have hG' : ZlG its.toArray its2.toArray h'.objs.size h2' as := hG
      have low : ∀ c o, s1.heap.get? c = some o → c < s1.heap.objs.size := fun c o e => Heap.lt_size e
      obtain ⟨H', w1, w2, w3, w4, w5, w6, J⟩ := zip_laid (tk := tk) (S := h'.objs.size) I1 (by rw [hsz]; omega) hlen rv rv2
        (fun c o e => hk2 c o (Nat.ne_of_lt (Nat.lt_of_lt_of_le (low c o e) (Nat.le_add_right _ _))) (Nat.ne_of_lt (Nat.lt_of_lt_of_le (low c o e) (Nat.le_add_right _ _))) (Nat.ne_of_lt (low c o e)) (Nat.ne_of_lt (Nat.lt_of_lt_of_le (low c o e) (Nat.le_add_right _ _))) (hk c o e)) hS' (by rw [hl, List.size_toArray, List.size_toArray]) hG' hacc
      exact ⟨.ref _, H', J, rfl, q H' _ as w1 w2 w3 w4 w5 w6⟩
def gLZip : List DM → Option DM := fun as => match as with
  | [(.lst ds, _), (.lst es, _)] => if ds.length ≤ 1000000 && !hasLs ds && !hasLs es then some (.lst (zpD ds es), .full) else none
  | _ => none
theorem zpD_flat : ∀ (ds es : List D), hasLs ds = false → hasLs es = false → hasLs (zpD ds es) = false
  | [], _, _, _ => by simp [zpD, hasLs]
  | _ :: _, [], _, _ => by simp [zpD, hasLs]
  | d :: ds, e :: es, h, k => by
    simp only [hasLs, Bool.or_eq_false_iff] at h k
    simp only [zpD, hasLs, hasL, h.1, k.1, zpD_flat ds es h.2 k.2, Bool.or_self]
theorem zip_rs {K : PySem.W.Frag} {H' : Hp} : ∀ {ds es : List D} {xs ys : List V} {ts : List Addr}, Rs K H' ds xs → Rs K H' es ys → Paired (fun (t : Addr) (q : V × V) => H' t = some (.tup [q.1, q.2])) ts (xs.zip ys) → Rs K H' (zpD ds es) (ts.map V.ref)
  | [], es, xs, ys, ts, h, _, p => by
    simp only [Rs] at h
    subst h
    cases p
    simp [zpD, Rs]
  | _ :: _, [], xs, ys, ts, h, k, p => by
    simp only [Rs] at k
    subst k
    rw [List.zip_nil_right] at p
    cases p
    simp [zpD, Rs]
  | d :: ds, e :: es, xs, ys, ts, h, k, p => by
    simp only [Rs] at h k
    obtain ⟨v, r, rfl, h1, h2⟩ := h
    obtain ⟨w, r', rfl, k1, k2⟩ := k
    rw [List.zip_cons_cons] at p
    cases p with
    | cons q t =>
      rw [zpD, List.map_cons]
      refine Rs.cons ?_ (zip_rs h2 k2 t)
      simp only [SW.R]
      exact ⟨_, _, rfl, q, Rs.cons h1 (Rs.cons k1 Rs.nil)⟩
theorem iLZip {X : Cx} : ImpN X (rLZip X.K) gLZip := by
  intro G H as vs d m Q e ra s gv
  unfold gLZip at e
  split at e <;> try (cases e; done)
  rename_i ds m1 es m2
  split at e <;> cases e
  rename_i hc
  simp only [Bool.and_eq_true, decide_eq_true_eq, Bool.not_eq_true'] at hc
  obtain ⟨v, w, rfl, r1, r2⟩ := ra.two
  obtain ⟨a, xs, rfl, hA, rs1, _⟩ := r1.items s
  obtain ⟨b, ys, rfl, hB, rs2, _⟩ := r2.items s
  refine ⟨a, b, xs, ys, rfl, .inl (.inl hA), .inl (.inl hB), by rw [← rs1.length]; exact hc.1.1, fun H' p ts k np nts pn eP pr => ?_⟩
  have k1 : Same H H' := k
  have ex := absb_ext (s.trans k1)
  have gp : G p = none := by
    cases q : G p with
    | none => rfl
    | some o => have := s _ _ q; rw [np] at this; cases this
  refine gv (.ref p) H' (absb G H') [p] k1 ⟨ex.1.1, fun c hc => ?_⟩ ex.2 (by simp) (fun c hc => ?_) ?_
  · rcases ex.1.2 c hc with q | q | ⟨o, q, io⟩
    · exact .inl q
    · refine .inr (.inl ?_)
      cases q2 : H c with
      | none => rfl
      | some o => have := k1 _ _ q2; rw [q] at this; cases this
    · cases q2 : H c with
      | none => exact .inr (.inl rfl)
      | some o' =>
        have := k1 _ _ q2
        rw [q] at this
        cases this
        exact .inr (.inr ⟨_, rfl, io⟩)
  · simp at hc
    subst hc
    refine ⟨np, ?_⟩
    unfold absb
    rw [eP]
    exact gp
  · have hfl := zpD_flat ds es hc.1.2 hc.2
    have rs := zip_rs (Rs.mono k1 _ _ rs1) (Rs.mono k1 _ _ rs2) pr
    simp only [RM, RF]
    exact ⟨p, _, [], rfl, rfl, eP, RFs.flat hfl (Rs.absb (s.trans k1) _ _ hfl rs)⟩
theorem px_lzip {X : Cx} {e e2 : Expr} {xs : List Ex} {p p2 pos pos2 : Pos} (hg : Gl X "list") (hm : X.mg "list" = none) (hg2 : Gl X "zip") (hm2 : X.mg "zip" = none) (ha : PA X [e, e2] (tAR X.K xs)) (hc : X.calm = true := by rfl)
    (hs : starEach [e, e2] X.env = (false, eval e X.env) :: starEach [e2] X.env := by rfl) (hpl : (backTo pos2 (starEach [e2] X.env)).any (·.1) = false := by rfl)
    (na : starEach [.Call (.Name "zip" p2) [e, e2] [] pos2] X.env = (false, eval (.Call (.Name "zip" p2) [e, e2] [] pos2) X.env) :: starEach [] X.env := by rfl) : PE X (.Call (.Name "list" p) [.Call (.Name "zip" p2) [e, e2] [] pos2] [] pos) (tX X.K (.pr gLZip xs)) :=
  (pe_listZip hg hm hg2 hm2 ha hc hs hpl na).imp fun _ _ _ h => iLZip.pr h
end SW
namespace SW
open PySem PySem.Spec PyProof.Rows L2
open PySem.W (kdx_alive)

/-! ### enumerate(zip(a, b)) -/
/-- a zip; f0: what tuple is out, f: that this is known to it -/
abbrev IsZipF (h : Heap) (z TI TO : Addr) (f0 : Value) (f : Bool) : Prop :=
  h.get? z = some { cls := .type "zip", dict := none, data := .fields #[f0, .bool f, .bool false, .ref TI, .ref TO], slots := #[] }
section
variable {prog : Program} {w : World} {A : Around} {E : Value → Shared → Prop} {s : Shared} {z TI TO i1 i2 l1 l2 : Addr} {xs ys : Array Value}
theorem zf_free0 {f : Bool} {Q : Bool → Shared → Prop} (hz : IsZipF s.heap z TI TO .none f) (h : Q true s) : wpAny (model prog w) A (Builtin.SmallTypes.ownedTupleIsFree (.ref z)) Q E s := by
  unfold Builtin.SmallTypes.ownedTupleIsFree
  exact wpAny_bind (wpAny_field hz rfl (x := .none) rfl (wpAny_pure h))
theorem zf_dead {a : Addr} {Q : Option Obj → Shared → Prop} (ho : s.heap.get? a = none) (h : Q none s) : wpAny (model prog w) A (loadIfAlive a) Q E s := by
  have h' : Q (s.heap.get? a) s := by rw [ho]; exact h
  exact fun _ _ _ => h'
theorem zf_free1 {T : Addr} {f : Bool} {Q : Bool → Shared → Prop} (hz : IsZipF s.heap z TI TO (rawInt T) f) (hT : s.heap.get? T = none) (h : Q true s) : wpAny (model prog w) A (Builtin.SmallTypes.ownedTupleIsFree (.ref z)) Q E s := by
  unfold Builtin.SmallTypes.ownedTupleIsFree
  refine wpAny_bind (wpAny_field hz rfl (x := rawInt T) rfl ?_)
  show wpAny _ _ (loadIfAlive ((T : Int).toNat) >>= _) _ _ _
  rw [Int.toNat_natCast]
  refine wpAny_bind (zf_dead hT ?_)
  simp only [Option.isNone_none, if_true]
  exact wpAny_pure h
theorem zf_item {f0 : Value} {f : Bool} {k1 k2 : Nat} {x y a b : Value} {Q : Value → Shared → Prop} (D : ZipApart z TI TO i1 i2 l1 l2)
    (hz : IsZipF s.heap z TI TO f0 f) (hfree : ∀ (Q : Bool → Shared → Prop) (E : Value → Shared → Prop), Q true s → wpAny (model prog w) A (Builtin.SmallTypes.ownedTupleIsFree (.ref z)) Q E s) (hTI : IsPair s.heap TI (.ref i1) (.ref i2)) (hTO : IsPair s.heap TO a b)
    (h1 : s.heap.IsListIter i1 l1 k1) (h2 : s.heap.IsListIter i2 l2 k2) (hl1 : s.heap.IsList l1 xs) (hl2 : s.heap.IsList l2 ys) (hx : xs[k1]? = some x) (hy : ys[k2]? = some y)
    (hQ : ∀ h', IsZipF h' z TI TO (rawInt s.heap.objs.size) false → IsPair h' TO x y → h'.IsListIter i1 l1 (k1 + 1) → h'.IsListIter i2 l2 (k2 + 1) → IsPair h' s.heap.objs.size x y → h'.objs.size = s.heap.objs.size + 1 →
      (∀ c o, c ≠ z → c ≠ TO → c ≠ i1 → c ≠ i2 → s.heap.get? c = some o → h'.get? c = some o) → Q (.ref s.heap.objs.size) { s with heap := h' }) :
    wpAny (model prog w) A (Builtin.«zip.__next__» ⟨[.ref z], []⟩) (fun fin s' => ∃ v, fin = .done (.ret v) ∧ Q v s') E s := by
  show wpAny _ _ (field (.ref z) 2 >>= _) _ _ _
  refine wpAny_bind (wpAny_field hz rfl (x := .bool false) rfl ?_)
  show wpAny _ _ (field (.ref z) 3 >>= _) _ _ _
  refine wpAny_bind (wpAny_field hz rfl (x := .ref TI) rfl ?_)
  refine wpAny_bind (wpAny_seqItems hTI rfl ?_)
  show wpAny _ _ (Builtin.SmallTypes.ownedTupleIsFree (.ref z) >>= _) _ _ _
  refine wpAny_bind (hfree _ _ ?_)
  simp only [if_true]
  refine wpAny_bind (wpAny_rule ?_)
  refine wpAny_bind (wpAny_field hz rfl (x := .ref TO) rfl ?_)
  refine wpAny_bind (wpAny_setField_rec hz (by simp) fun h₁ hz₁ hs₁ => ?_)
  replace hz₁ : IsZipF h₁ z TI TO .ellipsis f := hz₁
  refine wpAny_bind ?_
  simp only [List.zipIdx_cons, List.zipIdx_nil, List.forIn_cons, List.forIn_nil]
  refine wpAny_bind (wpAny_bind (wpAny_onRaise ?_))
  show wpAny _ _ (Builtin.SmallTypes.nextOf (.ref i1) >>= _) _ _ _
  refine wpAny_bind (wpAny_nextOf_list_item (h1.extBut hs₁.extBut D.i1z) (hl1.extBut hs₁.extBut D.l1z) hx fun h₂ h1₂ hs₂ => wpAny_pure ?_)
  have hTO₂ : IsPair h₂ TO a b := hs₂.extBut _ _ D.TOi1 (hs₁.extBut _ _ D.TOz hTO)
  refine wpAny_bind (wpAny_seqItems hTO₂ rfl ?_)
  refine wpAny_bind (wpAny_updateSeq_pair hTO₂ fun h₃ hTO₃ hs₃ => ?_)
  replace hTO₃ : IsPair h₃ TO x b := hTO₃
  refine wpAny_bind (wpAny_letGo (wpAny_pure ?_))
  refine wpAny_bind (wpAny_bind (wpAny_onRaise ?_))
  show wpAny _ _ (Builtin.SmallTypes.nextOf (.ref i2) >>= _) _ _ _
  refine wpAny_bind (wpAny_nextOf_list_item (((h2.extBut hs₁.extBut D.i2z).extBut hs₂.extBut D.i12.symm).extBut hs₃.extBut D.TOi2.symm)
    (((hl2.extBut hs₁.extBut D.l2z).extBut hs₂.extBut D.l2i1).extBut hs₃.extBut D.l2TO) hy fun h₄ h2₄ hs₄ => wpAny_pure ?_)
  have hTO₄ : IsPair h₄ TO x b := hs₄.extBut _ _ D.TOi2 hTO₃
  refine wpAny_bind (wpAny_seqItems hTO₄ rfl ?_)
  refine wpAny_bind (wpAny_updateSeq_pair hTO₄ fun h₅ hTO₅ hs₅ => ?_)
  replace hTO₅ : IsPair h₅ TO x y := hTO₅
  refine wpAny_bind (wpAny_letGo (wpAny_pure (wpAny_pure ?_)))
  refine wpAny_bind (wpAny_seqItems hTO₅ rfl ?_)
  refine wpAny_bind (wpAny_newTuple ?_)
  have hsz : h₅.objs.size = s.heap.objs.size := by rw [hs₅.1, hs₄.1, hs₃.1, hs₂.1, hs₁.1]
  have hz₅ : IsZipF h₅ z TI TO .ellipsis f := hs₅.extBut _ _ D.TOz.symm (hs₄.extBut _ _ D.i2z.symm (hs₃.extBut _ _ D.TOz.symm (hs₂.extBut _ _ D.i1z.symm hz₁)))
  have hk₅ : ∀ c o, c ≠ z → c ≠ TO → c ≠ i1 → c ≠ i2 → s.heap.get? c = some o → h₅.get? c = some o := fun c o c1 c2 c3 c4 e =>
    hs₅.extBut _ _ c2 (hs₄.extBut _ _ c4 (hs₃.extBut _ _ c2 (hs₂.extBut _ _ c3 (hs₁.extBut _ _ c1 e))))
  have h1₅ : h₅.IsListIter i1 l1 (k1 + 1) := ((h1₂.extBut hs₃.extBut D.TOi1.symm).extBut hs₄.extBut D.i12).extBut hs₅.extBut D.TOi1.symm
  have h2₅ : h₅.IsListIter i2 l2 (k2 + 1) := h2₄.extBut hs₅.extBut D.TOi2.symm
  have hzlt : z < h₅.objs.size := Heap.lt_size hz₅
  show wpAny _ _ (Builtin.SmallTypes.ownedTupleHandOut (.ref z) (.ref h₅.objs.size) >>= _) _ _ _
  refine wpAny_bind ?_
  unfold Builtin.SmallTypes.ownedTupleHandOut
  have hz₆ : IsZipF (h₅.push { cls := .type "tuple", data := .seq #[x, y] }) z TI TO .ellipsis f := Heap.get?_push_of_some _ hz₅
  refine wpAny_bind (wpAny_setField_rec hz₆ (by simp) fun h₇ hz₇ hs₇ => ?_)
  replace hz₇ : IsZipF h₇ z TI TO (rawInt h₅.objs.size) f := hz₇
  refine wpAny_setField_rec hz₇ (by simp) fun h₈ hz₈ hs₈ => ?_
  replace hz₈ : IsZipF h₈ z TI TO (rawInt h₅.objs.size) false := hz₈
  have up : ∀ c o, c ≠ z → h₅.get? c = some o → h₈.get? c = some o := fun c o c1 e => hs₈.extBut _ _ c1 (hs₇.extBut _ _ c1 (Heap.get?_push_of_some _ e))
  have hT₈ : IsPair h₈ h₅.objs.size x y := hs₈.extBut _ _ (Nat.ne_of_gt hzlt) (hs₇.extBut _ _ (Nat.ne_of_gt hzlt) (Heap.get?_push_size _ rfl))
  have hz8 : h₈.objs.size = h₅.objs.size + 1 := by rw [hs₈.1, hs₇.1, Heap.size_push]
  rw [hsz] at hz₈ hT₈ hz8
  refine wpAny_pure ⟨_, rfl, ?_⟩
  show Q (.ref h₅.objs.size) _
  rw [hsz]
  exact hQ h₈ hz₈ (up _ _ D.TOz hTO₅) (h1₅.at fun o e => up _ o D.i1z e) (h2₅.at fun o e => up _ o D.i2z e) hT₈ hz8 fun c o c1 c2 c3 c4 e => up c o c1 (hk₅ c o c1 c2 c3 c4 e)
theorem zf_end {f0 : Value} {f : Bool} {k1 k2 : Nat} {a b : Value} {Q : PySem.Fin → Shared → Prop} (hh : A.handled = none) (D : ZipApart z TI TO i1 i2 l1 l2)
    (hz : IsZipF s.heap z TI TO f0 f) (hfree : ∀ (Q : Bool → Shared → Prop) (E : Value → Shared → Prop), Q true s → wpAny (model prog w) A (Builtin.SmallTypes.ownedTupleIsFree (.ref z)) Q E s) (hTI : IsPair s.heap TI (.ref i1) (.ref i2)) (hTO : IsPair s.heap TO a b)
    (h1 : s.heap.IsListIter i1 l1 k1) (h2 : s.heap.IsListIter i2 l2 k2) (hl1 : s.heap.IsList l1 xs) (hl2 : s.heap.IsList l2 ys) (hend : xs[k1]? = none ∨ ys[k2]? = none)
    (hE : ∀ h' e, (∀ c o, c ≠ z → c ≠ TO → c ≠ i1 → c ≠ i2 → s.heap.get? c = some o → h'.get? c = some o) → (∃ o, h'.get? e = some o ∧ o.cls = .type "StopIteration") → E (.ref e) { s with heap := h' }) :
    wpAny (model prog w) A (Builtin.«zip.__next__» ⟨[.ref z], []⟩) Q E s := by
  show wpAny _ _ (field (.ref z) 2 >>= _) _ _ _
  refine wpAny_bind (wpAny_field hz rfl (x := .bool false) rfl ?_)
  show wpAny _ _ (field (.ref z) 3 >>= _) _ _ _
  refine wpAny_bind (wpAny_field hz rfl (x := .ref TI) rfl ?_)
  refine wpAny_bind (wpAny_seqItems hTI rfl ?_)
  show wpAny _ _ (Builtin.SmallTypes.ownedTupleIsFree (.ref z) >>= _) _ _ _
  refine wpAny_bind (hfree _ _ ?_)
  simp only [if_true]
  refine wpAny_bind (wpAny_rule ?_)
  refine wpAny_bind (wpAny_field hz rfl (x := .ref TO) rfl ?_)
  refine wpAny_bind (wpAny_setField_rec hz (by simp) fun h₁ hz₁ hs₁ => ?_)
  replace hz₁ : IsZipF h₁ z TI TO .ellipsis f := hz₁
  refine wpAny_bind ?_
  simp only [List.zipIdx_cons, List.zipIdx_nil, List.forIn_cons, List.forIn_nil]
  refine wpAny_bind (wpAny_bind (wpAny_onRaise ?_))
  show wpAny _ _ (Builtin.SmallTypes.nextOf (.ref i1) >>= _) _ _ _
  cases hx : xs[k1]? with
  | none =>
    refine wpAny_bind (wpAny_nextOf_list_end hh (h1.extBut hs₁.extBut D.i1z) (hl1.extBut hs₁.extBut D.l1z) hx fun h₂ e hs₂ he => ?_)
    obtain ⟨oe, hoe, hce⟩ := he
    have hz₂ : IsZipF h₂ z TI TO .ellipsis f := hs₂ _ _ D.i1z.symm hz₁
    have hez : e ≠ z := fun x => by subst x; rw [hz₂] at hoe; cases hoe; simp at hce
    refine wpAny_setField_rec hz₂ (by simp) fun h₃ _ hs₃ => hE h₃ e (fun c o c1 _ c3 _ x => hs₃.extBut _ _ c1 (hs₂ _ _ c3 (hs₁.extBut _ _ c1 x))) ⟨oe, hs₃.extBut _ _ hez hoe, hce⟩
  | some x =>
    have hy : ys[k2]? = none := by rcases hend with h | h; rw [hx] at h; cases h; exact h
    refine wpAny_bind (wpAny_nextOf_list_item (h1.extBut hs₁.extBut D.i1z) (hl1.extBut hs₁.extBut D.l1z) hx fun h₂ h1₂ hs₂ => wpAny_pure ?_)
    have hTO₂ : IsPair h₂ TO a b := hs₂.extBut _ _ D.TOi1 (hs₁.extBut _ _ D.TOz hTO)
    refine wpAny_bind (wpAny_seqItems hTO₂ rfl ?_)
    refine wpAny_bind (wpAny_updateSeq_pair hTO₂ fun h₃ hTO₃ hs₃ => ?_)
    refine wpAny_bind (wpAny_letGo (wpAny_pure ?_))
    refine wpAny_bind (wpAny_bind (wpAny_onRaise ?_))
    show wpAny _ _ (Builtin.SmallTypes.nextOf (.ref i2) >>= _) _ _ _
    refine wpAny_bind (wpAny_nextOf_list_end hh (((h2.extBut hs₁.extBut D.i2z).extBut hs₂.extBut D.i12.symm).extBut hs₃.extBut D.TOi2.symm)
      (((hl2.extBut hs₁.extBut D.l2z).extBut hs₂.extBut D.l2i1).extBut hs₃.extBut D.l2TO) hy fun h₄ e hs₄ he => ?_)
    obtain ⟨oe, hoe, hce⟩ := he
    have hz₄ : IsZipF h₄ z TI TO .ellipsis f := hs₄ _ _ D.i2z.symm (hs₃.extBut _ _ D.TOz.symm (hs₂.extBut _ _ D.i1z.symm hz₁))
    have hez : e ≠ z := fun x => by subst x; rw [hz₄] at hoe; cases hoe; simp at hce
    refine wpAny_setField_rec hz₄ (by simp) fun h₅ _ hs₅ => hE h₅ e (fun c o c1 c2 c3 c4 x => hs₅.extBut _ _ c1 (hs₄ _ _ c4 (hs₃.extBut _ _ c2 (hs₂.extBut _ _ c3 (hs₁.extBut _ _ c1 x))))) ⟨oe, hs₅.extBut _ _ hez hoe, hce⟩
/-- a zip under way, whatever it gave out -/
def ZQ (z TI TO i1 i2 l1 l2 : Addr) (i : Nat) (h : Heap) : Prop :=
  IsPair h TI (.ref i1) (.ref i2) ∧ h.IsListIter i1 l1 i ∧ h.IsListIter i2 l2 i ∧ (∃ a b, IsPair h TO a b) ∧ ∃ f0 f, IsZipF h z TI TO f0 f ∧ (f0 = .none ∨ ∃ T : Addr, f0 = rawInt T)
theorem zq_item {i : Nat} {x y : Value} {Q : Value → Shared → Prop} (D : ZipApart z TI TO i1 i2 l1 l2) (st : ZQ z TI TO i1 i2 l1 l2 i s.heap) (hl1 : s.heap.IsList l1 xs) (hl2 : s.heap.IsList l2 ys) (ex : xs[i]? = some x) (ey : ys[i]? = some y)
    (hQ : ∀ h', ZQ z TI TO i1 i2 l1 l2 (i + 1) h' → IsPair h' s.heap.objs.size x y → h'.objs.size = s.heap.objs.size + 1 → (∀ c o, c ≠ z → c ≠ TO → c ≠ i1 → c ≠ i2 → s.heap.get? c = some o → h'.get? c = some o) → Q (.ref s.heap.objs.size) { s with heap := h' }) :
    wpAny (model prog w) A (Builtin.«zip.__next__» ⟨[.ref z], []⟩) (fun fin s' => ∃ v, fin = .done (.ret v) ∧ Q v s') E s := by
  obtain ⟨hTI, h1, h2, ⟨a, b, hTO⟩, f0, f, hz, hf⟩ := st
  have free : ∀ (hfree : ∀ (A : Around) (Q : Bool → Shared → Prop) (E : Value → Shared → Prop), Q true s → wpAny (model prog w) A (Builtin.SmallTypes.ownedTupleIsFree (.ref z)) Q E s), wpAny (model prog w) A (Builtin.«zip.__next__» ⟨[.ref z], []⟩) (fun fin s' => ∃ v, fin = .done (.ret v) ∧ Q v s') E s := fun hfree =>
    zf_item D hz (hfree A) hTI hTO h1 h2 hl1 hl2 ex ey fun h' a1 a2 a3 a4 a5 a6 hk => hQ h' ⟨hk _ _ D.TIz D.TITO D.TIi1 D.TIi2 hTI, a3, a4, ⟨_, _, a2⟩, _, _, a1, .inr ⟨_, rfl⟩⟩ a5 a6 hk
  rcases hf with rfl | ⟨T, rfl⟩
  · exact free fun A Q E h => zf_free0 hz h
  · cases hT : s.heap.get? T with
    | none => exact free fun A Q E h => zf_free1 hz hT h
    | some oT => exact zip_next_item_held D hz hT hTI h1 h2 hl1 hl2 ex ey fun h' a1 a3 a4 a5 a6 hk => hQ h' ⟨hk _ _ D.TIz D.TIi1 D.TIi2 hTI, a3, a4, ⟨a, b, hk _ _ D.TOz D.TOi1 D.TOi2 hTO⟩, _, _, a1, .inr ⟨_, rfl⟩⟩ a5 a6 fun c o c1 _ c3 c4 e => hk c o c1 c3 c4 e
theorem zq_end {i : Nat} {Q : PySem.Fin → Shared → Prop} (hh : A.handled = none) (D : ZipApart z TI TO i1 i2 l1 l2) (st : ZQ z TI TO i1 i2 l1 l2 i s.heap) (hl1 : s.heap.IsList l1 xs) (hl2 : s.heap.IsList l2 ys) (hend : xs[i]? = none ∨ ys[i]? = none)
    (hE : ∀ h' e, (∀ c o, c ≠ z → c ≠ TO → c ≠ i1 → c ≠ i2 → s.heap.get? c = some o → h'.get? c = some o) → (∃ o, h'.get? e = some o ∧ o.cls = .type "StopIteration") → E (.ref e) { s with heap := h' }) :
    wpAny (model prog w) A (Builtin.«zip.__next__» ⟨[.ref z], []⟩) Q E s := by
  obtain ⟨hTI, h1, h2, ⟨a, b, hTO⟩, f0, f, hz, hf⟩ := st
  rcases hf with rfl | ⟨T, rfl⟩
  · exact zf_end hh D hz (fun Q E h => zf_free0 hz h) hTI hTO h1 h2 hl1 hl2 hend hE
  · cases hT : s.heap.get? T with
    | none => exact zf_end hh D hz (fun Q E h => zf_free1 hz hT h) hTI hTO h1 h2 hl1 hl2 hend hE
    | some oT => exact zip_next_end_held hh D hz hT hTI h1 h2 hl1 hl2 hend fun h' e hk he => hE h' e (fun c o c1 _ c3 c4 x => hk c o c1 c3 c4 x) he
theorem ZQ.typed {i : Nat} (st : ZQ z TI TO i1 i2 l1 l2 i s.heap) : s.TypeIs (.ref z) "zip" := by
  obtain ⟨_, _, _, _, f0, f, hz, _⟩ := st
  exact ⟨_, hz, rfl⟩
theorem zq_nextOf {i : Nat} {x y : Value} {Q : Value → Shared → Prop} (D : ZipApart z TI TO i1 i2 l1 l2) (st : ZQ z TI TO i1 i2 l1 l2 i s.heap) (hl1 : s.heap.IsList l1 xs) (hl2 : s.heap.IsList l2 ys) (ex : xs[i]? = some x) (ey : ys[i]? = some y)
    (hQ : ∀ h', ZQ z TI TO i1 i2 l1 l2 (i + 1) h' → IsPair h' s.heap.objs.size x y → h'.objs.size = s.heap.objs.size + 1 → (∀ c o, c ≠ z → c ≠ TO → c ≠ i1 → c ≠ i2 → s.heap.get? c = some o → h'.get? c = some o) → Q (.ref s.heap.objs.size) { s with heap := h' }) :
    wpAny (model prog w) A (Builtin.SmallTypes.nextOf (.ref z)) Q E s := by
  have hT := st.typed
  unfold Builtin.SmallTypes.nextOf
  exact wpAny_bind (wpAny_callSpecial?_slot (name := Str.ofString "__next__") hT F.slot_zip_next
    (wpAny_call_entry F.slot_zip_next hT F.entry_zip_next (zq_item D st hl1 hl2 ex ey fun h' a b c d => wpAny_pure (hQ h' a b c d)) (F.args_zip_next_1 _)))
theorem zq_nextOf_end {i : Nat} {Q : Value → Shared → Prop} (hh : A.handled = none) (D : ZipApart z TI TO i1 i2 l1 l2) (st : ZQ z TI TO i1 i2 l1 l2 i s.heap) (hl1 : s.heap.IsList l1 xs) (hl2 : s.heap.IsList l2 ys) (hend : xs[i]? = none ∨ ys[i]? = none)
    (hE : ∀ h' e, (∀ c o, c ≠ z → c ≠ TO → c ≠ i1 → c ≠ i2 → s.heap.get? c = some o → h'.get? c = some o) → (∃ o, h'.get? e = some o ∧ o.cls = .type "StopIteration") → E (.ref e) { s with heap := h' }) :
    wpAny (model prog w) A (Builtin.SmallTypes.nextOf (.ref z)) Q E s := by
  have hT := st.typed
  unfold Builtin.SmallTypes.nextOf
  exact wpAny_bind (wpAny_callSpecial?_slot (name := Str.ofString "__next__") hT F.slot_zip_next
    (wpAny_call_entry F.slot_zip_next hT F.entry_zip_next (zq_end hh D st hl1 hl2 hend hE) (F.args_zip_next_1 _)))
end
end SW
namespace SW
open PySem PySem.Spec PyProof.Rows L2
open AutoSeq1 (wpAny_loadPart')

theorem ez_new (z TI TO : Addr) : Meets (Builtin.«enumerate.__new__» ⟨[.type "enumerate", .ref z], []⟩) (fun _ R s => IsZip s.heap z TI TO .none ∧
      R (.ok (.ret (.ref s.heap.objs.size))) { s with heap := s.heap.push { cls := .type "enumerate", data := .fields #[.none, .bool false, .ref z, rawInt 0, .none, .none] } }) :=
  .of_wp fun prog w A R s h => by
    obtain ⟨hp, g, d, tk, os⟩ := s
    obtain ⟨hz, h⟩ := h
    have hsub := sub_enumerate
    wp_walk using wpAny_loadPart' hz
    refine wpAny_stack_any fun st => wpAny_pure ?_
    split
    · rename_i c _ _ _ _ _
      cases (c == Value.type "enumerate")
      · wp_walk using wpAny_loadPart' hz, wpAny_pyIter_zip hz
        exact ⟨_, rfl, h⟩
      · wp_walk using wpAny_loadPart' hz, wpAny_pyIter_zip hz
        exact ⟨_, rfl, h⟩
    · wp_walk using wpAny_loadPart' hz, wpAny_pyIter_zip hz
      exact ⟨_, rfl, h⟩
section
variable {prog : Program} {w : World} {A : Around} {E : Value → Shared → Prop} {s : Shared} {e z TI TO i1 i2 l1 l2 : Addr} {xs ys : Array Value}
theorem ez_call {Q : Value → Shared → Prop} (hz : IsZip s.heap z TI TO .none)
    (h : ∀ h', IsEnum h' s.heap.objs.size z 0 .none → h'.objs.size = s.heap.objs.size + 1 → (∀ b o, s.heap.get? b = some o → h'.get? b = some o) → Q (.ref s.heap.objs.size) { s with heap := h' }) :
    wpAny (model prog w) A (call (.type "enumerate") [.ref z]) Q E s := by
  refine callType_new F.called_enumerate (by decide) (F.typeCall_enumerate_1 _) (F.newCall_enumerate_1 _) (fun obj => F.args_object_init_2 obj _) F.entry_enumerate_new
    (ez_new z TI TO) ⟨hz, ?_⟩
  have he : IsEnum (s.heap.push { cls := .type "enumerate", data := .fields #[.none, .bool false, .ref z, rawInt 0, .none, .none] }) s.heap.objs.size z 0 .none := Heap.get?_push_size _ rfl
  exact ⟨⟨_, he, rfl⟩, h _ he (Heap.size_push ..) fun b o x => Heap.get?_push_of_some _ x⟩
theorem ZQ.keep {i : Nat} {h h' : Heap} (st : ZQ z TI TO i1 i2 l1 l2 i h) (k : ∀ c o, (c = z ∨ c = TI ∨ c = TO ∨ c = i1 ∨ c = i2) → h.get? c = some o → h'.get? c = some o) : ZQ z TI TO i1 i2 l1 l2 i h' := by
  obtain ⟨hTI, h1, h2, ⟨a, b, hTO⟩, f0, f, hz, hf⟩ := st
  exact ⟨k _ _ (by simp) hTI, h1.at fun o q => k i1 o (by simp) q, h2.at fun o q => k i2 o (by simp) q, ⟨a, b, k _ _ (by simp) hTO⟩, f0, f, k _ _ (by simp) hz, hf⟩
theorem ZQ.off {i : Nat} {h h' : Heap} (st : ZQ z TI TO i1 i2 l1 l2 i h) (O : ZOff z TI TO i1 i2 l1 l2 e) (k : ∀ c o, c ≠ e → h.get? c = some o → h'.get? c = some o) : ZQ z TI TO i1 i2 l1 l2 i h' :=
  st.keep fun c o hc q => k c o (by
    rcases hc with r | r | r | r | r
    · rw [r]; exact Nat.ne_of_lt O.dz
    · rw [r]; exact Nat.ne_of_lt O.dTI
    · rw [r]; exact Nat.ne_of_lt O.dTO
    · rw [r]; exact Nat.ne_of_lt O.di1
    · rw [r]; exact Nat.ne_of_lt O.di2) q
theorem ez_item {i : Nat} {x y old : Value} {Q : Value → Shared → Prop} (D : ZipApart z TI TO i1 i2 l1 l2) (O : ZOff z TI TO i1 i2 l1 l2 e) (he : IsEnum s.heap e z ((i : Nat) : Int) old) (st : ZQ z TI TO i1 i2 l1 l2 i s.heap) (hl1 : s.heap.IsList l1 xs) (hl2 : s.heap.IsList l2 ys) (ex : xs[i]? = some x) (ey : ys[i]? = some y)
    (hQ : ∀ h', IsEnumOut h' e z ((i : Int) + 1) (.ref s.heap.objs.size) (s.heap.objs.size + 1) → ZQ z TI TO i1 i2 l1 l2 (i + 1) h' → IsPair h' s.heap.objs.size x y → IsPair h' (s.heap.objs.size + 1) (.int i s.toks) (.ref s.heap.objs.size) → h'.objs.size = s.heap.objs.size + 2 →
      (∀ c o, c ≠ e → c ≠ z → c ≠ TO → c ≠ i1 → c ≠ i2 → s.heap.get? c = some o → h'.get? c = some o) → Q (.ref (s.heap.objs.size + 1)) { s with heap := h', toks := s.toks + 1 }) :
    wpAny (model prog w) A (Builtin.«enumerate.__next__» ⟨[.ref e], []⟩) (fun fin s' => ∃ v, fin = .done (.ret v) ∧ Q v s') E s := by
  obtain ⟨hp, g, d, tk, os⟩ := s
  have hel : e < hp.objs.size := Heap.lt_size he
  show wpAny _ _ (field (.ref e) 2 >>= _) _ _ _
  refine wpAny_bind (wpAny_field he rfl (x := .ref z) rfl ?_)
  refine wpAny_bind (zq_nextOf D st hl1 hl2 ex ey fun h₁ st₁ hp₁ hz₁ hk₁ => ?_)
  replace hk₁ : ∀ c o, c ≠ z → c ≠ TO → c ≠ i1 → c ≠ i2 → hp.get? c = some o → h₁.get? c = some o := hk₁
  replace hp₁ : IsPair h₁ hp.objs.size x y := hp₁
  replace hz₁ : h₁.objs.size = hp.objs.size + 1 := hz₁
  have he₁ : IsEnum h₁ e z i old := hk₁ e _ (Nat.ne_of_gt O.dz) (Nat.ne_of_gt O.dTO) (Nat.ne_of_gt O.di1) (Nat.ne_of_gt O.di2) he
  show wpAny _ _ (field (.ref e) 3 >>= _) _ _ ⟨h₁, g, d, tk, os⟩
  refine wpAny_bind (wpAny_field he₁ rfl (x := rawInt i) rfl ?_)
  show wpAny _ _ (field (.ref e) 4 >>= _) _ _ ⟨h₁, g, d, tk, os⟩
  refine wpAny_bind (wpAny_field he₁ rfl (x := .none) rfl ?_)
  show wpAny _ _ (mkInt i >>= _) _ _ ⟨h₁, g, d, tk, os⟩
  refine wpAny_bind (wpAny_mkInt ?_)
  show wpAny _ _ (setField (.ref e) 3 (rawInt ((i : Int) + 1)) >>= _) _ _ ⟨h₁, g, d, tk + 1, os⟩
  refine wpAny_bind (wpAny_setField_rec he₁ (by simp) fun h₂ he₂ hs₂ => ?_)
  replace hs₂ : Heap.SameBut e h₁ h₂ := hs₂
  replace he₂ : IsEnum h₂ e z ((i : Int) + 1) old := he₂
  show wpAny _ _ (setField (.ref e) 4 .none >>= _) _ _ ⟨h₂, g, d, tk + 1, os⟩
  refine wpAny_bind (wpAny_setField_rec he₂ (by simp) fun h₃ he₃ hs₃ => ?_)
  replace hs₃ : Heap.SameBut e h₂ h₃ := hs₃
  replace he₃ : IsEnum h₃ e z ((i : Int) + 1) old := he₃
  show wpAny _ _ (newTuple [.int i tk, .ref hp.objs.size] >>= _) _ _ ⟨h₃, g, d, tk + 1, os⟩
  refine wpAny_bind (wpAny_newTuple ?_)
  have he₄ : IsEnum (h₃.push { cls := .type "tuple", data := .seq #[.int i tk, .ref hp.objs.size] }) e z ((i : Int) + 1) old := Heap.get?_push_of_some _ he₃
  generalize hh₄ : h₃.push { cls := .type "tuple", data := .seq #[.int i tk, .ref hp.objs.size] } = h₄ at he₄
  have hsz : h₃.objs.size = hp.objs.size + 1 := by rw [hs₃.1, hs₂.1, hz₁]
  have ht₄ : h₄.get? (hp.objs.size + 1) = some { cls := .type "tuple", data := .seq #[.int i tk, .ref hp.objs.size] } := by rw [← hh₄, ← hsz]; exact Heap.get?_push_size _ rfl
  have hz₄ : h₄.objs.size = hp.objs.size + 2 := by rw [← hh₄, Heap.size_push, hsz]
  have up₄ : ∀ c o, c ≠ e → h₁.get? c = some o → h₄.get? c = some o := fun c o c1 q => by
    rw [← hh₄]; exact Heap.get?_push_of_some _ (hs₃.extBut c o c1 (hs₂.extBut c o c1 q))
  show wpAny _ _ (Builtin.SmallTypes.ownedTupleIsFree (.ref e) >>= _) _ _ ⟨h₄, g, d, tk + 1, os⟩
  rw [hsz]
  clear hh₄ he₃ hs₃ he₂ hs₂ he₁ hsz h₃ h₂
  refine wpAny_bind ?_
  unfold Builtin.SmallTypes.ownedTupleIsFree
  refine wpAny_bind (wpAny_field he₄ rfl (x := .none) rfl (wpAny_pure ?_))
  simp only [if_true]
  refine wpAny_bind (wpAny_rule ?_)
  refine wpAny_bind (wpAny_field he₄ rfl (x := old) rfl ?_)
  refine wpAny_bind (wpAny_setField_rec he₄ (by simp) fun h₅ he₅ hs₅ => ?_)
  replace hs₅ : Heap.SameBut e h₄ h₅ := hs₅
  replace he₅ : IsEnum h₅ e z ((i : Int) + 1) (.ref hp.objs.size) := he₅
  show wpAny _ _ (Builtin.SmallTypes.ownedTupleHandOut (.ref e) (.ref (hp.objs.size + 1)) >>= _) _ _ ⟨h₅, g, d, tk + 1, os⟩
  refine wpAny_bind ?_
  unfold Builtin.SmallTypes.ownedTupleHandOut
  refine wpAny_bind (wpAny_setField_rec he₅ (by simp) fun h₆ he₆ hs₆ => ?_)
  replace hs₆ : Heap.SameBut e h₅ h₆ := hs₆
  replace he₆ : IsEnumOut h₆ e z ((i : Int) + 1) (.ref hp.objs.size) (hp.objs.size + 1) := he₆
  refine wpAny_setField_rec he₆ (by simp) fun h₇ he₇ hs₇ => ?_
  replace hs₇ : Heap.SameBut e h₆ h₇ := hs₇
  replace he₇ : IsEnumOut h₇ e z ((i : Int) + 1) (.ref hp.objs.size) (hp.objs.size + 1) := he₇
  have up₇ : ∀ c o, c ≠ e → h₄.get? c = some o → h₇.get? c = some o := fun c o c1 q => hs₇.extBut c o c1 (hs₆.extBut c o c1 (hs₅.extBut c o c1 q))
  refine wpAny_bind (wpAny_letGo (wpAny_pure ⟨_, rfl, hQ h₇ he₇ (st₁.off O fun c o c1 q => up₇ c o c1 (up₄ c o c1 q)) (up₇ _ _ (Nat.ne_of_gt hel) (up₄ _ _ (Nat.ne_of_gt hel) hp₁)) (up₇ _ _ (Nat.ne_of_gt (Nat.lt_succ_of_lt hel)) ht₄) ?_ fun c o c1 c2 c3 c4 c5 q => up₇ c o c1 (up₄ c o c1 (hk₁ c o c2 c3 c4 c5 q))⟩))
  rw [hs₇.1, hs₆.1, hs₅.1, hz₄]
theorem ez_pyNext {i : Nat} {x y old : Value} {Q : Option Value → Shared → Prop} (D : ZipApart z TI TO i1 i2 l1 l2) (O : ZOff z TI TO i1 i2 l1 l2 e) (he : IsEnum s.heap e z ((i : Nat) : Int) old) (st : ZQ z TI TO i1 i2 l1 l2 i s.heap) (hl1 : s.heap.IsList l1 xs) (hl2 : s.heap.IsList l2 ys) (ex : xs[i]? = some x) (ey : ys[i]? = some y)
    (hQ : ∀ h', IsEnumOut h' e z ((i : Int) + 1) (.ref s.heap.objs.size) (s.heap.objs.size + 1) → ZQ z TI TO i1 i2 l1 l2 (i + 1) h' → IsPair h' s.heap.objs.size x y → IsPair h' (s.heap.objs.size + 1) (.int i s.toks) (.ref s.heap.objs.size) → h'.objs.size = s.heap.objs.size + 2 →
      (∀ c o, c ≠ e → c ≠ z → c ≠ TO → c ≠ i1 → c ≠ i2 → s.heap.get? c = some o → h'.get? c = some o) → Q (some (.ref (s.heap.objs.size + 1))) { s with heap := h', toks := s.toks + 1 }) :
    wpAny (model prog w) A (pyNext (.ref e)) Q E s := by
  have hT : s.TypeIs (.ref e) "enumerate" := ⟨_, he, rfl⟩
  unfold pyNext
  exact wpAny_bind (wpAny_attempt (wpAny_callSpecial?_slot (name := Str.ofString "__next__") hT F.slot_enumerate_next
    (wpAny_call_entry F.slot_enumerate_next hT F.entry_enumerate_next
      (ez_item D O he st hl1 hl2 ex ey fun h' a b c d m k => wpAny_pure (hQ h' a b c d m k)) (F.args_enumerate_next_1 _))))
theorem ez_pyNext_end {i : Nat} {old : Value} {Q : Option Value → Shared → Prop} (hh : A.handled = none) (D : ZipApart z TI TO i1 i2 l1 l2) (he : IsEnum s.heap e z ((i : Nat) : Int) old) (st : ZQ z TI TO i1 i2 l1 l2 i s.heap) (hl1 : s.heap.IsList l1 xs) (hl2 : s.heap.IsList l2 ys) (hend : xs[i]? = none ∨ ys[i]? = none)
    (hQ : ∀ h', (∀ c o, c ≠ z → c ≠ TO → c ≠ i1 → c ≠ i2 → s.heap.get? c = some o → h'.get? c = some o) → Q none { s with heap := h' }) : wpAny (model prog w) A (pyNext (.ref e)) Q E s := by
  have hT : s.TypeIs (.ref e) "enumerate" := ⟨_, he, rfl⟩
  unfold pyNext
  refine wpAny_bind (wpAny_attempt (wpAny_callSpecial?_slot (name := Str.ofString "__next__") hT F.slot_enumerate_next
    (wpAny_call_entry F.slot_enumerate_next hT F.entry_enumerate_next ?_ (F.args_enumerate_next_1 _))))
  show wpAny _ _ (field (.ref e) 2 >>= _) _ _ _
  refine wpAny_bind (wpAny_field he rfl (x := .ref z) rfl ?_)
  refine wpAny_bind (zq_nextOf_end hh D st hl1 hl2 hend fun h' x hk hx' => ?_)
  obtain ⟨o, ho, hc⟩ := hx'
  refine wpAny_bind (wpAny_isInstance (T := "StopIteration") (b := true) ⟨o, ho, hc⟩ isSubtype_stop ?_)
  exact wpAny_pure (hQ _ hk)
end
/-- the iterator's own objects turn, two new objects are laid -/
theorem turnedNew2 {X : Cx} {pins : List (Addr × Obj)} {σ : L2.St} {H : Hp} {s : Shared} {h' : Heap} {t' : Nat} {ch : List Addr} {T U : Addr} {ob ob' : HO} (I : Inv X pins σ H s) (k : ∀ b o, b ∉ ch → s.heap.get? b = some o → h'.get? b = some o) (hf : ∀ b ∈ ch, FpOk X pins H b) (hT : s.heap.objs.size ≤ T) (hU : s.heap.objs.size ≤ U)
    (new : ObjOk X.prog X.w (upd (upd H T ob) U ob') h' T ob) (new' : ObjOk X.prog X.w (upd (upd H T ob) U ob') h' U ob') : Inv X pins σ (upd (upd H T ob) U ob') { s with heap := h', toks := t' } := by
  have hnT : H T = none := I.hok.fresh hT
  have hnU : H U = none := I.hok.fresh hU
  have nit : ∀ b u, H b = some u → b ∉ ch := fun b u e z => by
    have q := (hf b z).1
    rw [q] at e; cases e
  have kp : ∀ b u, H b = some u → upd (upd H T ob) U ob' b = some u := fun b u e => by rw [upd_ne (ne_of_none e hnU), upd_ne (ne_of_none e hnT)]; exact e
  refine I.step (g' := s.gens) (d' := s.drawn) (ch := ch) (fun b hb => ⟨(hf b hb).2.2.2.1, (hf b hb).2.1, (hf b hb).2.2.2.2.1, (hf b hb).2.2.2.2.2⟩) (fun b o _ _ hc e _ => k b o hc e) (fun b o _ _ hc e _ => ⟨o.slots, k b o hc e⟩)
    (fun b o _ e n => ?_) (fun b o hc e => ⟨o, k b o hc e⟩) (fun b xs e => kp b _ e) (fun b o u e => kp b _ e) (fun b ps e => ⟨#[], ?_⟩) (fun m hm => ?_) (fun b u e => ?_) I.bare
  · rw [upd_ne (Nat.ne_of_lt (Nat.lt_of_lt_of_le (Heap.lt_size e) hU)), upd_ne (Nat.ne_of_lt (Nat.lt_of_lt_of_le (Heap.lt_size e) hT))]; exact n
  · rw [kp b _ e]; simp
  · obtain ⟨o, es, ep, ho, r⟩ := hm
    exact ⟨o, es, ep, k _ o (fun z => (hf _ z).2.1 rfl) ho, r⟩
  · by_cases hb : b = U
    · subst hb
      rw [upd_same] at e
      cases e
      exact new'
    · rw [upd_ne hb] at e
      by_cases hb2 : b = T
      · subst hb2
        rw [upd_same] at e
        cases e
        exact new
      · rw [upd_ne hb2] at e
        refine (I.hok b u e).stay (fun c v hc q => k c v ?_ q) (fun c q => kp c _ q) fun c xs q => kp c _ q
        rcases hc with z | z
        · rw [z]; exact nit b u e
        · exact nit c _ z
/-- the lists at a and b as they stand at each turn: a new pair of the count and a new pair of the items -/
def Itez (K : PySem.W.Frag) (a b : Addr) : It :=
  ⟨fun i H => ∃ (xs ys : List V) (x y : V), SqL K H a xs ∧ SqL K H b ys ∧ xs[i]? = some x ∧ ys[i]? = some y,
    fun i H v H' => ∃ T U x y, v = .ref U ∧ H T = none ∧ H U = none ∧ T ≠ U ∧ H' = upd (upd H T (.tup [x, y])) U (.tup [.int (i : Nat), .ref T]) ∧ (∀ xs, SqL K H a xs → xs[i]? = some x) ∧ ∀ ys, SqL K H b ys → ys[i]? = some y,
    fun i H => ∃ xs ys : List V, SqL K H a xs ∧ SqL K H b ys ∧ (xs.length ≤ i ∨ ys.length ≤ i)⟩
theorem turn_ez {P : Program} {w : World} {K : PySem.W.Frag} {elts : List Expr} {kk : Nat} {tpos : Pos} {a b e z TI TO i1 i2 : Addr} (D : ZipApart z TI TO i1 i2 a b) (O : ZOff z TI TO i1 i2 a b e) :
    Turn P w K (.Tuple elts kk tpos) (Itez K a b) [e, z, TI, TO, i1, i2] e (fun i h => (∃ old, IsEnum h e z ((i : Nat) : Int) old) ∧ ZQ z TI TO i1 i2 a b i h) where
  mem := by simp
  obj := fun i h st c hc => by
    obtain ⟨⟨old, he⟩, hTI, ⟨o1, e1, _, d1⟩, ⟨o2, e2, _, d2⟩, ⟨x, y, hTO⟩, f0, f, hz, _⟩ := st
    have e' : c = e ∨ c = z ∨ c = TI ∨ c = TO ∨ c = i1 ∨ c = i2 := by simpa using hc
    rcases e' with q | q | q | q | q | q
    · rw [q]; exact ⟨_, he, fun v q => nomatch q⟩
    · rw [q]; exact ⟨_, hz, fun v q => nomatch q⟩
    · rw [q]; exact ⟨_, hTI, fun v q => nomatch q⟩
    · rw [q]; exact ⟨_, hTO, fun v q => nomatch q⟩
    · rw [q]; exact ⟨o1, e1, fun v q => by rw [d1] at q; cases q⟩
    · rw [q]; exact ⟨o2, e2, fun v q => by rw [d2] at q; cases q⟩
  keep := fun i h h' st k => by
    obtain ⟨⟨old, he⟩, st⟩ := st
    exact ⟨⟨old, k e (by simp) _ he⟩, st.keep fun c o hc q => k c (by rcases hc with r | r | r | r | r <;> simp [r]) o q⟩
  item := by
    intro X hP hw hK hc i pins s σ H E I hf st hg
    subst hP hw hK
    obtain ⟨⟨old, he⟩, st⟩ := st
    obtain ⟨xs, ys, x, y, hqx, hqy, hx, hy⟩ := hg
    obtain ⟨its, rv, p, _⟩ := I.list hqx
    obtain ⟨its2, rv2, p2, _⟩ := I.list hqy
    obtain ⟨u, hu, ru⟩ := rv.get hx
    obtain ⟨u2, hu2, ru2⟩ := rv2.get hy
    have hel : e < s.heap.objs.size := Heap.lt_size he
    refine ez_pyNext D O he st p.isList p2.isList (x := u) (y := u2) (by simpa using hu) (by simpa using hu2) fun h' ho st' hT hU hsz hk => ?_
    refine ⟨_, rfl, wpAny_letOwnedTupleGo_enum (s := { s with heap := h', toks := s.toks + 1 }) ho fun h'' he' sb => ?_⟩
    replace sb : Heap.SameBut e h' h'' := sb
    have hT2 : h''.get? s.heap.objs.size = some { cls := .type "tuple", data := .seq #[u, u2] } := (sb.2 _ (Nat.ne_of_gt hel)).trans hT
    have hU2 : h''.get? (s.heap.objs.size + 1) = some { cls := .type "tuple", data := .seq #[.int i s.toks, .ref s.heap.objs.size] } := (sb.2 _ (Nat.ne_of_gt (Nat.lt_succ_of_lt hel))).trans hU
    have new : ObjOk X.prog X.w (upd (upd H s.heap.objs.size (.tup [x, y])) (s.heap.objs.size + 1) (.tup [.int (i : Nat), .ref s.heap.objs.size])) h'' s.heap.objs.size (.tup [x, y]) :=
      ⟨by show 2 ≤ sizeLine; decide, [u, u2], .cons ru (.cons ru2 .nil), ⟨_, hT2, rfl, _, rfl⟩⟩
    have new' : ObjOk X.prog X.w (upd (upd H s.heap.objs.size (.tup [x, y])) (s.heap.objs.size + 1) (.tup [.int (i : Nat), .ref s.heap.objs.size])) h'' (s.heap.objs.size + 1) (.tup [.int (i : Nat), .ref s.heap.objs.size]) :=
      ⟨by show 2 ≤ sizeLine; decide, [.int i s.toks, .ref s.heap.objs.size], .cons ⟨_, rfl⟩ (.cons rfl .nil), ⟨_, hU2, rfl, _, rfl⟩⟩
    have I1 := turnedNew2 (t' := s.toks + 1) (ch := [e, z, TI, TO, i1, i2]) I (fun c o hb q => (sb.2 c (fun q' => hb (by simp [q']))).trans (hk c o (fun q' => hb (by simp [q'])) (fun q' => hb (by simp [q'])) (fun q' => hb (by simp [q'])) (fun q' => hb (by simp [q'])) (fun q' => hb (by simp [q'])) q)) hf (Nat.le_refl _) (Nat.le_succ _) new new'
    refine ⟨.ref (s.heap.objs.size + 1), _, I1, rfl, ⟨_, _, x, y, rfl, I.hok.fresh (Nat.le_refl _), I.hok.fresh (Nat.le_succ _), Nat.ne_of_lt (Nat.lt_succ_self _), rfl, fun l hl => by rw [I.list_inj hl hqx]; exact hx, fun l hl => by rw [I.list_inj hl hqy]; exact hy⟩, ⟨⟨.ref s.heap.objs.size, ?_⟩, st'.off O fun c o c1 q => (sb.2 c c1).trans q⟩, fun c hcm => ?_⟩
    · have e1 : ((i + 1 : Nat) : Int) = (i : Int) + 1 := by omega
      rw [e1]; exact he'
    · have hlt : c < s.heap.objs.size := by
        have e' : c = e ∨ c = z ∨ c = TI ∨ c = TO ∨ c = i1 ∨ c = i2 := by simpa using hcm
        rcases e' with q | q | q | q | q | q
        · rw [q]; exact hel
        · rw [q]; exact Nat.lt_trans O.dz hel
        · rw [q]; exact Nat.lt_trans O.dTI hel
        · rw [q]; exact Nat.lt_trans O.dTO hel
        · rw [q]; exact Nat.lt_trans O.di1 hel
        · rw [q]; exact Nat.lt_trans O.di2 hel
      rw [upd_ne (Nat.ne_of_lt (Nat.lt_succ_of_lt hlt)), upd_ne (Nat.ne_of_lt hlt)]
      exact (hf c hcm).1
  done := by
    intro X hP hw hK hc i pins s σ H E I hf st hg
    subst hP hw hK
    obtain ⟨⟨old, he⟩, st⟩ := st
    obtain ⟨xs, ys, hqx, hqy, hend⟩ := hg
    obtain ⟨its, rv, p, _⟩ := I.list hqx
    obtain ⟨its2, rv2, p2, _⟩ := I.list hqy
    have l1 := rv.length
    have l2 := rv2.length
    have he' : its.toArray[i]? = none ∨ its2.toArray[i]? = none := by
      rcases hend with q | q
      · exact .inl (by simp; omega)
      · exact .inr (by simp; omega)
    exact ez_pyNext_end (I.ok.hd hc) D he st p.isList p2.isList he' fun h' hk => ⟨rfl, I.turnedL (t' := s.toks) (ch := [e, z, TI, TO, i1, i2]) (fun c o hb q =>
      hk c o (fun q' => hb (by simp [q'])) (fun q' => hb (by simp [q'])) (fun q' => hb (by simp [q'])) (fun q' => hb (by simp [q'])) q) hf⟩
  self := fun A i s Q E st h => let ⟨⟨_, he⟩, _⟩ := st; wpAny_pyIter_enum he h
def iEZ (K : PySem.W.Frag) (ta : TA) : TI := fun σ H R => ta σ H fun vs H1 => ∃ a b xs ys, vs = [.ref a, .ref b] ∧ SqL K H1 a xs ∧ SqL K H1 b ys ∧ R (Itez K a b) H1
theorem pi_ez {X : Cx} {e e2 : Expr} {ta : TA} {p p2 pos pos2 tpos : Pos} {elts : List Expr} {kk : Nat} (hg : Gl X "enumerate") (hm : X.mg "enumerate" = none) (hg2 : Gl X "zip") (hm2 : X.mg "zip" = none) (ha : PA X [e, e2] ta)
    (hs : starEach [e, e2] X.env = (false, eval e X.env) :: starEach [e2] X.env := by rfl) (hpl : (backTo pos2 (starEach [e2] X.env)).any (·.1) = false := by rfl)
    (na : starEach [.Call (.Name "zip" p2) [e, e2] [] pos2] X.env = (false, eval (.Call (.Name "zip" p2) [e, e2] [] pos2) X.env) :: starEach [] X.env := by rfl) :
    PI X (.Tuple elts kk tpos) (.Call (.Name "enumerate" p) [.Call (.Name "zip" p2) [e, e2] [] pos2] [] pos) (iEZ X.K ta) := by
  refine ⟨fun pins s σ H R I h => ?_⟩
  refine Call_ (ld_blt I hg hm boot_enumerate ?_)
  refine PyProof.Rows.callWith_type1 (PyProof.Rows.args_cons ?_ na) na rfl
  refine Call_ (ld_blt I hg2 hm2 PyProof.Rows.boot_zip (PyProof.Rows.callWith_type1 (thn (ha.run pos2 pins s σ H _ I h) fun us s1 ⟨vs, H1, I1, r1, q1⟩ => ?_) hs hpl))
  obtain ⟨a, b, xs, ys, ex, hqx, hqy, q⟩ := q1
  subst ex
  cases r1 with
  | cons r rr =>
    cases rr with
    | cons r' rr =>
      cases rr
      cases r
      cases r'
      obtain ⟨its, rv, p1, _⟩ := I1.list hqx
      obtain ⟨its2, rv2, p2', _⟩ := I1.list hqy
      have la : a < s1.heap.objs.size := p1.lt
      have lb : b < s1.heap.objs.size := p2'.lt
      refine call_zip_2 p1.isList p2'.isList fun h' hz hTI hTO h1 h2 hsz hk => ?_
      refine PyProof.Rows.args_nil ?_
      refine ez_call (s := { s1 with heap := h' }) hz fun h2' he hsz2 hk2 => wpAny_pyIter_enum he ?_
      replace he : IsEnum h2' h'.objs.size (s1.heap.objs.size + 4) 0 .none := he
      replace hk2 : ∀ b o, h'.get? b = some o → h2'.get? b = some o := hk2
      have I2 : Inv X pins σ H1 { s1 with heap := h2' } := I1.kept (t' := s1.toks) fun c o q => hk2 c o (hk c o q)
      have lts : ∀ n : Nat, n < 5 → s1.heap.objs.size + n < h'.objs.size := fun n hn => by rw [hsz]; exact Nat.add_lt_add_left hn _
      have O : ZOff (s1.heap.objs.size + 4) (s1.heap.objs.size + 2) (s1.heap.objs.size + 3) s1.heap.objs.size (s1.heap.objs.size + 1) a b h'.objs.size :=
        ⟨lts 4 (by decide), lts 2 (by decide), lts 3 (by decide), lts 0 (by decide), lts 1 (by decide), Nat.lt_trans la (lts 0 (by decide)), Nat.lt_trans lb (lts 0 (by decide))⟩
      have st : ZQ (s1.heap.objs.size + 4) (s1.heap.objs.size + 2) (s1.heap.objs.size + 3) s1.heap.objs.size (s1.heap.objs.size + 1) a b 0 h2' :=
        ZQ.keep (h := h') ⟨hTI, h1, h2, ⟨_, _, hTO⟩, .none, false, hz, .inl rfl⟩ fun c o _ q => hk2 c o q
      refine ⟨h'.objs.size, [h'.objs.size, s1.heap.objs.size + 4, s1.heap.objs.size + 2, s1.heap.objs.size + 3, s1.heap.objs.size, s1.heap.objs.size + 1], _, _, H1, rfl, I2, turn_ez (PySem.W.ktu_apart s1.heap.objs.size a b la lb) O, ⟨⟨.none, he⟩, st⟩, fun c hcm => ?_, q⟩
      have e' : c = h'.objs.size ∨ c = s1.heap.objs.size + 4 ∨ c = s1.heap.objs.size + 2 ∨ c = s1.heap.objs.size + 3 ∨ c = s1.heap.objs.size ∨ c = s1.heap.objs.size + 1 := by simpa using hcm
      have hle : s1.heap.objs.size ≤ c := by
        rcases e' with z | z | z | z | z | z
        · rw [z, hsz]; exact Nat.le_add_right _ _
        · rw [z]; exact Nat.le_add_right _ _
        · rw [z]; exact Nat.le_add_right _ _
        · rw [z]; exact Nat.le_add_right _ _
        · rw [z]; exact Nat.le_refl _
        · rw [z]; exact Nat.le_add_right _ _
      exact I1.fpOk hle (I1.hok.fresh hle)
def igEnumZip : IG := fun as => match as with
  | [(.lst ds, m), (.lst es, n)] => if okZ m ds && okZ n es then some (enD 0 (zpD ds es), .sh, m == .sh && n == .sh) else none
  | _ => none
theorem absb_new {H H' G : Hp} (s : Same G H) (k : Same H H') : Ext H G (absb G H') ∧ Same (absb G H') H' := by
  have ex := absb_ext (s.trans k)
  refine ⟨⟨ex.1.1, fun c hc => ?_⟩, ex.2⟩
  rcases ex.1.2 c hc with q | q | ⟨o, q, io⟩
  · exact .inl q
  · refine .inr (.inl ?_)
    cases q2 : H c with
    | none => rfl
    | some o => have := k _ _ q2; rw [q] at this; cases this
  · cases q2 : H c with
    | none => exact .inr (.inl rfl)
    | some o' =>
      have := k _ _ q2
      rw [q] at this
      cases this
      exact .inr (.inr ⟨_, rfl, io⟩)
theorem yl_ez {K : PySem.W.Frag} {G : Hp} {a b : Addr} {xs ys : List V} {ds es : List D} (B : Hp) (hA : B a = some (.lst xs)) (hB : B b = some (.lst ys)) (hl : ds.length = xs.length) (hl2 : es.length = ys.length)
    (hv : ∀ (i : Nat) (d : D), ds[i]? = some d → ∃ v, xs[i]? = some v ∧ ∀ H' G', Same B H' → Same G G' → Same G' H' → R K (absb G' H') d v)
    (hw : ∀ (i : Nat) (d : D), es[i]? = some d → ∃ v, ys[i]? = some v ∧ ∀ H' G', Same B H' → Same G G' → Same G' H' → R K (absb G' H') d v) : Yl K (Itez K a b) (enD 0 (zpD ds es)) .sh B G := by
  intro i H1 sB
  have h1 : SqL K H1 a xs := .inl (.inl (sB _ _ hA))
  have h2 : SqL K H1 b ys := .inl (.inl (sB _ _ hB))
  refine ⟨fun hi => ⟨xs, ys, h1, h2, by rw [enD_len, zpD_len] at hi; omega⟩, fun d hd => ?_⟩
  obtain ⟨d0, hd0, rfl⟩ := enD_get _ _ _ _ hd
  obtain ⟨e1, e2, he1, he2, rfl⟩ := zpD_get _ _ _ _ hd0
  obtain ⟨v, ev, r⟩ := hv i e1 he1
  obtain ⟨w, ew, r'⟩ := hw i e2 he2
  refine ⟨⟨xs, ys, v, w, h1, h2, ev, ew⟩, fun x H' hy => ?_⟩
  obtain ⟨T, U, y, z, rfl, nT, nU, ne, rfl, f, g⟩ := hy
  have q1 : y = v := Option.some.inj ((f _ h1).symm.trans ev)
  have q2 : z = w := Option.some.inj ((g _ h2).symm.trans ew)
  subst q1 q2
  have k1 : Same H1 (upd (upd H1 T (.tup [y, z])) U (.tup [.int (i : Nat), .ref T])) := fun c o q => by
    rw [upd_ne (ne_of_none q nU), upd_ne (ne_of_none q nT)]; exact q
  refine ⟨k1, fun G' s' sG => ?_⟩
  obtain ⟨x1, x2⟩ := absb_new s' k1
  refine ⟨_, x1, x2, rfl, ?_⟩
  simp only [SW.R]
  refine ⟨U, [.int (i : Nat), .ref T], rfl, absb_imm upd_same rfl, Rs.cons (by simp [SW.R]) (Rs.one ?_)⟩
  simp only [SW.R]
  exact ⟨T, [y, z], rfl, absb_imm (by rw [upd_ne ne, upd_same]) rfl, Rs.cons (r _ G' (sB.trans k1) sG (s'.trans k1)) (Rs.one (r' _ G' (sB.trans k1) sG (s'.trans k1)))⟩
theorem pix_enumzip {X : Cx} {e e2 : Expr} {xs : List Ex} {p p2 pos pos2 tpos : Pos} {elts : List Expr} {kk : Nat} (hg : Gl X "enumerate") (hm : X.mg "enumerate" = none) (hg2 : Gl X "zip") (hm2 : X.mg "zip" = none) (ha : PA X [e, e2] (tAR X.K xs))
    (hs : starEach [e, e2] X.env = (false, eval e X.env) :: starEach [e2] X.env := by rfl) (hpl : (backTo pos2 (starEach [e2] X.env)).any (·.1) = false := by rfl)
    (na : starEach [.Call (.Name "zip" p2) [e, e2] [] pos2] X.env = (false, eval (.Call (.Name "zip" p2) [e, e2] [] pos2) X.env) :: starEach [] X.env := by rfl) :
    PI X (.Tuple elts kk tpos) (.Call (.Name "enumerate" p) [.Call (.Name "zip" p2) [e, e2] [] pos2] [] pos) (tI X.K igEnumZip xs) := by
  refine ⟨fun pins s σ H R I q => ?_⟩
  obtain ⟨as, ds, m, st, ei, h⟩ := tI_args q
  obtain ⟨ρ, G, fp, as', ok, ea, k⟩ := h
  refine (pi_ez hg hm hg2 hm2 ha hs hpl na).run pins s σ H R I ⟨ρ, G, fp, as', ok, ea, fun vs H' G' F s1 e1 z1 nd new r => ?_⟩
  obtain ⟨G1, z, ra, h⟩ := k vs H' G' F s1 e1 z1 nd new r
  unfold igEnumZip at ei
  split at ei <;> try (cases ei; done)
  rename_i l1 m1 l2 m2
  split at ei <;> cases ei
  rename_i hok
  simp only [Bool.and_eq_true] at hok
  obtain ⟨v, w, rfl, r1, r2⟩ := ra.two
  obtain ⟨a, ys, rfl, hA, gA, n1, i1⟩ := okZ_items z hok.1 r1
  obtain ⟨b, zs, rfl, hB, gB, n2, i2⟩ := okZ_items z hok.2 r2
  refine ⟨a, b, ys, zs, rfl, .inl (.inl hA), .inl (.inl hB), ?_⟩
  by_cases c : m1 = .sh ∧ m2 = .sh
  · refine h _ G1 z (fun _ => same_refl G1) (yl_ez G1 (gA c.1).1 (gB c.2).1 n1 n2 (fun i d hd => ?_) fun i d hd => ?_)
    · obtain ⟨v, ev, q⟩ := (gA c.1).2.get hd
      exact ⟨v, ev, fun H2 G2 _ sG s' => SW.R.mono ((absb_ext s').1.1) _ _ (SW.R.mono sG _ _ q)⟩
    · obtain ⟨v, ev, q⟩ := (gB c.2).2.get hd
      exact ⟨v, ev, fun H2 G2 _ sG s' => SW.R.mono ((absb_ext s').1.1) _ _ (SW.R.mono sG _ _ q)⟩
  · refine h _ H' (same_refl _) (fun q => ?_) (yl_ez H' hA hB n1 n2 i1 i2)
    simp at q
    exact absurd q c
end SW
namespace SW
open PySem PySem.Spec PyProof.Rows L2

/-! ### {(..): value} -/
def tDispT (tk tv : TE) : TE := fun σ H Q => ∀ p, H p = none → tk σ (upd H p (.dT [])) fun x H1 => tv σ H1 fun y H2 => ∃ (b : Addr) (ks : List L2.Key), x = .ref b ∧ H2 b = some (.tup (ks.map kV)) ∧ H2 p = some (.dT []) ∧ Q (.ref p) (upd H2 p (.dT [(ks, y)]))
theorem pe_dispT {X : Cx} {pos : Pos} {k v : Expr} {tk tv : TE} (hu : X.A.units < cLine) (hk : PE X k tk) (hv : PE X v tv) : PE X (.Dict [some k] [v] pos) (tDispT tk tv) := by
  refine ⟨fun pins s σ H Q I q => ?_⟩
  have hn := I.hok.fresh (Nat.le_refl s.heap.objs.size)
  have I1 := I.laid (a := s.heap.objs.size) (o := .dT []) (h' := s.heap.push { cls := .type "dict", data := .dict #[] }) (t' := s.toks) (fun _ _ q => Heap.get?_push_of_some _ q) (Nat.le_refl _) (dt_empty s.heap I.big)
  rw [arm_eval_Dict, zip_pairTrees [some k] [v] X.env pos rfl rfl, dictDisplay_pairs _ (by simp [pairTrees]) (by simp [pairTrees])]
  refine wpAny_bind (wpAny_standAt (wpAny_bind (wpAny_subDictH (knd := tupleKind (mixKind X.prog X.w)) (Q := fun d s' => wpAny (model X.prog X.w) X.A (pure (Value.ref d)) (EP X pins σ Q) X.xe s') hu (by simp [pairTrees]) ?_)))
  refine pairTrees_cons_walk (thn (hk.run pins _ σ _ _ I1 (q _ hn)) fun u s1 ⟨x, H1, I1, rx, q1⟩ => thn (hv.run pins s1 σ H1 _ I1 q1) fun w2 s2 ⟨y, H2, I2, ry, b, ks, ex, eb, ep, q2⟩ => ?_)
  subst ex
  cases (show u = Value.ref b from rx)
  refine pairTrees_nil_walk ?_
  obtain ⟨z, hd, xs, rel, dd⟩ := dt_of I2.hok ep
  cases rel
  refine ⟨[(ks, b, w2)], ⟨rfl, rfl, key_of I2.hok eb, True.intro⟩, dd, fun h' tk' dd' hs => wpAny_pure ⟨.ref s.heap.objs.size, _, ?_, rfl, q2⟩⟩
  obtain ⟨o, es, epp, hq, h2, h3, h4, _, h5⟩ := dd'
  have e1 : storedAllH ([] : List (List L2.Key × Addr × Value)) [(ks, b, w2)] = [(ks, b, w2)] := rfl
  rw [e1] at h4 h5
  refine d_write (a := s.heap.objs.size) I2 (by rw [ep]; exact True.intro) hs ⟨o, hq⟩ ⟨by rw [sizeLine_eq]; simp, hd, [(ks, b, w2)], .cons ⟨rfl, ?_, ry⟩ .nil, o, es, epp, hq, h2, h3, h4, h5⟩
  rw [upd_ne (ne_of eb ep (fun z => nomatch z))]
  exact eb

def tTupC (vs : List V) : TE := fun _ H Q => ∀ t, H t = none → Q (.ref t) (upd H t (.tup vs))
theorem pe_tup2 {X : Cx} {a b : Expr} {v w : V} {c} {pos : Pos} (ha : PE X a (tC v)) (hb : PE X b (tC w)) (h1 : starEach [a, b] X.env = (false, eval a X.env) :: starEach [b] X.env := by rfl) (h2 : starEach [b] X.env = (false, eval b X.env) :: starEach [] X.env := by rfl) : PE X (.Tuple [a, b] c pos) (tTupC [v, w]) :=
  (pe_tup (pa_cons ha (pa_cons hb pa_nil h2) h1)).imp fun σ H Q q => ⟨by rw [sizeLine_eq]; simp, q⟩
/-- {(i, ..): value}, all written -/
theorem px_dispT {X : Cx} {pos : Pos} {ke ve : Expr} {ks : List L2.Key} {d : D} {v : V} (hu : X.A.units < cLine) (hk : PE X ke (tTupC (ks.map kV))) (hv : PE X ve (tC v)) (hf : hasL d = false) (hr : ∀ H, R X.K H d v) :
    PE X (.Dict [some ke] [ve] pos) (tX X.K (.pr (fun _ => some (.dT [ks] [d], .full)) [])) := by
  refine (pe_dispT hu hk hv).imp fun σ H Q h => ?_
  obtain ⟨ρ, G, fp, d', m, I, e, gv⟩ := h
  simp [ev, evs] at e
  obtain ⟨rfl, rfl⟩ := e
  intro p np t nt
  have npt : p ≠ t := by
    intro z; subst z
    rw [upd_same] at nt; cases nt
  have nt' : H t = none := by rw [upd_ne npt.symm] at nt; exact nt
  refine ⟨t, ks, rfl, upd_same, by rw [upd_ne npt, upd_same], ?_⟩
  have k1 : Same H (upd (upd (upd H p (.dT [])) t (.tup (ks.map kV))) p (.dT [(ks, v)])) := fun a o ea => by
    rw [upd_ne (ne_of_none ea np), upd_ne (ne_of_none ea nt'), upd_ne (ne_of_none ea np)]; exact ea
  have gp : G p = none := by
    cases q : G p with
    | none => rfl
    | some o => have := I.sub _ _ q; rw [np] at this; cases this
  refine gv (.ref p) _ G [p] k1 (Ext.refl _ _) (I.sub.trans k1) (by simp) (fun a ha => by simp at ha; subst ha; exact ⟨np, gp⟩) ?_
  simp only [RM, RF]
  exact ⟨p, [v], [], rfl, rfl, upd_same, rfl, RFs.flat (by simp [hasLs, hf]) (Rs.one (hr G))⟩

/-! ### instances: made -/
theorem Ext.put {H G G1 : Hp} {x : Addr} {o : HO} (ex : Ext H G G1) (nx : H x = none) (gx : G1 x = none) : Ext H G (upd G1 x o) :=
  ⟨ex.1.trans (same_upd gx), fun a ha => by
    by_cases c : a = x
    · subst c; exact .inr (.inl nx)
    · rw [upd_ne c] at ha; exact ex.2 a ha⟩
theorem none_sub {H G : Hp} (s : Same G H) {x : Addr} (nx : H x = none) : G x = none := by
  cases q : G x with
  | none => rfl
  | some o => have := s _ _ q; rw [nx] at this; cases this
/-- an __init__ that keeps its argument -/
def spIni (C : Addr) (f : Str) : Sp := fun vs H Q _ => ∃ x dx v, vs = [.ref x, v] ∧ H x = some (.ins C dx []) ∧ Q .non (upd H x (.ins C dx [(f, v)]))
/-- an __init__ that keeps a list of its argument's items -/
def spIniL (C : Addr) (f : Str) : Sp := fun vs H Q _ => ∃ x dx a xs, vs = [.ref x, .ref a] ∧ H x = some (.ins C dx []) ∧ H a = some (.lst xs) ∧ xs.length ≤ sizeLine ∧ ∀ l, H l = none → Q .non (upd (upd H l (.lst xs)) x (.ins C dx [(f, .ref l)]))
def rMk (C : Addr) (sp : Sp) (E : XK) : List V → Hp → VK → Prop := fun vs H Q => ∀ x dx, H x = none → H dx = none → dx ≠ x → sp (.ref x :: (vs ++ [])) (upd (upd H dx (.own x)) x (.ins C dx [])) (fun v H2 => v = .non ∧ Q (.ref x) H2) E
def gMk (C : Addr) (f : Str) : List DM → Option DM := fun as => match as with
  | [(d, m)] => if hasL d = false ∨ m = .sh then some (.obj C [f] [d], .sh) else none
  | _ => none
def gMkL (C : Addr) (f : Str) : List DM → Option DM := fun as => match as with
  | [(.lst ds, m)] => if (isSh m = true ∨ hasLs ds = false) ∧ ds.length ≤ SZ then some (.obj C [f] [.lst ds], .sh) else none
  | _ => none
def gMk0 (C : Addr) : List DM → Option DM := fun as => match as with
  | [] => some (.obj C [] [], .sh)
  | _ => none
theorem iMk {X : Cx} {C : Addr} {f : Str} {E : XK} : ImpN X (rMk C (spIni C f) E) (gMk C f) := by
  intro G H as vs d m Q e ra s gv
  unfold gMk at e
  split at e <;> try (cases e; done)
  rename_i d0 m0
  split at e <;> cases e
  rename_i hc
  obtain ⟨v, rfl, r1⟩ := ra.one
  intro x dx nx nd ne
  refine ⟨x, dx, v, rfl, upd_same, rfl, ?_⟩
  rw [upd_upd]
  have ex := absb_ext s
  have rg : R X.K (absb G H) d0 v := by
    cases hl : hasL d0 with
    | false => exact R.absb s _ _ hl (r1.r s)
    | true =>
      rw [hl] at hc
      rcases hc with hc | hc
      · cases hc
      · subst hc; exact R.mono ex.1.1 _ _ r1.2
  have gx : absb G H x = none := none_sub ex.2 nx
  have k1 : Same H (upd (upd H dx (.own x)) x (.ins C dx [(f, v)])) := (same_upd nd).trans (same_upd (by rw [upd_ne ne.symm]; exact nx))
  have k2 : Same (upd (absb G H) x (.ins C dx [(f, v)])) (upd (upd H dx (.own x)) x (.ins C dx [(f, v)])) := fun a o ea => by
    by_cases c : a = x
    · subst c; rw [upd_same] at ea ⊢; exact ea
    · rw [upd_ne c] at ea ⊢
      exact (same_upd nd) _ _ (ex.2 _ _ ea)
  refine gv (.ref x) _ (upd (absb G H) x (.ins C dx [(f, v)])) [] k1 (ex.1.put nx gx) k2 List.nodup_nil (fun a ha => nomatch ha) ⟨rfl, ?_⟩
  simp only [R]
  exact ⟨x, dx, [v], rfl, upd_same, rfl, Rs.one (R.mono (same_upd gx) _ _ rg)⟩
theorem iMkL {X : Cx} {C : Addr} {f : Str} {E : XK} : ImpN X (rMk C (spIniL C f) E) (gMkL C f) := by
  intro G H as vs d m Q e ra s gv
  unfold gMkL at e
  split at e <;> try (cases e; done)
  rename_i ds m0
  split at e <;> cases e
  rename_i hc
  obtain ⟨v, rfl, r1⟩ := ra.one
  obtain ⟨a, xs, rfl, ha, rs, rg⟩ := r1.items s
  intro x dx nx nd ne
  have nax : a ≠ x := ne_of_none ha nx
  have nad : a ≠ dx := ne_of_none ha nd
  refine ⟨x, dx, a, xs, rfl, upd_same, by rw [upd_ne nax, upd_ne nad]; exact ha, by rw [← rs.length, ← SZ_eq]; exact hc.2, fun l nl => ⟨rfl, ?_⟩⟩
  have nlx : l ≠ x := by intro z; subst z; rw [upd_same] at nl; cases nl
  rw [upd_ne nlx] at nl
  have nld : l ≠ dx := by intro z; subst z; rw [upd_same] at nl; cases nl
  rw [upd_ne nld] at nl
  have ex := absb_ext s
  have rz : Rs X.K (absb G H) ds xs := by
    rcases hc.1 with h | h
    · exact Rs.mono ex.1.1 _ _ (rg h)
    · exact Rs.absb s _ _ h rs
  have gx : absb G H x = none := none_sub ex.2 nx
  have gl : absb G H l = none := none_sub ex.2 nl
  have gx' : upd (absb G H) l (.lst xs) x = none := by rw [upd_ne nlx.symm]; exact gx
  have k1 : Same H (upd (upd (upd (upd H dx (.own x)) x (.ins C dx [])) l (.lst xs)) x (.ins C dx [(f, .ref l)])) := fun b o eb => by
    have n1 := ne_of_none eb nx
    rw [upd_ne n1, upd_ne (ne_of_none eb nl), upd_ne n1, upd_ne (ne_of_none eb nd)]; exact eb
  have k2 : Same (upd (upd (absb G H) l (.lst xs)) x (.ins C dx [(f, .ref l)])) (upd (upd (upd (upd H dx (.own x)) x (.ins C dx [])) l (.lst xs)) x (.ins C dx [(f, .ref l)])) := fun b o eb => by
    by_cases c : b = x
    · subst c; rw [upd_same] at eb ⊢; exact eb
    · rw [upd_ne c] at eb ⊢
      by_cases c' : b = l
      · subst c'; rw [upd_same] at eb ⊢; exact eb
      · rw [upd_ne c'] at eb ⊢
        rw [upd_ne c]
        exact (same_upd nd) _ _ (ex.2 _ _ eb)
  refine gv (.ref x) _ (upd (upd (absb G H) l (.lst xs)) x (.ins C dx [(f, .ref l)])) [] k1 ((ex.1.put nl gl).put nx gx') k2 List.nodup_nil (fun a ha => nomatch ha) ⟨rfl, ?_⟩
  simp only [R]
  refine ⟨x, dx, [.ref l], rfl, upd_same, rfl, Rs.one ?_⟩
  simp only [R]
  exact ⟨l, xs, rfl, by rw [upd_ne nlx, upd_same], Rs.mono ((same_upd gl).trans (same_upd gx')) _ _ rz⟩
theorem px_mk {X : Cx} {CX : CXT} {k : Nat} {fa C : Addr} {fd : FuncData} {ps : List Str} {sp : Sp} {g : List DM → Option DM} {E : XK} {x : Str} {p pos : Pos} {e : Expr} {es : List Expr} {xs : List Ex}
    (M : Mk X.K C fa) (F : FnOk X.prog X.w X.K X.mg X.base CX k fa fd ps sp) (hr : Room (k + 1) X.A) (hi : ImpN X (rMk C sp E) g) (hg : Gl X x) (hm : X.mg x = some (.ref C)) (hb : Binds X.K fd ps []) (hx : Passes CX X E)
    (ha : PA X (e :: es) (tAR X.K xs)) (hdb : (x == ("__debug__" : Str)) = false := by decide) (he : starEach (e :: es) X.env = (false, eval e X.env) :: starEach es X.env := by rfl) (hpl : (backTo pos (starEach es X.env)).any (·.1) = false := by rfl) :
    PE X (.Call (.Name x p) (e :: es) [] pos) (tX X.K (.pr g xs)) :=
  (pe_make M F hr hg hm hb .nil hx ha hdb he hpl).imp fun _ _ _ h => hi.pr h

/-! ### a class without an __init__ of its own -/
structure Mk0 (K : PySem.W.Frag) (C : Addr) : Prop where
  makes : PySem.W.makesIn K C = true
  init : PySem.W.findIn K (.ref C) "__init__" = some (some (.builtin "object.__init__"))
  kp : PySem.W.keepIn K (.ref C) = true

theorem px_mk0 {X : Cx} {C : Addr} {x : Str} {p pos : Pos} (M : Mk0 X.K C) (hg : Gl X x) (hm : X.mg x = some (.ref C)) (hdb : (x == ("__debug__" : Str)) = false := by decide) : PE X (.Call (.Name x p) [] [] pos) (tX X.K (.pr (gMk0 C) [])) := by
  refine ⟨fun pins s σ H Q I h => ?_⟩
  refine wpAny_Call_Name_kw (ld_glob I hg hm ?_ hdb)
  refine PySem.W.callWith_K0 I.kIn M.kp ?_
  have I2 := Inv.made (C := C) I
  have Y := PySem.W.makes_of (M := model X.prog X.w) I.kIn M.makes
  have nx : H (s.heap.objs.size + 1) = none := I.hok.fresh (Nat.le_succ _)
  have nd : H s.heap.objs.size = none := I.hok.fresh (Nat.le_refl _)
  have q : Q (.ref (s.heap.objs.size + 1)) (upd (upd H s.heap.objs.size (.own (s.heap.objs.size + 1))) (s.heap.objs.size + 1) (.ins C s.heap.objs.size [])) := by
    obtain ⟨ρ, G, fp, d', m, I', e, gv⟩ := h
    simp [ev, evs, gMk0] at e
    obtain ⟨rfl, rfl⟩ := e
    have ne : s.heap.objs.size + 1 ≠ s.heap.objs.size := Nat.succ_ne_self _
    have gx : G (s.heap.objs.size + 1) = none := none_sub I'.sub nx
    have k1 : Same H (upd (upd H s.heap.objs.size (.own (s.heap.objs.size + 1))) (s.heap.objs.size + 1) (.ins C s.heap.objs.size [])) := (same_upd nd).trans (same_upd (by rw [upd_ne ne]; exact nx))
    have k2 : Same (upd G (s.heap.objs.size + 1) (.ins C s.heap.objs.size [])) (upd (upd H s.heap.objs.size (.own (s.heap.objs.size + 1))) (s.heap.objs.size + 1) (.ins C s.heap.objs.size [])) := fun a o ea => by
      by_cases c : a = s.heap.objs.size + 1
      · subst c; rw [upd_same] at ea ⊢; exact ea
      · rw [upd_ne c] at ea ⊢
        exact (same_upd nd) _ _ (I'.sub _ _ ea)
    refine gv _ _ (upd G (s.heap.objs.size + 1) (.ins C s.heap.objs.size [])) [] k1 ((Ext.refl H G).put nx gx) k2 List.nodup_nil (fun a ha => nomatch ha) ⟨rfl, ?_⟩
    simp only [R]
    exact ⟨_, s.heap.objs.size, [], rfl, upd_same, rfl, Rs.nil⟩
  refine wpAny_call (make_map0 I.kIn M.makes M.init (fun self => PySem.W.Looks.of_pure (PySem.W.oi_bind self)) ?_)
  have e2 : ((s.heap.push PySem.W.emptyDict).push (PySem.W.instObj C s.heap.objs.size)).get? (s.heap.objs.size + 1) = some (PySem.W.instObj C s.heap.objs.size) := by
    have := Heap.get?_push_size (s.heap.push PySem.W.emptyDict) (o := PySem.W.instObj C s.heap.objs.size) rfl
    rwa [Heap.size_push] at this
  have t1 : PySem.W.Looks (model X.prog X.w) ((s.heap.push PySem.W.emptyDict).push (PySem.W.instObj C s.heap.objs.size)) (typeOf (.ref (s.heap.objs.size + 1))) (.ref C) := (PySem.W.Looks.ld e2).andThen .now
  have t2 : PySem.W.Looks (model X.prog X.w) ((s.heap.push PySem.W.emptyDict).push (PySem.W.instObj C s.heap.objs.size)) (isInstance (.ref (s.heap.objs.size + 1)) (.type "object")) true := t1.andThen (Y.top.keeps fun b o e => Heap.get?_push_of_some _ (Heap.get?_push_of_some _ e))
  refine codeAny_call_builtin PySem.W.oi_plain PySem.W.entry_oi (@PySem.W.check_slot (model X.prog X.w) _ _ _ "object.__init__" "object" "__init__" (.ref (s.heap.objs.size + 1)) [] [] _ PySem.W.oi_kind PySem.W.oi_split t2 (PySem.W.oi_args (.ref (s.heap.objs.size + 1))) ?_)
  rw [PySem.W.oi_run]
  exact wpAny_pure (And.intro rfl ⟨V.ref (s.heap.objs.size + 1), _, I2, rfl, q⟩)

/-! ### instances: read -/
theorem zip_lookup {κ : Type} [BEq κ] {K : PySem.W.Frag} {H : Hp} (f : κ) : ∀ {ns : List κ} {ds : List D} {es : List V} {d : D}, Rs K H ds es → (ns.zip ds).lookup f = some d → ∃ v, (ns.zip es).lookup f = some v ∧ R K H d v
  | [], ds, es, d, _, e => by simp at e
  | n :: ns, [], es, d, _, e => by simp at e
  | n :: ns, d0 :: ds, es, d, r, e => by
    simp only [Rs] at r
    obtain ⟨v, t, rfl, h1, h2⟩ := r
    rw [List.zip_cons_cons, List.lookup_cons] at e ⊢
    by_cases c : (f == n) = true
    · rw [c] at e ⊢
      cases e
      exact ⟨v, rfl, h1⟩
    · have c' : (f == n) = false := by simpa using c
      rw [c'] at e ⊢
      exact zip_lookup f h2 e
theorem zip_lookup_none {κ : Type} [BEq κ] [LawfulBEq κ] (f : κ) : ∀ {ns : List κ} {es : List V}, ns.contains f = false → (ns.zip es).lookup f = none
  | [], es, _ => by simp
  | n :: ns, [], _ => by simp
  | n :: ns, e :: es, h => by
    rw [List.contains_cons, Bool.or_eq_false_iff] at h
    rw [List.zip_cons_cons, List.lookup_cons, h.1]
    exact zip_lookup_none f h.2
def gFld (f : Str) (cs : List Addr) : List DM → Option DM := fun as => match as with
  | [(.obj C ns ds, m)] => if cs.contains C = true ∧ (m = .bo ∨ m = .bt ∨ m = .sh) then match (ns.zip ds).lookup f with
    | some d => some (d, if hasL d then (if m = .bo then .bo else .sh) else .sh)
    | none => none
    else none
  | _ => none
def rFld (K : PySem.W.Frag) (f : Str) : List V → Hp → VK → Prop := fun vs H Q => match vs with
  | [x] => ∃ a C dx fs v, x = .ref a ∧ H a = some (.ins C dx fs) ∧ Cls K C ∧ NoAttr K C f ∧ fs.lookup f = some v ∧ Q v H
  | _ => True
theorem iFld {X : Cx} {f : Str} {cs : List Addr} (hc : ∀ C ∈ cs, Cls X.K C ∧ NoAttr X.K C f) : ImpN X (rFld X.K f) (gFld f cs) := by
  intro G H as vs d m Q e ra s gv
  unfold gFld at e
  split at e <;> try (cases e; done)
  rename_i C ns ds m0
  split at e <;> try (cases e; done)
  rename_i hcm
  split at e <;> cases e
  rename_i d0 hl
  obtain ⟨v, rfl, r1⟩ := ra.one
  have hC := hc C (by simpa using hcm.1)
  have rH := r1.r s
  have rH' := rH
  simp only [R] at rH'
  obtain ⟨a, dx, es, rfl, ha, hn, rs⟩ := rH'
  obtain ⟨v, lv, rv⟩ := zip_lookup f rs hl
  refine ⟨a, C, dx, _, v, rfl, ha, hC.1, hC.2, lv, ?_⟩
  have ex := absb_ext s
  by_cases hd : hasL d = true
  · simp only [hd, if_true] at gv
    have key : R X.K G (.obj C ns ds) (.ref a) → R X.K G d v := fun rG => by
      simp only [R] at rG
      obtain ⟨a', dx', es', e1, ha', hn', rs'⟩ := rG
      cases e1
      obtain ⟨v', lv', rv'⟩ := zip_lookup f rs' hl
      have := s _ _ ha'
      rw [ha] at this
      injection this with this
      injection this with _ _ this
      rw [← this, lv] at lv'
      cases lv'
      exact rv'
    rcases hcm.2 with h | h | h
    · subst h
      simp only [if_true] at gv
      exact gv.here s ⟨rfl, rv⟩
    · subst h
      obtain ⟨_, F', r1⟩ := r1
      simp only [RT] at r1
      exact gv.here s ⟨rfl, key r1.2⟩
    · subst h
      exact gv.here s ⟨rfl, key r1.2⟩
  · have hd' : hasL d = false := by simpa using hd
    simp only [hd', Bool.false_eq_true, if_false] at gv
    exact gv v H (absb G H) [] (same_refl H) ex.1 ex.2 List.nodup_nil (fun a ha => nomatch ha) ⟨rfl, R.absb s _ _ hd' rv⟩
theorem px_fld {X : Cx} {o : Expr} {xo : Ex} {f : Str} {cs : List Addr} {pos : Pos} (hc : ∀ C ∈ cs, Cls X.K C ∧ NoAttr X.K C f) (ho : PE X o (tX X.K xo)) (hb : attributeBase o f X.env (eval o X.env) = eval o X.env) :
    PE X (.Attribute o f pos) (tX X.K (.pr (gFld f cs) [xo])) :=
  (pe_fld ho hb).imp fun _ _ _ h => tX_mono (tAR_cons ((iFld hc).pr h)) fun _ _ q => tAR_nil q

/-! ### isinstance of own classes -/
structure Ty0 (K : PySem.W.Frag) (C : Addr) : Prop where
  cl : Cls K C
  ha : PySem.W.findIn K (.ref C) "__class__" = some (some (.builtin "object.__class__"))
  hm : PySem.W.mroIn K C (.type "object") = some true
def Tyg (K : PySem.W.Frag) : Prop := PySem.W.specialIn K (.builtin "object.__class__") "__get__" = some (some (.builtin "getset_descriptor.__get__")) ∧ PySem.W.takesIn K (.builtin "object.__class__") = some true
/-- whether an instance of C is one of C', by a table -/
def gIsiO (tab : List ((Addr × Addr) × Bool)) : List DM → Option DM := fun as => match as with
  | [(.obj C _ _, _), (.raw (.ref C'), _)] => match tab.lookup (C, C') with
    | some b => some (.bl b, .sh)
    | none => none
  | _ => none
def IsiTab (K : PySem.W.Frag) (tab : List ((Addr × Addr) × Bool)) : Prop := ∀ p ∈ tab, Ty0 K p.1.1 ∧ PySem.W.kitOne K (.ref p.1.1) (.ref p.1.2) = some p.2
theorem mem_of_lookup {κ β : Type} [BEq κ] [LawfulBEq κ] {k : κ} {b : β} : ∀ {l : List (κ × β)}, l.lookup k = some b → (k, b) ∈ l
  | [], h => by simp at h
  | (a, c) :: l, h => by
    rw [List.lookup_cons] at h
    by_cases q : (k == a) = true
    · rw [q] at h
      cases h
      have := eq_of_beq q
      subst this
      exact List.mem_cons_self
    · have q' : (k == a) = false := by simpa using q
      rw [q'] at h
      exact List.mem_cons_of_mem _ (mem_of_lookup h)
theorem iIsiO {X : Cx} {tab : List ((Addr × Addr) × Bool)} (hg : Tyg X.K) (ht : IsiTab X.K tab) : ImpN X (rIsi X.K) (gIsiO tab) := by
  intro G H as vs d m Q e ra s gv
  unfold gIsiO at e
  split at e <;> try (cases e; done)
  rename_i C ns ds m0 C' m1
  split at e <;> cases e
  rename_i b hl
  obtain ⟨v, w, rfl, r1, r2⟩ := ra.two
  have rH := r1.r s
  simp only [R] at rH
  obtain ⟨a, dx, es, rfl, ha, hn, rs⟩ := rH
  have r2' := r2.r s
  simp only [R] at r2'
  subst r2'
  obtain ⟨ty, hk⟩ := ht _ (mem_of_lookup hl)
  exact ⟨_, _, .ref C, .ref C', b, rfl, .own C', .base (.ins ha ty.cl ty.ha hg.1 hg.2 ty.hm), hk, gv.sh s rfl (by simp [R])⟩

/-! ### methods -/
/-- o.m(e, ..), the class told by the object -/
def tMethC (X : Cx) (m : Str) (E : XK) (ta : TE) (t : TA) : TE := fun σ H Q => ta σ H fun x H1 => ∃ (a C dx fa : Addr) (fs : List (Str × V)) (CX : CXT) (k : Nat) (fd : FuncData) (ps : List Str) (sp : Sp), x = .ref a ∧ H1 a = some (.ins C dx fs) ∧ fs.lookup m = none ∧ Cls X.K C ∧ Meth X.K C m fa ∧
  FnOk X.prog X.w X.K X.mg X.base CX k fa fd ps sp ∧ Room k X.A ∧ Binds X.K fd ps [] ∧ Passes CX X E ∧ t σ H1 fun vs H2 => sp (x :: (vs ++ [])) H2 Q E
theorem pe_methC {X : Cx} {o e : Expr} {es : List Expr} {m : Str} {E : XK} {apos pos : Pos} {ta : TE} {t : TA} {pl : Sem Bool} (he : PE X o ta) (ha : PA X (e :: es) t)
    (hst : starEach (e :: es) X.env = (false, eval e X.env) :: starEach es X.env) (hpl : (backTo pos (starEach es X.env)).any (·.1) = false)
    (ht : eval (.Call (.Attribute o m apos) (e :: es) [] pos) X.env = (do
      let ov ← eval o X.env
      standAt apos.atName
      let (f, first) ← holding [ov] (getMethod ov m pl)
      callWith pos f first (backTo pos (starEach (e :: es) X.env)) (backToKw pos (keywordEach [] X.env)))) :
    PE X (.Call (.Attribute o m apos) (e :: es) [] pos) (tMethC X m E ta t) := by
  refine ⟨fun pins s σ H Q I h => ?_⟩
  refine PySem.W.methodCall_KW (pl := pl) (thn (he.run pins s σ H _ I h) fun u s1 ⟨x, H1, I1, rx, a, C, dx, fa, fs, CX, k, fd, ps, sp, ex, ea, l, c, hm, F, hr, hb, hx, q⟩ => ?_) ht
  subst ex
  obtain rfl : u = Value.ref a := rx
  refine getmeth_ok I1 ea c hm l ?_
  refine PySem.W.callWith_K (first := [.ref a]) (h₀ := X.base) I.ok.mod.kin hm.kp (thn (ha.run pos pins s1 σ H1 _ I1 q) fun us s2 ⟨vs, H2, I2, r, q2⟩ => ⟨I2.kIn, ?_⟩) hst hpl
  exact run_fn (us := .ref a :: us) (vs := .ref a :: vs) F hr hb .nil hx I2 (.cons rfl r) q2
/-- a class that has the method, which computes f -/
def MOk (X : Cx) (m : Str) (E : XK) (C : Addr) (f : List D → Option DM) : Prop := ∃ (fa : Addr) (CX : CXT) (k : Nat) (fd : FuncData) (ps : List Str), Cls X.K C ∧ Meth X.K C m fa ∧ FnOk X.prog X.w X.K X.mg X.base CX k fa fd ps (spP X.K f) ∧ Room k X.A ∧ Binds X.K fd ps [] ∧ Passes CX X E
def gMeth (m : Str) (ms : List (Addr × (List D → Option DM))) : List DM → Option DM := fun as => match as with
  | (.obj C ns ds, mo) :: r => if ns.contains m then none else match ms.lookup C with
    | some f => callG f ((.obj C ns ds, mo) :: r)
    | none => none
  | _ => none
theorem px_meth {X : Cx} {o e : Expr} {es : List Expr} {m : Str} {E : XK} {apos pos : Pos} {xo : Ex} {xs : List Ex} {pl : Sem Bool} {ms : List (Addr × (List D → Option DM))} (hms : ∀ p ∈ ms, MOk X m E p.1 p.2)
    (he : PE X o (tX X.K xo)) (ha : PA X (e :: es) (tAR X.K xs))
    (hst : starEach (e :: es) X.env = (false, eval e X.env) :: starEach es X.env := by rfl) (hpl : (backTo pos (starEach es X.env)).any (·.1) = false := by rfl)
    (ht : eval (.Call (.Attribute o m apos) (e :: es) [] pos) X.env = (do
      let ov ← eval o X.env
      standAt apos.atName
      let (f, first) ← holding [ov] (getMethod ov m pl)
      callWith pos f first (backTo pos (starEach (e :: es) X.env)) (backToKw pos (keywordEach [] X.env))) := by rfl) :
    PE X (.Call (.Attribute o m apos) (e :: es) [] pos) (tX X.K (.pr (gMeth m ms) (xo :: xs))) := by
  refine (pe_methC (E := E) he ha hst hpl ht).imp fun σ H Q h => ?_
  obtain ⟨ρ, G, fp, d, m', I, ee, gv⟩ := id h
  simp only [ev] at ee
  split at ee <;> try (cases ee; done)
  rename_i as ea
  obtain ⟨p1, r1, e1, ea1, rfl⟩ := evs_cons ea
  have eg := ee
  unfold gMeth at eg
  split at eg <;> try (cases eg; done)
  rename_i C ns ds mo rr hcons
  split at eg <;> try (cases eg; done)
  rename_i hnm
  split at eg <;> try (cases eg; done)
  rename_i f hlf
  rw [List.map_cons] at hcons
  injection hcons with hc1 hc2
  have hp1 : p1.1 = .obj C ns ds := by have := congrArg Prod.fst hc1; simpa [fz] using this
  -- the call's promise behind all arguments
  have rest : Rest X.K ρ σ fp G H (p1 :: r1) fun vs H' => spP X.K f (vs ++ []) H' Q E := ⟨I, fun vs H' G' F s e2 z nd new r' => by
    have eg' : callG f ((p1 :: r1).map fz) = some (d, m') := by rw [List.map_cons, hc1, hc2]; exact eg
    exact impFn f E (frzH G' H' F) H' _ vs d m' Q eg' (RMs.asArg z (fun a ha => (new a ha).2) (fun a ha => ha) r') (frzH_sub z)
      (gv.trans s (e2.trans (same_refl H) (frzH_ext s z (fun a ha => (new a ha).2) (fun a ha => (new a ha).1))))⟩
  refine rest.go e1 fun v H1 G1 rv rs => ?_
  rw [hp1] at rv
  simp only [SW.R] at rv
  obtain ⟨a, dx, es', rfl, ha', hn, _⟩ := rv
  obtain ⟨fa, CX, k, fd, ps, c, hm, F, hr, hb, hx⟩ := hms _ (mem_of_lookup hlf)
  refine ⟨a, C, dx, fa, _, CX, k, fd, ps, _, rfl, ha', zip_lookup_none m (by simpa using hnm), c, hm, F, hr, hb, hx, ?_⟩
  obtain ⟨I1, q1⟩ := rs
  exact ⟨ρ, G1, fp, r1, I1, ea1, q1⟩

/-! ### is True, is False -/
def gIsB : List DM → Option DM := fun as => match as with
  | [(.bl a, _), (.bl b, _)] => some (.bl (decide (a = b)), .sh)
  | _ => none
def gNotB : List DM → Option DM := fun as => match as with
  | [(.bl a, _), (.bl b, _)] => some (.bl (!decide (a = b)), .sh)
  | _ => none
theorem iIsB {X : Cx} : ImpN X (r2N rIsB) gIsB := by
  intro G H as vs d m Q e ra s gv
  unfold gIsB at e
  split at e <;> cases e
  rename_i a ma b mb
  obtain ⟨v, w, rfl, r1, r2⟩ := ra.two
  have e1 := r1.r s
  have e2 := r2.r s
  simp only [R] at e1 e2
  exact ⟨a, b, e1, e2, gv.sh s rfl (by simp [R])⟩
theorem iNotB {X : Cx} : ImpN X (r2N rNotB) gNotB := by
  intro G H as vs d m Q e ra s gv
  unfold gNotB at e
  split at e <;> cases e
  rename_i a ma b mb
  obtain ⟨v, w, rfl, r1, r2⟩ := ra.two
  have e1 := r1.r s
  have e2 := r2.r s
  simp only [R] at e1 e2
  exact ⟨a, b, e1, e2, gv.sh s rfl (by simp [R])⟩
theorem kit_sub {K : PySem.W.Frag} {C C' : Addr} {b : Bool} (h1 : PySem.W.isClsIn K C' = true) (h2 : PySem.W.typeIn K (.ref C') = some (.type "type")) (h3 : PySem.W.subIn K (.ref C) (.ref C') = some b) (hb : C = C' → b = true) : PySem.W.kitOne K (.ref C) (.ref C') = some b := by
  unfold PySem.W.kitOne
  by_cases e : C = C'
  · subst e
    rw [if_pos (by simp), hb rfl]
  · have ne : ¬ ((Value.ref C == Value.ref C') = true) := fun z => e (by have := eq_of_beq z; injection this)
    rw [if_neg ne]
    unfold PySem.W.isClsIn at h1
    show (if ((PySem.W.clsIn K C').isSome && PySem.W.typeIn K (.ref C') == some (.type "type")) = true then PySem.W.subIn K (.ref C) (.ref C') else none) = some b
    rw [h1, h2, if_pos (by simp)]
    exact h3
end SW
namespace SW
open PySem PySem.Spec PyProof.Rows L2

/-! ### tuples: sum, + -/
def rSumT (K : PySem.W.Frag) : List V → Hp → VK → Prop := fun vs H Q => ∃ (a : Addr) (ns : List Int), vs = [V.ref a] ∧ SqT K H a (ns.map V.int) ∧ Q (.int ns.sum) H
def rSumA (K : PySem.W.Frag) : List V → Hp → VK → Prop := fun vs H Q => rSum K vs H Q ∨ rSumT K vs H Q
theorem cr_sumA {X : Cx} (hc : X.calm = true) : CallR X (.builtin "sum") (rSumA X.K) := by
  intro pins s σ H vs us Q I r h
  rcases h with h | h
  · exact cr_sum hc pins s σ H vs us Q I r h
  · obtain ⟨a, ns, rfl, hs, q⟩ := h
    obtain ⟨its, rv, ht, _⟩ := I.tuple hs
    rw [Vals.ref1 r]
    obtain ⟨xs, e⟩ := rv.ints.allInts.items
    have hn : numsOf (intItems xs).toList = ns := by rw [← e]; exact rv.ints.numsOf
    rw [nums_intItems] at hn
    obtain ⟨o, ho, h2, n, h3⟩ := ht
    have ht2 : s.heap.IsTuple a (intItems xs) := ⟨o, ho, h2, n, by rw [h3, e]⟩
    refine PySem.W.ktm_sumG (I.ok.hd hc) ht2 fun h' tk t' hk => ⟨.int ns.sum, H, I.kept hk, ⟨t', ?_⟩, q⟩
    rw [preSum_eq, List.take_of_length_le (by simp), hn]
def gSumA : List DM → Option DM := fun as => match as with
  | [(.tup ds, _)] => match intsD ds with | some ns => some (.int ns.sum, .sh) | none => none
  | as => gSum as
theorem iSumA {X : Cx} : ImpN X (rSumA X.K) gSumA := by
  intro G H as vs d m Q e ra s gv
  unfold gSumA at e
  split at e
  · split at e <;> cases e
    rename_i ds m1 ns hn
    obtain ⟨v, rfl, r1⟩ := ra.one
    have r := r1.r s
    simp only [R] at r
    obtain ⟨a, xs, rfl, ha, rs⟩ := r
    refine .inr ⟨a, ns, rfl, ?_, gv.sh s rfl (by simp [R])⟩
    rw [intsD_of hn] at rs
    rw [Rs.ints rs] at ha
    exact SqT.of ha
  · exact .inl (iSum G H as vs d m Q e ra s gv)
def gAddT : List DM → Option DM := fun as => match as with
  | [(.tup i, _), (.tup j, _)] => if hasLs i = false ∧ hasLs j = false ∧ i ≠ [] ∧ j ≠ [] ∧ i.length + j.length ≤ SZ then some (.tup (i ++ j), .sh) else none
  | _ => none
theorem iAddT {X : Cx} : ImpN X (r2N (rCatT X.K)) gAddT := by
  intro G H as vs d m Q e ra s gv
  unfold gAddT at e
  split at e <;> try (cases e; done)
  split at e <;> cases e
  rename_i i m1 j m2 hc
  obtain ⟨hi, hj, ni, nj, hz⟩ := hc
  obtain ⟨v, w, rfl, r1, r2⟩ := ra.two
  have q1 := r1.r s
  have q2 := r2.r s
  simp only [R] at q1 q2
  obtain ⟨a, xs, rfl, ha, rs⟩ := q1
  obtain ⟨b, ys, rfl, hb, rs'⟩ := q2
  have l1 := rs.length
  have l2 := rs'.length
  have nx : xs ≠ [] := fun z => ni (List.eq_nil_of_length_eq_zero (by rw [l1, z]; rfl))
  have ny : ys ≠ [] := fun z => nj (List.eq_nil_of_length_eq_zero (by rw [l2, z]; rfl))
  refine ⟨a, b, xs, ys, rfl, rfl, SqT.of ha, SqT.of hb, nx, by rw [← l1, ← l2, ← SZ_eq]; exact hz, fun z => absurd z ny, fun _ p np => ?_⟩
  have ex := absb_ext s
  have gp : absb G H p = none := none_sub ex.2 np
  have k1 : Same H (upd H p (.tup (xs ++ ys))) := same_upd np
  have k2 : Same (upd (absb G H) p (.tup (xs ++ ys))) (upd H p (.tup (xs ++ ys))) := fun c o ec => by
    by_cases q : c = p
    · subst q; rw [upd_same] at ec ⊢; exact ec
    · rw [upd_ne q] at ec ⊢; exact ex.2 _ _ ec
  refine gv (.ref p) _ (upd (absb G H) p (.tup (xs ++ ys))) [] k1 (ex.1.put np gp) k2 List.nodup_nil (fun a ha => nomatch ha) ⟨rfl, ?_⟩
  simp only [R]
  exact ⟨p, xs ++ ys, rfl, upd_same, Rs.append (Rs.mono (same_upd gp) _ _ (Rs.absb s _ _ hi rs)) (Rs.mono (same_upd gp) _ _ (Rs.absb s _ _ hj rs'))⟩
end SW
namespace SW
open PySem PySem.Spec PyProof.Rows L2

/-! ### text.index of what is there -/
def gIndexS : List DM → Option DM := fun as => match as with
  | [(.str z, _), (.str c, _)] => match Builtin.Str.occurrences ⟨z.toArray⟩ ⟨c.toArray⟩ 0 (⟨z.toArray⟩ : PySem.Str).length 1 with
    | i :: _ => some (.int (i : Nat), .sh)
    | [] => none
  | _ => none
def rIndexS : V → List V → Hp → VK → Prop := fun x xs H Q => ∃ a b i rest, x = .str a ∧ xs = [.str b] ∧ Builtin.Str.occurrences a b 0 a.length 1 = i :: rest ∧ Q (.int (i : Nat)) H
theorem iIndexS {X : Cx} : ImpN X (fun vs H Q => match vs with | v :: ws => rIndexS v ws H Q | [] => True) gIndexS := by
  intro G H as vs d m Q e ra s gv
  unfold gIndexS at e
  split at e <;> try (cases e; done)
  split at e <;> cases e
  rename_i z m1 c m2 i rest hi
  obtain ⟨v, w, rfl, r1, r2⟩ := ra.two
  have e1 := r1.isStr s; subst e1
  have e2 := r2.isStr s; subst e2
  exact ⟨_, _, i, rest, rfl, rfl, hi, gv.sh s rfl (by simp [R])⟩
theorem tyIndexS {X : Cx} : ∀ as d, gIndexS as = some d → ∃ a r, as = a :: r ∧ ∀ H v, R X.K H a.1 v → tyV X.K "str" v H := by
  intro as d e
  unfold gIndexS at e
  split at e <;> try (cases e; done)
  exact ⟨_, _, rfl, fun H v r => tyStr r⟩
end SW
namespace SW
open PySem PySem.Spec PyProof.Rows L2

/-! ### an object that is owned whole: its one list changed in place -/
theorem evS_gen {N : Nat} {g : Env → Option Env} {ρ ρ' : Env} (h : g ρ = some ρ') : evS N (.gen g) ρ = some (.nx ρ') := by
  simp only [evS, h]
section
variable {K : PySem.W.Frag} {H0 G0 G H : Hp} {ρ : Env} {σ : L2.St} {fp : Nat → List Addr}
theorem RFs.unflat : ∀ {ds : List SW.D} {xs : List V} {F : List Addr}, hasLs ds = false → RFs K G H ds xs F → F = [] ∧ Rs K G ds xs
  | [], _, _, _, h => by simp only [RFs] at h; simp only [Rs]; exact ⟨h.2, h.1⟩
  | d :: ds, _, _, hl, h => by
    simp only [hasLs, Bool.or_eq_false_iff] at hl
    simp only [RFs] at h
    obtain ⟨v, r, F1, F2, rfl, rfl, h1, h2⟩ := h
    obtain ⟨e1, q1⟩ := (RF.flat d v F1 hl.1).mp h1
    obtain ⟨e2, q2⟩ := RFs.unflat hl.2 h2
    exact ⟨by rw [e1, e2]; rfl, Rs.cons q1 q2⟩
/-- an object with one list of flat items, owned whole -/
theorem own_obj {C : Addr} {f : PySem.Str} {items : List SW.D} {v : V} {F : List Addr} (hf : hasLs items = false) (h : RM K G H .full (.obj C [f] [.lst items]) v F) :
    ∃ a dx l xs, v = .ref a ∧ F = [l] ∧ H a = some (.ins C dx [(f, .ref l)]) ∧ H l = some (.lst xs) ∧ Rs K G items xs := by
  simp only [RM, RF] at h
  rcases h with ⟨z, _⟩ | ⟨_, a, dx, es, rfl, ha, hl, h⟩
  · simp [hasLs, hasL] at z
  · simp only [RFs] at h
    obtain ⟨w, r, F1, F2, rfl, rfl, h1, h2, h3⟩ := h
    subst h2 h3
    simp only [RF] at h1
    obtain ⟨l, xs, F', rfl, rfl, hlx, h4⟩ := h1
    obtain ⟨rfl, h5⟩ := RFs.unflat hf h4
    exact ⟨a, dx, l, xs, rfl, rfl, ha, hlx, h5⟩
theorem At.objFull (I : Ok K G H ρ σ fp) (b : Bs H0 G0 G H fp) {i : Nat} {a l C dx : Addr} {f : PySem.Str} {items : List SW.D} {xs xs0 : List V} (hi : i < ρ.length) (hfp : fp i = [l]) (hv : σ[i]? = some (some (.ref a)))
    (ha : H a = some (.ins C dx [(f, .ref l)])) (hl : H l = some (.lst xs0)) (q : Rs K (absb G H) items xs) (fl : hasLs items = false) : At K H0 G0 ((dropB ρ).set i (some (.obj C [f] [.lst items], .full))) σ (upd H l (.lst xs)) := by
  have hlm : l ∈ fp i := by rw [hfp]; simp
  have gl : absb G H l = none := absb_none (I.mu i l hlm) (I.off i l hlm)
  have hal : a ≠ l := ne_of ha hl (fun z => nomatch z)
  refine ⟨absb G H, _, I.write hi hlm hv (absb_ext I.sub).1.1 (same_upd_of (absb_ext I.sub).2 gl) (F' := [l]) ?_ (by simp) (fun c hc => ?_) (fun j c hj hc => absb_none (I.mu j c hc) (I.off j c hc)), ?_, b.kG.trans b.kH (absb_ext I.sub).1, fun j c hc => ?_⟩
  · simp only [RM, RF]
    refine .inr ⟨rfl, a, dx, [.ref l], rfl, by rw [upd_ne hal]; exact ha, rfl, ?_⟩
    simp only [RFs]
    refine ⟨.ref l, [], [l], [], rfl, rfl, ?_, rfl, rfl⟩
    simp only [RF]
    exact ⟨l, xs, [], rfl, rfl, upd_same, RFs.flat fl q⟩
  · simp at hc; subst hc
    exact ⟨gl, fun j hj h => hj (I.dj j i c h hlm)⟩
  · exact fun c o e => by rw [upd_ne (ne_of_none e (b.new i l hlm))]; exact b.kH _ _ e
  · by_cases c' : j = i <;> simp [c'] at hc
    · subst hc; exact b.new i c hlm
    · exact b.new j c hc
end
/-- Same(list), to be changed later -/
def gMkLF (C : Addr) (f : PySem.Str) : List DM → Option DM := fun as => match as with
  | [(.lst ds, _)] => if hasLs ds = false ∧ ds.length ≤ SZ then some (.obj C [f] [.lst ds], .full) else none
  | _ => none
theorem iMkLF {X : Cx} {C : Addr} {f : PySem.Str} {E : XK} : ImpN X (rMk C (spIniL C f) E) (gMkLF C f) := by
  intro G H as vs d m Q e ra s gv
  unfold gMkLF at e
  split at e <;> try (cases e; done)
  rename_i ds m0
  split at e <;> cases e
  rename_i hc
  obtain ⟨v, rfl, r1⟩ := ra.one
  obtain ⟨a, xs, rfl, ha, rs, rg⟩ := r1.items s
  intro x dx nx nd ne
  have nax : a ≠ x := ne_of_none ha nx
  have nad : a ≠ dx := ne_of_none ha nd
  refine ⟨x, dx, a, xs, rfl, upd_same, by rw [upd_ne nax, upd_ne nad]; exact ha, by rw [← rs.length, ← SZ_eq]; exact hc.2, fun l nl => ⟨rfl, ?_⟩⟩
  have nlx : l ≠ x := by intro z; subst z; rw [upd_same] at nl; cases nl
  rw [upd_ne nlx] at nl
  have nld : l ≠ dx := by intro z; subst z; rw [upd_same] at nl; cases nl
  rw [upd_ne nld] at nl
  have ex := absb_ext s
  have rz : Rs X.K (absb G H) ds xs := Rs.absb s _ _ hc.1 rs
  have gl : absb G H l = none := none_sub ex.2 nl
  have k1 : Same H (upd (upd (upd (upd H dx (.own x)) x (.ins C dx [])) l (.lst xs)) x (.ins C dx [(f, .ref l)])) := fun b o eb => by
    have n1 := ne_of_none eb nx
    rw [upd_ne n1, upd_ne (ne_of_none eb nl), upd_ne n1, upd_ne (ne_of_none eb nd)]; exact eb
  refine gv (.ref x) _ (absb G H) [l] k1 ex.1 (ex.2.trans k1) (by simp) (fun b hb => by simp at hb; subst hb; exact ⟨nl, gl⟩) ?_
  simp only [RM, RF]
  refine .inr ⟨rfl, x, dx, [.ref l], rfl, upd_same, rfl, ?_⟩
  simp only [RFs]
  refine ⟨.ref l, [], [l], [], rfl, rfl, ?_, rfl, rfl⟩
  simp only [RF]
  exact ⟨l, xs, [], rfl, rfl, by rw [upd_ne nlx, upd_same], RFs.flat hc.1 rz⟩
/-- o.f.append(x) -/
def gAppF (i : Nat) (f : PySem.Str) (cs : List Addr) (x : Ex) (ρ : Env) : Option Env := match ρ[i]? with
  | some (some (.obj C [f'] [.lst ds], .full)) => if f' = f ∧ cs.contains C = true ∧ hasLs ds = false ∧ ds.length < SZ then match ev x ρ with
    | some p => if hasL p.1 = false then some ((dropB ρ).set i (some (.obj C [f'] [.lst (ds ++ [p.1])], .full))) else none
    | none => none
    else none
  | _ => none
/-- o.f.pop() -/
def gPopF (i : Nat) (f : PySem.Str) (cs : List Addr) (ρ : Env) : Option Env := match ρ[i]? with
  | some (some (.obj C [f'] [.lst ds], .full)) => if f' = f ∧ cs.contains C = true ∧ hasLs ds = false ∧ ds ≠ [] then some ((dropB ρ).set i (some (.obj C [f'] [.lst ds.dropLast], .full))) else none
  | _ => none
section
variable {X : Cx} {H0 : Hp} {N : Nat} {pos : Pos}
theorem qs_appF {i : Nat} {f : PySem.Str} {cs : List Addr} {x : Ex} {o e call : Expr} (hc : ∀ C ∈ cs, Cls X.K C ∧ NoAttr X.K C f) (ho : PE X o (tFld X.K (tVar i) f)) (he : PE X e (tX X.K x)) (hcall : ∀ to t, PE X o to → PA X [e] t → PE X call (tBM X.K "list" rAppend to t))
    (hs : swapsWith call none pos.line X.env = pure false := by rfl) (hst : starEach [e] X.env = (false, eval e X.env) :: starEach [] X.env := by rfl) : PS X (.Expr call pos) (tS X.K H0 N (.gen (gAppF i f cs x))) := by
  refine (ps_expr (hcall _ _ ho (pa_cons he pa_nil hst)) hs).imp fun D σ H h => ?_
  obtain ⟨G0, ρ, q0, ⟨G, fp, I, b⟩, e, fi⟩ := h
  simp only [evS] at e
  split at e <;> cases e
  rename_i ρ' eg
  unfold gAppF at eg
  split at eg <;> try (cases eg; done)
  rename_i C f' ds es
  split at eg <;> try (cases eg; done)
  rename_i hcd
  obtain ⟨rfl, hC, hfl, hz⟩ := hcd
  split at eg <;> try (cases eg; done)
  rename_i p ee
  split at eg <;> cases eg
  rename_i hp
  have hi : i < ρ.length := (List.getElem?_eq_some_iff.mp es).1
  obtain ⟨hCl, hNa⟩ := hc C (by simpa using hC)
  obtain ⟨v, hv, rm⟩ := I.get es
  obtain ⟨a, dx, l, xs, rfl, hF, ha, hl, rs⟩ := own_obj hfl rm
  refine ⟨_, hv, a, C, dx, _, .ref l, rfl, ha, hCl, hNa, by simp, .inl ⟨rfl, xs, .inl (.inl hl)⟩, ?_⟩
  refine At.expr2 I b (d := p.1) (m := p.2) ee fun y H1 G1 F s1 x1 I1 b1 r1 nd1 new1 => ?_
  have ha1 := s1 _ _ ha
  have hl1 := s1 _ _ hl
  have rs1 : Rs X.K G1 ds xs := Rs.mono x1.1 _ _ rs
  have ry : R X.K (absb G1 H1) p.1 y := R.absb I1.sub _ _ hp (r1.r I1.sub)
  refine ⟨l, xs, y, rfl, rfl, hl1, by rw [← rs.length, ← SZ_eq]; exact hz, fi _ _ ?_⟩
  exact At.objFull I1 b1 hi hF hv ha1 hl1 (Rs.append (Rs.mono (absb_ext I1.sub).1.1 _ _ rs1) (Rs.one ry)) (by rw [hasLs_append, hfl]; simp [hasLs, hp])
theorem qs_popF {i : Nat} {f : PySem.Str} {cs : List Addr} {o call : Expr} (hc : ∀ C ∈ cs, Cls X.K C ∧ NoAttr X.K C f) (ho : PE X o (tFld X.K (tVar i) f)) (hcall : ∀ to, PE X o to → PE X call (tBM0 X.K "list" rPop to))
    (hs : swapsWith call none pos.line X.env = pure false := by rfl) : PS X (.Expr call pos) (tS X.K H0 N (.gen (gPopF i f cs))) := by
  refine (ps_expr (hcall _ ho) hs).imp fun D σ H h => ?_
  obtain ⟨G0, ρ, q0, ⟨G, fp, I, b⟩, e, fi⟩ := h
  simp only [evS] at e
  split at e <;> cases e
  rename_i ρ' eg
  unfold gPopF at eg
  split at eg <;> try (cases eg; done)
  rename_i C f' ds es
  split at eg <;> cases eg
  rename_i hcd
  obtain ⟨rfl, hC, hfl, hne⟩ := hcd
  have hi : i < ρ.length := (List.getElem?_eq_some_iff.mp es).1
  obtain ⟨hCl, hNa⟩ := hc C (by simpa using hC)
  obtain ⟨v, hv, rm⟩ := I.get es
  obtain ⟨a, dx, l, xs, rfl, hF, ha, hl, rs⟩ := own_obj hfl rm
  have hlen := rs.length
  have hpos : 0 < xs.length := by
    rw [← hlen]
    exact List.length_pos_iff.mpr hne
  refine ⟨_, hv, a, C, dx, _, .ref l, rfl, ha, hCl, hNa, by simp, .inl ⟨rfl, xs, .inl (.inl hl)⟩, ?_⟩
  refine ⟨l, xs, xs[xs.length - 1]'(by omega), rfl, rfl, hl, List.getElem?_eq_getElem (by omega), fi _ _ ?_⟩
  have ed : ds.dropLast = ds.take (ds.length - 1) := List.dropLast_eq_take
  have ex : xs.dropLast = xs.take (ds.length - 1) := by rw [List.dropLast_eq_take, hlen]
  have rd : Rs X.K G ds.dropLast xs.dropLast := by rw [ed, ex]; exact Rs.take _ rs
  have fd : hasLs ds.dropLast = false := by
    have : ∀ (ds : List SW.D) (k : Nat), hasLs ds = false → hasLs (ds.take k) = false := by
      intro ds
      induction ds with
      | nil => intro k h; simp [hasLs]
      | cons d ds ih =>
        intro k h
        simp only [hasLs, Bool.or_eq_false_iff] at h
        cases k with
        | zero => rfl
        | succ k => simp only [List.take_succ_cons, hasLs, h.1, ih k h.2, Bool.or_self]
    rw [ed]; exact this _ _ hfl
  exact At.objFull I b hi hF hv ha hl (Rs.mono (absb_ext I.sub).1.1 _ _ rd) fd
end
end SW
namespace SW
open PySem PySem.Spec PyProof.Rows L2

/-! ### list(range(..)) -/
def rgO (a b : Int) : Bool := decide (0 ≤ a) && decide (a ≤ 16777216) && decide (b ≤ 16777216) && decide (0 ≤ b)
theorem rgO_ok {a b : Int} (h : rgO a b = true) : RgOk a b := by
  unfold rgO at h
  simp only [Bool.and_eq_true, decide_eq_true_eq] at h
  exact RgOk.of_le h.1.1.1 h.1.2 h.1.1.2 h.2
theorem rs_rg {K : PySem.W.Frag} {H : Hp} (a b : Int) : Rs K H (rngD a 1 (b - a).toNat) (rgV a b) := by
  have : ∀ l : List Nat, Rs K H (l.map fun i : Nat => D.int (a + (i : Nat) * 1)) (l.map fun i : Nat => V.int (a + (i : Nat))) := by
    intro l
    induction l with
    | nil => exact Rs.nil
    | cons i l ih =>
      rw [List.map_cons, List.map_cons]
      exact Rs.cons (by simp [R]) ih
  exact this _
def gLRg1 : List DM → Option DM := fun as => match as with
  | [(.int n, _)] => if rgO 0 n then newLst (rngD 0 1 n.toNat) false else none
  | _ => none
def gLRg2 : List DM → Option DM := fun as => match as with
  | [(.int a, _), (.int b, _)] => if rgO a b then newLst (rngD a 1 (b - a).toNat) false else none
  | _ => none
section
variable {X : Cx}
theorem iLRg1 : ImpN X (fun vs H Q => match vs with | [x] => ∃ n, x = .int n ∧ (RgOk 0 n ∧ ∀ q, H q = none → Q (.ref q) (upd H q (.lst (rgV 0 n)))) | _ => True) gLRg1 := by
  intro G H as vs d m Q e ra s gv
  unfold gLRg1 at e
  split at e <;> try (cases e; done)
  rename_i n _
  split at e <;> try (cases e; done)
  rename_i hc
  obtain ⟨v, rfl, r1⟩ := ra.one
  have e1 := r1.isInt s; subst e1
  refine ⟨_, rfl, rgO_ok hc, gv.newL e s ?_ (fun h => by cases h)⟩
  have := rs_rg (K := X.K) (H := H) 0 n
  rw [show (n - 0 : Int) = n by omega] at this
  exact this
theorem iLRg2 : ImpN X (fun vs H Q => match vs with | [x, y] => ∃ i j, x = .int i ∧ y = .int j ∧ (RgOk i j ∧ ∀ q, H q = none → Q (.ref q) (upd H q (.lst (rgV i j)))) | _ => True) gLRg2 := by
  intro G H as vs d m Q e ra s gv
  unfold gLRg2 at e
  split at e <;> try (cases e; done)
  split at e <;> try (cases e; done)
  rename_i hc
  obtain ⟨v, w, rfl, r1, r2⟩ := ra.two
  have e1 := r1.isInt s; subst e1
  have e2 := r2.isInt s; subst e2
  exact ⟨_, _, rfl, rfl, rgO_ok hc, gv.newL e s (rs_rg _ _) (fun h => by cases h)⟩
theorem px_lrg1 {a : Expr} {xa : Ex} {p p2 pos pos2 : Pos} (hg : Gl X "list") (hm : X.mg "list" = none) (hg2 : Gl X "range") (hm2 : X.mg "range" = none) (ha : PE X a (tX X.K xa)) (hc : X.calm = true := by rfl) (na2 : starEach [a] X.env = (false, eval a X.env) :: starEach [] X.env := by rfl)
    (na : starEach [.Call (.Name "range" p2) [a] [] pos2] X.env = (false, eval (.Call (.Name "range" p2) [a] [] pos2) X.env) :: starEach [] X.env := by rfl) : PE X (.Call (.Name "list" p) [.Call (.Name "range" p2) [a] [] pos2] [] pos) (tX X.K (.pr gLRg1 [xa])) :=
  (pe_listRg hc hg hm (prg_1 hg2 hm2 ha na2) na).imp fun _ _ _ h => tX_mono (tAR_cons (iLRg1.pr h)) fun _ _ q => tAR_nil q
theorem px_lrg2 {a b : Expr} {xa xb : Ex} {p p2 pos pos2 : Pos} (hg : Gl X "list") (hm : X.mg "list" = none) (hg2 : Gl X "range") (hm2 : X.mg "range" = none) (ha : PE X a (tX X.K xa)) (hb : PE X b (tX X.K xb)) (hc : X.calm = true := by rfl) (na2 : starEach [a, b] X.env = (false, eval a X.env) :: starEach [b] X.env := by rfl)
    (nb2 : starEach [b] X.env = (false, eval b X.env) :: starEach [] X.env := by rfl) (hp2 : (backTo pos2 (starEach [b] X.env)).any (·.1) = false := by rfl)
    (na : starEach [.Call (.Name "range" p2) [a, b] [] pos2] X.env = (false, eval (.Call (.Name "range" p2) [a, b] [] pos2) X.env) :: starEach [] X.env := by rfl) : PE X (.Call (.Name "list" p) [.Call (.Name "range" p2) [a, b] [] pos2] [] pos) (tX X.K (.pr gLRg2 [xa, xb])) :=
  (pe_listRg hc hg hm (prg_2 hg2 hm2 ha hb na2 nb2 hp2) na).imp fun _ _ _ h => tX_mono (tAR_cons (iLRg2.pr h)) fun _ _ q => tX_mono (tAR_cons q) fun _ _ q => tAR_nil q
end

/-! ### places within what is owned whole -/
def getP : List Nat → D → Option D
  | [], d => some d
  | j :: js, d => match d with
    | .lst ds => match ds[j]? with
      | some e => getP js e
      | none => none
    | _ => none
def setP : List Nat → D → D → Option D
  | [], e, _ => some e
  | j :: js, e, d => match d with
    | .lst ds => match ds[j]? with
      | some x => match setP js e x with
        | some y => some (.lst (ds.set j y))
        | none => none
      | none => none
    | _ => none
def PathV (H : Hp) : V → List Nat → V → Prop
  | v, [], w => w = v
  | v, j :: js, w => ∃ a xs u, v = .ref a ∧ H a = some (.lst xs) ∧ xs[j]? = some u ∧ PathV H u js w
theorem PathV.mono {H H' : Hp} (k : Same H H') : ∀ (js : List Nat) (v w : V), PathV H v js w → PathV H' v js w
  | [], _, _, h => h
  | j :: js, v, w, h => let ⟨a, xs, u, e, h1, h2, h3⟩ := h; ⟨a, xs, u, e, k _ _ h1, h2, PathV.mono k js u w h3⟩
theorem PathV.uniq {H : Hp} : ∀ (js : List Nat) (v w w' : V), PathV H v js w → PathV H v js w' → w = w'
  | [], _, _, _, h, h' => by simp only [PathV] at h h'; rw [h, h']
  | j :: js, v, w, w', h, h' => by
    obtain ⟨a, xs, u, e, h1, h2, h3⟩ := h
    obtain ⟨a', xs', u', e', h1', h2', h3'⟩ := h'
    subst e; cases e'
    rw [h1] at h1'; cases h1'
    rw [h2] at h2'; cases h2'
    exact PathV.uniq js u w w' h3 h3'
theorem PathV.snoc {H : Hp} {a : Addr} {xs : List V} {j : Nat} {u : V} (h1 : H a = some (.lst xs)) (h2 : xs[j]? = some u) : ∀ (js : List Nat) (v : V), PathV H v js (.ref a) → PathV H v (js ++ [j]) u
  | [], v, h => by simp only [PathV] at h; subst h; exact ⟨a, xs, u, rfl, h1, h2, rfl⟩
  | i :: js, v, h => let ⟨b, ys, w, e, q1, q2, q3⟩ := h; ⟨b, ys, w, e, q1, q2, PathV.snoc h1 h2 js w q3⟩
theorem getP_snoc {j : Nat} {es : List D} {e : D} (h2 : es[j]? = some e) : ∀ (js : List Nat) (d : D), getP js d = some (.lst es) → getP (js ++ [j]) d = some e
  | [], d, h => by
    simp only [getP, Option.some.injEq] at h; subst h
    simp only [List.nil_append, getP, h2]
  | i :: js, d, h => by
    cases d <;> simp only [getP] at h <;> try (cases h; done)
    rename_i ds
    cases hd : ds[i]? with
    | none => rw [hd] at h; cases h
    | some x =>
      rw [hd] at h
      simp only [List.cons_append, getP, hd]
      exact getP_snoc h2 js x h
section
variable {K : PySem.W.Frag} {G H : Hp}
theorem RFs.at {j : Nat} {e : SW.D} : ∀ {ds : List SW.D} {xs : List V} {F : List Addr}, RFs K G H ds xs F → ds[j]? = some e → ∃ u Fa Fe Fb, xs[j]? = some u ∧ F = Fa ++ Fe ++ Fb ∧ RF K G H e u Fe ∧
    ∀ G' H', Same G G' → (∀ a o, H a = some o → isImm o = true → H' a = some o) → (∀ c, c ∈ Fa ∨ c ∈ Fb → H' c = H c) → ∀ e' Fe', RF K G' H' e' u Fe' → RFs K G' H' (ds.set j e') xs (Fa ++ Fe' ++ Fb) := by
  induction j with
  | zero =>
    intro ds xs F h hj
    cases ds with
    | nil => simp at hj
    | cons d ds =>
      simp only [List.getElem?_cons_zero, Option.some.injEq] at hj
      subst hj
      simp only [RFs] at h
      obtain ⟨v, r, F1, F2, rfl, rfl, h1, h2⟩ := h
      refine ⟨v, [], F1, F2, rfl, by simp, h1, fun G' H' kG ki kF e' Fe' q => ?_⟩
      simp only [List.set_cons_zero, RFs]
      exact ⟨v, r, Fe', F2, rfl, by simp, q, RFs.keep kG ki _ _ _ (fun a ha => kF a (.inr ha)) h2⟩
  | succ j ih =>
    intro ds xs F h hj
    cases ds with
    | nil => simp at hj
    | cons d ds =>
      simp only [List.getElem?_cons_succ] at hj
      simp only [RFs] at h
      obtain ⟨v, r, F1, F2, rfl, rfl, h1, h2⟩ := h
      obtain ⟨u, Fa, Fe, Fb, hu, rfl, he, k⟩ := ih h2 hj
      refine ⟨u, F1 ++ Fa, Fe, Fb, by simpa using hu, by simp, he, fun G' H' kG ki kF e' Fe' q => ?_⟩
      simp only [List.set_cons_succ, RFs]
      refine ⟨v, r, F1, Fa ++ Fe' ++ Fb, rfl, by simp, RF.keep kG ki _ _ _ (fun a ha => kF a (.inl (List.mem_append_left _ ha))) h1, k G' H' kG ki (fun c hc => kF c ?_) e' Fe' q⟩
      rcases hc with hc | hc
      · exact .inl (List.mem_append_right _ hc)
      · exact .inr hc
theorem own_path : ∀ (js : List Nat) (d : SW.D) (v : V) (F : List Addr) (es : List SW.D), RF K G H d v F → getP js d = some (.lst es) → ∃ l xs F1 Fl F2, PathV H v js (.ref l) ∧ H l = some (.lst xs) ∧ F = F1 ++ (l :: Fl) ++ F2 ∧ RFs K G H es xs Fl ∧
    ∀ G' H', Same G G' → (∀ a o, H a = some o → isImm o = true → H' a = some o) → (∀ c, c ∈ F1 ∨ c ∈ F2 → H' c = H c) → ∀ es' xs' Fl', H' l = some (.lst xs') → RFs K G' H' es' xs' Fl' → ∃ d', setP js (.lst es') d = some d' ∧ RF K G' H' d' v (F1 ++ (l :: Fl') ++ F2)
  | [], d, v, F, es, h, hg => by
    simp only [getP, Option.some.injEq] at hg
    subst hg
    simp only [RF] at h
    obtain ⟨a, xs, F', rfl, rfl, h1, h2⟩ := h
    refine ⟨a, xs, [], F', [], rfl, h1, by simp, h2, fun G' H' kG ki kF es' xs' Fl' hl q => ⟨_, rfl, ?_⟩⟩
    simp only [RF]
    exact ⟨a, xs', Fl', rfl, by simp, hl, q⟩
  | j :: js, d, v, F, es, h, hg => by
    cases d <;> simp only [getP] at hg <;> try (cases hg; done)
    rename_i ds
    cases hd : ds[j]? with
    | none => rw [hd] at hg; cases hg
    | some e =>
      rw [hd] at hg
      simp only [RF] at h
      obtain ⟨a, xs, F', rfl, rfl, h1, h2⟩ := h
      obtain ⟨u, Fa, Fe, Fb, hu, rfl, he, k⟩ := h2.at hd
      obtain ⟨l, ys, F1, Fl, F2, hp, hl, rfl, hr, k2⟩ := own_path js e u Fe es he hg
      refine ⟨l, ys, a :: (Fa ++ F1), Fl, F2 ++ Fb, ⟨a, xs, u, rfl, h1, hu, hp⟩, hl, by simp, hr, fun G' H' kG ki kF es' xs' Fl' hl' q => ?_⟩
      obtain ⟨e', he', q2⟩ := k2 G' H' kG ki (fun c hc => kF c (by
        rcases hc with hc | hc
        · exact .inl (List.mem_cons_of_mem _ (List.mem_append_right _ hc))
        · exact .inr (List.mem_append_left _ hc))) es' xs' Fl' hl' q
      refine ⟨.lst (ds.set j e'), by simp only [setP, hd, he'], ?_⟩
      simp only [RF]
      refine ⟨a, xs, Fa ++ (F1 ++ (l :: Fl') ++ F2) ++ Fb, rfl, by simp, ?_, ?_⟩
      · rw [kF a (.inl (List.mem_cons_self ..))]; exact h1
      · exact k G' H' kG ki (fun c hc => kF c (by
          rcases hc with hc | hc
          · exact .inl (List.mem_cons_of_mem _ (List.mem_append_left _ hc))
          · exact .inr (List.mem_append_right _ hc))) e' _ q2
theorem RFs.rev : ∀ {ds : List SW.D} {xs : List V} {F : List Addr}, RFs K G H ds xs F → ∃ F', RFs K G H ds.reverse xs.reverse F' ∧ F'.Perm F
  | [], _, _, h => by
    simp only [RFs] at h
    obtain ⟨rfl, rfl⟩ := h
    exact ⟨[], by simp [RFs], .refl _⟩
  | d :: ds, _, _, h => by
    simp only [RFs] at h
    obtain ⟨v, r, F1, F2, rfl, rfl, h1, h2⟩ := h
    obtain ⟨F', q, p⟩ := RFs.rev h2
    rw [List.reverse_cons, List.reverse_cons]
    refine ⟨F' ++ F1, RFs.join q ?_, (List.perm_append_comm).trans (List.Perm.append_left F1 p)⟩
    simp only [RFs]
    exact ⟨v, [], F1, [], rfl, by simp, h1, rfl, rfl⟩
theorem RFs.length : ∀ {ds : List SW.D} {xs : List V} {F : List Addr}, RFs K G H ds xs F → ds.length = xs.length
  | [], _, _, h => by simp only [RFs] at h; rw [h.1]; rfl
  | d :: ds, _, _, h => by
    simp only [RFs] at h
    obtain ⟨v, r, F1, F2, rfl, rfl, h1, h2⟩ := h
    simp [RFs.length h2]
end

/-- where indices lead; the last index first -/
def evJ (ρ : Env) (d : D) : List Ex → Option (List Nat × D)
  | [] => some ([], d)
  | k :: ks => match evJ ρ d ks with
    | some (js, .lst es) => match ev k ρ with
      | some (.int i, _) => match ixN es.length i with
        | some j => match es[j]? with
          | some e => some (js ++ [j], e)
          | none => none
        | none => none
      | _ => none
    | _ => none
theorem evJ_get {ρ : Env} {d : D} : ∀ {ks : List Ex} {js : List Nat} {e : D}, evJ ρ d ks = some (js, e) → getP js d = some e
  | [], js, e, h => by simp only [evJ, Option.some.injEq, Prod.mk.injEq] at h; obtain ⟨rfl, rfl⟩ := h; rfl
  | k :: ks, js, e, h => by
    simp only [evJ] at h
    split at h <;> try (cases h; done)
    rename_i js' es he
    split at h <;> try (cases h; done)
    split at h <;> try (cases h; done)
    split at h <;> cases h
    rename_i j _ _ hj
    exact getP_snoc hj js' d (evJ_get he)
def tPth (K : PySem.W.Frag) (i : Nat) (ks : List Ex) : TE := fun σ H Q => ∃ ρ G fp d js e, Ok K G H ρ σ fp ∧ ρ[i]? = some (some (d, .full)) ∧ evJ ρ d ks = some (js, e) ∧
  ∀ v w H' G', Same H H' → Ext H G G' → Same G' H' → σ[i]? = some (some v) → PathV H' v js w → Q w H'
section
variable {X : Cx} {H0 : Hp} {N : Nat} {pos : Pos}
theorem pe_pth0 {i : Nat} {e : Expr} (h : PE X e (tVar i)) : PE X e (tPth X.K i []) := h.imp fun σ H Q q => by
  obtain ⟨ρ, G, fp, d, js, e, I, es, ej, k⟩ := q
  simp only [evJ, Option.some.injEq, Prod.mk.injEq] at ej
  obtain ⟨rfl, rfl⟩ := ej
  obtain ⟨v, hv, _⟩ := I.get es
  exact ⟨v, hv, k v v H G (same_refl H) (Ext.refl H G) I.sub hv rfl⟩
theorem pe_pth1 {i : Nat} {ks : List Ex} {xk : Ex} {o k : Expr} (ho : PE X o (tPth X.K i ks)) (hk : PE X k (tX X.K xk)) (hs : PlainIx k) : PE X (.Subscript o k pos) (tPth X.K i (xk :: ks)) := (pe_ix ix_seq ho hk hs).imp fun σ H Q q => by
  obtain ⟨ρ, G, fp, d, js, e, I, es, ej, k⟩ := q
  simp only [evJ] at ej
  split at ej <;> try (cases ej; done)
  rename_i js' es' he
  split at ej <;> try (cases ej; done)
  rename_i n mk ek
  split at ej <;> try (cases ej; done)
  rename_i j hj
  split at ej <;> cases ej
  rename_i hje
  refine ⟨ρ, G, fp, d, js', _, I, es, he, fun v w H1 G1 s x z hv hw => ?_⟩
  refine ⟨ρ, G1, fp, .int n, mk, I.grow s x z, ek, fun y H2 G2 F s2 x2 z2 nd new r => ?_⟩
  have ey := r.isInt z2; subst ey
  have I2 := (I.grow s x z).grow s2 x2 z2
  obtain ⟨v2, hv2, rm⟩ := I2.get es
  rw [hv] at hv2; cases hv2
  obtain ⟨l, xs, F1, Fl, F2, hp, hl, _, hr, _⟩ := own_path js' d v _ _ rm (evJ_get he)
  have hw2 := PathV.mono s2 _ _ _ hw
  have := PathV.uniq _ _ _ _ hw2 hp
  subst this
  have hlen := hr.length
  have hjl : j < xs.length := by rw [← hlen]; exact (List.getElem?_eq_some_iff.mp hje).1
  refine .inl ⟨l, xs, n, xs[j], rfl, rfl, .inl (.inl hl), ?_, k v _ H2 G2 (s.trans s2) (x.trans s x2) z2 hv (PathV.snoc hl (List.getElem?_eq_getElem hjl) _ _ hp)⟩
  unfold L2.atI
  rw [← hlen, hj]
  exact List.getElem?_eq_getElem hjl
end
section
variable {K : PySem.W.Frag} {H0 G0 G H : Hp} {ρ : Env} {σ : L2.St} {fp : Nat → List Addr}
/-- a list at a place is changed -/
theorem Ok.path (I : Ok K G H ρ σ fp) (b : Bs H0 G0 G H fp) {i : Nat} {d : SW.D} {js : List Nat} {es : List SW.D} (ei : ρ[i]? = some (some (d, .full))) (hg : getP js d = some (.lst es)) :
    ∃ v l xs Fl, σ[i]? = some (some v) ∧ PathV H v js (.ref l) ∧ H l = some (.lst xs) ∧ RFs K G H es xs Fl ∧ Fl.Nodup ∧
      ∀ es' xs' Fl', RFs K (absb G H) H es' xs' Fl' → (∀ c ∈ Fl', c ∈ Fl) → Fl'.Nodup → ∃ d' fp', setP js (.lst es') d = some d' ∧ Ok K (absb G H) (upd H l (.lst xs')) ((dropB ρ).set i (some (d', .full))) σ fp' ∧ Bs H0 G0 (absb G H) (upd H l (.lst xs')) fp' ∧ ∀ j a, a ∈ fp' j → a ∈ fp j := by
  obtain ⟨v, hv, rm⟩ := I.get ei
  have hi : i < ρ.length := (List.getElem?_eq_some_iff.mp ei).1
  obtain ⟨l, xs, F1, Fl, F2, hp, hl, hF, hr, k⟩ := own_path js d v _ _ rm hg
  have hnd := I.nd i
  rw [hF] at hnd
  refine ⟨v, l, xs, Fl, hv, hp, hl, hr, (List.nodup_cons.mp (List.nodup_append.mp (List.nodup_append.mp hnd).1).2.1).2, fun es' xs' Fl' q hsub nd' => ?_⟩
  have hlm : l ∈ fp i := by rw [hF]; simp
  have hmu := I.mu i l hlm
  obtain ⟨nd12, nd2, dj2⟩ := List.nodup_append.mp hnd
  obtain ⟨nd1, ndl, dj1⟩ := List.nodup_append.mp nd12
  have l1 : l ∉ F1 := fun h => dj1 l h l (List.mem_cons_self ..) rfl
  have l2 : l ∉ F2 := fun h => dj2 l (List.mem_append_right _ (List.mem_cons_self ..)) l h rfl
  have ll : l ∉ Fl := (List.nodup_cons.mp ndl).1
  have ll' : l ∉ Fl' := fun h => ll (hsub l h)
  have gl : absb G H l = none := absb_none hmu (I.off i l hlm)
  have ki : ∀ a o, H a = some o → isImm o = true → upd H l (.lst xs') a = some o := fun a o e im => by
    obtain ⟨u, hu, iu⟩ := hmu
    rw [upd_ne fun h => by subst h; rw [hu] at e; cases e; rw [iu] at im; cases im]; exact e
  have q' : RFs K (absb G H) (upd H l (.lst xs')) es' xs' Fl' := RFs.keep (same_refl _) ki _ _ _ (fun a ha => upd_ne fun h => ll' (h ▸ ha)) q
  obtain ⟨d', hd', r'⟩ := k (absb G H) (upd H l (.lst xs')) (absb_ext I.sub).1.1 ki (fun c hc => upd_ne fun h => by
    subst h
    rcases hc with hc | hc
    · exact l1 hc
    · exact l2 hc) es' xs' Fl' upd_same q'
  have sub : ∀ a ∈ F1 ++ (l :: Fl') ++ F2, a ∈ fp i := fun a ha => by
    rw [hF]
    simp only [List.mem_append, List.mem_cons] at ha ⊢
    rcases ha with (ha | ha | ha) | ha
    · exact .inl (.inl ha)
    · exact .inl (.inr (.inl ha))
    · exact .inl (.inr (.inr (hsub a ha)))
    · exact .inr ha
  have ndF : (F1 ++ (l :: Fl') ++ F2).Nodup := by
    refine List.nodup_append.mpr ⟨List.nodup_append.mpr ⟨nd1, List.nodup_cons.mpr ⟨ll', nd'⟩, fun a ha c hc => dj1 a ha c ?_⟩, nd2, fun a ha c hc => dj2 a ?_ c hc⟩
    · rcases List.mem_cons.mp hc with rfl | hc
      · exact List.mem_cons_self ..
      · exact List.mem_cons_of_mem _ (hsub c hc)
    · rcases List.mem_append.mp ha with ha | ha
      · exact List.mem_append_left _ ha
      · refine List.mem_append_right _ ?_
        rcases List.mem_cons.mp ha with rfl | ha
        · exact List.mem_cons_self ..
        · exact List.mem_cons_of_mem _ (hsub a ha)
  refine ⟨d', _, hd', I.write hi hlm hv (absb_ext I.sub).1.1 (same_upd_of (absb_ext I.sub).2 gl) (m' := .full) r' ndF (fun a ha => ⟨absb_none (I.mu i a (sub a ha)) (I.off i a (sub a ha)), fun j hj h => hj (I.dj j i a h (sub a ha))⟩) (fun j a hj ha => absb_none (I.mu j a ha) (I.off j a ha)), ⟨?_, b.kG.trans b.kH (absb_ext I.sub).1, fun j a ha => ?_⟩, fun j a ha => ?_⟩
  · exact fun c o e => by rw [upd_ne (ne_of_none e (b.new i l hlm))]; exact b.kH _ _ e
  · by_cases c : j = i
    · simp only [c, if_true] at ha; exact b.new i a (sub a ha)
    · simp only [c, if_false] at ha; exact b.new j a ha
  · by_cases c : j = i
    · simp only [c, if_true] at ha; rw [c]; exact sub a ha
    · simpa only [c, if_false] using ha
theorem RFs.reab (I : Ok K G H ρ σ fp) {ds : List SW.D} {xs : List V} {F : List Addr} (h : RFs K G H ds xs F) : RFs K (absb G H) H ds xs F := RFs.keep (absb_ext I.sub).1.1 (fun a o e _ => e) _ _ _ (fun _ _ => rfl) h
end
/-- x[k]..append(e) -/
def gPApp (i : Nat) (ks : List Ex) (x : Ex) (ρ : Env) : Option Env := match ρ[i]? with
  | some (some (d, .full)) => match evJ ρ d ks with
    | some (js, .lst es) => match ev x ρ with
      | some p => if hasL p.1 = false ∧ es.length < SZ then match setP js (.lst (es ++ [p.1])) d with
        | some d' => some ((dropB ρ).set i (some (d', .full)))
        | none => none else none
      | none => none
    | _ => none
  | _ => none
/-- x[k]..pop() -/
def gPPop (i : Nat) (ks : List Ex) (ρ : Env) : Option Env := match ρ[i]? with
  | some (some (d, .full)) => match evJ ρ d ks with
    | some (js, .lst es) => if es ≠ [] then match setP js (.lst es.dropLast) d with
        | some d' => some ((dropB ρ).set i (some (d', .full)))
        | none => none else none
    | _ => none
  | _ => none
/-- target = x[k]..pop(), what is popped without lists -/
def gPPopD (p : Pt) (i : Nat) (ks : List Ex) (ρ : Env) : Option Env := match ρ[i]? with
  | some (some (d, .full)) => match evJ ρ d ks with
    | some (js, .lst es) => match es.getLast? with
      | some y => if hasL y = false then match setP js (.lst es.dropLast) d with
        | some d' => bindP p y .sh ((dropB ρ).set i (some (d', .full)))
        | none => none else none
      | none => none
    | _ => none
  | _ => none
/-- x[k]..reverse() -/
def gPRev (i : Nat) (ks : List Ex) (ρ : Env) : Option Env := match ρ[i]? with
  | some (some (d, .full)) => match evJ ρ d ks with
    | some (js, .lst es) => match setP js (.lst es.reverse) d with
        | some d' => some ((dropB ρ).set i (some (d', .full)))
        | none => none
    | _ => none
  | _ => none
/-- x[k]..insert(n, e) -/
def gPIns (i : Nat) (ks : List Ex) (n : Nat) (x : Ex) (ρ : Env) : Option Env := match ρ[i]? with
  | some (some (d, .full)) => match evJ ρ d ks with
    | some (js, .lst es) => match ev x ρ with
      | some p => if hasL p.1 = false ∧ es.length < SZ ∧ n < 1000000 then match setP js (.lst (es.take n ++ [p.1] ++ es.drop n)) d with
        | some d' => some ((dropB ρ).set i (some (d', .full)))
        | none => none else none
      | none => none
    | _ => none
  | _ => none
section
variable {X : Cx} {H0 : Hp} {N : Nat} {pos : Pos}
theorem qs_pApp {i : Nat} {ks : List Ex} {x : Ex} {o e call : Expr} (ho : PE X o (tPth X.K i ks)) (he : PE X e (tX X.K x)) (hcall : ∀ to t, PE X o to → PA X [e] t → PE X call (tBM X.K "list" rAppend to t))
    (hs : swapsWith call none pos.line X.env = pure false := by rfl) (hst : starEach [e] X.env = (false, eval e X.env) :: starEach [] X.env := by rfl) : PS X (.Expr call pos) (tS X.K H0 N (.gen (gPApp i ks x))) := by
  refine (ps_expr (hcall _ _ ho (pa_cons he pa_nil hst)) hs).imp fun D σ H h => ?_
  obtain ⟨G0, ρ, q0, ⟨G, fp, I, b⟩, e, fi⟩ := h
  simp only [evS] at e
  split at e <;> cases e
  rename_i ρ' eg
  unfold gPApp at eg
  split at eg <;> try (cases eg; done)
  rename_i d ei
  split at eg <;> try (cases eg; done)
  rename_i js es ej
  split at eg <;> try (cases eg; done)
  rename_i p ee
  split at eg <;> try (cases eg; done)
  rename_i hc
  split at eg <;> cases eg
  rename_i d' hd'
  refine ⟨ρ, G, fp, d, js, _, I, ei, ej, fun v w H1 G1 s x z hv hw => ?_⟩
  obtain ⟨v', l, xs, Fl, hv', hp, hl, hr, _, _⟩ := (I.grow s x z).path (b.grow s x) ei (evJ_get ej)
  rw [hv] at hv'; cases hv'
  have := PathV.uniq _ _ _ _ hw hp
  subst this
  refine ⟨.inl ⟨rfl, xs, .inl (.inl hl)⟩, ?_⟩
  refine At.expr2 (I.grow s x z) (b.grow s x) (d := p.1) (m := p.2) ee fun y H2 G2 F s2 x2 I2 b2 r2 nd2 new2 => ?_
  obtain ⟨v', l', xs', Fl', hv', hp', hl', hr', hndF, k⟩ := I2.path b2 ei (evJ_get ej)
  rw [hv] at hv'; cases hv'
  have := PathV.uniq _ _ _ _ (PathV.mono s2 _ _ _ hp) hp'
  cases this
  have ry : R X.K (absb G2 H2) p.1 y := R.absb I2.sub _ _ hc.1 (r2.r I2.sub)
  obtain ⟨d2, fp', e2, I3, b3, _⟩ := k (es ++ [p.1]) (xs' ++ [y]) (Fl' ++ []) (RFs.join (RFs.reab I2 hr') (by simp only [RFs]; exact ⟨y, [], [], [], rfl, rfl, (RF.flat _ _ _ hc.1).mpr ⟨rfl, ry⟩, rfl, rfl⟩)) (fun c hc => by simpa using hc) (by simpa using hndF)
  rw [hd'] at e2; cases e2
  exact ⟨l, xs', y, rfl, rfl, hl', by rw [← hr'.length, ← SZ_eq]; exact hc.2, fi _ _ ⟨_, _, I3, b3⟩⟩
theorem dropLast_split {α : Type} {l : List α} {y : α} (h : l.getLast? = some y) : l = l.dropLast ++ [y] := by
  cases l with
  | nil => simp at h
  | cons a l =>
    rw [List.getLast?_eq_some_getLast (by simp)] at h
    cases h
    exact (List.dropLast_concat_getLast (by simp)).symm
/-- what pop does at a place -/
theorem pop_at {K : PySem.W.Frag} {H0 G0 G H : Hp} {ρ : Env} {σ : L2.St} {fp : Nat → List Addr} (I : Ok K G H ρ σ fp) (b : Bs H0 G0 G H fp) {i : Nat} {d d' y : SW.D} {js : List Nat} {es : List SW.D} (ei : ρ[i]? = some (some (d, .full))) (hg : getP js d = some (.lst es)) (hy : es.getLast? = some y) (hd' : setP js (.lst es.dropLast) d = some d')
    {v w : V} (hv : σ[i]? = some (some v)) (hw : PathV H v js w) : ∃ l xs u fp', w = .ref l ∧ H l = some (.lst xs) ∧ xs[xs.length - 1]? = some u ∧ (hasL y = false → R K G y u) ∧ Ok K (absb G H) (upd H l (.lst xs.dropLast)) ((dropB ρ).set i (some (d', .full))) σ fp' ∧ Bs H0 G0 (absb G H) (upd H l (.lst xs.dropLast)) fp' := by
  obtain ⟨v', l, xs, Fl, hv', hp, hl, hr, hnd, k⟩ := I.path b ei hg
  rw [hv] at hv'; cases hv'
  have := PathV.uniq _ _ _ _ hw hp
  subst this
  have es2 := dropLast_split hy
  rw [es2] at hr
  obtain ⟨xs1, xs2, F1, F2, rfl, rfl, r1, r2⟩ := RFs.split hr
  simp only [RFs] at r2
  obtain ⟨u, r3, F3, F4, rfl, rfl, r4, rfl, rfl⟩ := r2
  obtain ⟨d2, fp', e2, I2, b2, _⟩ := k es.dropLast xs1 F1 (RFs.reab I r1) (fun c hc => List.mem_append_left _ hc) (List.nodup_append.mp hnd).1
  rw [hd'] at e2; cases e2
  have exd : (xs1 ++ [u]).dropLast = xs1 := by simp
  refine ⟨l, xs1 ++ [u], u, fp', rfl, hl, by simp, fun h => ((RF.flat _ _ _ h).mp r4).2, ?_, ?_⟩
  · rw [exd]; exact I2
  · rw [exd]; exact b2
theorem qs_pPop {i : Nat} {ks : List Ex} {o call : Expr} (ho : PE X o (tPth X.K i ks)) (hcall : ∀ to, PE X o to → PE X call (tBM0 X.K "list" rPop to))
    (hs : swapsWith call none pos.line X.env = pure false := by rfl) : PS X (.Expr call pos) (tS X.K H0 N (.gen (gPPop i ks))) := by
  refine (ps_expr (hcall _ ho) hs).imp fun D σ H h => ?_
  obtain ⟨G0, ρ, q0, ⟨G, fp, I, b⟩, e, fi⟩ := h
  simp only [evS] at e
  split at e <;> cases e
  rename_i ρ' eg
  unfold gPPop at eg
  split at eg <;> try (cases eg; done)
  rename_i d ei
  split at eg <;> try (cases eg; done)
  rename_i js es ej
  split at eg <;> try (cases eg; done)
  rename_i hne
  split at eg <;> cases eg
  rename_i d' hd'
  refine ⟨ρ, G, fp, d, js, _, I, ei, ej, fun v w H1 G1 s x z hv hw => ?_⟩
  obtain ⟨y, hy⟩ : ∃ y, es.getLast? = some y := ⟨_, List.getLast?_eq_some_getLast hne⟩
  obtain ⟨l, xs, u, fp', rfl, hl, hu, _, I2, b2⟩ := pop_at (I.grow s x z) (b.grow s x) ei (evJ_get ej) hy hd' hv hw
  exact ⟨.inl ⟨rfl, xs, .inl (.inl hl)⟩, l, xs, u, rfl, rfl, hl, hu, fi _ _ ⟨_, _, I2, b2⟩⟩
theorem qs_pPopD {i : Nat} {p : Pt} {ks : List Ex} {tg o call : Expr} (ho : PE X o (tPth X.K i ks)) (hg : PG X tg (tG X.K p)) (hcall : ∀ to, PE X o to → PE X call (tBM0 X.K "list" rPop to))
    (hs : swapsWithSole [tg] call pos.line X.env = pure false := by rfl) (hw : swappedStores [tg] call X.env = pure none := by rfl) (h1 : (assignEach [tg] X.env).map (·.2) = [assign tg X.env] := by rfl) : PS X (.Assign [tg] call pos) (tS X.K H0 N (.gen (gPPopD p i ks))) := by
  refine (ps_asg (hcall _ ho) hg hs hw h1).imp fun D σ H h => ?_
  obtain ⟨G0, ρ, q0, ⟨G, fp, I, b⟩, e, fi⟩ := h
  simp only [evS] at e
  split at e <;> cases e
  rename_i ρ' eg
  unfold gPPopD at eg
  split at eg <;> try (cases eg; done)
  rename_i d ei
  split at eg <;> try (cases eg; done)
  rename_i js es ej
  split at eg <;> try (cases eg; done)
  rename_i y hy
  split at eg <;> try (cases eg; done)
  rename_i hyl
  split at eg <;> try (cases eg; done)
  rename_i d' hd'
  refine ⟨ρ, G, fp, d, js, _, I, ei, ej, fun v w H1 G1 s x z hv hw => ?_⟩
  obtain ⟨l, xs, u, fp', rfl, hl, hu, hr, I2, b2⟩ := pop_at (I.grow s x z) (b.grow s x) ei (evJ_get ej) hy hd' hv hw
  refine ⟨.inl ⟨rfl, xs, .inl (.inl hl)⟩, l, xs, u, rfl, rfl, hl, hu, ?_⟩
  refine ⟨_, _, fp', y, .sh, [], _, I2, ⟨rfl, R.mono (absb_ext (I.grow s x z).sub).1.1 _ _ (hr hyl)⟩, List.nodup_nil, (fun a ha => nomatch ha), eg, fun σ' fp2 I3 hf _ => fi _ _ ⟨_, _, I3, b2.kH, b2.kG, fun j a ha => ?_⟩⟩
  rcases hf j a ha with ⟨k, hk⟩ | hk
  · exact b2.new k a hk
  · exact nomatch hk
theorem qs_pRev {i : Nat} {ks : List Ex} {o call : Expr} (ho : PE X o (tPth X.K i ks)) (hcall : ∀ to, PE X o to → PE X call (tBM0 X.K "list" rReverse to))
    (hs : swapsWith call none pos.line X.env = pure false := by rfl) : PS X (.Expr call pos) (tS X.K H0 N (.gen (gPRev i ks))) := by
  refine (ps_expr (hcall _ ho) hs).imp fun D σ H h => ?_
  obtain ⟨G0, ρ, q0, ⟨G, fp, I, b⟩, e, fi⟩ := h
  simp only [evS] at e
  split at e <;> cases e
  rename_i ρ' eg
  unfold gPRev at eg
  split at eg <;> try (cases eg; done)
  rename_i d ei
  split at eg <;> try (cases eg; done)
  rename_i js es ej
  split at eg <;> cases eg
  rename_i d' hd'
  refine ⟨ρ, G, fp, d, js, _, I, ei, ej, fun v w H1 G1 s x z hv hw => ?_⟩
  have I1 := I.grow s x z
  obtain ⟨v', l, xs, Fl, hv', hp, hl, hr, hnd, k⟩ := I1.path (b.grow s x) ei (evJ_get ej)
  rw [hv] at hv'; cases hv'
  have := PathV.uniq _ _ _ _ hw hp
  subst this
  obtain ⟨F', q, pm⟩ := RFs.rev hr
  obtain ⟨d2, fp', e2, I2, b2, _⟩ := k es.reverse xs.reverse F' (RFs.reab I1 q) (fun c hc => pm.mem_iff.mp hc) (pm.nodup_iff.mpr hnd)
  rw [hd'] at e2; cases e2
  exact ⟨.inl ⟨rfl, xs, .inl (.inl hl)⟩, l, xs, rfl, rfl, hl, fi _ _ ⟨_, _, I2, b2⟩⟩
theorem qs_pIns {i n : Nat} {ks : List Ex} {x : Ex} {o k e call : Expr} (ho : PE X o (tPth X.K i ks)) (hk : PE X k (tC (.int n))) (he : PE X e (tX X.K x)) (hcall : ∀ to t, PE X o to → PA X [k, e] t → PE X call (tBM X.K "list" (fun x vs H Q => ∃ (l : Addr) (xs : List V) (i : Int) (y : V), x = .ref l ∧ vs = [.int i, y] ∧ H l = some (.lst xs) ∧ xs.length < sizeLine ∧ 0 ≤ i ∧ i < 2 ^ 63 ∧ Q .non (upd H l (.lst (xs.take i.toNat ++ [y] ++ xs.drop i.toNat)))) to t))
    (hs : swapsWith call none pos.line X.env = pure false := by rfl) (hst : starEach [k, e] X.env = (false, eval k X.env) :: starEach [e] X.env := by rfl) (hst2 : starEach [e] X.env = (false, eval e X.env) :: starEach [] X.env := by rfl) : PS X (.Expr call pos) (tS X.K H0 N (.gen (gPIns i ks n x))) := by
  refine (ps_expr (hcall _ _ ho (pa_cons hk (pa_cons he pa_nil hst2) hst)) hs).imp fun D σ H h => ?_
  obtain ⟨G0, ρ, q0, ⟨G, fp, I, b⟩, e, fi⟩ := h
  simp only [evS] at e
  split at e <;> cases e
  rename_i ρ' eg
  unfold gPIns at eg
  split at eg <;> try (cases eg; done)
  rename_i d ei
  split at eg <;> try (cases eg; done)
  rename_i js es ej
  split at eg <;> try (cases eg; done)
  rename_i p ee
  split at eg <;> try (cases eg; done)
  rename_i hc
  split at eg <;> cases eg
  rename_i d' hd'
  refine ⟨ρ, G, fp, d, js, _, I, ei, ej, fun v w H1 G1 s x z hv hw => ?_⟩
  obtain ⟨v', l, xs, Fl, hv', hp, hl, hr, _, _⟩ := (I.grow s x z).path (b.grow s x) ei (evJ_get ej)
  rw [hv] at hv'; cases hv'
  have := PathV.uniq _ _ _ _ hw hp
  subst this
  refine ⟨.inl ⟨rfl, xs, .inl (.inl hl)⟩, ?_⟩
  refine At.expr2 (I.grow s x z) (b.grow s x) (d := p.1) (m := p.2) ee fun y H2 G2 F s2 x2 I2 b2 r2 nd2 new2 => ?_
  obtain ⟨v', l', xs', Fl', hv', hp', hl', hr', hndF, k⟩ := I2.path b2 ei (evJ_get ej)
  rw [hv] at hv'; cases hv'
  have := PathV.uniq _ _ _ _ (PathV.mono s2 _ _ _ hp) hp'
  cases this
  have ry : R X.K (absb G2 H2) p.1 y := R.absb I2.sub _ _ hc.1 (r2.r I2.sub)
  have hr2 := RFs.reab I2 hr'
  have hlen := hr'.length
  rw [← List.take_append_drop n es] at hr2
  obtain ⟨xs1, xs2, F1, F2, hx, rfl, r1, r3⟩ := RFs.split hr2
  have hl1 : xs1.length = min n xs'.length := by rw [← r1.length, List.length_take, hlen]
  have e1 : xs'.take n = xs1 := by
    rw [hx, List.take_append]
    by_cases c : n ≤ xs'.length
    · rw [show n - xs1.length = 0 by omega, show n = xs1.length by omega]; simp
    · have : xs2 = [] := by
        have := congrArg List.length hx
        rw [List.length_append] at this
        exact List.eq_nil_of_length_eq_zero (by omega)
      subst this
      rw [List.take_of_length_le (by omega)]; simp
  have e2 : xs'.drop n = xs2 := by
    have := List.take_append_drop n xs'
    rw [e1] at this
    exact List.append_cancel_left (this.trans hx)
  obtain ⟨d2, fp', e3, I3, b3, _⟩ := k (es.take n ++ [p.1] ++ es.drop n) (xs1 ++ [y] ++ xs2) (F1 ++ [] ++ F2) (RFs.join (RFs.join r1 (by simp only [RFs]; exact ⟨y, [], [], [], rfl, rfl, (RF.flat _ _ _ hc.1).mpr ⟨rfl, ry⟩, rfl, rfl⟩)) r3) (fun c hc => by simpa using hc) (by simpa using hndF)
  rw [hd'] at e3; cases e3
  refine ⟨l, xs', n, y, rfl, rfl, hl', by rw [← hlen, ← SZ_eq]; exact hc.2.1, by omega, by omega, fi _ _ ?_⟩
  rw [show ((n : Int)).toNat = n by omega, e1, e2]
  exact ⟨_, _, I3, b3⟩
end
end SW
namespace SW
open PySem PySem.Spec PyProof.Rows L2

/-! ### zip of two texts -/
def ItzS (x y : Str) : It :=
  ⟨fun i _ => i < min x.cps.size y.cps.size, fun i H v H' => ∃ T c d, v = .ref T ∧ H T = none ∧ H' = upd H T (.tup [.str ⟨#[c]⟩, .str ⟨#[d]⟩]) ∧ x.cps[i]? = some c ∧ y.cps[i]? = some d, fun i _ => min x.cps.size y.cps.size ≤ i⟩
theorem turn_zipS {P : Program} {w : World} {K : PySem.W.Frag} {elts : List Expr} {kk : Nat} {tpos : Pos} (x y : Str) (tx ty : Tok) {z TI TO i1 i2 : Addr} (D : ZipSep2 z TI TO i1 i2 [i1] [i2]) :
    Turn P w K (.Tuple elts kk tpos) (ItzS x y) [z, TI, TO, i1, i2] z (fun i h => IsZip h z TI TO .none ∧ IsPair h TI (.ref i1) (.ref i2) ∧ (∃ a b, IsPair h TO a b) ∧ h.IsStrIter i1 (strIterType x) x tx i ∧ h.IsStrIter i2 (strIterType y) y ty i ∧ i ≤ min x.cps.size y.cps.size) where
  mem := by simp
  obj := fun i h st c hc => by
    obtain ⟨hz, hTI, ⟨a, b, hTO⟩, ⟨o1, e1, _, d1⟩, ⟨o2, e2, _, d2⟩, _⟩ := st
    have e' : c = z ∨ c = TI ∨ c = TO ∨ c = i1 ∨ c = i2 := by simpa using hc
    rcases e' with q | q | q | q | q
    · rw [q]; exact ⟨_, hz, fun v q => nomatch q⟩
    · rw [q]; exact ⟨_, hTI, fun v q => nomatch q⟩
    · rw [q]; exact ⟨_, hTO, fun v q => nomatch q⟩
    · rw [q]; exact ⟨o1, e1, fun v q => by rw [d1] at q; cases q⟩
    · rw [q]; exact ⟨o2, e2, fun v q => by rw [d2] at q; cases q⟩
  keep := fun i h h' st k => by
    obtain ⟨hz, hTI, ⟨a, b, hTO⟩, ⟨o1, e1, r1⟩, ⟨o2, e2, r2⟩, hle⟩ := st
    exact ⟨k z (by simp) _ hz, k TI (by simp) _ hTI, ⟨a, b, k TO (by simp) _ hTO⟩, ⟨o1, k i1 (by simp) _ e1, r1⟩, ⟨o2, k i2 (by simp) _ e2, r2⟩, hle⟩
  item := by
    intro X hP hw hK hc i pins s σ H E I hf st hg
    subst hP hw hK
    obtain ⟨hz, hTI, ⟨x0, y0, hTO⟩, h1, h2, hle⟩ := st
    have hzl : z < s.heap.objs.size := Heap.lt_size hz
    have D1 := Draws.text (prog := X.prog) (w := X.w) (A := X.A.in1) (I.ok.hd hc) i1 x tx
    have D2 := Draws.text (prog := X.prog) (w := X.w) (A := X.A.in1) (I.ok.hd hc) i2 y ty
    have hgm : i < min x.cps.size y.cps.size := hg
    refine wpAny_pyNext_zipD2_item D D1 D2 hz hTI hTO h1 h2 (by omega) (by omega) fun u1 u2 h' tk p1 p2 z' TO' h1' h2' hT hsz hk => ?_
    obtain ⟨c, t1, ec, rfl⟩ := p1
    obtain ⟨d, t2, ed, rfl⟩ := p2
    refine ⟨_, rfl, wpAny_letOwnedTupleGo_zip (s := { s with heap := h', toks := tk }) z' fun h'' z'' sb => ?_⟩
    have hT2 : h''.get? s.heap.objs.size = some { cls := .type "tuple", data := .seq #[.str ⟨#[c]⟩ t1, .str ⟨#[d]⟩ t2] } := (sb.2 _ (Nat.ne_of_gt hzl)).trans hT
    have new : ObjOk X.prog X.w (upd H s.heap.objs.size (.tup [.str ⟨#[c]⟩, .str ⟨#[d]⟩])) h'' s.heap.objs.size (.tup [.str ⟨#[c]⟩, .str ⟨#[d]⟩]) :=
      ⟨by show 2 ≤ sizeLine; decide, [.str ⟨#[c]⟩ t1, .str ⟨#[d]⟩ t2], .cons ⟨_, rfl⟩ (.cons ⟨_, rfl⟩ .nil), ⟨_, hT2, rfl, _, rfl⟩⟩
    have n1 : z ≠ i1 := D.zi1
    have n2 : z ≠ i2 := D.zi2
    have I1 : Inv X pins σ (upd H s.heap.objs.size (.tup [.str ⟨#[c]⟩, .str ⟨#[d]⟩])) { s with heap := h'', toks := tk } :=
      I.turnedNew (t' := tk) (ch := [z, TI, TO, i1, i2]) (fun c o hb q => (sb.2 c (fun q' => hb (by simp [q']))).trans (hk c o (fun q' => hb (by simp [q'])) (fun q' => hb (by simp [q'])) (fun q' => hb (by simp [q'])) (fun q' => hb (by simp [q'])) q)) hf (Nat.le_refl _) new
    refine ⟨.ref s.heap.objs.size, _, I1, rfl, ⟨_, c, d, rfl, I.hok.fresh (Nat.le_refl _), rfl, ec, ed⟩, ⟨z'', ?_, ⟨.str ⟨#[c]⟩ t1, .str ⟨#[d]⟩ t2, ?_⟩, ?_, ?_, hgm⟩, fun c hcm => ?_⟩
    · exact (sb.2 _ D.TIz).trans (hk _ _ D.TIz D.TITO D.TIi1 D.TIi2 hTI)
    · exact (sb.2 _ D.TOz).trans TO'
    · obtain ⟨o, ho, r⟩ := h1'
      exact ⟨o, (sb.2 _ (Ne.symm n1)).trans ho, r⟩
    · obtain ⟨o, ho, r⟩ := h2'
      exact ⟨o, (sb.2 _ (Ne.symm n2)).trans ho, r⟩
    · have hlt : c < s.heap.objs.size := by
        have e' : c = z ∨ c = TI ∨ c = TO ∨ c = i1 ∨ c = i2 := by simpa using hcm
        rcases e' with q | q | q | q | q
        · rw [q]; exact hzl
        · rw [q]; exact Heap.lt_size hTI
        · rw [q]; exact Heap.lt_size hTO
        · rw [q]; obtain ⟨_, e1, _⟩ := h1; exact Heap.lt_size e1
        · rw [q]; obtain ⟨_, e2, _⟩ := h2; exact Heap.lt_size e2
      rw [upd_ne (Nat.ne_of_lt hlt)]
      exact (hf c hcm).1
  done := by
    intro X hP hw hK hc i pins s σ H E I hf st hg
    subst hP hw hK
    obtain ⟨hz, hTI, ⟨x0, y0, hTO⟩, h1, h2, hle⟩ := st
    have D1 := Draws.text (prog := X.prog) (w := X.w) (A := X.A.in1) (I.ok.hd hc) i1 x tx
    have D2 := Draws.text (prog := X.prog) (w := X.w) (A := X.A.in1) (I.ok.hd hc) i2 y ty
    have hgm : min x.cps.size y.cps.size ≤ i := hg
    exact wpAny_pyNext_zipD2_end D D1 D2 hz hTI hTO h1 h2 (by omega) (by omega) (by omega) fun h' tk hk => ⟨rfl, I.turnedL (t' := tk) (ch := [z, TI, TO, i1, i2]) (fun c o hb q =>
      hk c o (fun q' => hb (by simp [q'])) (fun q' => hb (by simp [q'])) (fun q' => hb (by simp [q'])) (fun q' => hb (by simp [q'])) q) hf⟩
  self := fun A i s Q E st h => wpAny_pyIter_zip st.1 h
theorem sep2_of (n : Nat) : ZipSep2 (n + 4) (n + 2) (n + 3) n (n + 1) [n] [n + 1] where
  TIz := fun h => by have : (n + 2 : Nat) = n + 4 := h; omega
  TOz := fun h => by have : (n + 3 : Nat) = n + 4 := h; omega
  TITO := fun h => by have : (n + 2 : Nat) = n + 3 := h; omega
  TIi1 := fun h => by have : (n + 2 : Nat) = n := h; omega
  mem1 := by simp
  zf1 := fun h => by have : (n + 4 : Nat) = n := List.mem_singleton.mp h; omega
  Tf1 := fun h => by have : (n + 3 : Nat) = n := List.mem_singleton.mp h; omega
  TIi2 := fun h => by have : (n + 2 : Nat) = n + 1 := h; omega
  mem2 := by simp
  zf2 := fun h => by have : (n + 4 : Nat) = n + 1 := List.mem_singleton.mp h; omega
  Tf2 := fun h => by have : (n + 3 : Nat) = n + 1 := List.mem_singleton.mp h; omega
  sep1_2 := fun h => by have : (n : Nat) = n + 1 := List.mem_singleton.mp h; omega
  sep2_1 := fun h => by have : (n + 1 : Nat) = n := List.mem_singleton.mp h; omega
def iZipS (ta : TA) : TI := fun σ H R => ta σ H fun vs H1 => ∃ x y, vs = [.str x, .str y] ∧ R (ItzS x y) H1
theorem pi_zipS {X : Cx} {e e2 : Expr} {ta : TA} {p pos tpos : Pos} {elts : List Expr} {kk : Nat} (hg : Gl X "zip") (hm : X.mg "zip" = none) (ha : PA X [e, e2] ta)
    (hs : starEach [e, e2] X.env = (false, eval e X.env) :: starEach [e2] X.env := by rfl) (hpl : (backTo pos (starEach [e2] X.env)).any (·.1) = false := by rfl) :
    PI X (.Tuple elts kk tpos) (.Call (.Name "zip" p) [e, e2] [] pos) (iZipS ta) := by
  refine ⟨fun pins s σ H R I h => ?_⟩
  refine Call_ (ld_blt I hg hm PyProof.Rows.boot_zip (PyProof.Rows.callWith_type1 (thn (ha.run pos pins s σ H _ I h) fun us s1 ⟨vs, H1, I1, r1, q1⟩ => ?_) hs hpl))
  obtain ⟨x, y, ex, q⟩ := q1
  subst ex
  cases r1 with
  | cons r rr =>
    cases rr with
    | cons r' rr =>
      cases rr
      obtain ⟨tx, rfl⟩ := r
      obtain ⟨ty, rfl⟩ := r'
      refine zip_begins2 (begins_text x tx) (begins_text y ty) trivial trivial fun h' hz hTI hTO h1 h2 hsz hk => wpAny_pyIter_zip hz ?_
      have I2 : Inv X pins σ H1 { s1 with heap := h' } := I1.kept (t' := s1.toks) hk
      refine ⟨s1.heap.objs.size + 4, [s1.heap.objs.size + 4, s1.heap.objs.size + 2, s1.heap.objs.size + 3, s1.heap.objs.size, s1.heap.objs.size + 1], _, _, H1, rfl, I2, turn_zipS x y tx ty (sep2_of s1.heap.objs.size), ⟨hz, hTI, ⟨_, _, hTO⟩, ⟨_, h1, rfl, rfl⟩, ⟨_, h2, rfl, rfl⟩, Nat.zero_le _⟩, fun c hcm => ?_, q⟩
      have e' : c = s1.heap.objs.size + 4 ∨ c = s1.heap.objs.size + 2 ∨ c = s1.heap.objs.size + 3 ∨ c = s1.heap.objs.size ∨ c = s1.heap.objs.size + 1 := by simpa using hcm
      have hle : s1.heap.objs.size ≤ c := by
        rcases e' with z | z | z | z | z <;> rw [z]
        · exact Nat.le_add_right _ _
        · exact Nat.le_add_right _ _
        · exact Nat.le_add_right _ _
        · exact Nat.le_refl _
        · exact Nat.le_add_right _ _
      exact I1.fpOk hle (I1.hok.fresh hle)
theorem yl_zipS {K : PySem.W.Frag} {G B : Hp} {s t : List Nat} : Yl K (ItzS ⟨s.toArray⟩ ⟨t.toArray⟩) (zpD (strD s) (strD t)) .sh B G := by
  intro i H1 sB
  refine ⟨fun hi => ?_, fun d hd => ?_⟩
  · show min s.toArray.size t.toArray.size ≤ i
    rw [zpD_len] at hi; simp [strD] at hi ⊢; omega
  · obtain ⟨a, b, ha, hb, rfl⟩ := zpD_get _ _ _ _ hd
    simp only [strD, List.getElem?_map, Option.map_eq_some_iff] at ha hb
    obtain ⟨c, hc, rfl⟩ := ha
    obtain ⟨d, hd', rfl⟩ := hb
    have hi : i < s.length := (List.getElem?_eq_some_iff.mp hc).1
    have hi2 : i < t.length := (List.getElem?_eq_some_iff.mp hd').1
    refine ⟨by show i < min s.toArray.size t.toArray.size; simp; omega, fun x H' hy => ?_⟩
    obtain ⟨T, c', d', rfl, nT, rfl, hc', hd''⟩ := hy
    have e1 : c' = c := by
      have h : s.toArray[i]? = some c' := hc'
      rw [List.getElem?_toArray, hc] at h
      exact (Option.some.inj h).symm
    have e2 : d' = d := by
      have h : t.toArray[i]? = some d' := hd''
      rw [List.getElem?_toArray, hd'] at h
      exact (Option.some.inj h).symm
    subst e1 e2
    refine ⟨same_upd nT, fun G' s' sG => ?_⟩
    have q := pair_new (K := K) (d := .str [c']) (e := .str [d']) (x := .str ⟨#[c']⟩) (y := .str ⟨#[d']⟩) s' nT (by simp [R]) (by simp [R])
    exact ⟨_, q.2.1, q.2.2.1, q.2.2.2⟩
def igZipS : IG := fun as => match as with
  | [(.str a, _), (.str b, _)] => some (zpD (strD a) (strD b), .sh, true)
  | _ => none
theorem pix_zipS {X : Cx} {e e2 : Expr} {xs : List Ex} {p pos tpos : Pos} {elts : List Expr} {kk : Nat} (hg : Gl X "zip") (hm : X.mg "zip" = none) (ha : PA X [e, e2] (tAR X.K xs))
    (hs : starEach [e, e2] X.env = (false, eval e X.env) :: starEach [e2] X.env := by rfl) (hpl : (backTo pos (starEach [e2] X.env)).any (·.1) = false := by rfl) :
    PI X (.Tuple elts kk tpos) (.Call (.Name "zip" p) [e, e2] [] pos) (tI X.K igZipS xs) := by
  refine ⟨fun pins s σ H R I q => ?_⟩
  obtain ⟨as, ds, m, st, ei, h⟩ := tI_args q
  refine (pi_zipS hg hm ha hs hpl).run pins s σ H R I ?_
  unfold igZipS at ei
  split at ei <;> cases ei
  obtain ⟨ρ, G, fp, as', I', ea, k⟩ := h
  refine ⟨ρ, G, fp, as', I', ea, fun vs H' G' F s1 e1 z1 nd new r => ?_⟩
  obtain ⟨G1, z, ra, hh⟩ := k vs H' G' F s1 e1 z1 nd new r
  obtain ⟨v, w, rfl, r1, r2⟩ := ra.two
  have e1 := r1.isStr z; subst e1
  have e2 := r2.isStr z; subst e2
  exact ⟨_, _, rfl, hh _ G1 z (fun _ => same_refl G1) yl_zipS⟩
end SW
namespace K19
open PySem PySem.Spec PyProof.Rows L2 SW
def topS (i : Nat) : Stmt := PySem.Challenge.pw_strikeword_k19_whole_holds.main.body.getD i (.Pass ⟨0, 0, 0, 0⟩)
abbrev s__law_rows : Stmt := topS 29
abbrev N__law_rows : List Str := ["_law_most", "_law_letters", "_law_found", "_law_line", "_law_turn", "_law_more", "_law_row", "_law_letter"]
abbrev P__law_rows : List Str := ["_law_most", "_law_letters"]
theorem S__law_rows : FnScope N__law_rows P__law_rows (defScope s__law_rows) := ⟨rfl, rfl, rfl, by decide +kernel, rfl, by decide +kernel, by decide +kernel⟩
abbrev s__law_draw : Stmt := topS 19
abbrev N__law_draw : List Str := ["_law_cell", "_law_k", "_law_most", "_law_primes"]
abbrev P__law_draw : List Str := ["_law_cell", "_law_k", "_law_most"]
theorem S__law_draw : FnScope N__law_draw P__law_draw (defScope s__law_draw) := ⟨rfl, rfl, rfl, by decide +kernel, rfl, by decide +kernel, by decide +kernel⟩
abbrev s__law_number : Stmt := topS 20
abbrev N__law_number : List Str := ["_law_cell", "_law_k", "_law_limit"]
abbrev P__law_number : List Str := ["_law_cell", "_law_k", "_law_limit"]
theorem S__law_number : FnScope N__law_number P__law_number (defScope s__law_number) := ⟨rfl, rfl, rfl, by decide +kernel, rfl, by decide +kernel, by decide +kernel⟩
abbrev s__law_cell_at : Stmt := topS 18
abbrev N__law_cell_at : List Str := ["_law_script", "_law_k"]
abbrev P__law_cell_at : List Str := ["_law_script", "_law_k"]
theorem S__law_cell_at : FnScope N__law_cell_at P__law_cell_at (defScope s__law_cell_at) := ⟨rfl, rfl, rfl, by decide +kernel, rfl, by decide +kernel, by decide +kernel⟩
abbrev s__law_part : Stmt := topS 23
abbrev N__law_part : List Str := ["_law_cell", "_law_at", "_law_many", "_law_which", "_law_k", "_law_letter"]
abbrev P__law_part : List Str := ["_law_cell", "_law_at", "_law_many"]
theorem S__law_part : FnScope N__law_part P__law_part (defScope s__law_part) := ⟨rfl, rfl, rfl, by decide +kernel, rfl, by decide +kernel, by decide +kernel⟩
abbrev s__law_piece : Stmt := topS 24
abbrev N__law_piece : List Str := ["_law_script", "_law_by", "_law_most", "_law_found", "_law_k"]
abbrev P__law_piece : List Str := ["_law_script", "_law_by", "_law_most"]
theorem S__law_piece : FnScope N__law_piece P__law_piece (defScope s__law_piece) := ⟨rfl, rfl, rfl, by decide +kernel, rfl, by decide +kernel, by decide +kernel⟩
abbrev s__law_set : Stmt := topS 25
abbrev N__law_set : List Str := ["_law_script", "_law_by", "_law_most", "_law_parts", "_law_many", "_law_k"]
abbrev P__law_set : List Str := ["_law_script", "_law_by", "_law_most", "_law_parts"]
theorem S__law_set : FnScope N__law_set P__law_set (defScope s__law_set) := ⟨rfl, rfl, rfl, by decide +kernel, rfl, by decide +kernel, by decide +kernel⟩
abbrev s__law_full : Stmt := topS 28
abbrev N__law_full : List Str := ["_law_piece_here", "_law_many", "_law_part_here"]
abbrev P__law_full : List Str := ["_law_piece_here", "_law_many"]
theorem S__law_full : FnScope N__law_full P__law_full (defScope s__law_full) := ⟨rfl, rfl, rfl, by decide +kernel, rfl, by decide +kernel, by decide +kernel⟩
abbrev s__law_word : Stmt := topS 21
abbrev N__law_word : List Str := ["_law_script", "_law_by", "_law_most", "_law_many", "_law_found", "_law_k", "_law_cell"]
abbrev P__law_word : List Str := ["_law_script", "_law_by", "_law_most", "_law_many"]
theorem S__law_word : FnScope N__law_word P__law_word (defScope s__law_word) := ⟨rfl, rfl, rfl, by decide +kernel, rfl, by decide +kernel, by decide +kernel⟩
abbrev s__law_says : Stmt := topS 22
abbrev N__law_says : List Str := ["_law_said", "_law_due"]
abbrev P__law_says : List Str := ["_law_said", "_law_due"]
theorem S__law_says : FnScope N__law_says P__law_says (defScope s__law_says) := ⟨rfl, rfl, rfl, by decide +kernel, rfl, by decide +kernel, by decide +kernel⟩
abbrev s_is_letter : Stmt := topS 6
abbrev N_is_letter : List Str := ["thing"]
abbrev P_is_letter : List Str := ["thing"]
theorem S_is_letter : FnScope N_is_letter P_is_letter (defScope s_is_letter) := ⟨rfl, rfl, rfl, by decide +kernel, rfl, by decide +kernel, by decide +kernel⟩
abbrev s_is_row : Stmt := topS 7
abbrev N_is_row : List Str := ["thing", "sign"]
abbrev P_is_row : List Str := ["thing"]
theorem S_is_row : FnScope N_is_row P_is_row (defScope s_is_row) := ⟨rfl, rfl, rfl, by decide +kernel, rfl, by decide +kernel, by decide +kernel⟩
abbrev s_is_part : Stmt := topS 9
abbrev N_is_part : List Str := ["thing", "one", "other"]
abbrev P_is_part : List Str := ["thing"]
theorem S_is_part : FnScope N_is_part P_is_part (defScope s_is_part) := ⟨rfl, rfl, rfl, by decide +kernel, rfl, by decide +kernel, by decide +kernel⟩
abbrev s_is_piece : Stmt := topS 12
abbrev N_is_piece : List Str := ["thing", "part"]
abbrev P_is_piece : List Str := ["thing"]
theorem S_is_piece : FnScope N_is_piece P_is_piece (defScope s_is_piece) := ⟨rfl, rfl, rfl, by decide +kernel, rfl, by decide +kernel, by decide +kernel⟩
abbrev s_check_set : Stmt := topS 13
abbrev N_check_set : List Str := ["pieces", "piece"]
abbrev P_check_set : List Str := ["pieces"]
theorem S_check_set : FnScope N_check_set P_check_set (defScope s_check_set) := ⟨rfl, rfl, rfl, by decide +kernel, rfl, by decide +kernel, by decide +kernel⟩
abbrev s_piece_holds : Stmt := topS 14
abbrev N_piece_holds : List Str := ["piece", "word", "at", "letter"]
abbrev P_piece_holds : List Str := ["piece", "word"]
theorem S_piece_holds : FnScope N_piece_holds P_piece_holds (defScope s_piece_holds) := ⟨rfl, rfl, rfl, by decide +kernel, rfl, by decide +kernel, by decide +kernel⟩
abbrev s_set_holds : Stmt := topS 15
abbrev N_set_holds : List Str := ["pieces", "word", "piece"]
abbrev P_set_holds : List Str := ["pieces", "word"]
theorem S_set_holds : FnScope N_set_holds P_set_holds (defScope s_set_holds) := ⟨rfl, rfl, rfl, by decide +kernel, rfl, by decide +kernel, by decide +kernel⟩
abbrev s_holds : Stmt := topS 16
abbrev N_holds : List Str := ["pieces", "word"]
abbrev P_holds : List Str := ["pieces", "word"]
theorem S_holds : FnScope N_holds P_holds (defScope s_holds) := ⟨rfl, rfl, rfl, by decide +kernel, rfl, by decide +kernel, by decide +kernel⟩
abbrev s__law_ends : Stmt := topS 26
abbrev N__law_ends : List Str := ["_law_piece_here", "_law_row", "_law_ways", "_law_letter", "_law_more", "_law_at", "_law_first"]
abbrev P__law_ends : List Str := ["_law_piece_here", "_law_row"]
theorem S__law_ends : FnScope N__law_ends P__law_ends (defScope s__law_ends) := ⟨rfl, rfl, rfl, by decide +kernel, rfl, by decide +kernel, by decide +kernel⟩
abbrev s__law_in : Stmt := topS 27
abbrev N__law_in : List Str := ["_law_pieces", "_law_row", "_law_piece_here"]
abbrev P__law_in : List Str := ["_law_pieces", "_law_row"]
theorem S__law_in : FnScope N__law_in P__law_in (defScope s__law_in) := ⟨rfl, rfl, rfl, by decide +kernel, rfl, by decide +kernel, by decide +kernel⟩
abbrev s__law_right : Stmt := topS 30
abbrev N__law_right : List Str := ["_law_pieces", "_law_rows_here", "_law_handed", "_law_row", "_law_some", "_law_piece_here"]
abbrev P__law_right : List Str := ["_law_pieces", "_law_rows_here"]
theorem S__law_right : FnScope N__law_right P__law_right (defScope s__law_right) := ⟨rfl, rfl, rfl, by decide +kernel, rfl, by decide +kernel, by decide +kernel⟩
abbrev s_law : Stmt := topS 31
abbrev N_law : List Str := ["_law_script", "_law_near", "_law_by", "_law_pieces", "_law_rows_here", "_law_row", "_law_less", "_law_wide", "_law_long", "_law_piece_here", "_law_k", "_law_at", "_law_some"]
abbrev P_law : List Str := ["_law_script"]
theorem S_law : FnScope N_law P_law (defScope s_law) := ⟨rfl, rfl, rfl, by decide +kernel, rfl, by decide +kernel, by decide +kernel⟩
def c_LETTERS : D := .str [97, 98, 99, 100, 101, 102, 103, 104, 105, 106, 107, 108, 109, 110, 111, 112, 113, 114, 115, 116, 117, 118, 119, 120, 121, 122]
def c_MOST_PARTS : D := .int 8
def c_MOST_PIECES : D := .int 6
def e__law_rows_1 : Ex := .comp (.nm 7) [7] igSeq [(.var 1)] (.lit (.bl true)) (.pr gAdd [(.var 6), (.var 7)])
def l__law_rows_1 : List Sx := [.ext 5 e__law_rows_1]
def q__law_rows_1 : Sx := .fors (.nm 6) igSeq [(.var 3)] l__law_rows_1
def l__law_rows_2 : List Sx := [.set 5 (.lst []), .frz 3, q__law_rows_1, .mv 3 5, .set 2 (.pr gAdd [(.var 2), (.var 3)])]
def q__law_rows_2 : Sx := .fors (.nm 4) igR1 [(.var 0)] l__law_rows_2
def b__law_rows : List Sx := [.par 2 3 (.lst [(.lit (.str []))]) (.lst [(.lit (.str []))]), q__law_rows_2, .retv 2]
def f__law_rows : List D → Option DM := fB 2 b__law_rows 8
def b__law_draw : List Sx := [.set 3 (.tup [(.lit (.int 1000003)), (.lit (.int 1000033)), (.lit (.int 1000037)), (.lit (.int 1000039)), (.lit (.int 1000081)), (.lit (.int 1000099)), (.lit (.int 1000117)), (.lit (.int 1000121)), (.lit (.int 1000133)), (.lit (.int 1000151)), (.lit (.int 1000159)), (.lit (.int 1000171)), (.lit (.int 1000183)), (.lit (.int 1000187)), (.lit (.int 1000193)), (.lit (.int 1000199))]), .ret (.pr gMod [(.pr gMod [(.pr gAdd [(.pr gMul [(.var 0), (.lit (.int 48271))]), (.pr gMul [(.var 1), (.lit (.int 69621))])]), (.pr gIdx [(.var 3), (.pr gMod [(.var 1), (.lit (.int 16))])])]), (.var 2)])]
def f__law_draw : List D → Option DM := fB 3 b__law_draw 4
def b__law_number : List Sx := [.ifs (.pr gGeA [(.var 0), (.pr gPow [(.lit (.int 10)), (.lit (.int 18))])]) [.ret (.pr gMod [(.pr gDiv [(.pr gSub [(.var 0), (.pr gPow [(.lit (.int 10)), (.lit (.int 18))])]), (.pr gIdx [(.tup [(.lit (.int 1)), (.lit (.int 7)), (.lit (.int 49)), (.lit (.int 343)), (.lit (.int 2401))]), (.pr gMod [(.var 1), (.lit (.int 5))])])]), (.var 2)])] [], .ret (.pr gMod [(.pr (callG f__law_draw) [(.pr gMul [(.pr gAdd [(.var 0), (.pr gMul [(.lit (.int 977)), (.var 1)])]), (.pr gAdd [(.pr gAdd [(.var 0), (.pr gMul [(.lit (.int 31)), (.var 1)])]), (.lit (.int 5))])]), (.pr gAdd [(.pr gMod [(.var 1), (.lit (.int 9))]), (.lit (.int 1))]), (.lit (.int 999983))]), (.var 2)])]
def f__law_number : List D → Option DM := fB 3 b__law_number 3
def b__law_cell_at : List Sx := [.ifs (.pr gLtA [(.var 1), (.pr gLen [(.var 0)])]) [.ret (.pr gIdx [(.var 0), (.var 1)])] [], .ret (.lit (.int 0))]
def f__law_cell_at : List D → Option DM := fB 2 b__law_cell_at 2
def e__law_part_1 : Ex := .comp (.tp [(.nm 4), (.nm 5)]) [4, 5] igEnum [(.lit (.str [97, 98, 99]))] (.pr gEq [(.pr gMod [(.pr gDiv [(.var 3), (.pr gShl [(.lit (.int 1)), (.var 4)])]), (.lit (.int 2))]), (.lit (.int 1))]) (.var 5)
def e__law_part_2 : Ex := .comp (.tp [(.nm 4), (.nm 5)]) [4, 5] igEnum [(.lit (.str [97, 98, 99]))] (.pr gEq [(.pr gMod [(.pr gDiv [(.var 3), (.pr gShl [(.lit (.int 1)), (.var 4)])]), (.lit (.int 2))]), (.lit (.int 1))]) (.var 5)
def b__law_part : List Sx := [.ifs (.pr gLtA [(.pr (callG f__law_number) [(.var 0), (.var 1), (.lit (.int 5))]), (.lit (.int 3))]) [.ret (.tup [(.lit (.str [109, 97, 121, 98, 101])), (.pr gIdx [(.lit (.str [97, 98, 99, 100])), (.pr (callG f__law_number) [(.var 0), (.pr gAdd [(.var 1), (.lit (.int 1))]), (.var 2)])])])] [], .set 3 (.pr gAdd [(.lit (.int 1)), (.pr (callG f__law_number) [(.var 0), (.pr gAdd [(.var 1), (.lit (.int 2))]), (.lit (.int 7))])]), .ret (.tup [(.lit (.str [97, 110, 121])), (.pr gJoin [(.lit (.str [])), e__law_part_1])])]
def f__law_part : List D → Option DM := fB 3 b__law_part 6
def l__law_piece_1 : List Sx := [.app 3 (.pr (callG f__law_part) [(.pr gAdd [(.pr (callG f__law_cell_at) [(.var 0), (.pr gAdd [(.var 1), (.var 4)])]), (.pr gMul [(.lit (.int 31)), (.var 4)])]), (.pr gAdd [(.var 1), (.pr gMul [(.lit (.int 2)), (.var 4)])]), (.lit (.int 3))])]
def q__law_piece_1 : Sx := .fors (.nm 4) igR1 [(.pr (callG f__law_number) [(.pr (callG f__law_cell_at) [(.var 0), (.var 1)]), (.pr gAdd [(.var 1), (.lit (.int 3))]), (.pr gAdd [(.var 2), (.lit (.int 1))])])] l__law_piece_1
def b__law_piece : List Sx := [.set 3 (.lst []), q__law_piece_1, .retv 3]
def f__law_piece : List D → Option DM := fB 3 b__law_piece 5
def e__law_set_1 : Ex := .comp (.nm 5) [5] igR1 [(.var 4)] (.lit (.bl true)) (.pr (callG f__law_piece) [(.var 0), (.pr gAdd [(.var 1), (.pr gMul [(.lit (.int 2)), (.var 5)])]), (.var 3)])
def b__law_set : List Sx := [.set 4 (.pr (callG f__law_number) [(.pr (callG f__law_cell_at) [(.var 0), (.var 1)]), (.pr gAdd [(.var 1), (.lit (.int 5))]), (.pr gAdd [(.var 2), (.lit (.int 1))])]), .ret e__law_set_1]
def f__law_set : List D → Option DM := fB 4 b__law_set 6
def e__law_full_1 : Ex := .comp (.nm 2) [2] igSeq [(.var 0)] (.lit (.bl true)) (.ife (.pr gEq [(.pr gIdx [(.var 2), (.lit (.int 0))]), (.lit (.str [109, 97, 121, 98, 101]))]) (.pr gIdx [(.var 2), (.lit (.int 1))]) (.pr gMul [(.pr gIdx [(.var 2), (.lit (.int 1))]), (.var 1)]))
def e__law_full_2 : Ex := .comp (.nm 2) [2] igSeq [(.var 0)] (.lit (.bl true)) (.ife (.pr gEq [(.pr gIdx [(.var 2), (.lit (.int 0))]), (.lit (.str [109, 97, 121, 98, 101]))]) (.pr gIdx [(.var 2), (.lit (.int 1))]) (.pr gMul [(.pr gIdx [(.var 2), (.lit (.int 1))]), (.var 1)]))
def b__law_full : List Sx := [.ret (.pr gJoin [(.lit (.str [])), e__law_full_1])]
def f__law_full : List D → Option DM := fB 2 b__law_full 3
def l__law_word_1 : List Sx := [.set 6 (.pr gAdd [(.pr (callG f__law_cell_at) [(.var 0), (.pr gAdd [(.pr gAdd [(.var 1), (.var 5)]), (.lit (.int 1))])]), (.pr gMul [(.lit (.int 31)), (.var 5)])]), .set 4 (.pr gAdd [(.var 4), (.pr gIdx [(.lit (.str [97, 98, 99, 100, 101, 102, 103, 104])), (.pr (callG f__law_number) [(.var 6), (.pr gAdd [(.pr gAdd [(.var 5), (.var 1)]), (.lit (.int 2))]), (.var 3)])])])]
def q__law_word_1 : Sx := .fors (.nm 5) igR1 [(.pr (callG f__law_number) [(.pr (callG f__law_cell_at) [(.var 0), (.var 1)]), (.var 1), (.pr gAdd [(.var 2), (.lit (.int 1))])])] l__law_word_1
def b__law_word : List Sx := [.set 4 (.lit (.str [])), q__law_word_1, .retv 4]
def f__law_word : List D → Option DM := fB 4 b__law_word 7
def b__law_says : List Sx := [.ret (.and_ (.pr gIsi [(.var 0), (.lit (.raw (.ty "bool")))]) (.pr gEq [(.var 0), (.var 1)]))]
def f__law_says : List D → Option DM := fB 2 b__law_says 2
def b_is_letter : List Sx := [.ret (.and_ (.pr gIsi [(.var 0), (.lit (.raw (.ty "str")))]) (.and_ (.pr gEq [(.pr gLen [(.var 0)]), (.lit (.int 1))]) (.pr (gIn2 false) [(.var 0), (.lit c_LETTERS)])))]
def f_is_letter : List D → Option DM := fB 1 b_is_letter 1
def e_is_row_1 : Ex := .comp (.nm 1) [1] igSeq [(.var 0)] (.lit (.bl true)) (.pr (gIn2 false) [(.var 1), (.lit c_LETTERS)])
def b_is_row : List Sx := [.ret (.and_ (.pr gIsi [(.var 0), (.lit (.raw (.ty "str")))]) (.pr gAll [e_is_row_1]))]
def f_is_row : List D → Option DM := fB 1 b_is_row 2
def e_is_part_1 : Ex := .comp (.tp [(.nm 1), (.nm 2)]) [1, 2] igZipS [(.pr gIdx [(.var 0), (.lit (.int 1))]), (.pr gSlL [(.pr gIdx [(.var 0), (.lit (.int 1))]), (.lit (.int 1))])] (.lit (.bl true)) (.pr gLtA [(.var 1), (.var 2)])
def b_is_part : List Sx := [.ifs (.or_ (.ife (.pr gIsi [(.var 0), (.lit (.raw (.ty "tuple")))]) (.lit (.bl false)) (.lit (.bl true))) (.or_ (.pr gNe [(.pr gLen [(.var 0)]), (.lit (.int 2))]) (.ife (.pr gIsi [(.pr gIdx [(.var 0), (.lit (.int 0))]), (.lit (.raw (.ty "str")))]) (.lit (.bl false)) (.lit (.bl true))))) [.ret (.lit (.bl false))] [], .ifs (.pr gEq [(.pr gIdx [(.var 0), (.lit (.int 0))]), (.lit (.str [109, 97, 121, 98, 101]))]) [.ret (.pr (callG f_is_letter) [(.pr gIdx [(.var 0), (.lit (.int 1))])])] [], .ifs (.or_ (.pr gNe [(.pr gIdx [(.var 0), (.lit (.int 0))]), (.lit (.str [97, 110, 121]))]) (.or_ (.ife (.pr (callG f_is_row) [(.pr gIdx [(.var 0), (.lit (.int 1))])]) (.lit (.bl false)) (.lit (.bl true))) (.pr gEq [(.pr gIdx [(.var 0), (.lit (.int 1))]), (.lit (.str []))]))) [.ret (.lit (.bl false))] [], .ret (.pr gAll [e_is_part_1])]
def f_is_part : List D → Option DM := fB 1 b_is_part 3
def e_is_piece_1 : Ex := .comp (.nm 1) [1] igSeq [(.var 0)] (.lit (.bl true)) (.pr (callG f_is_part) [(.var 1)])
def b_is_piece : List Sx := [.ret (.and_ (.pr gIsi [(.var 0), (.lit (.raw (.ty "list")))]) (.and_ (.pr gLeA [(.pr gLen [(.var 0)]), (.lit c_MOST_PARTS)]) (.pr gAll [e_is_piece_1])))]
def f_is_piece : List D → Option DM := fB 1 b_is_piece 2
def e_check_set_1 : Ex := .comp (.nm 1) [1] igSeq [(.var 0)] (.lit (.bl true)) (.pr (callG f_is_piece) [(.var 1)])
def b_check_set : List Sx := [.ifs (.or_ (.ife (.pr gIsi [(.var 0), (.lit (.raw (.ty "list")))]) (.lit (.bl false)) (.lit (.bl true))) (.or_ (.pr gGtA [(.pr gLen [(.var 0)]), (.lit c_MOST_PIECES)]) (.ife (.pr gAll [e_check_set_1]) (.lit (.bl false)) (.lit (.bl true))))) [.fail] []]
def f_check_set : List D → Option DM := fB 1 b_check_set 2
def l_piece_holds_1 : List Sx := [.aug 2 gAddI (.lit (.int 1))]
def q_piece_holds_1 : Sx := .whl (.and_ (.pr gLtA [(.var 2), (.pr gLen [(.var 0)])]) (.pr (gIn2 true) [(.var 3), (.pr gIdx [(.pr gIdx [(.var 0), (.var 2)]), (.lit (.int 1))])])) l_piece_holds_1
def l_piece_holds_2 : List Sx := [q_piece_holds_1, .ifs (.pr gEq [(.var 2), (.pr gLen [(.var 0)])]) [.ret (.lit (.bl false))] [], .ifs (.pr gEq [(.pr gIdx [(.pr gIdx [(.var 0), (.var 2)]), (.lit (.int 0))]), (.lit (.str [109, 97, 121, 98, 101]))]) [.aug 2 gAddI (.lit (.int 1))] []]
def q_piece_holds_2 : Sx := .fors (.nm 3) igSeq [(.var 1)] l_piece_holds_2
def b_piece_holds : List Sx := [.set 2 (.lit (.int 0)), q_piece_holds_2, .ret (.lit (.bl true))]
def f_piece_holds : List D → Option DM := fB 2 b_piece_holds 4
def e_set_holds_1 : Ex := .comp (.nm 2) [2] igSeq [(.var 0)] (.lit (.bl true)) (.pr (callG f_piece_holds) [(.var 2), (.var 1)])
def b_set_holds : List Sx := [.ret (.pr gAny [e_set_holds_1])]
def f_set_holds : List D → Option DM := fB 2 b_set_holds 3
def b_holds : List Sx := [.skip (.pr (callG f_check_set) [(.var 0)]), .ifs (.ife (.pr (callG f_is_row) [(.var 1)]) (.lit (.bl false)) (.lit (.bl true))) [.fail] [], .ret (.pr (callG f_set_holds) [(.var 0), (.var 1)])]
def f_holds : List D → Option DM := fB 2 b_holds 2
def l__law_ends_1 : List Sx := [.ifs (.and_ (.pr (gIn2 false) [(.var 5), (.var 2)]) (.pr (gIn2 false) [(.var 3), (.pr gIdx [(.pr gIdx [(.var 0), (.var 5)]), (.lit (.int 1))])])) [.set 6 (.ife (.pr gEq [(.pr gIdx [(.pr gIdx [(.var 0), (.var 5)]), (.lit (.int 0))]), (.lit (.str [97, 110, 121]))]) (.var 5) (.pr gAdd [(.var 5), (.lit (.int 1))])), .ext 4 (.pr gLRg2 [(.var 6), (.pr gAdd [(.pr gLen [(.var 0)]), (.lit (.int 1))])])] []]
def q__law_ends_1 : Sx := .fors (.nm 5) igR1 [(.pr gLen [(.var 0)])] l__law_ends_1
def l__law_ends_2 : List Sx := [.set 4 (.lst []), q__law_ends_1, .set 2 (.pr gSSet [(.var 4)])]
def q__law_ends_2 : Sx := .fors (.nm 3) igSeq [(.var 1)] l__law_ends_2
def b__law_ends : List Sx := [.set 2 (.pr gLRg1 [(.pr gAdd [(.pr gLen [(.var 0)]), (.lit (.int 1))])]), q__law_ends_2, .ret (.pr gNe [(.var 2), (.lst [])])]
def f__law_ends : List D → Option DM := fB 2 b__law_ends 7
def e__law_in_1 : Ex := .comp (.nm 2) [2] igSeq [(.var 0)] (.lit (.bl true)) (.pr (callG f__law_ends) [(.var 2), (.var 1)])
def b__law_in : List Sx := [.ret (.pr gAny [e__law_in_1])]
def f__law_in : List D → Option DM := fB 2 b__law_in 3
def e__law_right_1 : Ex := .comp (.nm 5) [5] igSeq [(.var 0)] (.lit (.bl true)) (.pr gList [(.var 5)])
def l__law_right_1 : List Sx := [.ifs (.ife (.pr (callG f__law_says) [(.pr (callG f_holds) [(.var 2), (.var 3)]), (.pr (callG f__law_in) [(.var 0), (.var 3)])]) (.lit (.bl false)) (.lit (.bl true))) [.ret (.lit (.bl false))] []]
def q__law_right_1 : Sx := .fors (.nm 3) igSeq [(.var 1)] l__law_right_1
def e__law_right_2 : Ex := .comp (.nm 3) [3] igSeq [(.pr gSlH [(.var 1), (.lit (.int 9))])] (.lit (.bl true)) (.var 3)
def e__law_right_3 : Ex := .comp (.nm 3) [3] igSeq [(.pr gSlH [(.var 1), (.lit (.int 9))])] (.lit (.bl true)) (.pr gAdd [(.pr gAdd [(.lit (.str [99])), (.var 3)]), (.lit (.str [98]))])
def e__law_right_4 : Ex := .comp (.nm 5) [5] igSeq [(.var 2)] (.lit (.bl true)) (.pr gLen [(.var 5)])
def e__law_right_5 : Ex := .comp (.nm 3) [3] igSeq [(.var 4)] (.lit (.bl true)) (.pr (callG f__law_says) [(.pr (callG f_holds) [(.var 2), (.var 3)]), (.pr (callG f__law_in) [(.var 2), (.var 3)])])
def b__law_right : List Sx := [.set 2 e__law_right_1, q__law_right_1, .ifs (.pr gNe [(.var 2), (.var 0)]) [.ret (.lit (.bl false))] [], .ifs (.pr gNe [(.var 2), (.lst [])]) [.gen (gPApp 2 [(.lit (.int (-1)))] (.tup [(.lit (.str [109, 97, 121, 98, 101])), (.lit (.str [98]))])), .gen (gPIns 2 [(.lit (.int 0))] 0 (.tup [(.lit (.str [97, 110, 121])), (.lit (.str [99]))]))] [.app 2 (.lst [(.tup [(.lit (.str [97, 110, 121])), (.lit (.str [99]))])])], .set 4 (.pr gAdd [e__law_right_2, e__law_right_3]), .ifs (.pr gGtA [(.pr gMax1 [(.pr gAdd [(.lst [(.lit (.int 0))]), e__law_right_4])]), (.lit (.int 8))]) [.ret (.lit (.bl true))] [], .ret (.pr gAll [e__law_right_5])]
def f__law_right : List D → Option DM := fB 2 b__law_right 6
def e_law_1 : Ex := .comp (.nm 9) [9] igSeq [(.var 3)] (.lit (.bl true)) (.pr (callG f__law_full) [(.var 9), (.lit (.int 2))])
def e_law_2 : Ex := .comp (.nm 9) [9] igSeq [(.var 3)] (.lit (.bl true)) (.pr (gStep (-1)) [(.pr (callG f__law_full) [(.var 9), (.lit (.int 1))])])
def e_law_3 : Ex := .comp (.nm 10) [10] igR1 [(.lit (.int 4))] (.lit (.bl true)) (.pr (callG f__law_word) [(.var 0), (.pr gAdd [(.var 2), (.var 10)]), (.lit (.int 9)), (.lit (.int 4))])
def e_law_4 : Ex := .comp (.nm 11) [11] igR1 [(.pr gLen [(.var 5)])] (.lit (.bl true)) (.pr gAdd [(.pr gSlH [(.var 5), (.var 11)]), (.pr gSlL [(.var 5), (.pr gAdd [(.var 11), (.lit (.int 1))])])])
def e_law_5 : Ex := .comp (.nm 11) [11] igR1 [(.pr gLen [(.var 5)])] (.lit (.bl true)) (.pr gAdd [(.pr gSlH [(.var 5), (.var 11)]), (.pr gSlL [(.var 5), (.pr gAdd [(.var 11), (.lit (.int 1))])])])
def e_law_6 : Ex := .comp (.nm 12) [12] igSeq [(.var 6)] (.lit (.bl true)) (.pr (callG f_holds) [(.var 3), (.var 12)])
def l_law_1 : List Sx := [.set 6 e_law_4, .ifs (.and_ (.pr (callG f_holds) [(.var 3), (.var 5)]) (.ife (.pr gAll [e_law_6]) (.lit (.bl false)) (.lit (.bl true)))) [.ret (.lit (.bl false))] []]
def q_law_1 : Sx := .fors (.nm 5) igSeq [(.var 4)] l_law_1
def e_law_7 : Ex := .comp (.nm 10) [10] igR1 [(.lit (.int 6))] (.lit (.bl true)) (.pr gSlH [(.pr gAdd [(.pr (callG f__law_piece) [(.var 0), (.pr gAdd [(.var 2), (.var 10)]), (.lit (.int 8))]), (.pr gMul [(.lst [(.tup [(.lit (.str [97, 110, 121])), (.lit (.str [120, 121, 122]))])]), (.lit (.int 8))])]), (.lit (.int 8))])
def e_law_8 : Ex := .comp (.nm 10) [10] igR1 [(.lit (.int 6))] (.lit (.bl true)) (.pr gSlH [(.pr gAdd [(.pr (callG f__law_piece) [(.var 0), (.pr gAdd [(.var 2), (.var 10)]), (.lit (.int 8))]), (.pr gMul [(.lst [(.tup [(.lit (.str [97, 110, 121])), (.lit (.str [120, 121, 122]))])]), (.lit (.int 8))])]), (.lit (.int 8))])
def l_law_2 : List Sx := [.set 3 (.pr (callG f__law_set) [(.var 0), (.var 2), (.lit (.int 4)), (.lit (.int 5))]), .frz 3, .set 4 (.pr gAdd [(.var 1), e_law_1]), .set 4 (.pr gAdd [(.var 4), e_law_2]), .set 4 (.pr gAdd [(.pr gAdd [(.var 4), e_law_3]), (.lst [(.lit (.str [122])), (.lit (.str [97, 98, 122]))])]), .ifs (.ife (.pr (callG f__law_right) [(.var 3), (.var 4)]) (.lit (.bl false)) (.lit (.bl true))) [.ret (.lit (.bl false))] [], .frz 4, q_law_1, .set 7 e_law_7, .ifs (.ife (.pr (callG f__law_right) [(.var 7), (.pr gAdd [(.pr gAdd [(.var 1), (.lst [(.lit (.str [122, 121, 120])), (.lit (.str [97, 120])), (.lit (.str [120, 97])), (.lit (.str [109]))])]), (.pr gSlL [(.var 4), (.lit (.int (-5)))])])]) (.lit (.bl false)) (.lit (.bl true))) [.ret (.lit (.bl false))] [], .set 8 (.pr gAdd [(.pr (callG f__law_piece) [(.var 0), (.var 2), (.lit (.int 4))]), (.pr (callG f__law_piece) [(.var 0), (.pr gAdd [(.var 2), (.lit (.int 3))]), (.lit (.int 4))])]), .ifs (.ife (.pr (callG f__law_right) [(.lst [(.pr gSlH [(.var 8), (.lit (.int 8))])]), (.pr gAdd [(.var 1), (.pr gSlL [(.var 4), (.lit (.int (-5)))])])]) (.lit (.bl false)) (.lit (.bl true))) [.ret (.lit (.bl false))] []]
def q_law_2 : Sx := .fors (.nm 2) igR3 [(.lit (.int 0)), (.pr gMax2 [(.lit (.int 1)), (.pr gMin2 [(.lit (.int 12)), (.pr gLen [(.var 0)])])]), (.lit (.int 4))] l_law_2
def b_law : List Sx := [.set 1 (.pr (callG f__law_rows) [(.lit (.int 2)), (.lit (.str [97, 98, 99]))]), q_law_2, .ifs (.or_ (.pr gNotB [(.pr (callG f_holds) [(.lst []), (.lit (.str []))]), (.lit (.bl false))]) (.pr gNotB [(.pr (callG f_holds) [(.lst [(.lst [])]), (.lit (.str []))]), (.lit (.bl true))])) [.ret (.lit (.bl false))] [], .ret (.pr gIsB [(.pr (callG f_holds) [(.lst [(.lst [(.tup [(.lit (.str [97, 110, 121])), (.lit (.str [97, 98]))]), (.tup [(.lit (.str [109, 97, 121, 98, 101])), (.lit (.str [99]))])])]), (.pr gMul [(.lit (.str [97, 98, 97, 99])), (.lit (.int 9))])]), (.lit (.bl false))])]
def f_law : List D → Option DM := fB 1 b_law 13
structure Tx (K : PySem.W.Frag) (mg : Str → Option Value) (ad : Nat → Addr) (fd : Nat → FuncData) : Prop where
  F__law_rows : Fun K "_law_rows" "_law_rows" s__law_rows (ad 0) (fd 0)
  b__law_rows : Binds K (fd 0) P__law_rows []
  m__law_rows : mg "_law_rows" = some (.ref (ad 0))
  F__law_draw : Fun K "_law_draw" "_law_draw" s__law_draw (ad 1) (fd 1)
  b__law_draw : Binds K (fd 1) P__law_draw []
  m__law_draw : mg "_law_draw" = some (.ref (ad 1))
  F__law_number : Fun K "_law_number" "_law_number" s__law_number (ad 2) (fd 2)
  b__law_number : Binds K (fd 2) P__law_number []
  m__law_number : mg "_law_number" = some (.ref (ad 2))
  F__law_cell_at : Fun K "_law_cell_at" "_law_cell_at" s__law_cell_at (ad 3) (fd 3)
  b__law_cell_at : Binds K (fd 3) P__law_cell_at []
  m__law_cell_at : mg "_law_cell_at" = some (.ref (ad 3))
  F__law_part : Fun K "_law_part" "_law_part" s__law_part (ad 4) (fd 4)
  b__law_part : Binds K (fd 4) P__law_part []
  m__law_part : mg "_law_part" = some (.ref (ad 4))
  F__law_piece : Fun K "_law_piece" "_law_piece" s__law_piece (ad 5) (fd 5)
  b__law_piece : Binds K (fd 5) P__law_piece []
  m__law_piece : mg "_law_piece" = some (.ref (ad 5))
  F__law_set : Fun K "_law_set" "_law_set" s__law_set (ad 6) (fd 6)
  b__law_set : Binds K (fd 6) P__law_set []
  m__law_set : mg "_law_set" = some (.ref (ad 6))
  F__law_full : Fun K "_law_full" "_law_full" s__law_full (ad 7) (fd 7)
  b__law_full : Binds K (fd 7) P__law_full []
  m__law_full : mg "_law_full" = some (.ref (ad 7))
  F__law_word : Fun K "_law_word" "_law_word" s__law_word (ad 8) (fd 8)
  b__law_word : Binds K (fd 8) P__law_word []
  m__law_word : mg "_law_word" = some (.ref (ad 8))
  F__law_says : Fun K "_law_says" "_law_says" s__law_says (ad 9) (fd 9)
  b__law_says : Binds K (fd 9) P__law_says []
  m__law_says : mg "_law_says" = some (.ref (ad 9))
  F_is_letter : Fun K "is_letter" "is_letter" s_is_letter (ad 10) (fd 10)
  b_is_letter : Binds K (fd 10) P_is_letter []
  m_is_letter : mg "is_letter" = some (.ref (ad 10))
  F_is_row : Fun K "is_row" "is_row" s_is_row (ad 11) (fd 11)
  b_is_row : Binds K (fd 11) P_is_row []
  m_is_row : mg "is_row" = some (.ref (ad 11))
  F_is_part : Fun K "is_part" "is_part" s_is_part (ad 12) (fd 12)
  b_is_part : Binds K (fd 12) P_is_part []
  m_is_part : mg "is_part" = some (.ref (ad 12))
  F_is_piece : Fun K "is_piece" "is_piece" s_is_piece (ad 13) (fd 13)
  b_is_piece : Binds K (fd 13) P_is_piece []
  m_is_piece : mg "is_piece" = some (.ref (ad 13))
  F_check_set : Fun K "check_set" "check_set" s_check_set (ad 14) (fd 14)
  b_check_set : Binds K (fd 14) P_check_set []
  m_check_set : mg "check_set" = some (.ref (ad 14))
  F_piece_holds : Fun K "piece_holds" "piece_holds" s_piece_holds (ad 15) (fd 15)
  b_piece_holds : Binds K (fd 15) P_piece_holds []
  m_piece_holds : mg "piece_holds" = some (.ref (ad 15))
  F_set_holds : Fun K "set_holds" "set_holds" s_set_holds (ad 16) (fd 16)
  b_set_holds : Binds K (fd 16) P_set_holds []
  m_set_holds : mg "set_holds" = some (.ref (ad 16))
  F_holds : Fun K "holds" "holds" s_holds (ad 17) (fd 17)
  b_holds : Binds K (fd 17) P_holds []
  m_holds : mg "holds" = some (.ref (ad 17))
  F__law_ends : Fun K "_law_ends" "_law_ends" s__law_ends (ad 18) (fd 18)
  b__law_ends : Binds K (fd 18) P__law_ends []
  m__law_ends : mg "_law_ends" = some (.ref (ad 18))
  F__law_in : Fun K "_law_in" "_law_in" s__law_in (ad 19) (fd 19)
  b__law_in : Binds K (fd 19) P__law_in []
  m__law_in : mg "_law_in" = some (.ref (ad 19))
  F__law_right : Fun K "_law_right" "_law_right" s__law_right (ad 20) (fd 20)
  b__law_right : Binds K (fd 20) P__law_right []
  m__law_right : mg "_law_right" = some (.ref (ad 20))
  F_law : Fun K "law" "law" s_law (ad 21) (fd 21)
  b_law : Binds K (fd 21) P_law []
  m_law : mg "law" = some (.ref (ad 21))
  z_all : mg "all" = none
  z_any : mg "any" = none
  z_bool : mg "bool" = none
  z_enumerate : mg "enumerate" = none
  z_isinstance : mg "isinstance" = none
  z_len : mg "len" = none
  z_list : mg "list" = none
  z_max : mg "max" = none
  z_min : mg "min" = none
  z_range : mg "range" = none
  z_set : mg "set" = none
  z_sorted : mg "sorted" = none
  z_str : mg "str" = none
  z_tuple : mg "tuple" = none
  z_zip : mg "zip" = none
  m_LETTERS : ∃ t, mg "LETTERS" = some (.str ⟨[97, 98, 99, 100, 101, 102, 103, 104, 105, 106, 107, 108, 109, 110, 111, 112, 113, 114, 115, 116, 117, 118, 119, 120, 121, 122].toArray⟩ t)
  m_MOST_PARTS : ∃ t, mg "MOST_PARTS" = some (.int 8 t)
  m_MOST_PIECES : ∃ t, mg "MOST_PIECES" = some (.int 6 t)
section
variable {P : Program} {w : World} {K : PySem.W.Frag} {mg : Str → Option Value} {base : Heap} {ad : Nat → Addr} {fd : Nat → FuncData}
theorem has__law_rows (T : Tx K mg ad fd) : FnOk P w K mg base CX0 1 (ad 0) (fd 0) P__law_rows (spP K f__law_rows) := by
  have z_range := T.z_range
  have nd : (N__law_rows).Nodup := S__law_rows.nd
  refine fnB T.F__law_rows S__law_rows rfl rfl fun cdv A outer s H E N hr => ?_
  have hu := hr.units
  have hu2 := u200 hr
  exact (qss_cons (qs_par (i := 2) (j := 3) rfl nd rfl rfl (by decide) rfl rfl (pxa_cons (px_lst (pxa_cons (px_str (by rfl)) pxa_nil)) (pxa_cons (px_lst (pxa_cons (px_str (by rfl)) pxa_nil)) pxa_nil)) rfl) (qss_cons (qs_for PassesOwn.never rfl (pix_r1 (by rfl) z_range (pxa_cons (px_var (pv 0)) pxa_nil)) (pgx_nm (pg_name (i := 4) nd rfl (Or.inl rfl))) (qss_cons (qs_set (i := 5) nd rfl (Or.inl rfl) (px_lst pxa_nil)) (qss_frz (qss_cons (qs_for PassesOwn.never rfl (pix_seq (px_var (pv 3))) (pgx_nm (pg_name (i := 6) nd rfl (Or.inr rfl))) (qss_cons (qs_ext (i := 5) (pv 5) (px_comp (own := [("_law_letter", 7)]) (p := (.nm 7)) rfl nd (pix_seq (px_var (pv 1))) (blkOk_by (own := [("_law_letter", 7)]) (N := N__law_rows) (sc := defScope s__law_rows) (by decide +kernel)) (by decide) (fun _ _ _ _ _ => (pgx_nm (pg_name (i := 7) nd rfl (Or.inl rfl)))) (fun _ _ _ _ _ => ptsx_nil) (fun _ _ _ _ _ => (px_bin op_addAll iAdd (px_var (pv 6)) (px_var (pv 7))))) (fun _ _ h1 h2 => pe_bm PySem.F.plainAttrs_list PySem.F.slot_list_extend PySem.F.type_list_extend mt_extend h1 h2)) qss_nil)) (qss_cons (qs_mv (i := 3) nd rfl (Or.inl rfl) (pv 5) (by decide)) (qss_cons (qs_set (i := 2) nd rfl (Or.inl rfl) (px_bin op_addAll iAdd (px_var (pv 2)) (px_var (pv 3)))) qss_nil)))))) (qss_cons (qs_retv (pv 2)) qss_nil)))
theorem has__law_draw (T : Tx K mg ad fd) : FnOk P w K mg base CX0 1 (ad 1) (fd 1) P__law_draw (spP K f__law_draw) := by
  have nd : (N__law_draw).Nodup := S__law_draw.nd
  refine fnB T.F__law_draw S__law_draw rfl rfl fun cdv A outer s H E N hr => ?_
  have hu := hr.units
  have hu2 := u200 hr
  exact (qss_cons (qs_set (i := 3) nd rfl (Or.inl rfl) (px_tup (pxa_cons px_int (pxa_cons px_int (pxa_cons px_int (pxa_cons px_int (pxa_cons px_int (pxa_cons px_int (pxa_cons px_int (pxa_cons px_int (pxa_cons px_int (pxa_cons px_int (pxa_cons px_int (pxa_cons px_int (pxa_cons px_int (pxa_cons px_int (pxa_cons px_int (pxa_cons px_int pxa_nil)))))))))))))))))) (qss_cons (qs_ret (px_bin op_mod iMod (px_bin op_mod iMod (px_bin op_addAll iAdd (px_bin op_mulAll iMul (px_var (pv 0)) px_int) (px_bin op_mulAll iMul (px_var (pv 1)) px_int)) (px_ix ix_seq iIdx (px_var (pv 3)) (px_bin op_mod iMod (px_var (pv 1)) px_int) (fun _ _ => rfl))) (px_var (pv 2)))) qss_nil))
theorem has__law_number (T : Tx K mg ad fd) : FnOk P w K mg base CX0 2 (ad 2) (fd 2) P__law_number (spP K f__law_number) := by
  have G__law_draw := has__law_draw (P := P) (w := w) (base := base) T
  have m__law_draw := T.m__law_draw
  have k__law_draw := T.F__law_draw.kp
  have b__law_draw := T.b__law_draw
  have nd : (N__law_number).Nodup := S__law_number.nd
  refine fnB T.F__law_number S__law_number rfl rfl fun cdv A outer s H E N hr => ?_
  have hu := hr.units
  have hu2 := u200 hr
  exact (qss_cons (qs_if (ptx_cmp (op_geA hu) iCm (px_var (pv 0)) (px_bin op_pow iPow px_int px_int) (nomark _)) (qss_cons (qs_ret (px_bin op_mod iMod (px_bin op_fdiv iDiv (px_bin op_sub iSub (px_var (pv 0)) (px_bin op_pow iPow px_int px_int)) (px_ix ix_seq iIdx (px_tup (pxa_cons px_int (pxa_cons px_int (pxa_cons px_int (pxa_cons px_int (pxa_cons px_int pxa_nil)))))) (px_bin op_mod iMod (px_var (pv 1)) px_int) (fun _ _ => rfl))) (px_var (pv 2)))) qss_nil) qss_nil) (qss_cons (qs_ret (px_bin op_mod iMod (px_fn G__law_draw (hr.mono (by decide)) (by rfl) m__law_draw k__law_draw b__law_draw pass0 (pxa_cons (px_bin op_mulAll iMul (px_bin op_addAll iAdd (px_var (pv 0)) (px_bin op_mulAll iMul px_int (px_var (pv 1)))) (px_bin op_addAll iAdd (px_bin op_addAll iAdd (px_var (pv 0)) (px_bin op_mulAll iMul px_int (px_var (pv 1)))) px_int)) (pxa_cons (px_bin op_addAll iAdd (px_bin op_mod iMod (px_var (pv 1)) px_int) px_int) (pxa_cons px_int pxa_nil)))) (px_var (pv 2)))) qss_nil))
theorem has__law_cell_at (T : Tx K mg ad fd) : FnOk P w K mg base CX0 1 (ad 3) (fd 3) P__law_cell_at (spP K f__law_cell_at) := by
  have z_len := T.z_len
  have nd : (N__law_cell_at).Nodup := S__law_cell_at.nd
  refine fnB T.F__law_cell_at S__law_cell_at rfl rfl fun cdv A outer s H E N hr => ?_
  have hu := hr.units
  have hu2 := u200 hr
  exact (qss_cons (qs_if (ptx_cmp (op_ltA hu) iCm (px_var (pv 1)) (px_callB call_len iLen (by rfl) z_len (by decide +kernel) (pxa_cons (px_var (pv 0)) pxa_nil)) (nomark _)) (qss_cons (qs_ret (px_ix ix_seq iIdx (px_var (pv 0)) (px_var (pv 1)) (fun _ _ => rfl))) qss_nil) qss_nil) (qss_cons (qs_ret px_int) qss_nil))
theorem has__law_part (T : Tx K mg ad fd) : FnOk P w K mg base CX0 3 (ad 4) (fd 4) P__law_part (spP K f__law_part) := by
  have G__law_number := has__law_number (P := P) (w := w) (base := base) T
  have m__law_number := T.m__law_number
  have k__law_number := T.F__law_number.kp
  have b__law_number := T.b__law_number
  have z_enumerate := T.z_enumerate
  have nd : (N__law_part).Nodup := S__law_part.nd
  refine fnB T.F__law_part S__law_part rfl rfl fun cdv A outer s H E N hr => ?_
  have hu := hr.units
  have hu2 := u200 hr
  exact (qss_cons (qs_if (ptx_cmp (op_ltA hu) iCm (px_fn G__law_number (hr.mono (by decide)) (by rfl) m__law_number k__law_number b__law_number pass0 (pxa_cons (px_var (pv 0)) (pxa_cons (px_var (pv 1)) (pxa_cons px_int pxa_nil)))) px_int (nomark _)) (qss_cons (qs_ret (px_tup (pxa_cons (px_str (by rfl)) (pxa_cons (px_ix ix_seq iIdx (px_str (by rfl)) (px_fn G__law_number (hr.mono (by decide)) (by rfl) m__law_number k__law_number b__law_number pass0 (pxa_cons (px_var (pv 0)) (pxa_cons (px_bin op_addAll iAdd (px_var (pv 1)) px_int) (pxa_cons (px_var (pv 2)) pxa_nil)))) (fun _ _ => rfl)) pxa_nil)))) qss_nil) qss_nil) (qss_cons (qs_set (i := 3) nd rfl (Or.inr rfl) (px_bin op_addAll iAdd px_int (px_fn G__law_number (hr.mono (by decide)) (by rfl) m__law_number k__law_number b__law_number pass0 (pxa_cons (px_var (pv 0)) (pxa_cons (px_bin op_addAll iAdd (px_var (pv 1)) px_int) (pxa_cons px_int pxa_nil)))))) (qss_cons (qs_ret (px_tup (pxa_cons (px_str (by rfl)) (pxa_cons (px_mt (px_str (by rfl)) (pxa_cons (px_comp (own := [("_law_k", 4), ("_law_letter", 5)]) (p := (.tp [(.nm 4), (.nm 5)])) rfl nd (pix_enumerate (by rfl) z_enumerate (pxa_cons (px_str (by rfl)) pxa_nil)) (blkOk_by (own := [("_law_k", 4), ("_law_letter", 5)]) (N := N__law_part) (sc := defScope s__law_part) (by decide +kernel)) (by decide) (fun _ _ _ _ _ => (pgx_tp rfl (pgxs_cons (pgx_nm (pg_name (i := 4) nd rfl (Or.inl rfl))) (pgxs_cons (pgx_nm (pg_name (i := 5) nd rfl (Or.inl rfl))) pgxs_nil)))) (fun _ _ _ _ _ => (ptsx_one (ptx_cmp (op_eqD hu) iEq (px_bin op_mod iMod (px_bin op_fdiv iDiv (px_var (pv 3)) (px_bin op_shl iShl px_int (px_var (pv 4)))) px_int) px_int (nomark _)))) (fun _ _ _ _ _ => (px_var (pv 5)))) pxa_nil) (fun _ _ h1 h2 => pe_bm PySem.F.plainAttrs_str PySem.F.slot_str_join PySem.F.type_str_join mt_join h1 h2) iJoin tyJoin) pxa_nil)))) qss_nil)))
theorem has__law_piece (T : Tx K mg ad fd) : FnOk P w K mg base CX0 4 (ad 5) (fd 5) P__law_piece (spP K f__law_piece) := by
  have G__law_number := has__law_number (P := P) (w := w) (base := base) T
  have m__law_number := T.m__law_number
  have k__law_number := T.F__law_number.kp
  have b__law_number := T.b__law_number
  have G__law_cell_at := has__law_cell_at (P := P) (w := w) (base := base) T
  have m__law_cell_at := T.m__law_cell_at
  have k__law_cell_at := T.F__law_cell_at.kp
  have b__law_cell_at := T.b__law_cell_at
  have G__law_part := has__law_part (P := P) (w := w) (base := base) T
  have m__law_part := T.m__law_part
  have k__law_part := T.F__law_part.kp
  have b__law_part := T.b__law_part
  have z_range := T.z_range
  have nd : (N__law_piece).Nodup := S__law_piece.nd
  refine fnB T.F__law_piece S__law_piece rfl rfl fun cdv A outer s H E N hr => ?_
  have hu := hr.units
  have hu2 := u200 hr
  exact (qss_cons (qs_set (i := 3) nd rfl (Or.inl rfl) (px_lst pxa_nil)) (qss_cons (qs_for PassesOwn.never rfl (pix_r1 (by rfl) z_range (pxa_cons (px_fn G__law_number (hr.mono (by decide)) (by rfl) m__law_number k__law_number b__law_number pass0 (pxa_cons (px_fn G__law_cell_at (hr.mono (by decide)) (by rfl) m__law_cell_at k__law_cell_at b__law_cell_at pass0 (pxa_cons (px_var (pv 0)) (pxa_cons (px_var (pv 1)) pxa_nil))) (pxa_cons (px_bin op_addAll iAdd (px_var (pv 1)) px_int) (pxa_cons (px_bin op_addAll iAdd (px_var (pv 2)) px_int) pxa_nil)))) pxa_nil)) (pgx_nm (pg_name (i := 4) nd rfl (Or.inl rfl))) (qss_cons (qs_app (i := 3) (pv 3) (px_fn G__law_part (hr.mono (by decide)) (by rfl) m__law_part k__law_part b__law_part pass0 (pxa_cons (px_bin op_addAll iAdd (px_fn G__law_cell_at (hr.mono (by decide)) (by rfl) m__law_cell_at k__law_cell_at b__law_cell_at pass0 (pxa_cons (px_var (pv 0)) (pxa_cons (px_bin op_addAll iAdd (px_var (pv 1)) (px_var (pv 4))) pxa_nil))) (px_bin op_mulAll iMul px_int (px_var (pv 4)))) (pxa_cons (px_bin op_addAll iAdd (px_var (pv 1)) (px_bin op_mulAll iMul px_int (px_var (pv 4)))) (pxa_cons px_int pxa_nil)))) (fun _ _ h1 h2 => pe_bm PySem.F.plainAttrs_list PySem.F.slot_list_append PySem.F.type_list_append mt_append h1 h2)) qss_nil)) (qss_cons (qs_retv (pv 3)) qss_nil)))
theorem has__law_set (T : Tx K mg ad fd) : FnOk P w K mg base CX0 5 (ad 6) (fd 6) P__law_set (spP K f__law_set) := by
  have G__law_number := has__law_number (P := P) (w := w) (base := base) T
  have m__law_number := T.m__law_number
  have k__law_number := T.F__law_number.kp
  have b__law_number := T.b__law_number
  have G__law_cell_at := has__law_cell_at (P := P) (w := w) (base := base) T
  have m__law_cell_at := T.m__law_cell_at
  have k__law_cell_at := T.F__law_cell_at.kp
  have b__law_cell_at := T.b__law_cell_at
  have G__law_piece := has__law_piece (P := P) (w := w) (base := base) T
  have m__law_piece := T.m__law_piece
  have k__law_piece := T.F__law_piece.kp
  have b__law_piece := T.b__law_piece
  have z_range := T.z_range
  have nd : (N__law_set).Nodup := S__law_set.nd
  refine fnB T.F__law_set S__law_set rfl rfl fun cdv A outer s H E N hr => ?_
  have hu := hr.units
  have hu2 := u200 hr
  exact (qss_cons (qs_set (i := 4) nd rfl (Or.inl rfl) (px_fn G__law_number (hr.mono (by decide)) (by rfl) m__law_number k__law_number b__law_number pass0 (pxa_cons (px_fn G__law_cell_at (hr.mono (by decide)) (by rfl) m__law_cell_at k__law_cell_at b__law_cell_at pass0 (pxa_cons (px_var (pv 0)) (pxa_cons (px_var (pv 1)) pxa_nil))) (pxa_cons (px_bin op_addAll iAdd (px_var (pv 1)) px_int) (pxa_cons (px_bin op_addAll iAdd (px_var (pv 2)) px_int) pxa_nil))))) (qss_cons (qs_ret (px_comp (own := [("_law_k", 5)]) (p := (.nm 5)) rfl nd (pix_r1 (by rfl) z_range (pxa_cons (px_var (pv 4)) pxa_nil)) (blkOk_by (own := [("_law_k", 5)]) (N := N__law_set) (sc := defScope s__law_set) (by decide +kernel)) (by decide) (fun _ _ _ _ _ => (pgx_nm (pg_name (i := 5) nd rfl (Or.inl rfl)))) (fun _ _ _ _ _ => ptsx_nil) (fun _ _ _ _ _ => (px_fn G__law_piece (hr.mono (by decide)) (by rfl) m__law_piece k__law_piece b__law_piece pass0 (pxa_cons (px_var (pv 0)) (pxa_cons (px_bin op_addAll iAdd (px_var (pv 1)) (px_bin op_mulAll iMul px_int (px_var (pv 5)))) (pxa_cons (px_var (pv 3)) pxa_nil))))))) qss_nil))
theorem has__law_full (T : Tx K mg ad fd) : FnOk P w K mg base CX0 1 (ad 7) (fd 7) P__law_full (spP K f__law_full) := by
  have nd : (N__law_full).Nodup := S__law_full.nd
  refine fnB T.F__law_full S__law_full rfl rfl fun cdv A outer s H E N hr => ?_
  have hu := hr.units
  have hu2 := u200 hr
  exact (qss_cons (qs_ret (px_mt (px_str (by rfl)) (pxa_cons (px_comp (own := [("_law_part_here", 2)]) (p := (.nm 2)) rfl nd (pix_seq (px_var (pv 0))) (blkOk_by (own := [("_law_part_here", 2)]) (N := N__law_full) (sc := defScope s__law_full) (by decide +kernel)) (by decide) (fun _ _ _ _ _ => (pgx_nm (pg_name (i := 2) nd rfl (Or.inl rfl)))) (fun _ _ _ _ _ => ptsx_nil) (fun _ _ _ _ _ => (px_ife (ptx_cmp (op_eqD hu) iEq (px_ix ix_seq iIdx (px_var (pv 2)) px_int (fun _ _ => rfl)) (px_str (by rfl)) (nomark _)) (px_ix ix_seq iIdx (px_var (pv 2)) px_int (fun _ _ => rfl)) (px_bin op_mulAll iMul (px_ix ix_seq iIdx (px_var (pv 2)) px_int (fun _ _ => rfl)) (px_var (pv 1)))))) pxa_nil) (fun _ _ h1 h2 => pe_bm PySem.F.plainAttrs_str PySem.F.slot_str_join PySem.F.type_str_join mt_join h1 h2) iJoin tyJoin)) qss_nil)
theorem has__law_word (T : Tx K mg ad fd) : FnOk P w K mg base CX0 3 (ad 8) (fd 8) P__law_word (spP K f__law_word) := by
  have G__law_number := has__law_number (P := P) (w := w) (base := base) T
  have m__law_number := T.m__law_number
  have k__law_number := T.F__law_number.kp
  have b__law_number := T.b__law_number
  have G__law_cell_at := has__law_cell_at (P := P) (w := w) (base := base) T
  have m__law_cell_at := T.m__law_cell_at
  have k__law_cell_at := T.F__law_cell_at.kp
  have b__law_cell_at := T.b__law_cell_at
  have z_range := T.z_range
  have nd : (N__law_word).Nodup := S__law_word.nd
  refine fnB T.F__law_word S__law_word rfl rfl fun cdv A outer s H E N hr => ?_
  have hu := hr.units
  have hu2 := u200 hr
  exact (qss_cons (qs_set (i := 4) nd rfl (Or.inl rfl) (px_str (by rfl))) (qss_cons (qs_for PassesOwn.never rfl (pix_r1 (by rfl) z_range (pxa_cons (px_fn G__law_number (hr.mono (by decide)) (by rfl) m__law_number k__law_number b__law_number pass0 (pxa_cons (px_fn G__law_cell_at (hr.mono (by decide)) (by rfl) m__law_cell_at k__law_cell_at b__law_cell_at pass0 (pxa_cons (px_var (pv 0)) (pxa_cons (px_var (pv 1)) pxa_nil))) (pxa_cons (px_var (pv 1)) (pxa_cons (px_bin op_addAll iAdd (px_var (pv 2)) px_int) pxa_nil)))) pxa_nil)) (pgx_nm (pg_name (i := 5) nd rfl (Or.inl rfl))) (qss_cons (qs_set (i := 6) nd rfl (Or.inl rfl) (px_bin op_addAll iAdd (px_fn G__law_cell_at (hr.mono (by decide)) (by rfl) m__law_cell_at k__law_cell_at b__law_cell_at pass0 (pxa_cons (px_var (pv 0)) (pxa_cons (px_bin op_addAll iAdd (px_bin op_addAll iAdd (px_var (pv 1)) (px_var (pv 5))) px_int) pxa_nil))) (px_bin op_mulAll iMul px_int (px_var (pv 5))))) (qss_cons (qs_set (i := 4) nd rfl (Or.inl rfl) (px_bin op_addAll iAdd (px_var (pv 4)) (px_ix ix_seq iIdx (px_str (by rfl)) (px_fn G__law_number (hr.mono (by decide)) (by rfl) m__law_number k__law_number b__law_number pass0 (pxa_cons (px_var (pv 6)) (pxa_cons (px_bin op_addAll iAdd (px_bin op_addAll iAdd (px_var (pv 5)) (px_var (pv 1))) px_int) (pxa_cons (px_var (pv 3)) pxa_nil)))) (fun _ _ => rfl)))) qss_nil))) (qss_cons (qs_retv (pv 4)) qss_nil)))
theorem has__law_says (T : Tx K mg ad fd) : FnOk P w K mg base CX0 1 (ad 9) (fd 9) P__law_says (spP K f__law_says) := by
  have z_isinstance := T.z_isinstance
  have z_bool := T.z_bool
  have nd : (N__law_says).Nodup := S__law_says.nd
  refine fnB T.F__law_says S__law_says rfl rfl fun cdv A outer s H E N hr => ?_
  have hu := hr.units
  have hu2 := u200 hr
  exact (qss_cons (qs_ret (px_and (px_callB call_isi iIsi (by rfl) z_isinstance (by decide +kernel) (pxa_cons (px_var (pv 0)) (pxa_cons (px_ty (by rfl) z_bool (by decide +kernel)) pxa_nil))) (px_one (px_cmp (op_eqD hu) iEq (px_var (pv 0)) (px_var (pv 1)) (nomark _))))) qss_nil)
theorem has_is_letter (T : Tx K mg ad fd) : FnOk P w K mg base CX0 1 (ad 10) (fd 10) P_is_letter (spP K f_is_letter) := by
  have z_isinstance := T.z_isinstance
  have z_str := T.z_str
  have z_len := T.z_len
  obtain ⟨t_LETTERS, m_LETTERS⟩ := T.m_LETTERS
  have r_LETTERS : ∀ H, R K H c_LETTERS (.str ⟨[97, 98, 99, 100, 101, 102, 103, 104, 105, 106, 107, 108, 109, 110, 111, 112, 113, 114, 115, 116, 117, 118, 119, 120, 121, 122].toArray⟩) := fun H => by simp only [c_LETTERS, R]
  have nd : (N_is_letter).Nodup := S_is_letter.nd
  refine fnB T.F_is_letter S_is_letter rfl rfl fun cdv A outer s H E N hr => ?_
  have hu := hr.units
  have hu2 := u200 hr
  exact (qss_cons (qs_ret (px_and (px_callB call_isi iIsi (by rfl) z_isinstance (by decide +kernel) (pxa_cons (px_var (pv 0)) (pxa_cons (px_ty (by rfl) z_str (by decide +kernel)) pxa_nil))) (px_and (px_cmp (op_eqD hu) iEq (px_callB call_len iLen (by rfl) z_len (by decide +kernel) (pxa_cons (px_var (pv 0)) pxa_nil)) px_int (nomark _)) (px_one (px_cmp (op_in2 hu) (iIn2 false) (px_var (pv 0)) (px_glob (by rfl) m_LETTERS (by exact ⟨_, rfl⟩) r_LETTERS) (by rfl)))))) qss_nil)
theorem has_is_row (T : Tx K mg ad fd) : FnOk P w K mg base CX0 1 (ad 11) (fd 11) P_is_row (spP K f_is_row) := by
  have z_isinstance := T.z_isinstance
  have z_str := T.z_str
  have z_all := T.z_all
  obtain ⟨t_LETTERS, m_LETTERS⟩ := T.m_LETTERS
  have r_LETTERS : ∀ H, R K H c_LETTERS (.str ⟨[97, 98, 99, 100, 101, 102, 103, 104, 105, 106, 107, 108, 109, 110, 111, 112, 113, 114, 115, 116, 117, 118, 119, 120, 121, 122].toArray⟩) := fun H => by simp only [c_LETTERS, R]
  have nd : (N_is_row).Nodup := S_is_row.nd
  refine fnB T.F_is_row S_is_row rfl rfl fun cdv A outer s H E N hr => ?_
  have hu := hr.units
  have hu2 := u200 hr
  exact (qss_cons (qs_ret (px_and (px_callB call_isi iIsi (by rfl) z_isinstance (by decide +kernel) (pxa_cons (px_var (pv 0)) (pxa_cons (px_ty (by rfl) z_str (by decide +kernel)) pxa_nil))) (px_one (px_callB (cr_all rfl) iAll (by rfl) z_all (by decide +kernel) (pxa_cons (px_comp (own := [("sign", 1)]) (p := (.nm 1)) rfl nd (pix_seq (px_var (pv 0))) (blkOk_by (own := [("sign", 1)]) (N := N_is_row) (sc := defScope s_is_row) (by decide +kernel)) (by decide) (fun _ _ _ _ _ => (pgx_nm (pg_name (i := 1) nd rfl (Or.inl rfl)))) (fun _ _ _ _ _ => ptsx_nil) (fun _ _ _ _ _ => (px_cmp (op_in2 hu) (iIn2 false) (px_var (pv 1)) (px_glob (by rfl) m_LETTERS (by exact ⟨_, rfl⟩) r_LETTERS) (by rfl)))) pxa_nil))))) qss_nil)
theorem has_is_part (T : Tx K mg ad fd) : FnOk P w K mg base CX0 2 (ad 12) (fd 12) P_is_part (spP K f_is_part) := by
  have G_is_letter := has_is_letter (P := P) (w := w) (base := base) T
  have m_is_letter := T.m_is_letter
  have k_is_letter := T.F_is_letter.kp
  have b_is_letter := T.b_is_letter
  have G_is_row := has_is_row (P := P) (w := w) (base := base) T
  have m_is_row := T.m_is_row
  have k_is_row := T.F_is_row.kp
  have b_is_row := T.b_is_row
  have z_isinstance := T.z_isinstance
  have z_tuple := T.z_tuple
  have z_len := T.z_len
  have z_str := T.z_str
  have z_all := T.z_all
  have z_zip := T.z_zip
  have nd : (N_is_part).Nodup := S_is_part.nd
  refine fnB T.F_is_part S_is_part rfl rfl fun cdv A outer s H E N hr => ?_
  have hu := hr.units
  have hu2 := u200 hr
  exact (qss_cons (qs_if ((ptx_or (ptx_not (pt_x (px_callB call_isi iIsi (by rfl) z_isinstance (by decide +kernel) (pxa_cons (px_var (pv 0)) (pxa_cons (px_ty (by rfl) z_tuple (by decide +kernel)) pxa_nil))))) (ptx_or (ptx_cmp (op_neD hu) iNe (px_callB call_len iLen (by rfl) z_len (by decide +kernel) (pxa_cons (px_var (pv 0)) pxa_nil)) px_int (nomark _)) (ptw_x (ptx_not (pt_x (px_callB call_isi iIsi (by rfl) z_isinstance (by decide +kernel) (pxa_cons (px_ix ix_seq iIdx (px_var (pv 0)) px_int (fun _ _ => rfl)) (pxa_cons (px_ty (by rfl) z_str (by decide +kernel)) pxa_nil))))) (.inr rfl))))).pt (qss_cons (qs_ret px_bl) qss_nil) qss_nil) (qss_cons (qs_if (ptx_cmp (op_eqD hu) iEq (px_ix ix_seq iIdx (px_var (pv 0)) px_int (fun _ _ => rfl)) (px_str (by rfl)) (nomark _)) (qss_cons (qs_ret (px_fn G_is_letter (hr.mono (by decide)) (by rfl) m_is_letter k_is_letter b_is_letter pass0 (pxa_cons (px_ix ix_seq iIdx (px_var (pv 0)) px_int (fun _ _ => rfl)) pxa_nil))) qss_nil) qss_nil) (qss_cons (qs_if ((ptx_or (ptx_cmp (op_neD hu) iNe (px_ix ix_seq iIdx (px_var (pv 0)) px_int (fun _ _ => rfl)) (px_str (by rfl)) (nomark _)) (ptx_or (ptx_not (pt_x (px_fn G_is_row (hr.mono (by decide)) (by rfl) m_is_row k_is_row b_is_row pass0 (pxa_cons (px_ix ix_seq iIdx (px_var (pv 0)) px_int (fun _ _ => rfl)) pxa_nil)))) (ptw_x (ptx_cmp (op_eqD hu) iEq (px_ix ix_seq iIdx (px_var (pv 0)) px_int (fun _ _ => rfl)) (px_str (by rfl)) (nomark _)) (.inr rfl))))).pt (qss_cons (qs_ret px_bl) qss_nil) qss_nil) (qss_cons (qs_ret (px_callB (cr_all rfl) iAll (by rfl) z_all (by decide +kernel) (pxa_cons (px_comp (own := [("one", 1), ("other", 2)]) (p := (.tp [(.nm 1), (.nm 2)])) rfl nd (pix_zipS (by rfl) z_zip (pxa_cons (px_ix ix_seq iIdx (px_var (pv 0)) px_int (fun _ _ => rfl)) (pxa_cons (px_slL sl_all iSlL (px_ix ix_seq iIdx (px_var (pv 0)) px_int (fun _ _ => rfl)) px_int) pxa_nil))) (blkOk_by (own := [("one", 1), ("other", 2)]) (N := N_is_part) (sc := defScope s_is_part) (by decide +kernel)) (by decide) (fun _ _ _ _ _ => (pgx_tp rfl (pgxs_cons (pgx_nm (pg_name (i := 1) nd rfl (Or.inl rfl))) (pgxs_cons (pgx_nm (pg_name (i := 2) nd rfl (Or.inl rfl))) pgxs_nil)))) (fun _ _ _ _ _ => ptsx_nil) (fun _ _ _ _ _ => (px_cmp (op_ltA hu) iCm (px_var (pv 1)) (px_var (pv 2)) (nomark _)))) pxa_nil))) qss_nil))))
theorem has_is_piece (T : Tx K mg ad fd) : FnOk P w K mg base CX0 3 (ad 13) (fd 13) P_is_piece (spP K f_is_piece) := by
  have G_is_part := has_is_part (P := P) (w := w) (base := base) T
  have m_is_part := T.m_is_part
  have k_is_part := T.F_is_part.kp
  have b_is_part := T.b_is_part
  have z_isinstance := T.z_isinstance
  have z_list := T.z_list
  have z_len := T.z_len
  have z_all := T.z_all
  obtain ⟨t_MOST_PARTS, m_MOST_PARTS⟩ := T.m_MOST_PARTS
  have r_MOST_PARTS : ∀ H, R K H c_MOST_PARTS (.int 8) := fun H => by simp only [c_MOST_PARTS, R]
  have nd : (N_is_piece).Nodup := S_is_piece.nd
  refine fnB T.F_is_piece S_is_piece rfl rfl fun cdv A outer s H E N hr => ?_
  have hu := hr.units
  have hu2 := u200 hr
  exact (qss_cons (qs_ret (px_and (px_callB call_isi iIsi (by rfl) z_isinstance (by decide +kernel) (pxa_cons (px_var (pv 0)) (pxa_cons (px_ty (by rfl) z_list (by decide +kernel)) pxa_nil))) (px_and (px_cmp (op_leA hu) iCm (px_callB call_len iLen (by rfl) z_len (by decide +kernel) (pxa_cons (px_var (pv 0)) pxa_nil)) (px_glob (by rfl) m_MOST_PARTS (by exact ⟨_, rfl⟩) r_MOST_PARTS) (nomark _)) (px_one (px_callB (cr_all rfl) iAll (by rfl) z_all (by decide +kernel) (pxa_cons (px_comp (own := [("part", 1)]) (p := (.nm 1)) rfl nd (pix_seq (px_var (pv 0))) (blkOk_by (own := [("part", 1)]) (N := N_is_piece) (sc := defScope s_is_piece) (by decide +kernel)) (by decide) (fun _ _ _ _ _ => (pgx_nm (pg_name (i := 1) nd rfl (Or.inl rfl)))) (fun _ _ _ _ _ => ptsx_nil) (fun _ _ _ _ _ => (px_fn G_is_part (hr.mono (by decide)) (by rfl) m_is_part k_is_part b_is_part pass0 (pxa_cons (px_var (pv 1)) pxa_nil)))) pxa_nil)))))) qss_nil)
theorem has_check_set (T : Tx K mg ad fd) : FnOk P w K mg base CX0 4 (ad 14) (fd 14) P_check_set (spP K f_check_set) := by
  have G_is_piece := has_is_piece (P := P) (w := w) (base := base) T
  have m_is_piece := T.m_is_piece
  have k_is_piece := T.F_is_piece.kp
  have b_is_piece := T.b_is_piece
  have z_isinstance := T.z_isinstance
  have z_list := T.z_list
  have z_len := T.z_len
  have z_all := T.z_all
  obtain ⟨t_MOST_PIECES, m_MOST_PIECES⟩ := T.m_MOST_PIECES
  have r_MOST_PIECES : ∀ H, R K H c_MOST_PIECES (.int 6) := fun H => by simp only [c_MOST_PIECES, R]
  have nd : (N_check_set).Nodup := S_check_set.nd
  refine fnB T.F_check_set S_check_set rfl rfl fun cdv A outer s H E N hr => ?_
  have hu := hr.units
  have hu2 := u200 hr
  exact (qss_cons (qs_if ((ptx_or (ptx_not (pt_x (px_callB call_isi iIsi (by rfl) z_isinstance (by decide +kernel) (pxa_cons (px_var (pv 0)) (pxa_cons (px_ty (by rfl) z_list (by decide +kernel)) pxa_nil))))) (ptx_or (ptx_cmp (op_gtA hu) iCm (px_callB call_len iLen (by rfl) z_len (by decide +kernel) (pxa_cons (px_var (pv 0)) pxa_nil)) (px_glob (by rfl) m_MOST_PIECES (by exact ⟨_, rfl⟩) r_MOST_PIECES) (nomark _)) (ptw_x (ptx_not (pt_x (px_callB (cr_all rfl) iAll (by rfl) z_all (by decide +kernel) (pxa_cons (px_comp (own := [("piece", 1)]) (p := (.nm 1)) rfl nd (pix_seq (px_var (pv 0))) (blkOk_by (own := [("piece", 1)]) (N := N_check_set) (sc := defScope s_check_set) (by decide +kernel)) (by decide) (fun _ _ _ _ _ => (pgx_nm (pg_name (i := 1) nd rfl (Or.inl rfl)))) (fun _ _ _ _ _ => ptsx_nil) (fun _ _ _ _ _ => (px_fn G_is_piece (hr.mono (by decide)) (by rfl) m_is_piece k_is_piece b_is_piece pass0 (pxa_cons (px_var (pv 1)) pxa_nil)))) pxa_nil)))) (.inr rfl))))).pt (qss_cons qs_fail qss_nil) qss_nil) qss_nil)
theorem has_piece_holds (T : Tx K mg ad fd) : FnOk P w K mg base CX0 1 (ad 15) (fd 15) P_piece_holds (spP K f_piece_holds) := by
  have z_len := T.z_len
  have nd : (N_piece_holds).Nodup := S_piece_holds.nd
  refine fnB T.F_piece_holds S_piece_holds rfl rfl fun cdv A outer s H E N hr => ?_
  have hu := hr.units
  have hu2 := u200 hr
  exact (qss_cons (qs_set (i := 2) nd rfl (Or.inl rfl) px_int) (qss_cons (qs_for PassesOwn.never rfl (pix_seq (px_var (pv 1))) (pgx_nm (pg_name (i := 3) nd rfl (Or.inl rfl))) (qss_cons (qs_whl PassesOwn.never ((ptx_and (ptx_cmp (op_ltA hu) iCm (px_var (pv 2)) (px_callB call_len iLen (by rfl) z_len (by decide +kernel) (pxa_cons (px_var (pv 0)) pxa_nil)) (nomark _)) (ptw_x (ptx_cmp (op_nin2 hu) (iIn2 true) (px_var (pv 3)) (px_ix ix_seq iIdx (px_ix ix_seq iIdx (px_var (pv 0)) (px_var (pv 2)) (fun _ _ => rfl)) px_int (fun _ _ => rfl)) (by rfl)) (.inl rfl)))).pt (qss_cons (qs_aug (i := 2) nd rfl (Or.inl rfl) px_int iop_add iAddI) qss_nil)) (qss_cons (qs_if (ptx_cmp (op_eqD hu) iEq (px_var (pv 2)) (px_callB call_len iLen (by rfl) z_len (by decide +kernel) (pxa_cons (px_var (pv 0)) pxa_nil)) (nomark _)) (qss_cons (qs_ret px_bl) qss_nil) qss_nil) (qss_cons (qs_if (ptx_cmp (op_eqD hu) iEq (px_ix ix_seq iIdx (px_ix ix_seq iIdx (px_var (pv 0)) (px_var (pv 2)) (fun _ _ => rfl)) px_int (fun _ _ => rfl)) (px_str (by rfl)) (nomark _)) (qss_cons (qs_aug (i := 2) nd rfl (Or.inl rfl) px_int iop_add iAddI) qss_nil) qss_nil) qss_nil)))) (qss_cons (qs_ret px_bl) qss_nil)))
theorem has_set_holds (T : Tx K mg ad fd) : FnOk P w K mg base CX0 2 (ad 16) (fd 16) P_set_holds (spP K f_set_holds) := by
  have G_piece_holds := has_piece_holds (P := P) (w := w) (base := base) T
  have m_piece_holds := T.m_piece_holds
  have k_piece_holds := T.F_piece_holds.kp
  have b_piece_holds := T.b_piece_holds
  have z_any := T.z_any
  have nd : (N_set_holds).Nodup := S_set_holds.nd
  refine fnB T.F_set_holds S_set_holds rfl rfl fun cdv A outer s H E N hr => ?_
  have hu := hr.units
  have hu2 := u200 hr
  exact (qss_cons (qs_ret (px_callB (cr_any rfl) iAny (by rfl) z_any (by decide +kernel) (pxa_cons (px_comp (own := [("piece", 2)]) (p := (.nm 2)) rfl nd (pix_seq (px_var (pv 0))) (blkOk_by (own := [("piece", 2)]) (N := N_set_holds) (sc := defScope s_set_holds) (by decide +kernel)) (by decide) (fun _ _ _ _ _ => (pgx_nm (pg_name (i := 2) nd rfl (Or.inl rfl)))) (fun _ _ _ _ _ => ptsx_nil) (fun _ _ _ _ _ => (px_fn G_piece_holds (hr.mono (by decide)) (by rfl) m_piece_holds k_piece_holds b_piece_holds pass0 (pxa_cons (px_var (pv 2)) (pxa_cons (px_var (pv 1)) pxa_nil))))) pxa_nil))) qss_nil)
theorem has_holds (T : Tx K mg ad fd) : FnOk P w K mg base CX0 5 (ad 17) (fd 17) P_holds (spP K f_holds) := by
  have G_check_set := has_check_set (P := P) (w := w) (base := base) T
  have m_check_set := T.m_check_set
  have k_check_set := T.F_check_set.kp
  have b_check_set := T.b_check_set
  have G_is_row := has_is_row (P := P) (w := w) (base := base) T
  have m_is_row := T.m_is_row
  have k_is_row := T.F_is_row.kp
  have b_is_row := T.b_is_row
  have G_set_holds := has_set_holds (P := P) (w := w) (base := base) T
  have m_set_holds := T.m_set_holds
  have k_set_holds := T.F_set_holds.kp
  have b_set_holds := T.b_set_holds
  have nd : (N_holds).Nodup := S_holds.nd
  refine fnB T.F_holds S_holds rfl rfl fun cdv A outer s H E N hr => ?_
  have hu := hr.units
  have hu2 := u200 hr
  exact (qss_cons (qs_skip (px_fn G_check_set (hr.mono (by decide)) (by rfl) m_check_set k_check_set b_check_set pass0 (pxa_cons (px_var (pv 0)) pxa_nil))) (qss_cons (qs_if (ptx_not (pt_x (px_fn G_is_row (hr.mono (by decide)) (by rfl) m_is_row k_is_row b_is_row pass0 (pxa_cons (px_var (pv 1)) pxa_nil)))) (qss_cons qs_fail qss_nil) qss_nil) (qss_cons (qs_ret (px_fn G_set_holds (hr.mono (by decide)) (by rfl) m_set_holds k_set_holds b_set_holds pass0 (pxa_cons (px_var (pv 0)) (pxa_cons (px_var (pv 1)) pxa_nil)))) qss_nil)))
theorem has__law_ends (T : Tx K mg ad fd) : FnOk P w K mg base CX0 1 (ad 18) (fd 18) P__law_ends (spP K f__law_ends) := by
  have z_list := T.z_list
  have z_range := T.z_range
  have z_len := T.z_len
  have z_sorted := T.z_sorted
  have z_set := T.z_set
  have nd : (N__law_ends).Nodup := S__law_ends.nd
  refine fnB T.F__law_ends S__law_ends rfl rfl fun cdv A outer s H E N hr => ?_
  have hu := hr.units
  have hu2 := u200 hr
  exact (qss_cons (qs_set (i := 2) nd rfl (Or.inl rfl) (px_lrg1 (by rfl) z_list (by rfl) z_range (px_bin op_addAll iAdd (px_callB call_len iLen (by rfl) z_len (by decide +kernel) (pxa_cons (px_var (pv 0)) pxa_nil)) px_int))) (qss_cons (qs_for PassesOwn.never rfl (pix_seq (px_var (pv 1))) (pgx_nm (pg_name (i := 3) nd rfl (Or.inl rfl))) (qss_cons (qs_set (i := 4) nd rfl (Or.inl rfl) (px_lst pxa_nil)) (qss_cons (qs_for PassesOwn.never rfl (pix_r1 (by rfl) z_range (pxa_cons (px_callB call_len iLen (by rfl) z_len (by decide +kernel) (pxa_cons (px_var (pv 0)) pxa_nil)) pxa_nil)) (pgx_nm (pg_name (i := 5) nd rfl (Or.inl rfl))) (qss_cons (qs_if ((ptx_and (ptx_cmp (op_in2 hu) (iIn2 false) (px_var (pv 5)) (px_var (pv 2)) (by rfl)) (ptw_x (ptx_cmp (op_in2 hu) (iIn2 false) (px_var (pv 3)) (px_ix ix_seq iIdx (px_ix ix_seq iIdx (px_var (pv 0)) (px_var (pv 5)) (fun _ _ => rfl)) px_int (fun _ _ => rfl)) (by rfl)) (.inl rfl)))).pt (qss_cons (qs_set (i := 6) nd rfl (Or.inl rfl) (px_ife (ptx_cmp (op_eqD hu) iEq (px_ix ix_seq iIdx (px_ix ix_seq iIdx (px_var (pv 0)) (px_var (pv 5)) (fun _ _ => rfl)) px_int (fun _ _ => rfl)) (px_str (by rfl)) (nomark _)) (px_var (pv 5)) (px_bin op_addAll iAdd (px_var (pv 5)) px_int))) (qss_cons (qs_ext (i := 4) (pv 4) (px_lrg2 (by rfl) z_list (by rfl) z_range (px_var (pv 6)) (px_bin op_addAll iAdd (px_callB call_len iLen (by rfl) z_len (by decide +kernel) (pxa_cons (px_var (pv 0)) pxa_nil)) px_int)) (fun _ _ h1 h2 => pe_bm PySem.F.plainAttrs_list PySem.F.slot_list_extend PySem.F.type_list_extend mt_extend h1 h2)) qss_nil)) qss_nil) qss_nil)) (qss_cons (qs_set (i := 2) nd rfl (Or.inl rfl) (px_sset hu2 (by rfl) z_sorted (by rfl) z_set (px_var (pv 4)))) qss_nil)))) (qss_cons (qs_ret (px_cmp (op_neD hu) iNe (px_var (pv 2)) (px_lst pxa_nil) (nomark _))) qss_nil)))
theorem has__law_in (T : Tx K mg ad fd) : FnOk P w K mg base CX0 2 (ad 19) (fd 19) P__law_in (spP K f__law_in) := by
  have G__law_ends := has__law_ends (P := P) (w := w) (base := base) T
  have m__law_ends := T.m__law_ends
  have k__law_ends := T.F__law_ends.kp
  have b__law_ends := T.b__law_ends
  have z_any := T.z_any
  have nd : (N__law_in).Nodup := S__law_in.nd
  refine fnB T.F__law_in S__law_in rfl rfl fun cdv A outer s H E N hr => ?_
  have hu := hr.units
  have hu2 := u200 hr
  exact (qss_cons (qs_ret (px_callB (cr_any rfl) iAny (by rfl) z_any (by decide +kernel) (pxa_cons (px_comp (own := [("_law_piece_here", 2)]) (p := (.nm 2)) rfl nd (pix_seq (px_var (pv 0))) (blkOk_by (own := [("_law_piece_here", 2)]) (N := N__law_in) (sc := defScope s__law_in) (by decide +kernel)) (by decide) (fun _ _ _ _ _ => (pgx_nm (pg_name (i := 2) nd rfl (Or.inl rfl)))) (fun _ _ _ _ _ => ptsx_nil) (fun _ _ _ _ _ => (px_fn G__law_ends (hr.mono (by decide)) (by rfl) m__law_ends k__law_ends b__law_ends pass0 (pxa_cons (px_var (pv 2)) (pxa_cons (px_var (pv 1)) pxa_nil))))) pxa_nil))) qss_nil)
theorem has__law_right (T : Tx K mg ad fd) : FnOk P w K mg base CX0 6 (ad 20) (fd 20) P__law_right (spP K f__law_right) := by
  have G__law_says := has__law_says (P := P) (w := w) (base := base) T
  have m__law_says := T.m__law_says
  have k__law_says := T.F__law_says.kp
  have b__law_says := T.b__law_says
  have G_holds := has_holds (P := P) (w := w) (base := base) T
  have m_holds := T.m_holds
  have k_holds := T.F_holds.kp
  have b_holds := T.b_holds
  have G__law_in := has__law_in (P := P) (w := w) (base := base) T
  have m__law_in := T.m__law_in
  have k__law_in := T.F__law_in.kp
  have b__law_in := T.b__law_in
  have z_list := T.z_list
  have z_max := T.z_max
  have z_len := T.z_len
  have z_all := T.z_all
  have nd : (N__law_right).Nodup := S__law_right.nd
  refine fnB T.F__law_right S__law_right rfl rfl fun cdv A outer s H E N hr => ?_
  have hu := hr.units
  have hu2 := u200 hr
  exact (qss_cons (qs_set (i := 2) nd rfl (Or.inr rfl) (px_comp (own := [("_law_piece_here", 5)]) (p := (.nm 5)) rfl nd (pix_seq (px_var (pv 0))) (blkOk_by (own := [("_law_piece_here", 5)]) (N := N__law_right) (sc := defScope s__law_right) (by decide +kernel)) (by decide) (fun _ _ _ _ _ => (pgx_nm (pg_name (i := 5) nd rfl (Or.inl rfl)))) (fun _ _ _ _ _ => ptsx_nil) (fun _ _ _ _ _ => (px_callT (call_listAll rfl) iList (by rfl) z_list (by decide +kernel) (pxa_cons (px_var (pv 5)) pxa_nil))))) (qss_cons (qs_for PassesOwn.never rfl (pix_seq (px_var (pv 1))) (pgx_nm (pg_name (i := 3) nd rfl (Or.inl rfl))) (qss_cons (qs_if (ptx_not (pt_x (px_fn G__law_says (hr.mono (by decide)) (by rfl) m__law_says k__law_says b__law_says pass0 (pxa_cons (px_fn G_holds (hr.mono (by decide)) (by rfl) m_holds k_holds b_holds pass0 (pxa_cons (px_var (pv 2)) (pxa_cons (px_var (pv 3)) pxa_nil))) (pxa_cons (px_fn G__law_in (hr.mono (by decide)) (by rfl) m__law_in k__law_in b__law_in pass0 (pxa_cons (px_var (pv 0)) (pxa_cons (px_var (pv 3)) pxa_nil))) pxa_nil))))) (qss_cons (qs_ret px_bl) qss_nil) qss_nil) qss_nil)) (qss_cons (qs_if (ptx_cmp (op_neD hu) iNe (px_var (pv 2)) (px_var (pv 0)) (nomark _)) (qss_cons (qs_ret px_bl) qss_nil) qss_nil) (qss_cons (qs_if (ptx_cmp (op_neD hu) iNe (px_var (pv 2)) (px_lst pxa_nil) (nomark _)) (qss_cons (qs_pApp (pe_pth1 (pe_pth0 (pv 2)) px_negc (fun _ _ => rfl)) (px_tup (pxa_cons (px_str (by rfl)) (pxa_cons (px_str (by rfl)) pxa_nil))) (fun _ _ h1 h2 => pe_bm PySem.F.plainAttrs_list PySem.F.slot_list_append PySem.F.type_list_append mt_append h1 h2)) (qss_cons (qs_pIns (pe_pth1 (pe_pth0 (pv 2)) px_int (fun _ _ => rfl)) (pe_int (i := 0)) (px_tup (pxa_cons (px_str (by rfl)) (pxa_cons (px_str (by rfl)) pxa_nil))) (fun _ _ h1 h2 => pe_bm PySem.F.plainAttrs_list PySem.F.slot_list_insert PySem.F.type_list_insert mt_insert h1 h2)) qss_nil)) (qss_cons (qs_app (i := 2) (pv 2) (px_lst (pxa_cons (px_tup (pxa_cons (px_str (by rfl)) (pxa_cons (px_str (by rfl)) pxa_nil))) pxa_nil)) (fun _ _ h1 h2 => pe_bm PySem.F.plainAttrs_list PySem.F.slot_list_append PySem.F.type_list_append mt_append h1 h2)) qss_nil)) (qss_cons (qs_set (i := 4) nd rfl (Or.inl rfl) (px_bin op_addAll iAdd (px_comp (own := [("_law_row", 3)]) (p := (.nm 3)) rfl nd (pix_seq (px_slH sl_all iSlH (px_var (pv 1)) px_int)) (blkOk_by (own := [("_law_row", 3)]) (N := N__law_right) (sc := defScope s__law_right) (by decide +kernel)) (by decide) (fun _ _ _ _ _ => (pgx_nm (pg_name (i := 3) nd rfl (Or.inl rfl)))) (fun _ _ _ _ _ => ptsx_nil) (fun _ _ _ _ _ => (px_var (pv 3)))) (px_comp (own := [("_law_row", 3)]) (p := (.nm 3)) rfl nd (pix_seq (px_slH sl_all iSlH (px_var (pv 1)) px_int)) (blkOk_by (own := [("_law_row", 3)]) (N := N__law_right) (sc := defScope s__law_right) (by decide +kernel)) (by decide) (fun _ _ _ _ _ => (pgx_nm (pg_name (i := 3) nd rfl (Or.inl rfl)))) (fun _ _ _ _ _ => ptsx_nil) (fun _ _ _ _ _ => (px_bin op_addAll iAdd (px_bin op_addAll iAdd (px_str (by rfl)) (px_var (pv 3))) (px_str (by rfl))))))) (qss_cons (qs_if (ptx_cmp (op_gtA hu) iCm (px_callB (cr_max rfl) iMax1 (by rfl) z_max (by decide +kernel) (pxa_cons (px_bin op_addAll iAdd (px_lst (pxa_cons px_int pxa_nil)) (px_comp (own := [("_law_piece_here", 5)]) (p := (.nm 5)) rfl nd (pix_seq (px_var (pv 2))) (blkOk_by (own := [("_law_piece_here", 5)]) (N := N__law_right) (sc := defScope s__law_right) (by decide +kernel)) (by decide) (fun _ _ _ _ _ => (pgx_nm (pg_name (i := 5) nd rfl (Or.inl rfl)))) (fun _ _ _ _ _ => ptsx_nil) (fun _ _ _ _ _ => (px_callB call_len iLen (by rfl) z_len (by decide +kernel) (pxa_cons (px_var (pv 5)) pxa_nil))))) pxa_nil)) px_int (nomark _)) (qss_cons (qs_ret px_bl) qss_nil) qss_nil) (qss_cons (qs_ret (px_callB (cr_all rfl) iAll (by rfl) z_all (by decide +kernel) (pxa_cons (px_comp (own := [("_law_row", 3)]) (p := (.nm 3)) rfl nd (pix_seq (px_var (pv 4))) (blkOk_by (own := [("_law_row", 3)]) (N := N__law_right) (sc := defScope s__law_right) (by decide +kernel)) (by decide) (fun _ _ _ _ _ => (pgx_nm (pg_name (i := 3) nd rfl (Or.inl rfl)))) (fun _ _ _ _ _ => ptsx_nil) (fun _ _ _ _ _ => (px_fn G__law_says (hr.mono (by decide)) (by rfl) m__law_says k__law_says b__law_says pass0 (pxa_cons (px_fn G_holds (hr.mono (by decide)) (by rfl) m_holds k_holds b_holds pass0 (pxa_cons (px_var (pv 2)) (pxa_cons (px_var (pv 3)) pxa_nil))) (pxa_cons (px_fn G__law_in (hr.mono (by decide)) (by rfl) m__law_in k__law_in b__law_in pass0 (pxa_cons (px_var (pv 2)) (pxa_cons (px_var (pv 3)) pxa_nil))) pxa_nil))))) pxa_nil))) qss_nil)))))))
theorem has_law (T : Tx K mg ad fd) : FnOk P w K mg base CX0 7 (ad 21) (fd 21) P_law (spP K f_law) := by
  have G__law_rows := has__law_rows (P := P) (w := w) (base := base) T
  have m__law_rows := T.m__law_rows
  have k__law_rows := T.F__law_rows.kp
  have b__law_rows := T.b__law_rows
  have G__law_set := has__law_set (P := P) (w := w) (base := base) T
  have m__law_set := T.m__law_set
  have k__law_set := T.F__law_set.kp
  have b__law_set := T.b__law_set
  have G__law_full := has__law_full (P := P) (w := w) (base := base) T
  have m__law_full := T.m__law_full
  have k__law_full := T.F__law_full.kp
  have b__law_full := T.b__law_full
  have G__law_word := has__law_word (P := P) (w := w) (base := base) T
  have m__law_word := T.m__law_word
  have k__law_word := T.F__law_word.kp
  have b__law_word := T.b__law_word
  have G__law_right := has__law_right (P := P) (w := w) (base := base) T
  have m__law_right := T.m__law_right
  have k__law_right := T.F__law_right.kp
  have b__law_right := T.b__law_right
  have G_holds := has_holds (P := P) (w := w) (base := base) T
  have m_holds := T.m_holds
  have k_holds := T.F_holds.kp
  have b_holds := T.b_holds
  have G__law_piece := has__law_piece (P := P) (w := w) (base := base) T
  have m__law_piece := T.m__law_piece
  have k__law_piece := T.F__law_piece.kp
  have b__law_piece := T.b__law_piece
  have z_range := T.z_range
  have z_max := T.z_max
  have z_min := T.z_min
  have z_len := T.z_len
  have z_all := T.z_all
  have nd : (N_law).Nodup := S_law.nd
  refine fnB T.F_law S_law rfl rfl fun cdv A outer s H E N hr => ?_
  have hu := hr.units
  have hu2 := u200 hr
  exact (qss_cons (qs_set (i := 1) nd rfl (Or.inl rfl) (px_fn G__law_rows (hr.mono (by decide)) (by rfl) m__law_rows k__law_rows b__law_rows pass0 (pxa_cons px_int (pxa_cons (px_str (by rfl)) pxa_nil)))) (qss_cons (qs_for PassesOwn.never rfl (pix_r3 (by rfl) z_range (pxa_cons px_int (pxa_cons (px_callB (call_max2 rfl) iMax2 (by rfl) z_max (by decide +kernel) (pxa_cons px_int (pxa_cons (px_callB (call_min2 rfl) iMin2 (by rfl) z_min (by decide +kernel) (pxa_cons px_int (pxa_cons (px_callB call_len iLen (by rfl) z_len (by decide +kernel) (pxa_cons (px_var (pv 0)) pxa_nil)) pxa_nil))) pxa_nil))) (pxa_cons px_int pxa_nil)))) (pgx_nm (pg_name (i := 2) nd rfl (Or.inr rfl))) (qss_cons (qs_set (i := 3) nd rfl (Or.inr rfl) (px_fn G__law_set (hr.mono (by decide)) (by rfl) m__law_set k__law_set b__law_set pass0 (pxa_cons (px_var (pv 0)) (pxa_cons (px_var (pv 2)) (pxa_cons px_int (pxa_cons px_int pxa_nil)))))) (qss_frz (qss_cons (qs_set (i := 4) nd rfl (Or.inl rfl) (px_bin op_addAll iAdd (px_var (pv 1)) (px_comp (own := [("_law_piece_here", 9)]) (p := (.nm 9)) rfl nd (pix_seq (px_var (pv 3))) (blkOk_by (own := [("_law_piece_here", 9)]) (N := N_law) (sc := defScope s_law) (by decide +kernel)) (by decide) (fun _ _ _ _ _ => (pgx_nm (pg_name (i := 9) nd rfl (Or.inl rfl)))) (fun _ _ _ _ _ => ptsx_nil) (fun _ _ _ _ _ => (px_fn G__law_full (hr.mono (by decide)) (by rfl) m__law_full k__law_full b__law_full pass0 (pxa_cons (px_var (pv 9)) (pxa_cons px_int pxa_nil))))))) (qss_cons (qs_set (i := 4) nd rfl (Or.inl rfl) (px_bin op_addAll iAdd (px_var (pv 4)) (px_comp (own := [("_law_piece_here", 9)]) (p := (.nm 9)) rfl nd (pix_seq (px_var (pv 3))) (blkOk_by (own := [("_law_piece_here", 9)]) (N := N_law) (sc := defScope s_law) (by decide +kernel)) (by decide) (fun _ _ _ _ _ => (pgx_nm (pg_name (i := 9) nd rfl (Or.inl rfl)))) (fun _ _ _ _ _ => ptsx_nil) (fun _ _ _ _ _ => (px_step (k := (-1)) (by decide) pe_m1 (px_fn G__law_full (hr.mono (by decide)) (by rfl) m__law_full k__law_full b__law_full pass0 (pxa_cons (px_var (pv 9)) (pxa_cons px_int pxa_nil)))))))) (qss_cons (qs_set (i := 4) nd rfl (Or.inl rfl) (px_bin op_addAll iAdd (px_bin op_addAll iAdd (px_var (pv 4)) (px_comp (own := [("_law_k", 10)]) (p := (.nm 10)) rfl nd (pix_r1 (by rfl) z_range (pxa_cons px_int pxa_nil)) (blkOk_by (own := [("_law_k", 10)]) (N := N_law) (sc := defScope s_law) (by decide +kernel)) (by decide) (fun _ _ _ _ _ => (pgx_nm (pg_name (i := 10) nd rfl (Or.inl rfl)))) (fun _ _ _ _ _ => ptsx_nil) (fun _ _ _ _ _ => (px_fn G__law_word (hr.mono (by decide)) (by rfl) m__law_word k__law_word b__law_word pass0 (pxa_cons (px_var (pv 0)) (pxa_cons (px_bin op_addAll iAdd (px_var (pv 2)) (px_var (pv 10))) (pxa_cons px_int (pxa_cons px_int pxa_nil)))))))) (px_lst (pxa_cons (px_str (by rfl)) (pxa_cons (px_str (by rfl)) pxa_nil))))) (qss_cons (qs_if (ptx_not (pt_x (px_fn G__law_right (hr.mono (by decide)) (by rfl) m__law_right k__law_right b__law_right pass0 (pxa_cons (px_var (pv 3)) (pxa_cons (px_var (pv 4)) pxa_nil))))) (qss_cons (qs_ret px_bl) qss_nil) qss_nil) (qss_frz (qss_cons (qs_for PassesOwn.never rfl (pix_seq (px_var (pv 4))) (pgx_nm (pg_name (i := 5) nd rfl (Or.inr rfl))) (qss_cons (qs_setc (i := 6) rfl rfl (sw_true rfl rfl rfl rfl) (own := [("_law_at", 11)]) (p := (.nm 11)) rfl nd (pix_r1 (by rfl) z_range (pxa_cons (px_callB call_len iLen (by rfl) z_len (by decide +kernel) (pxa_cons (px_var (pv 5)) pxa_nil)) pxa_nil)) (blkOk_by (own := [("_law_at", 11)]) (N := N_law) (sc := defScope s_law) (by decide +kernel)) (by decide) (fun _ _ _ _ _ => (pgx_nm (pg_name (i := 11) nd rfl (Or.inl rfl)))) (fun _ _ _ _ _ => ptsx_nil) (fun _ _ _ _ _ => (px_bin op_addAll iAdd (px_slH sl_all iSlH (px_var (pv 5)) (px_var (pv 11))) (px_slL sl_all iSlL (px_var (pv 5)) (px_bin op_addAll iAdd (px_var (pv 11)) px_int))))) (qss_cons (qs_if ((ptx_and (pt_x (px_fn G_holds (hr.mono (by decide)) (by rfl) m_holds k_holds b_holds pass0 (pxa_cons (px_var (pv 3)) (pxa_cons (px_var (pv 5)) pxa_nil)))) (ptw_x (ptx_not (pt_x (px_callB (cr_all rfl) iAll (by rfl) z_all (by decide +kernel) (pxa_cons (px_comp (own := [("_law_some", 12)]) (p := (.nm 12)) rfl nd (pix_seq (px_var (pv 6))) (blkOk_by (own := [("_law_some", 12)]) (N := N_law) (sc := defScope s_law) (by decide +kernel)) (by decide) (fun _ _ _ _ _ => (pgx_nm (pg_name (i := 12) nd rfl (Or.inl rfl)))) (fun _ _ _ _ _ => ptsx_nil) (fun _ _ _ _ _ => (px_fn G_holds (hr.mono (by decide)) (by rfl) m_holds k_holds b_holds pass0 (pxa_cons (px_var (pv 3)) (pxa_cons (px_var (pv 12)) pxa_nil))))) pxa_nil)))) (.inl rfl)))).pt (qss_cons (qs_ret px_bl) qss_nil) qss_nil) qss_nil))) (qss_cons (qs_setc (i := 7) rfl rfl (sw_true rfl rfl rfl rfl) (own := [("_law_k", 10)]) (p := (.nm 10)) rfl nd (pix_r1 (by rfl) z_range (pxa_cons px_int pxa_nil)) (blkOk_by (own := [("_law_k", 10)]) (N := N_law) (sc := defScope s_law) (by decide +kernel)) (by decide) (fun _ _ _ _ _ => (pgx_nm (pg_name (i := 10) nd rfl (Or.inl rfl)))) (fun _ _ _ _ _ => ptsx_nil) (fun _ _ _ _ _ => (px_slH sl_all iSlH (px_bin op_addAll iAdd (px_fn G__law_piece (hr.mono (by decide)) (by rfl) m__law_piece k__law_piece b__law_piece pass0 (pxa_cons (px_var (pv 0)) (pxa_cons (px_bin op_addAll iAdd (px_var (pv 2)) (px_var (pv 10))) (pxa_cons px_int pxa_nil)))) (px_bin op_mulAll iMul (px_lst (pxa_cons (px_tup (pxa_cons (px_str (by rfl)) (pxa_cons (px_str (by rfl)) pxa_nil))) pxa_nil)) px_int)) px_int))) (qss_cons (qs_if (ptx_not (pt_x (px_fn G__law_right (hr.mono (by decide)) (by rfl) m__law_right k__law_right b__law_right pass0 (pxa_cons (px_var (pv 7)) (pxa_cons (px_bin op_addAll iAdd (px_bin op_addAll iAdd (px_var (pv 1)) (px_lst (pxa_cons (px_str (by rfl)) (pxa_cons (px_str (by rfl)) (pxa_cons (px_str (by rfl)) (pxa_cons (px_str (by rfl)) pxa_nil)))))) (px_slL sl_all iSlL (px_var (pv 4)) px_negc)) pxa_nil))))) (qss_cons (qs_ret px_bl) qss_nil) qss_nil) (qss_cons (qs_set (i := 8) nd rfl (Or.inl rfl) (px_bin op_addAll iAdd (px_fn G__law_piece (hr.mono (by decide)) (by rfl) m__law_piece k__law_piece b__law_piece pass0 (pxa_cons (px_var (pv 0)) (pxa_cons (px_var (pv 2)) (pxa_cons px_int pxa_nil)))) (px_fn G__law_piece (hr.mono (by decide)) (by rfl) m__law_piece k__law_piece b__law_piece pass0 (pxa_cons (px_var (pv 0)) (pxa_cons (px_bin op_addAll iAdd (px_var (pv 2)) px_int) (pxa_cons px_int pxa_nil)))))) (qss_cons (qs_if (ptx_not (pt_x (px_fn G__law_right (hr.mono (by decide)) (by rfl) m__law_right k__law_right b__law_right pass0 (pxa_cons (px_lst (pxa_cons (px_slH sl_all iSlH (px_var (pv 8)) px_int) pxa_nil)) (pxa_cons (px_bin op_addAll iAdd (px_var (pv 1)) (px_slL sl_all iSlL (px_var (pv 4)) px_negc)) pxa_nil))))) (qss_cons (qs_ret px_bl) qss_nil) qss_nil) qss_nil))))))))))))) (qss_cons (qs_if ((ptx_or (ptx_cmp op_notBl iNotB (px_fn G_holds (hr.mono (by decide)) (by rfl) m_holds k_holds b_holds pass0 (pxa_cons (px_lst pxa_nil) (pxa_cons (px_str (by rfl)) pxa_nil))) px_bl (nomark _)) (ptw_x (ptx_cmp op_notBl iNotB (px_fn G_holds (hr.mono (by decide)) (by rfl) m_holds k_holds b_holds pass0 (pxa_cons (px_lst (pxa_cons (px_lst pxa_nil) pxa_nil)) (pxa_cons (px_str (by rfl)) pxa_nil))) px_bl (nomark _)) (.inr rfl)))).pt (qss_cons (qs_ret px_bl) qss_nil) qss_nil) (qss_cons (qs_ret (px_cmp op_isBl iIsB (px_fn G_holds (hr.mono (by decide)) (by rfl) m_holds k_holds b_holds pass0 (pxa_cons (px_lst (pxa_cons (px_lst (pxa_cons (px_tup (pxa_cons (px_str (by rfl)) (pxa_cons (px_str (by rfl)) pxa_nil))) (pxa_cons (px_tup (pxa_cons (px_str (by rfl)) (pxa_cons (px_str (by rfl)) pxa_nil))) pxa_nil))) pxa_nil)) (pxa_cons (px_bin op_mulAll iMul (px_str (by rfl)) px_int) pxa_nil))) px_bl (nomark _))) qss_nil))))
end
theorem all_mk {P : Program} {w : World} {K : PySem.W.Frag} {h : Heap} {mg : Str → Option Value} {fa : Addr} (X : K.In h) (G : h.Ns mainGlobals mg) (hfa : mg "law" = some (.ref fa))
    {f0 : Addr} {oc0 kV0 dc0 pm0 cd0 ct0 : Value} {od0 an0 : Option Addr} {sl0 : Array (Option Value)}
    (a0 : PySem.W.nsIn K mainGlobals "_law_rows" = some (some (.ref f0))) (l0 : K.lookup f0 = some ⟨oc0, od0, .func (PySem.W.fnOf "_law_rows" "_law_rows" (defArgs s__law_rows) (defBody s__law_rows) (defScope s__law_rows) .none kV0 dc0 pm0 an0 cd0 ct0), sl0⟩) (c0 : PySem.W.codeIn K cd0 "_law_rows" = true) (k0 : PySem.W.keepIn K (.ref f0) = true)
    {f1 : Addr} {oc1 kV1 dc1 pm1 cd1 ct1 : Value} {od1 an1 : Option Addr} {sl1 : Array (Option Value)}
    (a1 : PySem.W.nsIn K mainGlobals "_law_draw" = some (some (.ref f1))) (l1 : K.lookup f1 = some ⟨oc1, od1, .func (PySem.W.fnOf "_law_draw" "_law_draw" (defArgs s__law_draw) (defBody s__law_draw) (defScope s__law_draw) .none kV1 dc1 pm1 an1 cd1 ct1), sl1⟩) (c1 : PySem.W.codeIn K cd1 "_law_draw" = true) (k1 : PySem.W.keepIn K (.ref f1) = true)
    {f2 : Addr} {oc2 kV2 dc2 pm2 cd2 ct2 : Value} {od2 an2 : Option Addr} {sl2 : Array (Option Value)}
    (a2 : PySem.W.nsIn K mainGlobals "_law_number" = some (some (.ref f2))) (l2 : K.lookup f2 = some ⟨oc2, od2, .func (PySem.W.fnOf "_law_number" "_law_number" (defArgs s__law_number) (defBody s__law_number) (defScope s__law_number) .none kV2 dc2 pm2 an2 cd2 ct2), sl2⟩) (c2 : PySem.W.codeIn K cd2 "_law_number" = true) (k2 : PySem.W.keepIn K (.ref f2) = true)
    {f3 : Addr} {oc3 kV3 dc3 pm3 cd3 ct3 : Value} {od3 an3 : Option Addr} {sl3 : Array (Option Value)}
    (a3 : PySem.W.nsIn K mainGlobals "_law_cell_at" = some (some (.ref f3))) (l3 : K.lookup f3 = some ⟨oc3, od3, .func (PySem.W.fnOf "_law_cell_at" "_law_cell_at" (defArgs s__law_cell_at) (defBody s__law_cell_at) (defScope s__law_cell_at) .none kV3 dc3 pm3 an3 cd3 ct3), sl3⟩) (c3 : PySem.W.codeIn K cd3 "_law_cell_at" = true) (k3 : PySem.W.keepIn K (.ref f3) = true)
    {f4 : Addr} {oc4 kV4 dc4 pm4 cd4 ct4 : Value} {od4 an4 : Option Addr} {sl4 : Array (Option Value)}
    (a4 : PySem.W.nsIn K mainGlobals "_law_part" = some (some (.ref f4))) (l4 : K.lookup f4 = some ⟨oc4, od4, .func (PySem.W.fnOf "_law_part" "_law_part" (defArgs s__law_part) (defBody s__law_part) (defScope s__law_part) .none kV4 dc4 pm4 an4 cd4 ct4), sl4⟩) (c4 : PySem.W.codeIn K cd4 "_law_part" = true) (k4 : PySem.W.keepIn K (.ref f4) = true)
    {f5 : Addr} {oc5 kV5 dc5 pm5 cd5 ct5 : Value} {od5 an5 : Option Addr} {sl5 : Array (Option Value)}
    (a5 : PySem.W.nsIn K mainGlobals "_law_piece" = some (some (.ref f5))) (l5 : K.lookup f5 = some ⟨oc5, od5, .func (PySem.W.fnOf "_law_piece" "_law_piece" (defArgs s__law_piece) (defBody s__law_piece) (defScope s__law_piece) .none kV5 dc5 pm5 an5 cd5 ct5), sl5⟩) (c5 : PySem.W.codeIn K cd5 "_law_piece" = true) (k5 : PySem.W.keepIn K (.ref f5) = true)
    {f6 : Addr} {oc6 kV6 dc6 pm6 cd6 ct6 : Value} {od6 an6 : Option Addr} {sl6 : Array (Option Value)}
    (a6 : PySem.W.nsIn K mainGlobals "_law_set" = some (some (.ref f6))) (l6 : K.lookup f6 = some ⟨oc6, od6, .func (PySem.W.fnOf "_law_set" "_law_set" (defArgs s__law_set) (defBody s__law_set) (defScope s__law_set) .none kV6 dc6 pm6 an6 cd6 ct6), sl6⟩) (c6 : PySem.W.codeIn K cd6 "_law_set" = true) (k6 : PySem.W.keepIn K (.ref f6) = true)
    {f7 : Addr} {oc7 kV7 dc7 pm7 cd7 ct7 : Value} {od7 an7 : Option Addr} {sl7 : Array (Option Value)}
    (a7 : PySem.W.nsIn K mainGlobals "_law_full" = some (some (.ref f7))) (l7 : K.lookup f7 = some ⟨oc7, od7, .func (PySem.W.fnOf "_law_full" "_law_full" (defArgs s__law_full) (defBody s__law_full) (defScope s__law_full) .none kV7 dc7 pm7 an7 cd7 ct7), sl7⟩) (c7 : PySem.W.codeIn K cd7 "_law_full" = true) (k7 : PySem.W.keepIn K (.ref f7) = true)
    {f8 : Addr} {oc8 kV8 dc8 pm8 cd8 ct8 : Value} {od8 an8 : Option Addr} {sl8 : Array (Option Value)}
    (a8 : PySem.W.nsIn K mainGlobals "_law_word" = some (some (.ref f8))) (l8 : K.lookup f8 = some ⟨oc8, od8, .func (PySem.W.fnOf "_law_word" "_law_word" (defArgs s__law_word) (defBody s__law_word) (defScope s__law_word) .none kV8 dc8 pm8 an8 cd8 ct8), sl8⟩) (c8 : PySem.W.codeIn K cd8 "_law_word" = true) (k8 : PySem.W.keepIn K (.ref f8) = true)
    {f9 : Addr} {oc9 kV9 dc9 pm9 cd9 ct9 : Value} {od9 an9 : Option Addr} {sl9 : Array (Option Value)}
    (a9 : PySem.W.nsIn K mainGlobals "_law_says" = some (some (.ref f9))) (l9 : K.lookup f9 = some ⟨oc9, od9, .func (PySem.W.fnOf "_law_says" "_law_says" (defArgs s__law_says) (defBody s__law_says) (defScope s__law_says) .none kV9 dc9 pm9 an9 cd9 ct9), sl9⟩) (c9 : PySem.W.codeIn K cd9 "_law_says" = true) (k9 : PySem.W.keepIn K (.ref f9) = true)
    {f10 : Addr} {oc10 kV10 dc10 pm10 cd10 ct10 : Value} {od10 an10 : Option Addr} {sl10 : Array (Option Value)}
    (a10 : PySem.W.nsIn K mainGlobals "is_letter" = some (some (.ref f10))) (l10 : K.lookup f10 = some ⟨oc10, od10, .func (PySem.W.fnOf "is_letter" "is_letter" (defArgs s_is_letter) (defBody s_is_letter) (defScope s_is_letter) .none kV10 dc10 pm10 an10 cd10 ct10), sl10⟩) (c10 : PySem.W.codeIn K cd10 "is_letter" = true) (k10 : PySem.W.keepIn K (.ref f10) = true)
    {f11 : Addr} {oc11 kV11 dc11 pm11 cd11 ct11 : Value} {od11 an11 : Option Addr} {sl11 : Array (Option Value)}
    (a11 : PySem.W.nsIn K mainGlobals "is_row" = some (some (.ref f11))) (l11 : K.lookup f11 = some ⟨oc11, od11, .func (PySem.W.fnOf "is_row" "is_row" (defArgs s_is_row) (defBody s_is_row) (defScope s_is_row) .none kV11 dc11 pm11 an11 cd11 ct11), sl11⟩) (c11 : PySem.W.codeIn K cd11 "is_row" = true) (k11 : PySem.W.keepIn K (.ref f11) = true)
    {f12 : Addr} {oc12 kV12 dc12 pm12 cd12 ct12 : Value} {od12 an12 : Option Addr} {sl12 : Array (Option Value)}
    (a12 : PySem.W.nsIn K mainGlobals "is_part" = some (some (.ref f12))) (l12 : K.lookup f12 = some ⟨oc12, od12, .func (PySem.W.fnOf "is_part" "is_part" (defArgs s_is_part) (defBody s_is_part) (defScope s_is_part) .none kV12 dc12 pm12 an12 cd12 ct12), sl12⟩) (c12 : PySem.W.codeIn K cd12 "is_part" = true) (k12 : PySem.W.keepIn K (.ref f12) = true)
    {f13 : Addr} {oc13 kV13 dc13 pm13 cd13 ct13 : Value} {od13 an13 : Option Addr} {sl13 : Array (Option Value)}
    (a13 : PySem.W.nsIn K mainGlobals "is_piece" = some (some (.ref f13))) (l13 : K.lookup f13 = some ⟨oc13, od13, .func (PySem.W.fnOf "is_piece" "is_piece" (defArgs s_is_piece) (defBody s_is_piece) (defScope s_is_piece) .none kV13 dc13 pm13 an13 cd13 ct13), sl13⟩) (c13 : PySem.W.codeIn K cd13 "is_piece" = true) (k13 : PySem.W.keepIn K (.ref f13) = true)
    {f14 : Addr} {oc14 kV14 dc14 pm14 cd14 ct14 : Value} {od14 an14 : Option Addr} {sl14 : Array (Option Value)}
    (a14 : PySem.W.nsIn K mainGlobals "check_set" = some (some (.ref f14))) (l14 : K.lookup f14 = some ⟨oc14, od14, .func (PySem.W.fnOf "check_set" "check_set" (defArgs s_check_set) (defBody s_check_set) (defScope s_check_set) .none kV14 dc14 pm14 an14 cd14 ct14), sl14⟩) (c14 : PySem.W.codeIn K cd14 "check_set" = true) (k14 : PySem.W.keepIn K (.ref f14) = true)
    {f15 : Addr} {oc15 kV15 dc15 pm15 cd15 ct15 : Value} {od15 an15 : Option Addr} {sl15 : Array (Option Value)}
    (a15 : PySem.W.nsIn K mainGlobals "piece_holds" = some (some (.ref f15))) (l15 : K.lookup f15 = some ⟨oc15, od15, .func (PySem.W.fnOf "piece_holds" "piece_holds" (defArgs s_piece_holds) (defBody s_piece_holds) (defScope s_piece_holds) .none kV15 dc15 pm15 an15 cd15 ct15), sl15⟩) (c15 : PySem.W.codeIn K cd15 "piece_holds" = true) (k15 : PySem.W.keepIn K (.ref f15) = true)
    {f16 : Addr} {oc16 kV16 dc16 pm16 cd16 ct16 : Value} {od16 an16 : Option Addr} {sl16 : Array (Option Value)}
    (a16 : PySem.W.nsIn K mainGlobals "set_holds" = some (some (.ref f16))) (l16 : K.lookup f16 = some ⟨oc16, od16, .func (PySem.W.fnOf "set_holds" "set_holds" (defArgs s_set_holds) (defBody s_set_holds) (defScope s_set_holds) .none kV16 dc16 pm16 an16 cd16 ct16), sl16⟩) (c16 : PySem.W.codeIn K cd16 "set_holds" = true) (k16 : PySem.W.keepIn K (.ref f16) = true)
    {f17 : Addr} {oc17 kV17 dc17 pm17 cd17 ct17 : Value} {od17 an17 : Option Addr} {sl17 : Array (Option Value)}
    (a17 : PySem.W.nsIn K mainGlobals "holds" = some (some (.ref f17))) (l17 : K.lookup f17 = some ⟨oc17, od17, .func (PySem.W.fnOf "holds" "holds" (defArgs s_holds) (defBody s_holds) (defScope s_holds) .none kV17 dc17 pm17 an17 cd17 ct17), sl17⟩) (c17 : PySem.W.codeIn K cd17 "holds" = true) (k17 : PySem.W.keepIn K (.ref f17) = true)
    {f18 : Addr} {oc18 kV18 dc18 pm18 cd18 ct18 : Value} {od18 an18 : Option Addr} {sl18 : Array (Option Value)}
    (a18 : PySem.W.nsIn K mainGlobals "_law_ends" = some (some (.ref f18))) (l18 : K.lookup f18 = some ⟨oc18, od18, .func (PySem.W.fnOf "_law_ends" "_law_ends" (defArgs s__law_ends) (defBody s__law_ends) (defScope s__law_ends) .none kV18 dc18 pm18 an18 cd18 ct18), sl18⟩) (c18 : PySem.W.codeIn K cd18 "_law_ends" = true) (k18 : PySem.W.keepIn K (.ref f18) = true)
    {f19 : Addr} {oc19 kV19 dc19 pm19 cd19 ct19 : Value} {od19 an19 : Option Addr} {sl19 : Array (Option Value)}
    (a19 : PySem.W.nsIn K mainGlobals "_law_in" = some (some (.ref f19))) (l19 : K.lookup f19 = some ⟨oc19, od19, .func (PySem.W.fnOf "_law_in" "_law_in" (defArgs s__law_in) (defBody s__law_in) (defScope s__law_in) .none kV19 dc19 pm19 an19 cd19 ct19), sl19⟩) (c19 : PySem.W.codeIn K cd19 "_law_in" = true) (k19 : PySem.W.keepIn K (.ref f19) = true)
    {f20 : Addr} {oc20 kV20 dc20 pm20 cd20 ct20 : Value} {od20 an20 : Option Addr} {sl20 : Array (Option Value)}
    (a20 : PySem.W.nsIn K mainGlobals "_law_right" = some (some (.ref f20))) (l20 : K.lookup f20 = some ⟨oc20, od20, .func (PySem.W.fnOf "_law_right" "_law_right" (defArgs s__law_right) (defBody s__law_right) (defScope s__law_right) .none kV20 dc20 pm20 an20 cd20 ct20), sl20⟩) (c20 : PySem.W.codeIn K cd20 "_law_right" = true) (k20 : PySem.W.keepIn K (.ref f20) = true)
    {f21 : Addr} {oc21 kV21 dc21 pm21 cd21 ct21 : Value} {od21 an21 : Option Addr} {sl21 : Array (Option Value)}
    (a21 : PySem.W.nsIn K mainGlobals "law" = some (some (.ref f21))) (l21 : K.lookup f21 = some ⟨oc21, od21, .func (PySem.W.fnOf "law" "law" (defArgs s_law) (defBody s_law) (defScope s_law) .none kV21 dc21 pm21 an21 cd21 ct21), sl21⟩) (c21 : PySem.W.codeIn K cd21 "law" = true) (k21 : PySem.W.keepIn K (.ref f21) = true)
    (z0 : PySem.W.nsIn K mainGlobals "all" = some none)
    (z1 : PySem.W.nsIn K mainGlobals "any" = some none)
    (z2 : PySem.W.nsIn K mainGlobals "bool" = some none)
    (z3 : PySem.W.nsIn K mainGlobals "enumerate" = some none)
    (z4 : PySem.W.nsIn K mainGlobals "isinstance" = some none)
    (z5 : PySem.W.nsIn K mainGlobals "len" = some none)
    (z6 : PySem.W.nsIn K mainGlobals "list" = some none)
    (z7 : PySem.W.nsIn K mainGlobals "max" = some none)
    (z8 : PySem.W.nsIn K mainGlobals "min" = some none)
    (z9 : PySem.W.nsIn K mainGlobals "range" = some none)
    (z10 : PySem.W.nsIn K mainGlobals "set" = some none)
    (z11 : PySem.W.nsIn K mainGlobals "sorted" = some none)
    (z12 : PySem.W.nsIn K mainGlobals "str" = some none)
    (z13 : PySem.W.nsIn K mainGlobals "tuple" = some none)
    (z14 : PySem.W.nsIn K mainGlobals "zip" = some none)
    {t0 : _} (g0 : PySem.W.nsIn K mainGlobals "LETTERS" = some (some (.str ⟨[97, 98, 99, 100, 101, 102, 103, 104, 105, 106, 107, 108, 109, 110, 111, 112, 113, 114, 115, 116, 117, 118, 119, 120, 121, 122].toArray⟩ t0)))
    {t1 : _} (g1 : PySem.W.nsIn K mainGlobals "MOST_PARTS" = some (some (.int 8 t1)))
    {t2 : _} (g2 : PySem.W.nsIn K mainGlobals "MOST_PIECES" = some (some (.int 6 t2)))
    : ∃ fd : FuncData, (∀ (s : Shared) (v : Value), BindsTo s fd ⟨[v], []⟩ [("_law_script", v)]) ∧ ∀ base : Heap, K.In base → base.Ns mainGlobals mg → FnOk P w K mg base CX0 7 fa fd P_law (spP K f_law) := by
  have e := hfa.symm.trans (PySem.W.mg_of X G a21)
  cases e
  have F0 := fun_mk (st := s__law_rows) l0 c0 k0
  have b0 := F0.binds (ps := P__law_rows) fun _ _ _ _ _ _ us hl => match us, hl with | [_, _], _ => rfl
  have F1 := fun_mk (st := s__law_draw) l1 c1 k1
  have b1 := F1.binds (ps := P__law_draw) fun _ _ _ _ _ _ us hl => match us, hl with | [_, _, _], _ => rfl
  have F2 := fun_mk (st := s__law_number) l2 c2 k2
  have b2 := F2.binds (ps := P__law_number) fun _ _ _ _ _ _ us hl => match us, hl with | [_, _, _], _ => rfl
  have F3 := fun_mk (st := s__law_cell_at) l3 c3 k3
  have b3 := F3.binds (ps := P__law_cell_at) fun _ _ _ _ _ _ us hl => match us, hl with | [_, _], _ => rfl
  have F4 := fun_mk (st := s__law_part) l4 c4 k4
  have b4 := F4.binds (ps := P__law_part) fun _ _ _ _ _ _ us hl => match us, hl with | [_, _, _], _ => rfl
  have F5 := fun_mk (st := s__law_piece) l5 c5 k5
  have b5 := F5.binds (ps := P__law_piece) fun _ _ _ _ _ _ us hl => match us, hl with | [_, _, _], _ => rfl
  have F6 := fun_mk (st := s__law_set) l6 c6 k6
  have b6 := F6.binds (ps := P__law_set) fun _ _ _ _ _ _ us hl => match us, hl with | [_, _, _, _], _ => rfl
  have F7 := fun_mk (st := s__law_full) l7 c7 k7
  have b7 := F7.binds (ps := P__law_full) fun _ _ _ _ _ _ us hl => match us, hl with | [_, _], _ => rfl
  have F8 := fun_mk (st := s__law_word) l8 c8 k8
  have b8 := F8.binds (ps := P__law_word) fun _ _ _ _ _ _ us hl => match us, hl with | [_, _, _, _], _ => rfl
  have F9 := fun_mk (st := s__law_says) l9 c9 k9
  have b9 := F9.binds (ps := P__law_says) fun _ _ _ _ _ _ us hl => match us, hl with | [_, _], _ => rfl
  have F10 := fun_mk (st := s_is_letter) l10 c10 k10
  have b10 := F10.binds (ps := P_is_letter) fun _ _ _ _ _ _ us hl => match us, hl with | [_], _ => rfl
  have F11 := fun_mk (st := s_is_row) l11 c11 k11
  have b11 := F11.binds (ps := P_is_row) fun _ _ _ _ _ _ us hl => match us, hl with | [_], _ => rfl
  have F12 := fun_mk (st := s_is_part) l12 c12 k12
  have b12 := F12.binds (ps := P_is_part) fun _ _ _ _ _ _ us hl => match us, hl with | [_], _ => rfl
  have F13 := fun_mk (st := s_is_piece) l13 c13 k13
  have b13 := F13.binds (ps := P_is_piece) fun _ _ _ _ _ _ us hl => match us, hl with | [_], _ => rfl
  have F14 := fun_mk (st := s_check_set) l14 c14 k14
  have b14 := F14.binds (ps := P_check_set) fun _ _ _ _ _ _ us hl => match us, hl with | [_], _ => rfl
  have F15 := fun_mk (st := s_piece_holds) l15 c15 k15
  have b15 := F15.binds (ps := P_piece_holds) fun _ _ _ _ _ _ us hl => match us, hl with | [_, _], _ => rfl
  have F16 := fun_mk (st := s_set_holds) l16 c16 k16
  have b16 := F16.binds (ps := P_set_holds) fun _ _ _ _ _ _ us hl => match us, hl with | [_, _], _ => rfl
  have F17 := fun_mk (st := s_holds) l17 c17 k17
  have b17 := F17.binds (ps := P_holds) fun _ _ _ _ _ _ us hl => match us, hl with | [_, _], _ => rfl
  have F18 := fun_mk (st := s__law_ends) l18 c18 k18
  have b18 := F18.binds (ps := P__law_ends) fun _ _ _ _ _ _ us hl => match us, hl with | [_, _], _ => rfl
  have F19 := fun_mk (st := s__law_in) l19 c19 k19
  have b19 := F19.binds (ps := P__law_in) fun _ _ _ _ _ _ us hl => match us, hl with | [_, _], _ => rfl
  have F20 := fun_mk (st := s__law_right) l20 c20 k20
  have b20 := F20.binds (ps := P__law_right) fun _ _ _ _ _ _ us hl => match us, hl with | [_, _], _ => rfl
  have F21 := fun_mk (st := s_law) l21 c21 k21
  have b21 := F21.binds (ps := P_law) fun _ _ _ _ _ _ us hl => match us, hl with | [_], _ => rfl
  let ad : Nat → Addr := fun i => match i with | 0 => f0 | 1 => f1 | 2 => f2 | 3 => f3 | 4 => f4 | 5 => f5 | 6 => f6 | 7 => f7 | 8 => f8 | 9 => f9 | 10 => f10 | 11 => f11 | 12 => f12 | 13 => f13 | 14 => f14 | 15 => f15 | 16 => f16 | 17 => f17 | 18 => f18 | 19 => f19 | 20 => f20 | 21 => fa | _ => f0
  let fd : Nat → FuncData := fun i => match i with | 0 => PySem.W.fnOf "_law_rows" "_law_rows" (defArgs s__law_rows) (defBody s__law_rows) (defScope s__law_rows) .none kV0 dc0 pm0 an0 cd0 ct0 | 1 => PySem.W.fnOf "_law_draw" "_law_draw" (defArgs s__law_draw) (defBody s__law_draw) (defScope s__law_draw) .none kV1 dc1 pm1 an1 cd1 ct1 | 2 => PySem.W.fnOf "_law_number" "_law_number" (defArgs s__law_number) (defBody s__law_number) (defScope s__law_number) .none kV2 dc2 pm2 an2 cd2 ct2 | 3 => PySem.W.fnOf "_law_cell_at" "_law_cell_at" (defArgs s__law_cell_at) (defBody s__law_cell_at) (defScope s__law_cell_at) .none kV3 dc3 pm3 an3 cd3 ct3 | 4 => PySem.W.fnOf "_law_part" "_law_part" (defArgs s__law_part) (defBody s__law_part) (defScope s__law_part) .none kV4 dc4 pm4 an4 cd4 ct4 | 5 => PySem.W.fnOf "_law_piece" "_law_piece" (defArgs s__law_piece) (defBody s__law_piece) (defScope s__law_piece) .none kV5 dc5 pm5 an5 cd5 ct5 | 6 => PySem.W.fnOf "_law_set" "_law_set" (defArgs s__law_set) (defBody s__law_set) (defScope s__law_set) .none kV6 dc6 pm6 an6 cd6 ct6 | 7 => PySem.W.fnOf "_law_full" "_law_full" (defArgs s__law_full) (defBody s__law_full) (defScope s__law_full) .none kV7 dc7 pm7 an7 cd7 ct7 | 8 => PySem.W.fnOf "_law_word" "_law_word" (defArgs s__law_word) (defBody s__law_word) (defScope s__law_word) .none kV8 dc8 pm8 an8 cd8 ct8 | 9 => PySem.W.fnOf "_law_says" "_law_says" (defArgs s__law_says) (defBody s__law_says) (defScope s__law_says) .none kV9 dc9 pm9 an9 cd9 ct9 | 10 => PySem.W.fnOf "is_letter" "is_letter" (defArgs s_is_letter) (defBody s_is_letter) (defScope s_is_letter) .none kV10 dc10 pm10 an10 cd10 ct10 | 11 => PySem.W.fnOf "is_row" "is_row" (defArgs s_is_row) (defBody s_is_row) (defScope s_is_row) .none kV11 dc11 pm11 an11 cd11 ct11 | 12 => PySem.W.fnOf "is_part" "is_part" (defArgs s_is_part) (defBody s_is_part) (defScope s_is_part) .none kV12 dc12 pm12 an12 cd12 ct12 | 13 => PySem.W.fnOf "is_piece" "is_piece" (defArgs s_is_piece) (defBody s_is_piece) (defScope s_is_piece) .none kV13 dc13 pm13 an13 cd13 ct13 | 14 => PySem.W.fnOf "check_set" "check_set" (defArgs s_check_set) (defBody s_check_set) (defScope s_check_set) .none kV14 dc14 pm14 an14 cd14 ct14 | 15 => PySem.W.fnOf "piece_holds" "piece_holds" (defArgs s_piece_holds) (defBody s_piece_holds) (defScope s_piece_holds) .none kV15 dc15 pm15 an15 cd15 ct15 | 16 => PySem.W.fnOf "set_holds" "set_holds" (defArgs s_set_holds) (defBody s_set_holds) (defScope s_set_holds) .none kV16 dc16 pm16 an16 cd16 ct16 | 17 => PySem.W.fnOf "holds" "holds" (defArgs s_holds) (defBody s_holds) (defScope s_holds) .none kV17 dc17 pm17 an17 cd17 ct17 | 18 => PySem.W.fnOf "_law_ends" "_law_ends" (defArgs s__law_ends) (defBody s__law_ends) (defScope s__law_ends) .none kV18 dc18 pm18 an18 cd18 ct18 | 19 => PySem.W.fnOf "_law_in" "_law_in" (defArgs s__law_in) (defBody s__law_in) (defScope s__law_in) .none kV19 dc19 pm19 an19 cd19 ct19 | 20 => PySem.W.fnOf "_law_right" "_law_right" (defArgs s__law_right) (defBody s__law_right) (defScope s__law_right) .none kV20 dc20 pm20 an20 cd20 ct20 | 21 => PySem.W.fnOf "law" "law" (defArgs s_law) (defBody s_law) (defScope s_law) .none kV21 dc21 pm21 an21 cd21 ct21 | _ => PySem.W.fnOf "_law_rows" "_law_rows" (defArgs s__law_rows) (defBody s__law_rows) (defScope s__law_rows) .none kV0 dc0 pm0 an0 cd0 ct0
  have T : Tx K mg ad fd := { F__law_rows := F0, b__law_rows := b0, m__law_rows := PySem.W.mg_of X G a0, F__law_draw := F1, b__law_draw := b1, m__law_draw := PySem.W.mg_of X G a1, F__law_number := F2, b__law_number := b2, m__law_number := PySem.W.mg_of X G a2, F__law_cell_at := F3, b__law_cell_at := b3, m__law_cell_at := PySem.W.mg_of X G a3, F__law_part := F4, b__law_part := b4, m__law_part := PySem.W.mg_of X G a4, F__law_piece := F5, b__law_piece := b5, m__law_piece := PySem.W.mg_of X G a5, F__law_set := F6, b__law_set := b6, m__law_set := PySem.W.mg_of X G a6, F__law_full := F7, b__law_full := b7, m__law_full := PySem.W.mg_of X G a7, F__law_word := F8, b__law_word := b8, m__law_word := PySem.W.mg_of X G a8, F__law_says := F9, b__law_says := b9, m__law_says := PySem.W.mg_of X G a9, F_is_letter := F10, b_is_letter := b10, m_is_letter := PySem.W.mg_of X G a10, F_is_row := F11, b_is_row := b11, m_is_row := PySem.W.mg_of X G a11, F_is_part := F12, b_is_part := b12, m_is_part := PySem.W.mg_of X G a12, F_is_piece := F13, b_is_piece := b13, m_is_piece := PySem.W.mg_of X G a13, F_check_set := F14, b_check_set := b14, m_check_set := PySem.W.mg_of X G a14, F_piece_holds := F15, b_piece_holds := b15, m_piece_holds := PySem.W.mg_of X G a15, F_set_holds := F16, b_set_holds := b16, m_set_holds := PySem.W.mg_of X G a16, F_holds := F17, b_holds := b17, m_holds := PySem.W.mg_of X G a17, F__law_ends := F18, b__law_ends := b18, m__law_ends := PySem.W.mg_of X G a18, F__law_in := F19, b__law_in := b19, m__law_in := PySem.W.mg_of X G a19, F__law_right := F20, b__law_right := b20, m__law_right := PySem.W.mg_of X G a20, F_law := F21, b_law := b21, m_law := PySem.W.mg_of X G a21, z_all := PySem.W.mg_none_of X G z0, z_any := PySem.W.mg_none_of X G z1, z_bool := PySem.W.mg_none_of X G z2, z_enumerate := PySem.W.mg_none_of X G z3, z_isinstance := PySem.W.mg_none_of X G z4, z_len := PySem.W.mg_none_of X G z5, z_list := PySem.W.mg_none_of X G z6, z_max := PySem.W.mg_none_of X G z7, z_min := PySem.W.mg_none_of X G z8, z_range := PySem.W.mg_none_of X G z9, z_set := PySem.W.mg_none_of X G z10, z_sorted := PySem.W.mg_none_of X G z11, z_str := PySem.W.mg_none_of X G z12, z_tuple := PySem.W.mg_none_of X G z13, z_zip := PySem.W.mg_none_of X G z14, m_LETTERS := ⟨_, PySem.W.mg_of X G g0⟩, m_MOST_PARTS := ⟨_, PySem.W.mg_of X G g1⟩, m_MOST_PIECES := ⟨_, PySem.W.mg_of X G g2⟩ }
  exact ⟨fd 21, fun s v => .of_eq rfl, fun base _ _ => has_law T⟩
end K19
namespace K19
open PySem SW
theorem cell_eq (ns : List Int) (k : Nat) : f__law_cell_at [.scr ns, .int k] = some (.int (ns[k]?.getD 0), .sh) := by
  by_cases h : k < ns.length
  · simp [f__law_cell_at, b__law_cell_at, fB, runB_f, st0, evB_nl, evB_cn, seqO_nx, seqO_rt, seqO_bk, seqO_ct, seqO_none, finO_rt, finO_nx, evS_ifs, pickB_t, pickB_f, runP_some, evS.eq_1, evS.eq_2, evS.eq_3, evS.eq_4, evS.eq_5, evS.eq_6, evS.eq_7, evS.eq_11, evS.eq_12, evS.eq_13, evS.eq_14, evS.eq_15, evS.eq_16, evS.eq_17, evS.eq_18, evS.eq_19, evS.eq_20, evS.eq_21, evS.eq_22, evS.eq_23, evS.eq_24, evS.eq_25, evx_pr, evx_lst, evx_tup, evx_nil, evx_cons, evx_and, evx_or, evx_ife, evx_var, varO_some, evx_lit, prO_some, prO_none, lstO_some, tupO_some, consO_some, consO_none, andO_t, andO_f, orO_t, orO_f, ifO_t, ifO_f, runE_some, evM, evMs, bindP, bindPs, wipeE, nmz, rd, fz, isB, isFu, isSh, mkLst, mkTup, hasL, hasLs, itM, newLst, callG, isNonD, gLt, gGe, gLe, gGt, gLtA_ii, gGtA_ii, gLeA_ii, gGeA_ii, gIn2_cs, gSub, gMod, gDiv, gPow, gAddI, g2I, gAdd, gMul, gLen, gIdx, gMax2, gMin2, gIsi, gIsN, gNotN, tyD, isiT, tyList, inR, B62, SZ, atI_nat, h]
  · simp [f__law_cell_at, b__law_cell_at, fB, runB_f, st0, evB_nl, evB_cn, seqO_nx, seqO_rt, seqO_bk, seqO_ct, seqO_none, finO_rt, finO_nx, evS_ifs, pickB_t, pickB_f, runP_some, evS.eq_1, evS.eq_2, evS.eq_3, evS.eq_4, evS.eq_5, evS.eq_6, evS.eq_7, evS.eq_11, evS.eq_12, evS.eq_13, evS.eq_14, evS.eq_15, evS.eq_16, evS.eq_17, evS.eq_18, evS.eq_19, evS.eq_20, evS.eq_21, evS.eq_22, evS.eq_23, evS.eq_24, evS.eq_25, evx_pr, evx_lst, evx_tup, evx_nil, evx_cons, evx_and, evx_or, evx_ife, evx_var, varO_some, evx_lit, prO_some, prO_none, lstO_some, tupO_some, consO_some, consO_none, andO_t, andO_f, orO_t, orO_f, ifO_t, ifO_f, runE_some, evM, evMs, bindP, bindPs, wipeE, nmz, rd, fz, isB, isFu, isSh, mkLst, mkTup, hasL, hasLs, itM, newLst, callG, isNonD, gLt, gGe, gLe, gGt, gLtA_ii, gGtA_ii, gLeA_ii, gGeA_ii, gIn2_cs, gSub, gMod, gDiv, gPow, gAddI, g2I, gAdd, gMul, gLen, gIdx, gMax2, gMin2, gIsi, gIsN, gNotN, tyD, isiT, tyList, inR, B62, SZ, h]
theorem cell_bd {ns : List Int} (hb : ∀ z ∈ ns, Builtin.Int.intBits z ≤ 1048576) (k : Nat) : Bd 1048576 (ns[k]?.getD 0) := by
  cases e : ns[k]? with
  | none => exact Bd.of_bits (by decide)
  | some z => exact Bd.of_bits (hb z (List.mem_of_getElem? e))
def rPrimes : List Int := [1000003, 1000033, 1000037, 1000039, 1000081, 1000099, 1000117, 1000121, 1000133, 1000151, 1000159, 1000171, 1000183, 1000187, 1000193, 1000199]
theorem draw_eq {n : Nat} {c : Int} (hb : Bd n c) (hn : n ≤ 100000000) (k : Nat) (hk : k < 1000) (most : Nat) (hm : 0 < most) : ∃ r : Nat, r < most ∧ f__law_draw [.int c, .int k, .int most] = some (.int r, .sh) := by
  have b1 : bitsOk c 48271 = true := hb.ok (Bd.lit (n := 16) (by decide)) (by omega)
  have b2 : bitsOk (k : Int) 69621 = true := (Bd.nat (n := 10) (by omega)).ok (Bd.lit (n := 17) (by decide)) (by omega)
  have hp : ∃ q : Int, 0 < q ∧ rPrimes[k % 16]? = some q := by
    have : ∀ j < 16, ∃ q : Int, 0 < q ∧ rPrimes[j]? = some q := by
      intro j hj
      have : j = 0 ∨ j = 1 ∨ j = 2 ∨ j = 3 ∨ j = 4 ∨ j = 5 ∨ j = 6 ∨ j = 7 ∨ j = 8 ∨ j = 9 ∨ j = 10 ∨ j = 11 ∨ j = 12 ∨ j = 13 ∨ j = 14 ∨ j = 15 := by omega
      rcases this with rfl | rfl | rfl | rfl | rfl | rfl | rfl | rfl | rfl | rfl | rfl | rfl | rfl | rfl | rfl | rfl <;> exact ⟨_, by decide, rfl⟩
    exact this _ (Nat.mod_lt _ (by decide))
  obtain ⟨q, hq, eq⟩ := hp
  have e16 : ((k : Int) % 16) = ((k % 16 : Nat) : Int) := by omega
  have hq2 : L2.atI (rPrimes.map D.int) ((k : Int) % 16) = some (.int q) := by
    rw [e16, atI_nat, List.getElem?_map, eq]; rfl
  simp only [rPrimes, List.map_cons, List.map_nil] at hq2
  refine ⟨((c * 48271 + k * 69621) % q % most).toNat, ?_, ?_⟩
  · have h1 := Int.emod_lt_of_pos ((c * 48271 + k * 69621) % q) (show (0 : Int) < most by omega)
    have h0 := Int.emod_nonneg ((c * 48271 + k * 69621) % q) (show (most : Int) ≠ 0 by omega)
    omega
  · have h0 := Int.emod_nonneg ((c * 48271 + k * 69621) % q) (show (most : Int) ≠ 0 by omega)
    rw [Int.toNat_of_nonneg h0]
    simp [f__law_draw, b__law_draw, fB, runB_f, st0, evB_nl, evB_cn, seqO_nx, seqO_rt, seqO_bk, seqO_ct, seqO_none, finO_rt, finO_nx, evS_ifs, pickB_t, pickB_f, runP_some, evS.eq_1, evS.eq_2, evS.eq_3, evS.eq_4, evS.eq_5, evS.eq_6, evS.eq_7, evS.eq_11, evS.eq_12, evS.eq_13, evS.eq_14, evS.eq_15, evS.eq_16, evS.eq_17, evS.eq_18, evS.eq_19, evS.eq_20, evS.eq_21, evS.eq_22, evS.eq_23, evS.eq_24, evS.eq_25, evx_pr, evx_lst, evx_tup, evx_nil, evx_cons, evx_and, evx_or, evx_ife, evx_var, varO_some, evx_lit, prO_some, prO_none, lstO_some, tupO_some, consO_some, consO_none, andO_t, andO_f, orO_t, orO_f, ifO_t, ifO_f, runE_some, evM, evMs, bindP, bindPs, wipeE, nmz, rd, fz, isB, isFu, isSh, mkLst, mkTup, hasL, hasLs, itM, newLst, callG, isNonD, gLt, gGe, gLe, gGt, gLtA_ii, gGtA_ii, gLeA_ii, gGeA_ii, gIn2_cs, gSub, gMod, gDiv, gPow, gAddI, g2I, gAdd, gMul, gLen, gIdx, gMax2, gMin2, gIsi, gIsN, gNotN, tyD, isiT, tyList, inR, B62, SZ, b1, b2, hq2, hq, hm]
theorem number_eq {n : Nat} {c : Int} (hb : Bd n c) (hn : n ≤ 10000000) (k : Nat) (hk : k < 1000) (most : Nat) (hm : 0 < most) : ∃ r : Nat, r < most ∧ f__law_number [.int c, .int k, .int most] = some (.int r, .sh) := by
  by_cases hc : (1000000000000000000 : Int) ≤ c
  · have e5 : ((k : Int) % 5) = ((k % 5 : Nat) : Int) := by omega
    have hp : ∃ q : Int, 0 < q ∧ q < 1073741824 ∧ L2.atI [D.int 1, D.int 7, D.int 49, D.int 343, D.int 2401] ((k : Int) % 5) = some (.int q) := by
      rw [e5, atI_nat]
      have : ∀ j < 5, ∃ q : Int, 0 < q ∧ q < 1073741824 ∧ [D.int 1, D.int 7, D.int 49, D.int 343, D.int 2401][j]? = some (.int q) := by
        intro j hj
        have : j = 0 ∨ j = 1 ∨ j = 2 ∨ j = 3 ∨ j = 4 := by omega
        rcases this with rfl | rfl | rfl | rfl | rfl <;> exact ⟨_, by decide, by decide, rfl⟩
      exact this _ (Nat.mod_lt _ (by decide))
    obtain ⟨q, hq, hq2, eq⟩ := hp
    refine ⟨((c - 1000000000000000000) / q % most).toNat, ?_, ?_⟩
    · have h1 := Int.emod_lt_of_pos ((c - 1000000000000000000) / q) (show (0 : Int) < most by omega)
      have h0 := Int.emod_nonneg ((c - 1000000000000000000) / q) (show (most : Int) ≠ 0 by omega)
      omega
    · have h0 := Int.emod_nonneg ((c - 1000000000000000000) / q) (show (most : Int) ≠ 0 by omega)
      rw [Int.toNat_of_nonneg h0]
      simp [f__law_number, b__law_number, fB, runB_f, st0, evB_nl, evB_cn, seqO_nx, seqO_rt, seqO_bk, seqO_ct, seqO_none, finO_rt, finO_nx, evS_ifs, pickB_t, pickB_f, runP_some, evS.eq_1, evS.eq_2, evS.eq_3, evS.eq_4, evS.eq_5, evS.eq_6, evS.eq_7, evS.eq_11, evS.eq_12, evS.eq_13, evS.eq_14, evS.eq_15, evS.eq_16, evS.eq_17, evS.eq_18, evS.eq_19, evS.eq_20, evS.eq_21, evS.eq_22, evS.eq_23, evS.eq_24, evS.eq_25, evx_pr, evx_lst, evx_tup, evx_nil, evx_cons, evx_and, evx_or, evx_ife, evx_var, varO_some, evx_lit, prO_some, prO_none, lstO_some, tupO_some, consO_some, consO_none, andO_t, andO_f, orO_t, orO_f, ifO_t, ifO_f, runE_some, evM, evMs, bindP, bindPs, wipeE, nmz, rd, fz, isB, isFu, isSh, mkLst, mkTup, hasL, hasLs, itM, newLst, callG, isNonD, gLt, gGe, gLe, gGt, gLtA_ii, gGtA_ii, gLeA_ii, gGeA_ii, gIn2_cs, gSub, gMod, gDiv, gPow, gAddI, g2I, gAdd, gMul, gLen, gIdx, gMax2, gMin2, gIsi, gIsN, gNotN, tyD, isiT, tyList, inR, B62, SZ, hc, eq, hq, hq2, hm]
  · have c1 : Bd (max n 20 + 1) (c + 977 * k) := hb.add ((Bd.lit (n := 10) (k := 977) (by decide)).mul (Bd.nat (n := 10) (by omega)))
    have c2 : Bd (max (max n 15 + 1) 3 + 1) (c + 31 * k + 5) := (hb.add ((Bd.lit (n := 5) (k := 31) (by decide)).mul (Bd.nat (n := 10) (by omega)))).add (Bd.lit (n := 3) (k := 5) (by decide))
    have b0 : bitsOk (977 : Int) (k : Int) = true := (Bd.lit (n := 10) (by decide)).ok (Bd.nat (n := 10) (by omega)) (by omega)
    have b1 : bitsOk (31 : Int) (k : Int) = true := (Bd.lit (n := 5) (by decide)).ok (Bd.nat (n := 10) (by omega)) (by omega)
    have b2 := c1.ok c2 (by omega)
    have c3 := c1.mul c2
    obtain ⟨r, hr, er⟩ := draw_eq c3 (by omega) (k % 9 + 1) (by omega) 999983 (by decide)
    have e9 : ((k % 9 + 1 : Nat) : Int) = (k : Int) % 9 + 1 := by omega
    rw [e9, show ((999983 : Nat) : Int) = 999983 from rfl] at er
    refine ⟨r % most, Nat.mod_lt _ hm, ?_⟩
    simp [f__law_number, b__law_number, fB, runB_f, st0, evB_nl, evB_cn, seqO_nx, seqO_rt, seqO_bk, seqO_ct, seqO_none, finO_rt, finO_nx, evS_ifs, pickB_t, pickB_f, runP_some, evS.eq_1, evS.eq_2, evS.eq_3, evS.eq_4, evS.eq_5, evS.eq_6, evS.eq_7, evS.eq_11, evS.eq_12, evS.eq_13, evS.eq_14, evS.eq_15, evS.eq_16, evS.eq_17, evS.eq_18, evS.eq_19, evS.eq_20, evS.eq_21, evS.eq_22, evS.eq_23, evS.eq_24, evS.eq_25, evx_pr, evx_lst, evx_tup, evx_nil, evx_cons, evx_and, evx_or, evx_ife, evx_var, varO_some, evx_lit, prO_some, prO_none, lstO_some, tupO_some, consO_some, consO_none, andO_t, andO_f, orO_t, orO_f, ifO_t, ifO_f, runE_some, evM, evMs, bindP, bindPs, wipeE, nmz, rd, fz, isB, isFu, isSh, mkLst, mkTup, hasL, hasLs, itM, newLst, callG, isNonD, gLt, gGe, gLe, gGt, gLtA_ii, gGtA_ii, gLeA_ii, gGeA_ii, gIn2_cs, gSub, gMod, gDiv, gPow, gAddI, g2I, gAdd, gMul, gLen, gIdx, gMax2, gMin2, gIsi, gIsN, gNotN, tyD, isiT, tyList, inR, B62, SZ, hc, b0, b1, b2, er, hm]

def Let (many : Nat) (w : List Nat) : Prop := ∀ c ∈ w, 97 ≤ c ∧ c < 97 + many
theorem Let.mono {m n : Nat} {w : List Nat} (h : Let m w) (k : m ≤ n) : Let n w := fun c hc => ⟨(h c hc).1, by have := (h c hc).2; omega⟩
theorem Let.app {m : Nat} {v w : List Nat} (h : Let m v) (k : Let m w) : Let m (v ++ w) := fun c hc => by
  rcases List.mem_append.mp hc with hc | hc
  · exact h c hc
  · exact k c hc
theorem Let.take {m : Nat} {w : List Nat} (h : Let m w) (i : Nat) : Let m (w.take i) := fun c hc => h c (List.mem_of_mem_take hc)
theorem Let.drop {m : Nat} {w : List Nat} (h : Let m w) (i : Nat) : Let m (w.drop i) := fun c hc => h c (List.mem_of_mem_drop hc)
theorem word_eq {ns : List Int} (hb : ∀ z ∈ ns, Builtin.Int.intBits z ≤ 1048576) (b most many : Nat) (h1 : b < 100) (h2 : most < 100) (h3 : 0 < many) (h4 : many ≤ 8) :
    ∃ w : List Nat, w.length ≤ most ∧ Let many w ∧ f__law_word [.scr ns, .int b, .int most, .int many] = some (.str w, .sh) := by
  obtain ⟨r, hr, er⟩ := number_eq (cell_bd hb b) (by omega) b (by omega) (most + 1) (by omega)
  rw [show ((most + 1 : Nat) : Int) = (most : Int) + 1 by omega] at er
  have loop := forGo_ind (p := .nm 5) (m := .sh) (b := evB FUEL l__law_word_1)
    (fun i ρ => ∃ w s5 s6, ρ = [some (.scr ns, .sh), some (.int b, .sh), some (.int most, .sh), some (.int many, .sh), some (.str w, .sh), s5, s6] ∧ w.length = i ∧ Let many w) (rngD 0 1 r) 0
    [some (.scr ns, .sh), some (.int b, .sh), some (.int most, .sh), some (.int many, .sh), some (.str [], .sh), none, none] ⟨[], none, none, rfl, rfl, by simp [Let]⟩ ?_
  · obtain ⟨ρ', e, w, s5, s6, rfl, hw, hl⟩ := loop
    rw [Nat.zero_add, rngD_len] at hw
    refine ⟨w, by omega, hl, ?_⟩
    have hq : evS FUEL q__law_word_1 [some (.scr ns, .sh), some (.int b, .sh), some (.int most, .sh), some (.int many, .sh), some (.str [], .sh), none, none] = some (.nx [some (.scr ns, .sh), some (.int b, .sh), some (.int most, .sh), some (.int many, .sh), some (.str w, .sh), s5, s6]) := by
      rw [q__law_word_1, evS_fors (as := [(.int r, .sh)]) (by simp [fB, runB_f, st0, evB_nl, evB_cn, seqO_nx, seqO_rt, seqO_bk, seqO_ct, seqO_none, finO_rt, finO_nx, evS_ifs, pickB_t, pickB_f, runP_some, evS.eq_1, evS.eq_2, evS.eq_3, evS.eq_4, evS.eq_5, evS.eq_6, evS.eq_7, evS.eq_11, evS.eq_12, evS.eq_13, evS.eq_14, evS.eq_15, evS.eq_16, evS.eq_17, evS.eq_18, evS.eq_19, evS.eq_20, evS.eq_21, evS.eq_22, evS.eq_23, evS.eq_24, evS.eq_25, evx_pr, evx_lst, evx_tup, evx_nil, evx_cons, evx_and, evx_or, evx_ife, evx_var, varO_some, evx_lit, prO_some, prO_none, lstO_some, tupO_some, consO_some, consO_none, andO_t, andO_f, orO_t, orO_f, ifO_t, ifO_f, runE_some, evM, evMs, bindP, bindPs, wipeE, nmz, rd, fz, isB, isFu, isSh, mkLst, mkTup, hasL, hasLs, itM, newLst, callG, isNonD, gLt, gGe, gLe, gGt, gLtA_ii, gGtA_ii, gLeA_ii, gGeA_ii, gIn2_cs, gSub, gMod, gDiv, gPow, gAddI, g2I, gAdd, gMul, gLen, gIdx, gMax2, gMin2, gIsi, gIsN, gNotN, tyD, isiT, tyList, inR, B62, SZ, cell_eq, er]) (igR1_nat (by omega))]
      exact e
    simp [f__law_word, b__law_word, fB, runB_f, st0, evB_nl, evB_cn, seqO_nx, seqO_rt, seqO_bk, seqO_ct, seqO_none, finO_rt, finO_nx, evS_ifs, pickB_t, pickB_f, runP_some, evS.eq_1, evS.eq_2, evS.eq_3, evS.eq_4, evS.eq_5, evS.eq_6, evS.eq_7, evS.eq_11, evS.eq_12, evS.eq_13, evS.eq_14, evS.eq_15, evS.eq_16, evS.eq_17, evS.eq_18, evS.eq_19, evS.eq_20, evS.eq_21, evS.eq_22, evS.eq_23, evS.eq_24, evS.eq_25, evx_pr, evx_lst, evx_tup, evx_nil, evx_cons, evx_and, evx_or, evx_ife, evx_var, varO_some, evx_lit, prO_some, prO_none, lstO_some, tupO_some, consO_some, consO_none, andO_t, andO_f, orO_t, orO_f, ifO_t, ifO_f, runE_some, evM, evMs, bindP, bindPs, wipeE, nmz, rd, fz, isB, isFu, isSh, mkLst, mkTup, hasL, hasLs, itM, newLst, callG, isNonD, gLt, gGe, gLe, gGt, gLtA_ii, gGtA_ii, gLeA_ii, gGeA_ii, gIn2_cs, gSub, gMod, gDiv, gPow, gAddI, g2I, gAdd, gMul, gLen, gIdx, gMax2, gMin2, gIsi, gIsN, gNotN, tyD, isiT, tyList, inR, B62, SZ, hq]
  · rintro i d ρ ed ⟨w, s5, s6, rfl, hw, hl⟩
    obtain ⟨hi, ed'⟩ := rngD_get ed
    rw [show (0 : Int) + (i : Int) * 1 = i by omega] at ed'
    subst ed'
    rw [Nat.zero_add] at *
    have c1 := cell_eq ns (b + i + 1)
    rw [show ((b + i + 1 : Nat) : Int) = (b : Int) + (i : Int) + 1 by omega] at c1
    have b1 : bitsOk (31 : Int) (i : Int) = true := (Bd.lit (n := 5) (by decide)).ok (Bd.nat (n := 10) (by omega)) (by omega)
    obtain ⟨q, hq, eq⟩ := number_eq ((cell_bd hb (b + i + 1)).add ((Bd.lit (n := 5) (k := 31) (by decide)).mul (Bd.nat (n := 10) (k := i) (by omega)))) (by omega) (i + b + 2) (by omega) many h3
    rw [show ((i + b + 2 : Nat) : Int) = (i : Int) + (b : Int) + 2 by omega] at eq
    have el : [97, 98, 99, 100, 101, 102, 103, 104][q]? = some (97 + q) := by
      have : q = 0 ∨ q = 1 ∨ q = 2 ∨ q = 3 ∨ q = 4 ∨ q = 5 ∨ q = 6 ∨ q = 7 := by omega
      rcases this with rfl | rfl | rfl | rfl | rfl | rfl | rfl | rfl <;> rfl
    have el2 : L2.atI [97, 98, 99, 100, 101, 102, 103, 104] (q : Int) = some (97 + q) := by rw [atI_nat]; exact el
    have hz : w.length + 1 ≤ 16777216 := by omega
    refine ⟨_, [some (.scr ns, .sh), some (.int b, .sh), some (.int most, .sh), some (.int many, .sh), some (.str (w ++ [97 + q]), .sh), some (.int i, .sh), some (.int (ns[b + i + 1]?.getD 0 + 31 * i), .sh)], rfl, .inl ?_, w ++ [97 + q], _, _, rfl, by simp [hw], hl.app (by simp [Let]; omega)⟩
    simp [l__law_word_1, fB, runB_f, st0, evB_nl, evB_cn, seqO_nx, seqO_rt, seqO_bk, seqO_ct, seqO_none, finO_rt, finO_nx, evS_ifs, pickB_t, pickB_f, runP_some, evS.eq_1, evS.eq_2, evS.eq_3, evS.eq_4, evS.eq_5, evS.eq_6, evS.eq_7, evS.eq_11, evS.eq_12, evS.eq_13, evS.eq_14, evS.eq_15, evS.eq_16, evS.eq_17, evS.eq_18, evS.eq_19, evS.eq_20, evS.eq_21, evS.eq_22, evS.eq_23, evS.eq_24, evS.eq_25, evx_pr, evx_lst, evx_tup, evx_nil, evx_cons, evx_and, evx_or, evx_ife, evx_var, varO_some, evx_lit, prO_some, prO_none, lstO_some, tupO_some, consO_some, consO_none, andO_t, andO_f, orO_t, orO_f, ifO_t, ifO_f, runE_some, evM, evMs, bindP, bindPs, wipeE, nmz, rd, fz, isB, isFu, isSh, mkLst, mkTup, hasL, hasLs, itM, newLst, callG, isNonD, gLt, gGe, gLe, gGt, gLtA_ii, gGtA_ii, gLeA_ii, gGeA_ii, gIn2_cs, gSub, gMod, gDiv, gPow, gAddI, g2I, gAdd, gMul, gLen, gIdx, gMax2, gMin2, gIsi, gIsN, gNotN, tyD, isiT, tyList, inR, B62, SZ, c1, b1, eq, el2, hz]

def isLow (c : Nat) : Bool := decide (97 ≤ c) && decide (c ≤ 122)
theorem low_mem (c : Nat) : decide (c ∈ [97, 98, 99, 100, 101, 102, 103, 104, 105, 106, 107, 108, 109, 110, 111, 112, 113, 114, 115, 116, 117, 118, 119, 120, 121, 122]) = isLow c := by
  unfold isLow
  rw [Bool.eq_iff_iff]
  simp only [decide_eq_true_eq, List.mem_cons, List.not_mem_nil, or_false, Bool.and_eq_true]
  omega
theorem isRow_eq {w : List Nat} (hz : w.length ≤ 1000000) : f_is_row [.str w] = some (.bl (w.all isLow), .sh) := by
  have e : ev e_is_row_1 [some (.str w, .sh), none] = some (.lst (w.map fun c => .bl (isLow c)), .full) := by
    rw [e_is_row_1, ev_comp (as := [(.str w, .sh)]) (ds := strD w) (m := .sh) (st := true) (r := (strD w).map fun d => match d with | .str [c] => (.bl (isLow c), .sh) | _ => (.non, .sh)) (by simp [fB, runB_f, st0, evB_nl, evB_cn, seqO_nx, seqO_rt, seqO_bk, seqO_ct, seqO_none, finO_rt, finO_nx, evS_ifs, pickB_t, pickB_f, runP_some, evS.eq_1, evS.eq_2, evS.eq_3, evS.eq_4, evS.eq_5, evS.eq_6, evS.eq_7, evS.eq_11, evS.eq_12, evS.eq_13, evS.eq_14, evS.eq_15, evS.eq_16, evS.eq_17, evS.eq_18, evS.eq_19, evS.eq_20, evS.eq_21, evS.eq_22, evS.eq_23, evS.eq_24, evS.eq_25, evx_pr, evx_lst, evx_tup, evx_nil, evx_cons, evx_and, evx_or, evx_ife, evx_var, varO_some, evx_lit, prO_some, prO_none, lstO_some, tupO_some, consO_some, consO_none, andO_t, andO_f, orO_t, orO_f, ifO_t, ifO_f, runE_some, evM, evMs, bindP, bindPs, wipeE, nmz, rd, fz, isB, isFu, isSh, mkLst, mkTup, hasL, hasLs, itM, newLst, callG, isNonD, gLt, gGe, gLe, gGt, gLtA_ii, gGtA_ii, gLeA_ii, gGeA_ii, gIn2_cs, gSub, gMod, gDiv, gPow, gAddI, g2I, gAdd, gMul, gLen, gIdx, gMax2, gMin2, gIsi, gIsN, gNotN, tyD, isiT, tyList, inR, B62, SZ]) (by simp [igSeq, fz, hasL]) ?_ (by simpa [strD] using hz)]
    · rw [mkLst_flat]
      · simp [strD, List.map_map, Function.comp_def]
      · intro a ha
        simp only [strD, List.map_map, List.mem_map, Function.comp_def] at ha
        obtain ⟨c, _, rfl⟩ := ha
        rfl
    · refine compGo_all _ _ fun d hd => ?_
      simp only [strD, List.mem_map] at hd
      obtain ⟨c, _, rfl⟩ := hd
      refine ⟨_, .sh, (.bl (isLow c), .sh), rfl, by simp [fB, runB_f, st0, evB_nl, evB_cn, seqO_nx, seqO_rt, seqO_bk, seqO_ct, seqO_none, finO_rt, finO_nx, evS_ifs, pickB_t, pickB_f, runP_some, evS.eq_1, evS.eq_2, evS.eq_3, evS.eq_4, evS.eq_5, evS.eq_6, evS.eq_7, evS.eq_11, evS.eq_12, evS.eq_13, evS.eq_14, evS.eq_15, evS.eq_16, evS.eq_17, evS.eq_18, evS.eq_19, evS.eq_20, evS.eq_21, evS.eq_22, evS.eq_23, evS.eq_24, evS.eq_25, evx_pr, evx_lst, evx_tup, evx_nil, evx_cons, evx_and, evx_or, evx_ife, evx_var, varO_some, evx_lit, prO_some, prO_none, lstO_some, tupO_some, consO_some, consO_none, andO_t, andO_f, orO_t, orO_f, ifO_t, ifO_f, runE_some, evM, evMs, bindP, bindPs, wipeE, nmz, rd, fz, isB, isFu, isSh, mkLst, mkTup, hasL, hasLs, itM, newLst, callG, isNonD, gLt, gGe, gLe, gGt, gLtA_ii, gGtA_ii, gLeA_ii, gGeA_ii, gIn2_cs, gSub, gMod, gDiv, gPow, gAddI, g2I, gAdd, gMul, gLen, gIdx, gMax2, gMin2, gIsi, gIsN, gNotN, tyD, isiT, tyList, inR, B62, SZ], ?_, by simp [nmz, hasL]⟩
      rw [← low_mem]
      simp [fB, runB_f, st0, evB_nl, evB_cn, seqO_nx, seqO_rt, seqO_bk, seqO_ct, seqO_none, finO_rt, finO_nx, evS_ifs, pickB_t, pickB_f, runP_some, evS.eq_1, evS.eq_2, evS.eq_3, evS.eq_4, evS.eq_5, evS.eq_6, evS.eq_7, evS.eq_11, evS.eq_12, evS.eq_13, evS.eq_14, evS.eq_15, evS.eq_16, evS.eq_17, evS.eq_18, evS.eq_19, evS.eq_20, evS.eq_21, evS.eq_22, evS.eq_23, evS.eq_24, evS.eq_25, evx_pr, evx_lst, evx_tup, evx_nil, evx_cons, evx_and, evx_or, evx_ife, evx_var, varO_some, evx_lit, prO_some, prO_none, lstO_some, tupO_some, consO_some, consO_none, andO_t, andO_f, orO_t, orO_f, ifO_t, ifO_f, runE_some, evM, evMs, bindP, bindPs, wipeE, nmz, rd, fz, isB, isFu, isSh, mkLst, mkTup, hasL, hasLs, itM, newLst, callG, isNonD, gLt, gGe, gLe, gGt, gLtA_ii, gGtA_ii, gLeA_ii, gGeA_ii, gIn2_cs, gSub, gMod, gDiv, gPow, gAddI, g2I, gAdd, gMul, gLen, gIdx, gMax2, gMin2, gIsi, gIsN, gNotN, tyD, isiT, tyList, inR, B62, SZ, gInN, c_LETTERS]
  simp [f_is_row, b_is_row, fB, runB_f, st0, evB_nl, evB_cn, seqO_nx, seqO_rt, seqO_bk, seqO_ct, seqO_none, finO_rt, finO_nx, evS_ifs, pickB_t, pickB_f, runP_some, evS.eq_1, evS.eq_2, evS.eq_3, evS.eq_4, evS.eq_5, evS.eq_6, evS.eq_7, evS.eq_11, evS.eq_12, evS.eq_13, evS.eq_14, evS.eq_15, evS.eq_16, evS.eq_17, evS.eq_18, evS.eq_19, evS.eq_20, evS.eq_21, evS.eq_22, evS.eq_23, evS.eq_24, evS.eq_25, evx_pr, evx_lst, evx_tup, evx_nil, evx_cons, evx_and, evx_or, evx_ife, evx_var, varO_some, evx_lit, prO_some, prO_none, lstO_some, tupO_some, consO_some, consO_none, andO_t, andO_f, orO_t, orO_f, ifO_t, ifO_f, runE_some, evM, evMs, bindP, bindPs, wipeE, nmz, rd, fz, isB, isFu, isSh, mkLst, mkTup, hasL, hasLs, itM, newLst, callG, isNonD, gLt, gGe, gLe, gGt, gLtA_ii, gGtA_ii, gLeA_ii, gGeA_ii, gIn2_cs, gSub, gMod, gDiv, gPow, gAddI, g2I, gAdd, gMul, gLen, gIdx, gMax2, gMin2, gIsi, gIsN, gNotN, tyD, isiT, tyList, inR, B62, SZ, e, gAll_map]
theorem low_sOk {w : List Nat} (h : w.all isLow = true) : sOk w = true := by
  unfold sOk
  rw [List.all_eq_true] at h ⊢
  intro c hc
  have := h c hc
  simp only [isLow, Bool.and_eq_true, decide_eq_true_eq] at this
  exact decide_eq_true (by omega)

/-! ### pieces and their texts -/
abbrev Prt := Bool × List Nat
abbrev Pc := List Prt
inductive Mm : Pc → List Nat → Prop
  | nil (p : Pc) : Mm p []
  | skip {x : Prt} {p : Pc} {w : List Nat} : Mm p w → Mm (x :: p) w
  | one {k : Bool} {L : List Nat} {p : Pc} {c : Nat} {w : List Nat} : c ∈ L → Mm p w → Mm ((k, L) :: p) (c :: w)
  | any {L : List Nat} {p : Pc} {c : Nat} {w : List Nat} : c ∈ L → Mm ((true, L) :: p) w → Mm ((true, L) :: p) (c :: w)
theorem mm_tail {p : Pc} {c : Nat} {w : List Nat} (h : Mm p (c :: w)) : Mm p w := by
  generalize e : c :: w = u at h
  induction h with
  | nil p => cases e
  | skip h ih => exact .skip (ih e)
  | one hc h ih => cases e; exact .skip h
  | any hc h ih => cases e; exact h
/-- the state behind a letter -/
def stp1 : Pc → Nat → Option Pc
  | [], _ => none
  | (k, L) :: p, c => if c ∈ L then some (if k then (k, L) :: p else p) else stp1 p c
def rst : Pc → List Nat → Option Pc
  | p, [] => some p
  | p, c :: w => match stp1 p c with
    | some q => rst q w
    | none => none
def hld (p : Pc) (w : List Nat) : Bool := (rst p w).isSome
theorem mm_step {c : Nat} {w : List Nat} : ∀ {p : Pc}, Mm p (c :: w) ↔ ∃ q, stp1 p c = some q ∧ Mm q w
  | [] => by
    constructor
    · intro h; cases h
    · rintro ⟨q, h, _⟩; simp [stp1] at h
  | (k, L) :: p => by
    by_cases hc : c ∈ L
    · constructor
      · intro h
        refine ⟨if k then (k, L) :: p else p, by simp only [stp1, if_pos hc], ?_⟩
        cases h with
        | skip h => cases k
                    · exact mm_tail h
                    · exact .skip (mm_tail h)
        | one _ h => cases k
                     · exact h
                     · exact .skip h
        | any _ h => exact h
      · rintro ⟨q, h, hm⟩
        simp only [stp1, if_pos hc, Option.some.injEq] at h
        subst h
        cases k
        · exact .one hc hm
        · exact .any hc hm
    · constructor
      · intro h
        simp only [stp1, if_neg hc]
        cases h with
        | skip h => exact mm_step.mp h
        | one h _ => exact absurd h hc
        | any h _ => exact absurd h hc
      · rintro ⟨q, h, hm⟩
        simp only [stp1, if_neg hc] at h
        exact .skip (mm_step.mpr ⟨q, h, hm⟩)
theorem mm_rst {v : List Nat} : ∀ {u : List Nat} {p : Pc}, Mm p (u ++ v) ↔ ∃ q, rst p u = some q ∧ Mm q v
  | [], p => by simp [rst]
  | c :: u, p => by
    rw [List.cons_append, mm_step]
    constructor
    · rintro ⟨q, h, hm⟩
      simp only [rst, h]
      exact mm_rst.mp hm
    · rintro ⟨q, h, hm⟩
      simp only [rst] at h
      cases hs : stp1 p c with
      | none => rw [hs] at h; cases h
      | some q1 => rw [hs] at h; exact ⟨q1, rfl, mm_rst.mpr ⟨q, h, hm⟩⟩
theorem hld_iff {p : Pc} {w : List Nat} : hld p w = true ↔ Mm p w := by
  have := mm_rst (v := []) (u := w) (p := p)
  rw [List.append_nil] at this
  rw [this]
  unfold hld
  rw [Option.isSome_iff_exists]
  exact ⟨fun ⟨q, h⟩ => ⟨q, h, .nil _⟩, fun ⟨q, h, _⟩ => ⟨q, h⟩⟩
theorem mm_sub : ∀ {w v : List Nat} {p : Pc}, v.Sublist w → Mm p w → Mm p v
  | [], v, p, h, _ => by rw [List.sublist_nil.mp h]; exact .nil _
  | c :: w, v, p, h, hm => by
    cases h with
    | cons _ h => exact mm_sub h (mm_tail hm)
    | cons_cons _ h =>
      obtain ⟨q, e, k⟩ := mm_step.mp hm
      exact mm_step.mpr ⟨q, e, mm_sub h k⟩
theorem mm_suf {q p : Pc} {w : List Nat} (h : q <:+ p) (k : Mm q w) : Mm p w := by
  obtain ⟨r, rfl⟩ := h
  induction r with
  | nil => exact k
  | cons x r ih => exact .skip ih
theorem stp1_suf {c : Nat} : ∀ {p q : Pc}, stp1 p c = some q → q <:+ p
  | [], q, h => by simp [stp1] at h
  | (k, L) :: p, q, h => by
    simp only [stp1] at h
    split at h
    · cases h
      cases k
      · exact List.suffix_cons ..
      · exact List.suffix_refl _
    · exact (stp1_suf h).trans (List.suffix_cons ..)
theorem rst_suf : ∀ {w : List Nat} {p q : Pc}, rst p w = some q → q <:+ p
  | [], p, q, h => by simp only [rst, Option.some.injEq] at h; subst h; exact List.suffix_refl _
  | c :: w, p, q, h => by
    simp only [rst] at h
    cases hs : stp1 p c with
    | none => rw [hs] at h; cases h
    | some q1 => rw [hs] at h; exact (rst_suf h).trans (stp1_suf hs)
theorem suf_eq {p q : Pc} (h : q <:+ p) (k : q.length = p.length) : q = p := h.eq_of_length k
/-- an unchanged state takes each letter by itself -/
theorem rst_same : ∀ {w : List Nat} {r r' : Pc}, rst r w = some r' → r'.length = r.length → ∀ c ∈ w, stp1 r c = some r
  | [], _, _, _, _, c, hc => nomatch hc
  | a :: w, r, r', h, hl, c, hc => by
    simp only [rst] at h
    cases hs : stp1 r a with
    | none => rw [hs] at h; cases h
    | some q1 =>
      rw [hs] at h
      have l1 := (stp1_suf hs).length_le
      have l2 := (rst_suf h).length_le
      have e : q1 = r := suf_eq (stp1_suf hs) (by omega)
      subst e
      rcases List.mem_cons.mp hc with rfl | hc
      · exact hs
      · exact rst_same h hl c hc
theorem rst_all {r : Pc} : ∀ {u : List Nat}, (∀ c ∈ u, stp1 r c = some r) → rst r u = some r
  | [], _ => rfl
  | c :: u, h => by
    simp only [rst, h c (List.mem_cons_self ..)]
    exact rst_all fun d hd => h d (List.mem_cons_of_mem _ hd)
theorem rst_app : ∀ {u v : List Nat} {p : Pc}, rst p (u ++ v) = (rst p u).bind fun q => rst q v
  | [], v, p => by simp [rst]
  | c :: u, v, p => by
    rw [List.cons_append]
    simp only [rst]
    cases stp1 p c with
    | none => rfl
    | some q => exact rst_app
/-! ### one piece behind another -/
theorem mm_cat {p q : Pc} {u v : List Nat} (h : Mm p u) (k : Mm q v) : Mm (p ++ q) (u ++ v) := by
  induction h with
  | nil p => exact mm_suf (List.suffix_append p q) k
  | skip _ ih => exact .skip ih
  | one hc _ ih => exact .one hc ih
  | any hc _ ih => exact .any hc ih
theorem mm_cut {q : Pc} : ∀ {p : Pc} {w : List Nat}, Mm (p ++ q) w → ∃ u v, w = u ++ v ∧ Mm p u ∧ Mm q v := by
  intro p w h
  generalize e : p ++ q = r at h
  induction h generalizing p with
  | nil r => exact ⟨[], [], rfl, .nil _, .nil _⟩
  | @skip x r w h ih =>
    cases p with
    | nil => simp only [List.nil_append] at e; subst e; exact ⟨[], w, rfl, .nil _, .skip h⟩
    | cons y p =>
      simp only [List.cons_append, List.cons.injEq] at e
      obtain ⟨rfl, rfl⟩ := e
      obtain ⟨u, v, rfl, h1, h2⟩ := ih rfl
      exact ⟨u, v, rfl, .skip h1, h2⟩
  | @one k L r c w hc h ih =>
    cases p with
    | nil => simp only [List.nil_append] at e; subst e; exact ⟨[], _, rfl, .nil _, .one hc h⟩
    | cons y p =>
      simp only [List.cons_append, List.cons.injEq] at e
      obtain ⟨rfl, rfl⟩ := e
      obtain ⟨u, v, rfl, h1, h2⟩ := ih rfl
      exact ⟨c :: u, v, rfl, .one hc h1, h2⟩
  | @any L r c w hc h ih =>
    cases p with
    | nil => simp only [List.nil_append] at e; subst e; exact ⟨[], _, rfl, .nil _, .any hc h⟩
    | cons y p =>
      simp only [List.cons_append, List.cons.injEq] at e
      obtain ⟨rfl, rfl⟩ := e
      obtain ⟨u, v, rfl, h1, h2⟩ := ih (p := (true, L) :: p) rfl
      exact ⟨c :: u, v, rfl, .any hc h1, h2⟩
theorem mm_nil {w : List Nat} (h : Mm [] w) : w = [] := by cases h; rfl
theorem mm_any {L w : List Nat} : Mm [(true, L)] w ↔ ∀ c ∈ w, c ∈ L := by
  constructor
  · intro h
    generalize e : [(true, L)] = p at h
    induction h with
    | nil => intro c hc; cases hc
    | skip h ih => cases e; rw [mm_nil h]; intro c hc; cases hc
    | one hc h ih =>
      cases e
      rw [mm_nil h]
      intro c' h'
      simp only [List.mem_singleton] at h'
      subst h'; exact hc
    | any hc h ih =>
      cases e
      intro c' h'
      rcases List.mem_cons.mp h' with rfl | h'
      · exact hc
      · exact ih rfl c' h'
  · intro h
    induction w with
    | nil => exact .nil _
    | cons c w ih => exact .any (h c (List.mem_cons_self ..)) (ih fun d hd => h d (List.mem_cons_of_mem _ hd))
theorem mm_let {p : Pc} {w : List Nat} (h : Mm p w) : ∀ c ∈ w, ∃ x ∈ p, c ∈ x.2 := by
  induction h with
  | nil => intro c hc; cases hc
  | skip h ih => intro c hc; obtain ⟨x, hx, k⟩ := ih c hc; exact ⟨x, List.mem_cons_of_mem _ hx, k⟩
  | one hc h ih =>
    intro c' h'
    rcases List.mem_cons.mp h' with rfl | h'
    · exact ⟨_, List.mem_cons_self .., hc⟩
    · obtain ⟨x, hx, k⟩ := ih c' h'; exact ⟨x, List.mem_cons_of_mem _ hx, k⟩
  | any hc h ih =>
    intro c' h'
    rcases List.mem_cons.mp h' with rfl | h'
    · exact ⟨_, List.mem_cons_self .., hc⟩
    · exact ih c' h'
/-! ### full texts -/
def fl (n : Nat) (p : Pc) : List Nat := p.flatMap fun x => if x.1 then (List.replicate n x.2).flatten else x.2
theorem fl_cons (n : Nat) (x : Prt) (p : Pc) : fl n (x :: p) = (if x.1 then (List.replicate n x.2).flatten else x.2) ++ fl n p := by simp [fl]
theorem rep_stab {L : List Nat} : ∀ {n : Nat} {q q' : Pc}, rst q (List.replicate n L).flatten = some q' → q.length < n + q'.length → ∃ i r, rst q (List.replicate i L).flatten = some r ∧ rst r L = some r ∧ q' <:+ r
  | 0, q, q', h, hl => by simp only [List.replicate_zero, List.flatten_nil, rst, Option.some.injEq] at h; subst h; omega
  | n + 1, q, q', h, hl => by
    rw [List.replicate_succ, List.flatten_cons, rst_app] at h
    cases hq : rst q L with
    | none => rw [hq] at h; cases h
    | some q1 =>
      rw [hq] at h
      simp only [Option.bind_some] at h
      have l1 := (rst_suf hq).length_le
      by_cases e : q1.length = q.length
      · have := suf_eq (rst_suf hq) e
        subst this
        exact ⟨0, q1, rfl, hq, rst_suf h⟩
      · obtain ⟨i, r, h1, h2, h3⟩ := rep_stab h (by omega)
        refine ⟨i + 1, r, ?_, h2, h3⟩
        rw [List.replicate_succ, List.flatten_cons, rst_app, hq]
        exact h1
theorem mm_full {n : Nat} : ∀ (p q : Pc), q.length < n → Mm q (fl n p) → ∀ w, Mm p w → Mm q w
  | [], q, _, _, w, hw => by rw [mm_nil hw]; exact .nil _
  | (false, L) :: p, q, hq, h, w, hw => by
    rw [fl_cons] at h
    simp only [Bool.false_eq_true, if_false] at h
    obtain ⟨q', e, h'⟩ := mm_rst.mp h
    have ih := mm_full p q' (Nat.lt_of_le_of_lt (rst_suf e).length_le hq) h'
    cases hw with
    | nil => exact .nil _
    | skip hw => exact mm_suf (rst_suf e) (ih _ hw)
    | @one _ _ _ c v hc hw =>
      refine mm_sub (w := L ++ v) ?_ (mm_rst.mpr ⟨q', e, ih _ hw⟩)
      exact List.Sublist.append (List.singleton_sublist.mpr hc) (List.Sublist.refl v)
  | (true, L) :: p, q, hq, h, w, hw => by
    rw [fl_cons] at h
    simp only [if_true] at h
    obtain ⟨q', e, h'⟩ := mm_rst.mp h
    have ih := mm_full p q' (Nat.lt_of_le_of_lt (rst_suf e).length_le hq) h'
    obtain ⟨i, r, h1, h2, h3⟩ := rep_stab e (by omega)
    obtain ⟨u, v, rfl, hu, hv⟩ := mm_cut (p := [(true, L)]) (q := p) hw
    have hr : rst r u = some r := rst_all fun c hc => rst_same h2 rfl c (mm_any.mp hu c hc)
    have k1 : Mm r (u ++ v) := mm_rst.mpr ⟨r, hr, mm_suf h3 (ih v hv)⟩
    refine mm_sub (w := (List.replicate i L).flatten ++ (u ++ v)) (List.sublist_append_right ..) (mm_rst.mpr ⟨r, h1, k1⟩)
/-- parts as they are: a maybe has one letter -/
def wf (p : Pc) : Prop := ∀ x ∈ p, x.1 = false → ∃ c, x.2 = [c]
theorem mm_fl (n : Nat) : ∀ {p : Pc}, wf p → Mm p (fl n p)
  | [], _ => .nil _
  | (k, L) :: p, h => by
    rw [fl_cons]
    refine mm_cat (p := [(k, L)]) ?_ (mm_fl n fun x hx => h x (List.mem_cons_of_mem _ hx))
    cases k with
    | false =>
      obtain ⟨c, hc⟩ := h _ (List.mem_cons_self ..) rfl
      simp only at hc
      subst hc
      exact .one (List.mem_singleton.mpr rfl) (.nil _)
    | true =>
      refine mm_any.mpr fun c hc => ?_
      simp only [if_true, List.mem_flatten] at hc
      obtain ⟨l, hl, hc⟩ := hc
      rw [List.eq_of_mem_replicate hl] at hc
      exact hc
theorem full_iff {n : Nat} {p q : Pc} (hp : wf p) (hq : q.length < n) : Mm q (fl n p) ↔ ∀ w, Mm p w → Mm q w := ⟨mm_full p q hq, fun h => h _ (mm_fl n hp)⟩
/-! ### plain pieces -/
def Eqv (p q : Pc) : Prop := ∀ w, Mm p w ↔ Mm q w
theorem Eqv.refl (p : Pc) : Eqv p p := fun _ => Iff.rfl
theorem Eqv.symm {p q : Pc} (h : Eqv p q) : Eqv q p := fun w => (h w).symm
theorem Eqv.trans {p q r : Pc} (h : Eqv p q) (k : Eqv q r) : Eqv p r := fun w => (h w).trans (k w)
theorem Eqv.cat {p p' q q' : Pc} (h : Eqv p p') (k : Eqv q q') : Eqv (p ++ q) (p' ++ q') := fun w => by
  constructor
  · intro hm
    obtain ⟨u, v, rfl, h1, h2⟩ := mm_cut hm
    exact mm_cat ((h u).mp h1) ((k v).mp h2)
  · intro hm
    obtain ⟨u, v, rfl, h1, h2⟩ := mm_cut hm
    exact mm_cat ((h u).mpr h1) ((k v).mpr h2)
/-- a part beside another one has all that this one adds -/
def cov (x y : Prt) : Bool := x.1 && y.2.all fun c => decide (c ∈ x.2)
theorem cov_l {x y : Prt} (h : cov x y = true) : Eqv [y, x] [x] := fun w => by
  obtain ⟨k, L⟩ := x
  simp only [cov, Bool.and_eq_true, List.all_eq_true, decide_eq_true_eq] at h
  obtain ⟨rfl, h⟩ := h
  refine ⟨fun hm => mm_any.mpr fun c hc => ?_, .skip⟩
  obtain ⟨x, hx, hc⟩ := mm_let hm c hc
  simp only [List.mem_cons, List.not_mem_nil, or_false] at hx
  rcases hx with rfl | rfl
  · exact h c hc
  · exact hc
theorem cov_r {x y : Prt} (h : cov x y = true) : Eqv [x, y] [x] := fun w => by
  obtain ⟨k, L⟩ := x
  simp only [cov, Bool.and_eq_true, List.all_eq_true, decide_eq_true_eq] at h
  obtain ⟨rfl, h⟩ := h
  constructor
  · intro hm
    refine mm_any.mpr fun c hc => ?_
    obtain ⟨x, hx, hc⟩ := mm_let hm c hc
    simp only [List.mem_cons, List.not_mem_nil, or_false] at hx
    rcases hx with rfl | rfl
    · exact hc
    · exact h c hc
  · intro hm
    have := mm_cat (p := [(true, L)]) (q := [y]) hm (.nil _)
    rwa [List.append_nil] at this
/-- the stack, its top first -/
def popc (x : Prt) : Pc → Pc
  | [] => []
  | y :: s => if cov x y then popc x s else y :: s
def push1 (s : Pc) (x : Prt) : Pc := match popc x s with
  | [] => [x]
  | y :: r => if cov y x then y :: r else x :: y :: r
def plnR (p : Pc) : Pc := p.foldl push1 []
def pln (p : Pc) : Pc := (plnR p).reverse
theorem popc_eqv (x : Prt) : ∀ s : Pc, Eqv ((popc x s).reverse ++ [x]) (s.reverse ++ [x])
  | [] => Eqv.refl _
  | y :: s => by
    simp only [popc]
    split
    · rename_i h
      refine (popc_eqv x s).trans ?_
      rw [List.reverse_cons, List.append_assoc]
      exact (Eqv.refl _).cat (cov_l h).symm
    · exact Eqv.refl _
theorem push1_eqv (x : Prt) (s : Pc) : Eqv (push1 s x).reverse (s.reverse ++ [x]) := by
  refine Eqv.trans ?_ (popc_eqv x s)
  unfold push1
  cases popc x s with
  | nil => exact Eqv.refl _
  | cons y r =>
    simp only
    split
    · rename_i h
      rw [List.reverse_cons, List.append_assoc]
      exact (Eqv.refl _).cat (cov_r h).symm
    · rw [List.reverse_cons]; exact Eqv.refl _
theorem fold_eqv : ∀ (p s : Pc), Eqv (p.foldl push1 s).reverse (s.reverse ++ p)
  | [], s => by rw [List.append_nil]; exact Eqv.refl _
  | x :: p, s => by
    rw [List.foldl_cons]
    refine (fold_eqv p _).trans ?_
    have := (push1_eqv x s).cat (Eqv.refl p)
    rw [List.append_assoc] at this
    exact this
theorem pln_eqv (p : Pc) : Eqv (pln p) p := fold_eqv p []
theorem mem_popc {x y : Prt} : ∀ {s : Pc}, y ∈ popc x s → y ∈ s
  | z :: s, h => by
    simp only [popc] at h
    split at h
    · exact List.mem_cons_of_mem _ (mem_popc h)
    · exact h
theorem mem_push1 {x y : Prt} {s : Pc} (h : y ∈ push1 s x) : y ∈ s ∨ y = x := by
  unfold push1 at h
  have hm : ∀ z, z ∈ popc x s → z ∈ s := fun z => mem_popc
  cases e : popc x s with
  | nil => rw [e] at h; right; simpa using h
  | cons z r =>
    rw [e] at h hm
    simp only at h
    split at h
    · exact .inl (hm y h)
    · rcases List.mem_cons.mp h with rfl | h
      · exact .inr rfl
      · exact .inl (hm y h)
theorem mem_fold : ∀ {p s : Pc} {y : Prt}, y ∈ p.foldl push1 s → y ∈ s ∨ y ∈ p
  | [], s, y, h => .inl h
  | x :: p, s, y, h => by
    rw [List.foldl_cons] at h
    rcases mem_fold h with h | h
    · rcases mem_push1 h with h | rfl
      · exact .inl h
      · exact .inr (List.mem_cons_self ..)
    · exact .inr (List.mem_cons_of_mem _ h)
theorem mem_pln {p : Pc} {y : Prt} (h : y ∈ pln p) : y ∈ p := by
  rw [pln, List.mem_reverse] at h
  rcases mem_fold h with h | h
  · cases h
  · exact h
theorem popc_len (x : Prt) : ∀ s : Pc, (popc x s).length ≤ s.length
  | [] => Nat.le_refl _
  | y :: s => by
    simp only [popc]
    split
    · have := popc_len x s; simp; omega
    · exact Nat.le_refl _
theorem push1_len (s : Pc) (x : Prt) : (push1 s x).length ≤ s.length + 1 := by
  have := popc_len x s
  unfold push1
  cases e : popc x s with
  | nil => simp
  | cons y r => rw [e] at this; simp only [List.length_cons] at this ⊢; split <;> simp <;> omega
theorem fold_len : ∀ (p s : Pc), (p.foldl push1 s).length ≤ s.length + p.length
  | [], s => by simp
  | x :: p, s => by
    rw [List.foldl_cons]
    have := fold_len p (push1 s x)
    have := push1_len s x
    simp; omega
theorem pln_len (p : Pc) : (pln p).length ≤ p.length := by
  have := fold_len p []
  simp [pln, plnR] at this ⊢; exact this
theorem wf_pln {p : Pc} (h : wf p) : wf (pln p) := fun x hx => h x (mem_pln hx)
/-! ### sets -/
def Ms (S : List Pc) (w : List Nat) : Prop := ∃ p ∈ S, Mm p w
def shld (S : List Pc) (w : List Nat) : Bool := S.any fun p => hld p w
theorem shld_iff {S : List Pc} {w : List Nat} : shld S w = true ↔ Ms S w := by
  unfold shld Ms
  rw [List.any_eq_true]
  exact ⟨fun ⟨p, h, k⟩ => ⟨p, h, hld_iff.mp k⟩, fun ⟨p, h, k⟩ => ⟨p, h, hld_iff.mpr k⟩⟩
def mxl (S : List Pc) : Nat := (S.map List.length).foldl max 0
theorem mxl_le {S : List Pc} {p : Pc} (h : p ∈ S) : p.length ≤ mxl S := by
  have k : ∀ (l : List Nat) (a : Nat), a ≤ l.foldl max a ∧ ∀ x ∈ l, x ≤ l.foldl max a := by
    intro l
    induction l with
    | nil => intro a; exact ⟨Nat.le_refl _, fun x hx => nomatch hx⟩
    | cons b l ih =>
      intro a
      rw [List.foldl_cons]
      obtain ⟨h1, h2⟩ := ih (max a b)
      refine ⟨by omega, fun x hx => ?_⟩
      rcases List.mem_cons.mp hx with rfl | hx
      · omega
      · exact h2 x hx
  exact (k _ 0).2 _ (List.mem_map.mpr ⟨p, h, rfl⟩)
def wfs (S : List Pc) : Prop := ∀ p ∈ S, wf p
/-- all of a set is in another one, by full texts -/
theorem within_iff {S T : List Pc} (hS : wfs S) {n : Nat} (hn : mxl T < n) : (∀ p ∈ S, shld T (fl n p) = true) ↔ ∀ w, Ms S w → Ms T w := by
  constructor
  · rintro h w ⟨p, hp, hw⟩
    obtain ⟨q, hq, k⟩ := shld_iff.mp (h p hp)
    exact ⟨q, hq, mm_full p q (Nat.lt_of_le_of_lt (mxl_le hq) hn) k w hw⟩
  · intro h p hp
    exact shld_iff.mpr (h _ ⟨p, hp, mm_fl n (hS p hp)⟩)
/-- the first full text beyond a set -/
def bey (S T : List Pc) : Option (List Nat) := (S.map fun p => fl (mxl T + 1) (pln p)).find? fun w => !shld T w
theorem bey_none {S T : List Pc} (hS : wfs S) : bey S T = none ↔ ∀ w, Ms S w → Ms T w := by
  unfold bey
  rw [List.find?_eq_none]
  have e : (∀ w, Ms S w → Ms T w) ↔ ∀ w, Ms (S.map pln) w → Ms T w := by
    have : ∀ w, Ms (S.map pln) w ↔ Ms S w := fun w => by
      constructor
      · rintro ⟨p, hp, hw⟩
        obtain ⟨q, hq, rfl⟩ := List.mem_map.mp hp
        exact ⟨q, hq, (pln_eqv q w).mp hw⟩
      · rintro ⟨p, hp, hw⟩
        exact ⟨pln p, List.mem_map.mpr ⟨p, hp, rfl⟩, (pln_eqv p w).mpr hw⟩
    exact ⟨fun h w k => h w ((this w).mp k), fun h w k => h w ((this w).mpr k)⟩
  rw [e, ← within_iff (n := mxl T + 1) (fun p hp => by
    obtain ⟨q, hq, rfl⟩ := List.mem_map.mp hp
    exact wf_pln (hS q hq)) (by omega)]
  constructor
  · intro h p hp
    obtain ⟨q, hq, rfl⟩ := List.mem_map.mp hp
    have := h (fl (mxl T + 1) (pln q)) (List.mem_map.mpr ⟨q, hq, rfl⟩)
    simpa using this
  · intro h w hw
    obtain ⟨q, hq, rfl⟩ := List.mem_map.mp hw
    have := h (pln q) (List.mem_map.mpr ⟨q, hq, rfl⟩)
    simp [this]
theorem bey_some {S T : List Pc} (hS : wfs S) {w : List Nat} (h : bey S T = some w) : Ms S w ∧ ¬ Ms T w := by
  have h1 := List.find?_some h
  have h2 := List.mem_of_find?_eq_some h
  obtain ⟨p, hp, rfl⟩ := List.mem_map.mp h2
  refine ⟨⟨p, hp, (pln_eqv p _).mp (mm_fl _ (wf_pln (hS p hp)))⟩, fun k => ?_⟩
  rw [shld_iff.mpr k] at h1
  cases h1

end K19
namespace K19
open PySem SW
/-! ### pieces as data, and what the program does with them -/
def kdS (k : Bool) : List Nat := if k then [97, 110, 121] else [109, 97, 121, 98, 101]
def pD (x : Prt) : D := .tup [.str (kdS x.1), .str x.2]
theorem pD_flat (x : Prt) : hasL (pD x) = false := rfl
theorem pD_flats : ∀ p : Pc, hasLs (p.map pD) = false
  | [] => rfl
  | x :: p => by rw [List.map_cons]; unfold hasLs; rw [pD_flats p, pD_flat]; rfl
def setD (S : List Pc) : List D := S.map fun p => .lst (p.map pD)
/-- parts with few, low letters -/
def okP (p : Pc) : Prop := ∀ x ∈ p, x.2.all isLow = true ∧ x.2.length ≤ 26
theorem idx_k (x : Prt) (m n : Mo) : gIdx [(pD x, m), (.int 0, n)] = some (.str (kdS x.1), .sh) := by cases m <;> rfl
theorem idx_l (x : Prt) (m n : Mo) : gIdx [(pD x, m), (.int 1, n)] = some (.str x.2, .sh) := by cases m <;> rfl
theorem idx_p {p : Pc} {k : Nat} {x : Prt} (h : p[k]? = some x) (m n : Mo) : gIdx [(.lst (p.map pD), m), (.int k, n)] = some (pD x, .sh) := by
  have e : L2.atI (p.map pD) (k : Int) = some (pD x) := by rw [SW.atI_nat, List.getElem?_map, h]; rfl
  simp only [gIdx, e, itM, pD_flat]; rfl
theorem idx_last {p : Pc} {x : Prt} (m n : Mo) : gIdx [(.lst ((p ++ [x]).map pD), m), (.int (-1), n)] = some (pD x, .sh) := by
  have e : L2.atI ((p ++ [x]).map pD) (-1) = some (pD x) := by rw [List.map_append]; exact L2.atI_last _ _
  simp only [gIdx, e, itM, pD_flat]; rfl
theorem eq_kd (k b : Bool) (m n : Mo) : gEq [(.str (kdS k), m), (.str (kdS b), n)] = some (.bl (k == b), .sh) := by
  cases k <;> cases b <;> (rw [gEq_ss rfl rfl]; rfl)
theorem igSeq_sh (ds : List D) : igSeq [(.lst ds, .sh)] = some (ds, .sh, true) := nrfl rfl
theorem igSeq_str (s : List Nat) (m : Mo) : igSeq [(.str s, m)] = some (strD s, .sh, true) := by cases m <;> exact nrfl rfl
theorem igSeq_bo {ds : List D} (h : hasLs ds = false) : igSeq [(.lst ds, .bo)] = some (ds, .sh, false) := by simp [igSeq, h]
theorem len_p (p : Pc) (m : Mo) : gLen [(.lst (p.map pD), m)] = some (.int p.length, .sh) := by simp [gLen]

/-! #### piece_holds -/
def fnd (c : Nat) : Pc → Nat
  | [] => 0
  | x :: q => if c ∈ x.2 then 0 else fnd c q + 1
theorem fnd_le (c : Nat) : ∀ q : Pc, fnd c q ≤ q.length
  | [] => Nat.le_refl _
  | x :: q => by
    have := fnd_le c q
    simp only [fnd]; split <;> simp <;> omega
theorem fnd_stp {c : Nat} : ∀ {q : Pc}, (fnd c q = q.length ∧ stp1 q c = none) ∨ (∃ x q', q.drop (fnd c q) = x :: q' ∧ fnd c q < q.length ∧ stp1 q c = some (if x.1 then x :: q' else q'))
  | [] => .inl ⟨rfl, rfl⟩
  | (k, L) :: q => by
    by_cases hc : c ∈ L
    · right
      refine ⟨(k, L), q, ?_, ?_, ?_⟩
      · simp only [fnd, if_pos hc, List.drop_zero]
      · simp only [fnd, if_pos hc]; simp
      · simp only [stp1, if_pos hc]
    · simp only [fnd, if_neg hc, stp1]
      rcases fnd_stp (c := c) (q := q) with ⟨h1, h2⟩ | ⟨x, q', h1, h2, h3⟩
      · left; exact ⟨by simp [h1], h2⟩
      · right; exact ⟨x, q', by rw [List.drop_succ_cons]; exact h1, by simp; omega, h3⟩
theorem scanGo (p : Pc) (w0 : D) (c : Nat) : ∀ (q : Pc) (k fuel : Nat), p.drop k = q → k ≤ p.length → q.length < fuel →
    whlGo (ev (.and_ (.pr gLtA [(.var 2), (.pr gLen [(.var 0)])]) (.pr (gIn2 true) [(.var 3), (.pr gIdx [(.pr gIdx [(.var 0), (.var 2)]), (.lit (.int 1))])]))) (evB FUEL l_piece_holds_1) fuel [some (.lst (p.map pD), .sh), some (w0, .sh), some (.int k, .sh), some (.str [c], .sh)] =
      some (.nx [some (.lst (p.map pD), .sh), some (w0, .sh), some (.int (k + fnd c q : Nat), .sh), some (.str [c], .sh)])
  | q, k, 0, _, _, h => absurd h (Nat.not_lt_zero _)
  | [], k, fuel + 1, e, hk, _ => by
    have hk2 : p.length ≤ k := by rw [← List.drop_eq_nil_iff]; exact e
    have lp := len_p p
    have hlt : ¬ ((k : Int) < (p.length : Int)) := by omega
    generalize p.map pD = PD at *
    simp [whlGo, fB, runB_f, st0, evB_nl, evB_cn, seqO_nx, seqO_rt, seqO_bk, seqO_ct, seqO_none, finO_rt, finO_nx, evS_ifs, pickB_t, pickB_f, runP_some, evS.eq_1, evS.eq_2, evS.eq_3, evS.eq_4, evS.eq_5, evS.eq_6, evS.eq_7, evS.eq_11, evS.eq_12, evS.eq_13, evS.eq_14, evS.eq_15, evS.eq_16, evS.eq_17, evS.eq_18, evS.eq_19, evS.eq_20, evS.eq_21, evS.eq_22, evS.eq_23, evS.eq_24, evS.eq_25, evx_pr, evx_lst, evx_tup, evx_nil, evx_cons, evx_and, evx_or, evx_ife, evx_var, varO_some, evx_lit, prO_some, prO_none, lstO_some, tupO_some, consO_some, consO_none, andO_t, andO_f, orO_t, orO_f, ifO_t, ifO_f, runE_some, evM, evMs, bindP, bindPs, wipeE, nmz, rd, fz, isB, isFu, isSh, mkLst, mkTup, hasL, hasLs, itM, newLst, callG, isNonD, gLt, gGe, gLe, gGt, gLtA_ii, gGtA_ii, gLeA_ii, gGeA_ii, gIn2_cs, gSub, gMod, gDiv, gPow, gAddI, g2I, gAdd, gMul, gLen, gIdx, gMax2, gMin2, gIsi, gIsN, gNotN, tyD, isiT, tyList, inR, B62, SZ, -gLen, lp, hlt, fnd]
  | x :: q, k, fuel + 1, e, hk, hf => by
    have hk2 : k < p.length := by
      rcases Nat.lt_or_ge k p.length with h | h
      · exact h
      · rw [List.drop_eq_nil_of_le h] at e; cases e
    have hx : p[k]? = some x := by
      rw [List.drop_eq_getElem_cons hk2] at e
      rw [List.getElem?_eq_getElem hk2]
      injection e with e1 e2
      rw [e1]
    have eq2 : p.drop (k + 1) = q := by
      rw [List.drop_eq_getElem_cons hk2] at e
      injection e
    have ip := idx_p hx
    have il := idx_l x
    have hxf := pD_flat x
    have lp := len_p p
    have hlt : ((k : Int) < (p.length : Int)) := by omega
    by_cases hc : c ∈ x.2
    · have hf0 : fnd c (x :: q) = 0 := by simp only [fnd, if_pos hc]
      rw [hf0]
      generalize p.map pD = PD at *
      generalize pD x = XD at *
      simp [whlGo, fB, runB_f, st0, evB_nl, evB_cn, seqO_nx, seqO_rt, seqO_bk, seqO_ct, seqO_none, finO_rt, finO_nx, evS_ifs, pickB_t, pickB_f, runP_some, evS.eq_1, evS.eq_2, evS.eq_3, evS.eq_4, evS.eq_5, evS.eq_6, evS.eq_7, evS.eq_11, evS.eq_12, evS.eq_13, evS.eq_14, evS.eq_15, evS.eq_16, evS.eq_17, evS.eq_18, evS.eq_19, evS.eq_20, evS.eq_21, evS.eq_22, evS.eq_23, evS.eq_24, evS.eq_25, evx_pr, evx_lst, evx_tup, evx_nil, evx_cons, evx_and, evx_or, evx_ife, evx_var, varO_some, evx_lit, prO_some, prO_none, lstO_some, tupO_some, consO_some, consO_none, andO_t, andO_f, orO_t, orO_f, ifO_t, ifO_f, runE_some, evM, evMs, bindP, bindPs, wipeE, nmz, rd, fz, isB, isFu, isSh, mkLst, mkTup, hasL, hasLs, itM, newLst, callG, isNonD, gLt, gGe, gLe, gGt, gLtA_ii, gGtA_ii, gLeA_ii, gGeA_ii, gIn2_cs, gSub, gMod, gDiv, gPow, gAddI, g2I, gAdd, gMul, gLen, gIdx, gMax2, gMin2, gIsi, gIsN, gNotN, tyD, isiT, tyList, inR, B62, SZ, -gLen, -gIdx, lp, hlt, ip, il, hc]
    · have ih := scanGo p w0 c q (k + 1) fuel eq2 (by omega) (by simp at hf; omega)
      have hf1 : fnd c (x :: q) = fnd c q + 1 := by simp only [fnd, if_neg hc]
      rw [hf1]
      rw [show k + (fnd c q + 1) = k + 1 + fnd c q by omega, ← ih]
      have hcond : ev (.and_ (.pr gLtA [(.var 2), (.pr gLen [(.var 0)])]) (.pr (gIn2 true) [(.var 3), (.pr gIdx [(.pr gIdx [(.var 0), (.var 2)]), (.lit (.int 1))])])) [some (.lst (p.map pD), .sh), some (w0, .sh), some (.int k, .sh), some (.str [c], .sh)] = some (.bl true, .sh) := by
        generalize p.map pD = PD at *
        generalize pD x = XD at *
        simp [fB, runB_f, st0, evB_nl, evB_cn, seqO_nx, seqO_rt, seqO_bk, seqO_ct, seqO_none, finO_rt, finO_nx, evS_ifs, pickB_t, pickB_f, runP_some, evS.eq_1, evS.eq_2, evS.eq_3, evS.eq_4, evS.eq_5, evS.eq_6, evS.eq_7, evS.eq_11, evS.eq_12, evS.eq_13, evS.eq_14, evS.eq_15, evS.eq_16, evS.eq_17, evS.eq_18, evS.eq_19, evS.eq_20, evS.eq_21, evS.eq_22, evS.eq_23, evS.eq_24, evS.eq_25, evx_pr, evx_lst, evx_tup, evx_nil, evx_cons, evx_and, evx_or, evx_ife, evx_var, varO_some, evx_lit, prO_some, prO_none, lstO_some, tupO_some, consO_some, consO_none, andO_t, andO_f, orO_t, orO_f, ifO_t, ifO_f, runE_some, evM, evMs, bindP, bindPs, wipeE, nmz, rd, fz, isB, isFu, isSh, mkLst, mkTup, hasL, hasLs, itM, newLst, callG, isNonD, gLt, gGe, gLe, gGt, gLtA_ii, gGtA_ii, gLeA_ii, gGeA_ii, gIn2_cs, gSub, gMod, gDiv, gPow, gAddI, g2I, gAdd, gMul, gLen, gIdx, gMax2, gMin2, gIsi, gIsN, gNotN, tyD, isiT, tyList, inR, B62, SZ, -gLen, -gIdx, lp, hlt, ip, il, hc]
      have hbody : evB FUEL l_piece_holds_1 [some (.lst (p.map pD), .sh), some (w0, .sh), some (.int k, .sh), some (.str [c], .sh)] = some (.nx [some (.lst (p.map pD), .sh), some (w0, .sh), some (.int (k + 1 : Nat), .sh), some (.str [c], .sh)]) := by
        rw [show ((k + 1 : Nat) : Int) = (k : Int) + 1 by omega]
        generalize p.map pD = PD at *
        simp [l_piece_holds_1, fB, runB_f, st0, evB_nl, evB_cn, seqO_nx, seqO_rt, seqO_bk, seqO_ct, seqO_none, finO_rt, finO_nx, evS_ifs, pickB_t, pickB_f, runP_some, evS.eq_1, evS.eq_2, evS.eq_3, evS.eq_4, evS.eq_5, evS.eq_6, evS.eq_7, evS.eq_11, evS.eq_12, evS.eq_13, evS.eq_14, evS.eq_15, evS.eq_16, evS.eq_17, evS.eq_18, evS.eq_19, evS.eq_20, evS.eq_21, evS.eq_22, evS.eq_23, evS.eq_24, evS.eq_25, evx_pr, evx_lst, evx_tup, evx_nil, evx_cons, evx_and, evx_or, evx_ife, evx_var, varO_some, evx_lit, prO_some, prO_none, lstO_some, tupO_some, consO_some, consO_none, andO_t, andO_f, orO_t, orO_f, ifO_t, ifO_f, runE_some, evM, evMs, bindP, bindPs, wipeE, nmz, rd, fz, isB, isFu, isSh, mkLst, mkTup, hasL, hasLs, itM, newLst, callG, isNonD, gLt, gGe, gLe, gGt, gLtA_ii, gGtA_ii, gLeA_ii, gGeA_ii, gIn2_cs, gSub, gMod, gDiv, gPow, gAddI, g2I, gAdd, gMul, gLen, gIdx, gMax2, gMin2, gIsi, gIsN, gNotN, tyD, isiT, tyList, inR, B62, SZ]
      simp only [whlGo, hcond, hbody]
theorem holdGo (p : Pc) (w0 : D) (hz : p.length ≤ 1000) : ∀ (w : List Nat) (k : Nat) (s3 : Slot), k ≤ p.length →
    (∃ k' t3, rst (p.drop k) w = some (p.drop k') ∧ k' ≤ p.length ∧ forGo (.nm 3) .sh (evB FUEL l_piece_holds_2) (strD w) [some (.lst (p.map pD), .sh), some (w0, .sh), some (.int k, .sh), s3] = some (.nx [some (.lst (p.map pD), .sh), some (w0, .sh), some (.int k', .sh), t3])) ∨
    (rst (p.drop k) w = none ∧ forGo (.nm 3) .sh (evB FUEL l_piece_holds_2) (strD w) [some (.lst (p.map pD), .sh), some (w0, .sh), some (.int k, .sh), s3] = some (.rt (.bl false) .sh))
  | [], k, s3, hk => .inl ⟨k, s3, rfl, hk, rfl⟩
  | c :: w, k, s3, hk => by
    have es : strD (c :: w) = .str [c] :: strD w := rfl
    rw [es]
    have sc := scanGo p w0 c (p.drop k) k FUEL rfl hk (by have : FUEL = 1000000 := rfl; simp; omega)
    have hq1 : evS FUEL q_piece_holds_1 [some (.lst (p.map pD), .sh), some (w0, .sh), some (.int k, .sh), some (.str [c], .sh)] = some (.nx [some (.lst (p.map pD), .sh), some (w0, .sh), some (.int (k + fnd c (p.drop k) : Nat), .sh), some (.str [c], .sh)]) := by
      rw [q_piece_holds_1, evS_whl]; exact sc
    have lp := len_p p
    rcases fnd_stp (c := c) (q := p.drop k) with ⟨h1, h2⟩ | ⟨x, q', h1, h2, h3⟩
    · right
      refine ⟨by simp only [rst, h2], ?_⟩
      rw [h1] at hq1
      rw [List.length_drop, show k + (p.length - k) = p.length by omega] at hq1
      have ge : gEq [(.int (p.length : Int), .sh), (.int (p.length : Int), .sh)] = some (.bl true, .sh) := by rw [gEq_ii]; simp
      refine forGo_rt (ρ1 := [some (.lst (p.map pD), .sh), some (w0, .sh), some (.int k, .sh), some (.str [c], .sh)]) rfl ?_
      generalize p.map pD = PD at *
      simp [l_piece_holds_2, fB, runB_f, st0, evB_nl, evB_cn, seqO_nx, seqO_rt, seqO_bk, seqO_ct, seqO_none, finO_rt, finO_nx, evS_ifs, pickB_t, pickB_f, runP_some, evS.eq_1, evS.eq_2, evS.eq_3, evS.eq_4, evS.eq_5, evS.eq_6, evS.eq_7, evS.eq_11, evS.eq_12, evS.eq_13, evS.eq_14, evS.eq_15, evS.eq_16, evS.eq_17, evS.eq_18, evS.eq_19, evS.eq_20, evS.eq_21, evS.eq_22, evS.eq_23, evS.eq_24, evS.eq_25, evx_pr, evx_lst, evx_tup, evx_nil, evx_cons, evx_and, evx_or, evx_ife, evx_var, varO_some, evx_lit, prO_some, prO_none, lstO_some, tupO_some, consO_some, consO_none, andO_t, andO_f, orO_t, orO_f, ifO_t, ifO_f, runE_some, evM, evMs, bindP, bindPs, wipeE, nmz, rd, fz, isB, isFu, isSh, mkLst, mkTup, hasL, hasLs, itM, newLst, callG, isNonD, gLt, gGe, gLe, gGt, gLtA_ii, gGtA_ii, gLeA_ii, gGeA_ii, gIn2_cs, gSub, gMod, gDiv, gPow, gAddI, g2I, gAdd, gMul, gLen, gIdx, gMax2, gMin2, gIsi, gIsN, gNotN, tyD, isiT, tyList, inR, B62, SZ, -gLen, hq1, lp, ge]
    · rw [List.length_drop] at h2
      have hj : k + fnd c (p.drop k) < p.length := by omega
      generalize hjj : k + fnd c (p.drop k) = j at *
      have hd : p.drop j = x :: q' := by
        rw [← hjj, ← List.drop_drop]; exact h1
      have hx : p[j]? = some x := by
        rw [List.drop_eq_getElem_cons hj] at hd
        injection hd with e1 e2
        rw [List.getElem?_eq_getElem hj, e1]
      have hd2 : p.drop (j + 1) = q' := by
        rw [List.drop_eq_getElem_cons hj] at hd
        injection hd
      have ge : gEq [(.int (j : Int), .sh), (.int (p.length : Int), .sh)] = some (.bl false, .sh) := by
        rw [gEq_ii, decide_eq_false (by omega)]
      have ip := idx_p hx
      have ik := idx_k x
      have hxf := pD_flat x
      have gk := eq_kd x.1 false
      rw [show kdS false = [109, 97, 121, 98, 101] from rfl] at gk
      have step : ∃ j', j' ≤ p.length ∧ (if x.1 then x :: q' else q') = p.drop j' ∧ evB FUEL l_piece_holds_2 [some (.lst (p.map pD), .sh), some (w0, .sh), some (.int k, .sh), some (.str [c], .sh)] = some (.nx [some (.lst (p.map pD), .sh), some (w0, .sh), some (.int j', .sh), some (.str [c], .sh)]) := by
        cases hk1 : x.1 with
        | false =>
          rw [hk1] at gk ik
          refine ⟨j + 1, hj, by simp [hd2], ?_⟩
          rw [show ((j + 1 : Nat) : Int) = (j : Int) + 1 by omega]
          generalize p.map pD = PD at *
          generalize pD x = XD at *
          generalize kdS false = KD at *
          simp [l_piece_holds_2, fB, runB_f, st0, evB_nl, evB_cn, seqO_nx, seqO_rt, seqO_bk, seqO_ct, seqO_none, finO_rt, finO_nx, evS_ifs, pickB_t, pickB_f, runP_some, evS.eq_1, evS.eq_2, evS.eq_3, evS.eq_4, evS.eq_5, evS.eq_6, evS.eq_7, evS.eq_11, evS.eq_12, evS.eq_13, evS.eq_14, evS.eq_15, evS.eq_16, evS.eq_17, evS.eq_18, evS.eq_19, evS.eq_20, evS.eq_21, evS.eq_22, evS.eq_23, evS.eq_24, evS.eq_25, evx_pr, evx_lst, evx_tup, evx_nil, evx_cons, evx_and, evx_or, evx_ife, evx_var, varO_some, evx_lit, prO_some, prO_none, lstO_some, tupO_some, consO_some, consO_none, andO_t, andO_f, orO_t, orO_f, ifO_t, ifO_f, runE_some, evM, evMs, bindP, bindPs, wipeE, nmz, rd, fz, isB, isFu, isSh, mkLst, mkTup, hasL, hasLs, itM, newLst, callG, isNonD, gLt, gGe, gLe, gGt, gLtA_ii, gGtA_ii, gLeA_ii, gGeA_ii, gIn2_cs, gSub, gMod, gDiv, gPow, gAddI, g2I, gAdd, gMul, gLen, gIdx, gMax2, gMin2, gIsi, gIsN, gNotN, tyD, isiT, tyList, inR, B62, SZ, -gLen, -gIdx, hq1, lp, ge, ip, ik, gk]
        | true =>
          rw [hk1] at gk ik
          refine ⟨j, by omega, by simp [hd], ?_⟩
          generalize p.map pD = PD at *
          generalize pD x = XD at *
          generalize kdS true = KD at *
          simp [l_piece_holds_2, fB, runB_f, st0, evB_nl, evB_cn, seqO_nx, seqO_rt, seqO_bk, seqO_ct, seqO_none, finO_rt, finO_nx, evS_ifs, pickB_t, pickB_f, runP_some, evS.eq_1, evS.eq_2, evS.eq_3, evS.eq_4, evS.eq_5, evS.eq_6, evS.eq_7, evS.eq_11, evS.eq_12, evS.eq_13, evS.eq_14, evS.eq_15, evS.eq_16, evS.eq_17, evS.eq_18, evS.eq_19, evS.eq_20, evS.eq_21, evS.eq_22, evS.eq_23, evS.eq_24, evS.eq_25, evx_pr, evx_lst, evx_tup, evx_nil, evx_cons, evx_and, evx_or, evx_ife, evx_var, varO_some, evx_lit, prO_some, prO_none, lstO_some, tupO_some, consO_some, consO_none, andO_t, andO_f, orO_t, orO_f, ifO_t, ifO_f, runE_some, evM, evMs, bindP, bindPs, wipeE, nmz, rd, fz, isB, isFu, isSh, mkLst, mkTup, hasL, hasLs, itM, newLst, callG, isNonD, gLt, gGe, gLe, gGt, gLtA_ii, gGtA_ii, gLeA_ii, gGeA_ii, gIn2_cs, gSub, gMod, gDiv, gPow, gAddI, g2I, gAdd, gMul, gLen, gIdx, gMax2, gMin2, gIsi, gIsN, gNotN, tyD, isiT, tyList, inR, B62, SZ, -gLen, -gIdx, hq1, lp, ge, ip, ik, gk]
      obtain ⟨j', hj', ej, hb⟩ := step
      have hr : rst (p.drop k) (c :: w) = rst (p.drop j') w := by simp only [rst, h3, ej]
      rw [hr]
      rcases holdGo p w0 hz w j' (some (.str [c], .sh)) hj' with ⟨k', t3, e1, e2, e3⟩ | ⟨e1, e3⟩
      · exact .inl ⟨k', t3, e1, e2, (forGo_nx rfl hb).trans e3⟩
      · exact .inr ⟨e1, (forGo_nx rfl hb).trans e3⟩
theorem pholds_eq {p : Pc} {w : List Nat} (hz : p.length ≤ 1000) : f_piece_holds [.lst (p.map pD), .str w] = some (.bl (hld p w), .sh) := by
  unfold hld
  rcases holdGo p (.str w) hz w 0 none (Nat.zero_le _) with ⟨k', t3, e1, e2, e3⟩ | ⟨e1, e3⟩
  · rw [List.drop_zero] at e1
    rw [show ((0 : Nat) : Int) = 0 from rfl] at e3
    have hq : evS FUEL q_piece_holds_2 [some (.lst (p.map pD), .sh), some (.str w, .sh), some (.int 0, .sh), none] = some (.nx [some (.lst (p.map pD), .sh), some (.str w, .sh), some (.int k', .sh), t3]) := by
      rw [q_piece_holds_2, evS_fors (as := [(.str w, .sh)]) (ds := strD w) (m := .sh) (by simp [fB, runB_f, st0, evB_nl, evB_cn, seqO_nx, seqO_rt, seqO_bk, seqO_ct, seqO_none, finO_rt, finO_nx, evS_ifs, pickB_t, pickB_f, runP_some, evS.eq_1, evS.eq_2, evS.eq_3, evS.eq_4, evS.eq_5, evS.eq_6, evS.eq_7, evS.eq_11, evS.eq_12, evS.eq_13, evS.eq_14, evS.eq_15, evS.eq_16, evS.eq_17, evS.eq_18, evS.eq_19, evS.eq_20, evS.eq_21, evS.eq_22, evS.eq_23, evS.eq_24, evS.eq_25, evx_pr, evx_lst, evx_tup, evx_nil, evx_cons, evx_and, evx_or, evx_ife, evx_var, varO_some, evx_lit, prO_some, prO_none, lstO_some, tupO_some, consO_some, consO_none, andO_t, andO_f, orO_t, orO_f, ifO_t, ifO_f, runE_some, evM, evMs, bindP, bindPs, wipeE, nmz, rd, fz, isB, isFu, isSh, mkLst, mkTup, hasL, hasLs, itM, newLst, callG, isNonD, gLt, gGe, gLe, gGt, gLtA_ii, gGtA_ii, gLeA_ii, gGeA_ii, gIn2_cs, gSub, gMod, gDiv, gPow, gAddI, g2I, gAdd, gMul, gLen, gIdx, gMax2, gMin2, gIsi, gIsN, gNotN, tyD, isiT, tyList, inR, B62, SZ]) (igSeq_str _ _)]
      exact e3
    rw [e1]
    generalize p.map pD = PD at *
    simp [f_piece_holds, b_piece_holds, fB, runB_f, st0, evB_nl, evB_cn, seqO_nx, seqO_rt, seqO_bk, seqO_ct, seqO_none, finO_rt, finO_nx, evS_ifs, pickB_t, pickB_f, runP_some, evS.eq_1, evS.eq_2, evS.eq_3, evS.eq_4, evS.eq_5, evS.eq_6, evS.eq_7, evS.eq_11, evS.eq_12, evS.eq_13, evS.eq_14, evS.eq_15, evS.eq_16, evS.eq_17, evS.eq_18, evS.eq_19, evS.eq_20, evS.eq_21, evS.eq_22, evS.eq_23, evS.eq_24, evS.eq_25, evx_pr, evx_lst, evx_tup, evx_nil, evx_cons, evx_and, evx_or, evx_ife, evx_var, varO_some, evx_lit, prO_some, prO_none, lstO_some, tupO_some, consO_some, consO_none, andO_t, andO_f, orO_t, orO_f, ifO_t, ifO_f, runE_some, evM, evMs, bindP, bindPs, wipeE, nmz, rd, fz, isB, isFu, isSh, mkLst, mkTup, hasL, hasLs, itM, newLst, callG, isNonD, gLt, gGe, gLe, gGt, gLtA_ii, gGtA_ii, gLeA_ii, gGeA_ii, gIn2_cs, gSub, gMod, gDiv, gPow, gAddI, g2I, gAdd, gMul, gLen, gIdx, gMax2, gMin2, gIsi, gIsN, gNotN, tyD, isiT, tyList, inR, B62, SZ, hq]
  · rw [List.drop_zero] at e1
    rw [show ((0 : Nat) : Int) = 0 from rfl] at e3
    have hq : evS FUEL q_piece_holds_2 [some (.lst (p.map pD), .sh), some (.str w, .sh), some (.int 0, .sh), none] = some (.rt (.bl false) .sh) := by
      rw [q_piece_holds_2, evS_fors (as := [(.str w, .sh)]) (ds := strD w) (m := .sh) (by simp [fB, runB_f, st0, evB_nl, evB_cn, seqO_nx, seqO_rt, seqO_bk, seqO_ct, seqO_none, finO_rt, finO_nx, evS_ifs, pickB_t, pickB_f, runP_some, evS.eq_1, evS.eq_2, evS.eq_3, evS.eq_4, evS.eq_5, evS.eq_6, evS.eq_7, evS.eq_11, evS.eq_12, evS.eq_13, evS.eq_14, evS.eq_15, evS.eq_16, evS.eq_17, evS.eq_18, evS.eq_19, evS.eq_20, evS.eq_21, evS.eq_22, evS.eq_23, evS.eq_24, evS.eq_25, evx_pr, evx_lst, evx_tup, evx_nil, evx_cons, evx_and, evx_or, evx_ife, evx_var, varO_some, evx_lit, prO_some, prO_none, lstO_some, tupO_some, consO_some, consO_none, andO_t, andO_f, orO_t, orO_f, ifO_t, ifO_f, runE_some, evM, evMs, bindP, bindPs, wipeE, nmz, rd, fz, isB, isFu, isSh, mkLst, mkTup, hasL, hasLs, itM, newLst, callG, isNonD, gLt, gGe, gLe, gGt, gLtA_ii, gGtA_ii, gLeA_ii, gGeA_ii, gIn2_cs, gSub, gMod, gDiv, gPow, gAddI, g2I, gAdd, gMul, gLen, gIdx, gMax2, gMin2, gIsi, gIsN, gNotN, tyD, isiT, tyList, inR, B62, SZ]) (igSeq_str _ _)]
      exact e3
    rw [e1]
    generalize p.map pD = PD at *
    simp [f_piece_holds, b_piece_holds, fB, runB_f, st0, evB_nl, evB_cn, seqO_nx, seqO_rt, seqO_bk, seqO_ct, seqO_none, finO_rt, finO_nx, evS_ifs, pickB_t, pickB_f, runP_some, evS.eq_1, evS.eq_2, evS.eq_3, evS.eq_4, evS.eq_5, evS.eq_6, evS.eq_7, evS.eq_11, evS.eq_12, evS.eq_13, evS.eq_14, evS.eq_15, evS.eq_16, evS.eq_17, evS.eq_18, evS.eq_19, evS.eq_20, evS.eq_21, evS.eq_22, evS.eq_23, evS.eq_24, evS.eq_25, evx_pr, evx_lst, evx_tup, evx_nil, evx_cons, evx_and, evx_or, evx_ife, evx_var, varO_some, evx_lit, prO_some, prO_none, lstO_some, tupO_some, consO_some, consO_none, andO_t, andO_f, orO_t, orO_f, ifO_t, ifO_f, runE_some, evM, evMs, bindP, bindPs, wipeE, nmz, rd, fz, isB, isFu, isSh, mkLst, mkTup, hasL, hasLs, itM, newLst, callG, isNonD, gLt, gGe, gLe, gGt, gLtA_ii, gGtA_ii, gLeA_ii, gGeA_ii, gIn2_cs, gSub, gMod, gDiv, gPow, gAddI, g2I, gAdd, gMul, gLen, gIdx, gMax2, gMin2, gIsi, gIsN, gNotN, tyD, isiT, tyList, inR, B62, SZ, hq]
theorem sholds_eq {S : List Pc} {w : List Nat} (hz : ∀ p ∈ S, p.length ≤ 1000) (hS : S.length ≤ 1000000) : f_set_holds [.lst (setD S), .str w] = some (.bl (shld S w), .sh) := by
  have e : ∀ s2, ev e_set_holds_1 [some (.lst (setD S), .sh), some (.str w, .sh), s2] = some (.lst (S.map fun p => .bl (hld p w)), .full) := fun s2 => by
    refine ev_comp_map (as := [(.lst (setD S), .sh)]) (m := .sh) (st := true) S (fun p => .lst (p.map pD)) _ (by simp [fB, runB_f, st0, evB_nl, evB_cn, seqO_nx, seqO_rt, seqO_bk, seqO_ct, seqO_none, finO_rt, finO_nx, evS_ifs, pickB_t, pickB_f, runP_some, evS.eq_1, evS.eq_2, evS.eq_3, evS.eq_4, evS.eq_5, evS.eq_6, evS.eq_7, evS.eq_11, evS.eq_12, evS.eq_13, evS.eq_14, evS.eq_15, evS.eq_16, evS.eq_17, evS.eq_18, evS.eq_19, evS.eq_20, evS.eq_21, evS.eq_22, evS.eq_23, evS.eq_24, evS.eq_25, evx_pr, evx_lst, evx_tup, evx_nil, evx_cons, evx_and, evx_or, evx_ife, evx_var, varO_some, evx_lit, prO_some, prO_none, lstO_some, tupO_some, consO_some, consO_none, andO_t, andO_f, orO_t, orO_f, ifO_t, ifO_f, runE_some, evM, evMs, bindP, bindPs, wipeE, nmz, rd, fz, isB, isFu, isSh, mkLst, mkTup, hasL, hasLs, itM, newLst, callG, isNonD, gLt, gGe, gLe, gGt, gLtA_ii, gGtA_ii, gLeA_ii, gGeA_ii, gIn2_cs, gSub, gMod, gDiv, gPow, gAddI, g2I, gAdd, gMul, gLen, gIdx, gMax2, gMin2, gIsi, gIsN, gNotN, tyD, isiT, tyList, inR, B62, SZ]) (igSeq_sh _) hS fun p hp => ?_
    have h := pholds_eq (p := p) (w := w) (hz p hp)
    refine ⟨[some (.lst (setD S), .sh), some (.str w, .sh), some (.lst (p.map pD), .sh)], .sh, .sh, rfl, rfl, ?_, rfl⟩
    generalize p.map pD = PD at *
    simp [fB, runB_f, st0, evB_nl, evB_cn, seqO_nx, seqO_rt, seqO_bk, seqO_ct, seqO_none, finO_rt, finO_nx, evS_ifs, pickB_t, pickB_f, runP_some, evS.eq_1, evS.eq_2, evS.eq_3, evS.eq_4, evS.eq_5, evS.eq_6, evS.eq_7, evS.eq_11, evS.eq_12, evS.eq_13, evS.eq_14, evS.eq_15, evS.eq_16, evS.eq_17, evS.eq_18, evS.eq_19, evS.eq_20, evS.eq_21, evS.eq_22, evS.eq_23, evS.eq_24, evS.eq_25, evx_pr, evx_lst, evx_tup, evx_nil, evx_cons, evx_and, evx_or, evx_ife, evx_var, varO_some, evx_lit, prO_some, prO_none, lstO_some, tupO_some, consO_some, consO_none, andO_t, andO_f, orO_t, orO_f, ifO_t, ifO_f, runE_some, evM, evMs, bindP, bindPs, wipeE, nmz, rd, fz, isB, isFu, isSh, mkLst, mkTup, hasL, hasLs, itM, newLst, callG, isNonD, gLt, gGe, gLe, gGt, gLtA_ii, gGtA_ii, gLeA_ii, gGeA_ii, gIn2_cs, gSub, gMod, gDiv, gPow, gAddI, g2I, gAdd, gMul, gLen, gIdx, gMax2, gMin2, gIsi, gIsN, gNotN, tyD, isiT, tyList, inR, B62, SZ, h]
  have ga := gAny_map (l := S) (f := fun p => hld p w) (m := .sh)
  unfold shld
  generalize setD S = SD at *
  simp [f_set_holds, b_set_holds, fB, runB_f, st0, evB_nl, evB_cn, seqO_nx, seqO_rt, seqO_bk, seqO_ct, seqO_none, finO_rt, finO_nx, evS_ifs, pickB_t, pickB_f, runP_some, evS.eq_1, evS.eq_2, evS.eq_3, evS.eq_4, evS.eq_5, evS.eq_6, evS.eq_7, evS.eq_11, evS.eq_12, evS.eq_13, evS.eq_14, evS.eq_15, evS.eq_16, evS.eq_17, evS.eq_18, evS.eq_19, evS.eq_20, evS.eq_21, evS.eq_22, evS.eq_23, evS.eq_24, evS.eq_25, evx_pr, evx_lst, evx_tup, evx_nil, evx_cons, evx_and, evx_or, evx_ife, evx_var, varO_some, evx_lit, prO_some, prO_none, lstO_some, tupO_some, consO_some, consO_none, andO_t, andO_f, orO_t, orO_f, ifO_t, ifO_f, runE_some, evM, evMs, bindP, bindPs, wipeE, nmz, rd, fz, isB, isFu, isSh, mkLst, mkTup, hasL, hasLs, itM, newLst, callG, isNonD, gLt, gGe, gLe, gGt, gLtA_ii, gGtA_ii, gLeA_ii, gGeA_ii, gIn2_cs, gSub, gMod, gDiv, gPow, gAddI, g2I, gAdd, gMul, gLen, gIdx, gMax2, gMin2, gIsi, gIsN, gNotN, tyD, isiT, tyList, inR, B62, SZ, e, ga]

/-! statements, one by one -/
theorem bSet {N i : Nat} {e : Ex} {r : List Sx} {ρ : SW.Env} {d : D} {m : Mo} (h : ev e ρ = some (d, m)) (hi : i < ρ.length) : evB N (.set i e :: r) ρ = evB N r (ρ.set i (some (d, m))) := by
  rw [evB_cn]
  simp only [evS, h, if_pos hi, seqO_nx]
theorem bFrz {N i : Nat} {r : List Sx} {ρ : SW.Env} {d : D} {m : Mo} (h : ρ[i]? = some (some (d, m))) (h1 : m ≠ .bo) (h2 : m ≠ .bt) : evB N (.frz i :: r) ρ = evB N r (ρ.set i (some (d, .sh))) := by
  rw [evB_cn]
  simp only [evS, h, h1, h2, or_self, if_false, seqO_nx]
theorem bNx {N : Nat} {s : Sx} {r : List Sx} {ρ ρ' : SW.Env} (h : evS N s ρ = some (.nx ρ')) : evB N (s :: r) ρ = evB N r ρ' := by
  rw [evB_cn, h, seqO_nx]
theorem bRt {N : Nat} {s : Sx} {r : List Sx} {ρ : SW.Env} {d : D} {m : Mo} (h : evS N s ρ = some (.rt d m)) : evB N (s :: r) ρ = some (.rt d m) := by
  rw [evB_cn, h, seqO_rt]
theorem bPar3 {N i j l : Nat} {a b c : Ex} {r : List Sx} {ρ : SW.Env} {x y z : DM} (ha : ev a ρ = some x) (hb : ev b ρ = some y) (hc : ev c ρ = some z) (h : i < ρ.length ∧ j < ρ.length ∧ l < ρ.length ∧ i ≠ j ∧ i ≠ l ∧ j ≠ l) : evB N (.par3 i j l a b c :: r) ρ = evB N r (((ρ.set i (some x)).set j (some y)).set l (some z)) := by
  rw [evB_cn]
  simp only [evS, ha, hb, hc, if_pos h, seqO_nx]
theorem bPar {N i j : Nat} {a b : Ex} {r : List Sx} {ρ : SW.Env} {x y : DM} (ha : ev a ρ = some x) (hb : ev b ρ = some y) (h : i < ρ.length ∧ j < ρ.length ∧ i ≠ j) : evB N (.par i j a b :: r) ρ = evB N r ((ρ.set i (some x)).set j (some y)) := by
  rw [evB_cn]
  simp only [evS, ha, hb, if_pos h, seqO_nx]
theorem sSet {N i : Nat} {e : Ex} {ρ : SW.Env} {d : D} {m : Mo} (h : ev e ρ = some (d, m)) (hi : i < ρ.length) : evS N (.set i e) ρ = some (.nx (ρ.set i (some (d, m)))) := by
  simp only [evS, h, if_pos hi]
theorem sExt {N i : Nat} {e : Ex} {ρ : SW.Env} {ds : List D} {m : Mo} {p q : DM} (h : ρ[i]? = some (some (.lst ds, m))) (h2 : ev e ρ = some p) (h3 : extL ds m p = some q) : evS N (.ext i e) ρ = some (.nx ((dropB ρ).set i (some q))) := by
  simp only [evS, h, h2, h3]
theorem sApp {N i : Nat} {e : Ex} {ρ : SW.Env} {ds : List D} {m : Mo} {p q : DM} (h : ρ[i]? = some (some (.lst ds, m))) (h2 : ev e ρ = some p) (h3 : appL ds m (nmz p.1 p.2) = some q) : evS N (.app i e) ρ = some (.nx ((dropB ρ).set i (some q))) := by
  simp only [evS, h, h2, h3]
theorem sIfT {N : Nat} {c : Ex} {t f : List Sx} {ρ : SW.Env} {m : Mo} (h : ev c ρ = some (.bl true, m)) : evS N (.ifs c t f) ρ = evB N t ρ := by
  simp only [evS, h]
theorem sIfF {N : Nat} {c : Ex} {t f : List Sx} {ρ : SW.Env} {m : Mo} (h : ev c ρ = some (.bl false, m)) : evS N (.ifs c t f) ρ = evB N f ρ := by
  simp only [evS, h]
theorem bNil (N : Nat) (ρ : SW.Env) : evB N [] ρ = some (.nx ρ) := by simp only [evB]
theorem callG_fl {f : List D → Option DM} {as : List DM} {d : D} (h : f (as.map (·.1)) = some (d, .sh)) (hd : hasL d = false) : callG f as = some (d, .sh) := by
  unfold callG
  rw [h]
  simp only [hd, if_true]
  split <;> rfl
theorem callG_fu {f : List D → Option DM} {as : List DM} {d : D} (h : f (as.map (·.1)) = some (d, .full)) (hd : hasL d = true) : callG f as = some (d, .full) := by
  unfold callG
  rw [h]
  simp only [hd, Bool.true_eq_false, if_false, if_true]
  split <;> rfl
theorem f_of {n N : Nat} {b : List Sx} {ds : List D} {d : D} {m : Mo} {ρ : SW.Env} (hl : ds.length = n) (hs : st0 ds N = ρ) (h : evB FUEL b ρ = some (.rt d m)) : fB n b N ds = some (d, m) := by
  unfold fB
  rw [if_pos hl]
  unfold runB
  rw [hs, h]
theorem f_nx {n N : Nat} {b : List Sx} {ds : List D} {ρ ρ' : SW.Env} (hl : ds.length = n) (hs : st0 ds N = ρ) (h : evB FUEL b ρ = some (.nx ρ')) : fB n b N ds = some (.non, .sh) := by
  unfold fB
  rw [if_pos hl]
  unfold runB
  rw [hs, h]
theorem sRet {N : Nat} {e : Ex} {ρ : SW.Env} {d : D} {m : Mo} (h : ev e ρ = some (d, m)) : evS N (.ret e) ρ = some (.rt d m) := by simp only [evS, h]
theorem sRetv {N i : Nat} {ρ : SW.Env} {d : D} {m : Mo} (h : ρ[i]? = some (some (d, m))) : evS N (.retv i) ρ = some (.rt d m) := by simp only [evS, h]

theorem okDs_p : ∀ {p : Pc}, okP p → okDs (p.map pD) = true
  | [], _ => rfl
  | x :: p, h => by
    rw [List.map_cons]
    have h1 := low_sOk (h x (List.mem_cons_self ..)).1
    have h2 : sOk (kdS x.1) = true := by cases x.1 <;> rfl
    simp only [okDs, okDs_p (p := p) fun y hy => h y (List.mem_cons_of_mem _ hy), pD, okD, h1, h2, Bool.and_self]
theorem noBs_p : ∀ p : Pc, noBs (p.map pD) = true
  | [] => rfl
  | x :: p => by rw [List.map_cons]; simp only [noBs, noBs_p p, pD, noB, Bool.and_self]
theorem dpths_p : ∀ p : Pc, dpths (p.map pD) ≤ 1
  | [] => by decide
  | x :: p => by
    rw [List.map_cons]
    have h2 := dpths_p p
    have h1 : dpth (pD x) ≤ 1 := by simp [pD, dpth, dpths]
    simp only [dpths]; omega
theorem eqD_pnil {p : Pc} (h : okP p) : eqD (.lst (p.map pD)) (.lst []) = p.isEmpty := by
  cases p with
  | nil => exact eqD_self rfl rfl
  | cons x p => exact eqD_ne (by simpa [okD] using okDs_p h) rfl (by simp only [noB]; exact noBs_p (x :: p)) rfl (by simp)
theorem ne_pnil {p : Pc} (h : okP p) (m n : Mo) : gNe [(.lst (p.map pD), m), (.lst [], n)] = some (.bl (!p.isEmpty), .sh) := by
  have d := dpths_p p
  rw [gNe_of (by simpa [okD] using okDs_p h) (by simp only [dpth]; omega) rfl (by simp [dpth, dpths]), eqD_pnil h]
theorem eq_pnil {p : Pc} (h : okP p) (m n : Mo) : gEq [(.lst (p.map pD), m), (.lst [], n)] = some (.bl p.isEmpty, .sh) := by
  have d := dpths_p p
  rw [gEq_of (by simpa [okD] using okDs_p h) (by simp only [dpth]; omega) rfl (by simp [dpth, dpths]), eqD_pnil h]
theorem okP_rev {p : Pc} (h : okP p) : okP p.reverse := fun x hx => h x (List.mem_reverse.mp hx)
theorem okP_popc {x : Prt} {s : Pc} (h : okP s) : okP (popc x s) := fun y hy => h y (mem_popc hy)
theorem okP_push {x : Prt} {s : Pc} (h : okP s) (hx : x.2.all isLow = true ∧ x.2.length ≤ 26) : okP (push1 s x) := fun y hy => by
  rcases mem_push1 hy with hy | rfl
  · exact h y hy
  · exact hx
theorem okP_pln {p : Pc} (h : okP p) : okP (pln p) := fun x hx => h x (mem_pln hx)
/-! #### plain_piece -/
theorem evS_gen1 {N : Nat} {g : SW.Env → Option SW.Env} {ρ ρ' : SW.Env} (h : g ρ = some ρ') : evS N (.gen g) ρ = some (.nx ρ') := by simp only [evS, h]
/-! #### full_word -/
theorem fl_len {n : Nat} : ∀ {p : Pc}, okP p → (fl n p).length ≤ p.length * (26 * (n + 1))
  | [], _ => by simp [fl]
  | x :: p, h => by
    have ih := fl_len (n := n) (p := p) fun y hy => h y (List.mem_cons_of_mem _ hy)
    have hx := (h x (List.mem_cons_self ..)).2
    have h1 : (if x.1 then (List.replicate n x.2).flatten else x.2).length ≤ 26 * (n + 1) := by
      split
      · rw [List.length_flatten, List.map_replicate, List.sum_replicate_nat]
        have := Nat.mul_le_mul_left n hx
        rw [Nat.mul_add, Nat.mul_comm 26 n]; omega
      · omega
    rw [fl_cons, List.length_append, List.length_cons, Nat.add_mul, Nat.one_mul]; omega
theorem mul_s {L : List Nat} {n : Nat} (h : L.length ≤ 26) (hn : n ≤ 1000) (m k : Mo) : gMul [(.str L, m), (.int (n : Int), k)] = some (.str (List.replicate n L).flatten, .sh) := by
  have r : inR (n : Int) = true := by
    unfold inR B62
    simp only [Bool.and_eq_true, decide_eq_true_eq]
    omega
  have z : L.length * n ≤ SZ := Nat.le_trans (Nat.mul_le_mul h hn) (by decide)
  simp only [gMul, r, Int.toNat_natCast, z, decide_true, Bool.and_self, if_true]
/-! #### beyond -/
theorem intsD_map : ∀ l : List Nat, intsD (l.map fun n : Nat => D.int n) = some (l.map fun n : Nat => (n : Int))
  | [] => rfl
  | n :: l => by rw [List.map_cons]; simp only [intsD, intsD_map l, List.map_cons, Option.map_some]
theorem fold_max : ∀ (l : List Nat) (a : Nat), (l.map fun n : Nat => (n : Int)).foldl max (a : Int) = ((l.foldl max a : Nat) : Int)
  | [], a => rfl
  | b :: l, a => by
    rw [List.map_cons, List.foldl_cons, List.foldl_cons, ← fold_max l (max a b)]
    congr 1
    omega
theorem max_lens (S : List Pc) (m : Mo) : gMax1 [(.lst (D.int 0 :: S.map fun p => D.int p.length), m)] = some (.int (mxl S), .sh) := by
  have e : intsD (D.int 0 :: S.map fun p => D.int p.length) = some ((0 : Int) :: (S.map List.length).map fun n : Nat => (n : Int)) := by
    have := intsD_map (S.map List.length)
    rw [List.map_map] at this
    have e2 : (S.map fun p : Pc => D.int (p.length : Int)) = S.map ((fun n : Nat => D.int (n : Int)) ∘ List.length) := rfl
    rw [e2]
    simp only [intsD, this, Option.map_some]
  have f := fold_max (S.map List.length) 0
  simp only [gMax1, e]
  rw [show ((0 : Nat) : Int) = 0 from rfl] at f
  rw [f]; rfl
theorem mxl_bd {S : List Pc} {n : Nat} (h : ∀ p ∈ S, p.length ≤ n) : mxl S ≤ n := by
  have k : ∀ (l : List Nat) (a : Nat), a ≤ n → (∀ x ∈ l, x ≤ n) → l.foldl max a ≤ n := by
    intro l
    induction l with
    | nil => intro a h _; exact h
    | cons b l ih =>
      intro a h hl
      rw [List.foldl_cons]
      have := hl b (List.mem_cons_self ..)
      exact ih _ (by omega) fun x hx => hl x (List.mem_cons_of_mem _ hx)
  exact k _ _ (Nat.zero_le _) fun x hx => by
    obtain ⟨p, hp, rfl⟩ := List.mem_map.mp hx
    exact h p hp
/-- sets within bounds -/
structure okS (S : List Pc) : Prop where
  len : S.length ≤ 1000
  ok : ∀ p ∈ S, okP p
  few : ∀ p ∈ S, p.length ≤ 100

/-! ### the law's own going through the parts -/
def wy (k n : Nat) : List Nat := (List.range (n + 1 - k)).map fun i => k + i
theorem mem_wy {k n m : Nat} : m ∈ wy k n ↔ k ≤ m ∧ m ≤ n := by
  unfold wy
  rw [List.mem_map]
  constructor
  · rintro ⟨i, hi, rfl⟩
    rw [List.mem_range] at hi
    omega
  · rintro ⟨h1, h2⟩
    exact ⟨m - k, by rw [List.mem_range]; omega, by omega⟩
theorem wy_pw (k n : Nat) : (wy k n).Pairwise (· < ·) := by
  unfold wy
  rw [List.pairwise_map]
  exact (List.pairwise_lt_range).imp fun h => by omega
theorem wy_len (k n : Nat) : (wy k n).length = n + 1 - k := by simp [wy]
def nI (l : List Nat) : List D := l.map fun m : Nat => D.int m
theorem nI_flat (l : List Nat) : hasLs (nI l) = false := by
  have := hasLs_ints (l.map fun m : Nat => (m : Int))
  rw [List.map_map] at this
  exact this
theorem lrg1 {n : Nat} (h : n ≤ 1000) (m : Mo) : gLRg1 [(.int ((n : Int) + 1), m)] = some (.lst (nI (wy 0 n)), .full) := by
  have r : rgO 0 ((n : Int) + 1) = true := by
    unfold rgO
    simp only [Bool.and_eq_true, decide_eq_true_eq]
    omega
  have e : rngD 0 1 ((n : Int) + 1).toNat = nI (wy 0 n) := by
    rw [show ((n : Int) + 1).toNat = n + 1 by omega]
    unfold rngD nI wy
    rw [List.map_map]
    simp [Function.comp_def]
  simp only [gLRg1, r, if_true, newLst, e, nI_flat]
theorem lrg2 {k n : Nat} (h : n ≤ 1000) (hk : k ≤ n) (m m' : Mo) : gLRg2 [(.int (k : Int), m), (.int ((n : Int) + 1), m')] = some (.lst (nI (wy k n)), .full) := by
  have r : rgO (k : Int) ((n : Int) + 1) = true := by
    unfold rgO
    simp only [Bool.and_eq_true, decide_eq_true_eq]
    omega
  have e : rngD (k : Int) 1 ((n : Int) + 1 - k).toNat = nI (wy k n) := by
    rw [show ((n : Int) + 1 - k).toNat = n + 1 - k by omega]
    unfold rngD nI wy
    rw [List.map_map]
    apply List.map_congr_left
    intro i _
    simp
  simp only [gLRg2, r, if_true, newLst, e, nI_flat]
theorem inD_nI (a : Nat) : ∀ l : List Nat, inD (.int a) (nI l) = decide (a ∈ l)
  | [] => rfl
  | b :: l => by
    have ih := inD_nI a l
    unfold inD nI at ih ⊢
    rw [List.map_cons, List.map_cons]
    simp only [L2.inV, List.any_cons] at ih ⊢
    rw [ih]
    by_cases h : a = b
    · subst h
      simp [vOf, L2.eqV]
    · have h2 : ¬ (b : Int) = (a : Int) := by omega
      have h3 : ¬ (a : Int) = (b : Int) := by omega
      simp [vOf, L2.eqV, h, h2, h3]
theorem flD_nI : ∀ l : List Nat, (nI l).all flD = true
  | [] => rfl
  | b :: l => by
    have := flD_nI l
    unfold nI at this ⊢
    rw [List.map_cons, List.all_cons, this]; rfl
theorem in_nI (a : Nat) (l : List Nat) (m n : Mo) : gIn2 false [(.int a, m), (.lst (nI l), n)] = some (.bl (decide (a ∈ l)), .sh) := by
  show gInN false [(.int a, m), (.lst (nI l), n)] = _
  have h1 : flD (.int (a : Int)) = true := rfl
  simp only [gInN, h1, flD_nI, inD_nI, Bool.and_self, if_true]
  rfl
theorem ne_nI (l : List Nat) (m n : Mo) : gNe [(.lst (nI l), m), (.lst [], n)] = some (.bl (!l.isEmpty), .sh) := by
  have o1 := okDs_ints (l.map fun m : Nat => (m : Int))
  have o2 := noBs_ints (l.map fun m : Nat => (m : Int))
  have o3 := dpths_ints (l.map fun m : Nat => (m : Int))
  rw [List.map_map] at o1 o2 o3
  have e1 : okDs (nI l) = true := o1
  have e2 : noBs (nI l) = true := o2
  have e3 : dpths (nI l) = 0 := o3
  rw [gNe_of (by simpa only [okD] using e1) (by simp only [dpth]; omega) rfl (by simp [dpth, dpths])]
  cases l with
  | nil => rw [show nI [] = [] from rfl, eqD_self rfl rfl]; rfl
  | cons a l => rw [eqD_ne (by simpa only [okD] using e1) rfl (by simpa only [noB] using e2) rfl (by simp [nI])]; rfl
theorem sset_nI {l W : List Nat} (hl : l.length < 4000) (hW : W.Pairwise (· < ·)) (h : ∀ m, m ∈ l ↔ m ∈ W) (m : Mo) : gSSet [(.lst (nI l), m)] = some (.lst (nI W), .full) := by
  have hi : intsD (nI l) = some (l.map fun n : Nat => (n : Int)) := intsD_map l
  have hs : setI (l.map fun n : Nat => (n : Int)) = W.map fun n : Nat => (n : Int) := by
    refine int_sorted_eq (setI_pw _) ?_ ?_
    · rw [List.pairwise_map]; exact hW.imp fun h => by omega
    · refine (List.perm_ext_iff_of_nodup (setI_nd _) ?_).mpr fun z => ?_
      · have : (W.map fun n : Nat => (n : Int)).Pairwise (· ≠ ·) := by rw [List.pairwise_map]; exact hW.imp fun h => by omega
        exact this
      · rw [setI_mem, List.mem_map, List.mem_map]
        exact ⟨fun ⟨a, ha, e⟩ => ⟨a, (h a).mp ha, e⟩, fun ⟨a, ha, e⟩ => ⟨a, (h a).mpr ha, e⟩⟩
  have e2 : (W.map fun n : Nat => (n : Int)).map D.int = nI W := by rw [List.map_map]; rfl
  have hll : (nI l).length < 4000 := by rw [nI, List.length_map]; exact hl
  cases l with
  | nil =>
    have : W = [] := List.eq_nil_iff_forall_not_mem.mpr fun a ha => by have := (h a).mpr ha; cases this
    subst this
    simp [gSSet, nI, strsD, setS]
  | cons a l =>
    have hst : strsD (nI (a :: l)) = none := rfl
    simp only [gSSet, if_pos hll, hst, hi, hs, e2]
/-- what the first letter is at a place -/
def atL (p : Pc) (a : Nat) : List Nat := (p[a]?.map (·.2)).getD []
def frs (p : Pc) (a : Nat) : Nat := if (p[a]?.map (·.1)).getD false then a else a + 1
def mor (p : Pc) (W : List Nat) (c i : Nat) : List Nat := (List.range i).flatMap fun a => if a ∈ W ∧ c ∈ atL p a then wy (frs p a) p.length else []
theorem mor_succ (p : Pc) (W : List Nat) (c i : Nat) : mor p W c (i + 1) = mor p W c i ++ (if i ∈ W ∧ c ∈ atL p i then wy (frs p i) p.length else []) := by
  unfold mor
  rw [List.range_succ, List.flatMap_append]; simp
theorem mor_len (p : Pc) (W : List Nat) (c : Nat) : ∀ i, (mor p W c i).length ≤ i * (p.length + 1)
  | 0 => by simp [mor]
  | i + 1 => by
    have := mor_len p W c i
    rw [mor_succ, List.length_append, Nat.add_mul, Nat.one_mul]
    split
    · rw [wy_len]; omega
    · simp; omega
theorem mem_mor {p : Pc} {W : List Nat} {c i m : Nat} : m ∈ mor p W c i ↔ ∃ a, a < i ∧ a ∈ W ∧ c ∈ atL p a ∧ frs p a ≤ m ∧ m ≤ p.length := by
  unfold mor
  rw [List.mem_flatMap]
  constructor
  · rintro ⟨a, ha, hm⟩
    split at hm
    · rename_i hc
      exact ⟨a, List.mem_range.mp ha, hc.1, hc.2, mem_wy.mp hm⟩
    · cases hm
  · rintro ⟨a, ha, h1, h2, h3⟩
    exact ⟨a, List.mem_range.mpr ha, by rw [if_pos ⟨h1, h2⟩]; exact mem_wy.mpr h3⟩
theorem frs_le (p : Pc) {a b : Nat} (h : a < b) : frs p a ≤ frs p b := by
  unfold frs; split <;> split <;> omega
theorem fnd_min {c : Nat} : ∀ {q : Pc} {i : Nat}, i < fnd c q → c ∉ atL q i
  | [], i, h => absurd h (Nat.not_lt_zero _)
  | x :: q, i, h => by
    by_cases hc : c ∈ x.2
    · simp only [fnd, if_pos hc] at h; omega
    · simp only [fnd, if_neg hc] at h
      cases i with
      | zero => simpa [atL] using hc
      | succ i => have := fnd_min (c := c) (q := q) (i := i) (by omega); simpa [atL] using this
theorem fnd_at {c : Nat} : ∀ {q : Pc}, fnd c q < q.length → c ∈ atL q (fnd c q)
  | [], h => absurd h (Nat.not_lt_zero _)
  | x :: q, h => by
    by_cases hc : c ∈ x.2
    · simp only [fnd, if_pos hc]; simpa [atL] using hc
    · simp only [fnd, if_neg hc] at h ⊢
      have := fnd_at (q := q) (by simpa using h)
      simpa [atL] using this
theorem atL_drop (p : Pc) (k i : Nat) : atL (p.drop k) i = atL p (k + i) := by unfold atL; rw [List.getElem?_drop]
/-- all ways behind a letter -/
theorem mor_step (p : Pc) (c k : Nat) (hk : k ≤ p.length) :
    (stp1 (p.drop k) c = none ∧ ∀ m, m ∈ mor p (wy k p.length) c p.length ↔ m ∈ ([] : List Nat)) ∨
    ∃ k', k' ≤ p.length ∧ stp1 (p.drop k) c = some (p.drop k') ∧ ∀ m, m ∈ mor p (wy k p.length) c p.length ↔ m ∈ wy k' p.length := by
  have hmin : ∀ a, k ≤ a → c ∈ atL p a → k + fnd c (p.drop k) ≤ a := fun a ha hc => by
    rcases Nat.lt_or_ge a (k + fnd c (p.drop k)) with h | h
    · exfalso
      have := fnd_min (c := c) (q := p.drop k) (i := a - k) (by omega)
      rw [atL_drop, show k + (a - k) = a by omega] at this
      exact this hc
    · exact h
  rcases fnd_stp (c := c) (q := p.drop k) with ⟨h1, h2⟩ | ⟨x, q', h1, h2, h3⟩
  · left
    refine ⟨h2, fun m => ⟨fun hm => ?_, fun hm => nomatch hm⟩⟩
    obtain ⟨a, ha, hw, hc, _⟩ := mem_mor.mp hm
    have := hmin a (mem_wy.mp hw).1 hc
    rw [h1, List.length_drop] at this
    omega
  · right
    have hat := fnd_at h2
    rw [List.length_drop] at h2
    rw [atL_drop] at hat
    rw [List.drop_drop] at h1
    generalize hj : k + fnd c (p.drop k) = j at *
    have hjl : j < p.length := by omega
    have hx : p[j]? = some x := by
      rw [List.drop_eq_getElem_cons hjl] at h1
      injection h1 with e1 e2
      rw [List.getElem?_eq_getElem hjl, e1]
    have hd : p.drop (j + 1) = q' := by
      rw [List.drop_eq_getElem_cons hjl] at h1
      injection h1
    have hf : frs p j = if x.1 then j else j + 1 := by unfold frs; rw [hx]; rfl
    have hfl : frs p j ≤ p.length := by rw [hf]; split <;> omega
    refine ⟨frs p j, hfl, ?_, fun m => ?_⟩
    · rw [h3, hf]
      cases x.1
      · simp [hd]
      · simp [h1]
    · rw [mem_mor, mem_wy]
      constructor
      · rintro ⟨a, ha, hw, hc, h4, h5⟩
        have := hmin a (mem_wy.mp hw).1 hc
        refine ⟨?_, h5⟩
        rcases Nat.lt_or_ge j a with h | h
        · exact Nat.le_trans (frs_le p h) h4
        · have : a = j := by omega
          subst this; exact h4
      · rintro ⟨h4, h5⟩
        exact ⟨j, hjl, mem_wy.mpr ⟨by omega, by omega⟩, hat, h4, h5⟩
theorem ext_nI {A B : List Nat} (h : A.length + B.length ≤ 100000) : extL (nI A) .full (.lst (nI B), .full) = some (.lst (nI (A ++ B)), .full) := by
  have z : (nI A).length + (nI B).length ≤ SZ := by
    unfold nI
    rw [List.length_map, List.length_map]
    exact Nat.le_trans h (by decide)
  unfold extL
  simp only [isOw, z, decide_true]
  unfold nI
  rw [List.map_append]
  rfl
theorem endsCond {p : Pc} {x : Prt} {i c : Nat} {W : List Nat} (hx : p[i]? = some x) (row : D) (s4 s6 : Slot) :
    ev (.and_ (.pr (gIn2 false) [(.var 5), (.var 2)]) (.pr (gIn2 false) [(.var 3), (.pr gIdx [(.pr gIdx [(.var 0), (.var 5)]), (.lit (.int 1))])])) [some (.lst (p.map pD), .sh), some (row, .sh), some (.lst (nI W), .full), some (.str [c], .sh), s4, some (.int i, .sh), s6] = some (.bl (decide (i ∈ W ∧ c ∈ x.2)), .sh) := by
  have ip := idx_p hx
  have il := idx_l x
  have hxf := pD_flat x
  have ii := in_nI i W
  generalize p.map pD = PD at *
  generalize pD x = XD at *
  generalize nI W = WD at *
  by_cases hw : i ∈ W
  · by_cases hc : c ∈ x.2
    · simp [fB, runB_f, st0, evB_nl, evB_cn, seqO_nx, seqO_rt, seqO_bk, seqO_ct, seqO_none, finO_rt, finO_nx, evS_ifs, pickB_t, pickB_f, runP_some, evS.eq_1, evS.eq_2, evS.eq_3, evS.eq_4, evS.eq_5, evS.eq_6, evS.eq_7, evS.eq_11, evS.eq_12, evS.eq_13, evS.eq_14, evS.eq_15, evS.eq_16, evS.eq_17, evS.eq_18, evS.eq_19, evS.eq_20, evS.eq_21, evS.eq_22, evS.eq_23, evS.eq_24, evS.eq_25, evx_pr, evx_lst, evx_tup, evx_nil, evx_cons, evx_and, evx_or, evx_ife, evx_var, varO_some, evx_lit, prO_some, prO_none, lstO_some, tupO_some, consO_some, consO_none, andO_t, andO_f, orO_t, orO_f, ifO_t, ifO_f, runE_some, evM, evMs, bindP, bindPs, wipeE, nmz, rd, fz, isB, isFu, isSh, mkLst, mkTup, hasL, hasLs, itM, newLst, callG, isNonD, gLt, gGe, gLe, gGt, gLtA_ii, gGtA_ii, gLeA_ii, gGeA_ii, gIn2_cs, gSub, gMod, gDiv, gPow, gAddI, g2I, gAdd, gMul, gLen, gIdx, gMax2, gMin2, gIsi, gIsN, gNotN, tyD, isiT, tyList, inR, B62, SZ, -gIdx, ip, il, ii, hw, hc]
    · simp [fB, runB_f, st0, evB_nl, evB_cn, seqO_nx, seqO_rt, seqO_bk, seqO_ct, seqO_none, finO_rt, finO_nx, evS_ifs, pickB_t, pickB_f, runP_some, evS.eq_1, evS.eq_2, evS.eq_3, evS.eq_4, evS.eq_5, evS.eq_6, evS.eq_7, evS.eq_11, evS.eq_12, evS.eq_13, evS.eq_14, evS.eq_15, evS.eq_16, evS.eq_17, evS.eq_18, evS.eq_19, evS.eq_20, evS.eq_21, evS.eq_22, evS.eq_23, evS.eq_24, evS.eq_25, evx_pr, evx_lst, evx_tup, evx_nil, evx_cons, evx_and, evx_or, evx_ife, evx_var, varO_some, evx_lit, prO_some, prO_none, lstO_some, tupO_some, consO_some, consO_none, andO_t, andO_f, orO_t, orO_f, ifO_t, ifO_f, runE_some, evM, evMs, bindP, bindPs, wipeE, nmz, rd, fz, isB, isFu, isSh, mkLst, mkTup, hasL, hasLs, itM, newLst, callG, isNonD, gLt, gGe, gLe, gGt, gLtA_ii, gGtA_ii, gLeA_ii, gGeA_ii, gIn2_cs, gSub, gMod, gDiv, gPow, gAddI, g2I, gAdd, gMul, gLen, gIdx, gMax2, gMin2, gIsi, gIsN, gNotN, tyD, isiT, tyList, inR, B62, SZ, -gIdx, ip, il, ii, hw, hc]
  · simp [fB, runB_f, st0, evB_nl, evB_cn, seqO_nx, seqO_rt, seqO_bk, seqO_ct, seqO_none, finO_rt, finO_nx, evS_ifs, pickB_t, pickB_f, runP_some, evS.eq_1, evS.eq_2, evS.eq_3, evS.eq_4, evS.eq_5, evS.eq_6, evS.eq_7, evS.eq_11, evS.eq_12, evS.eq_13, evS.eq_14, evS.eq_15, evS.eq_16, evS.eq_17, evS.eq_18, evS.eq_19, evS.eq_20, evS.eq_21, evS.eq_22, evS.eq_23, evS.eq_24, evS.eq_25, evx_pr, evx_lst, evx_tup, evx_nil, evx_cons, evx_and, evx_or, evx_ife, evx_var, varO_some, evx_lit, prO_some, prO_none, lstO_some, tupO_some, consO_some, consO_none, andO_t, andO_f, orO_t, orO_f, ifO_t, ifO_f, runE_some, evM, evMs, bindP, bindPs, wipeE, nmz, rd, fz, isB, isFu, isSh, mkLst, mkTup, hasL, hasLs, itM, newLst, callG, isNonD, gLt, gGe, gLe, gGt, gLtA_ii, gGtA_ii, gLeA_ii, gGeA_ii, gIn2_cs, gSub, gMod, gDiv, gPow, gAddI, g2I, gAdd, gMul, gLen, gIdx, gMax2, gMin2, gIsi, gIsN, gNotN, tyD, isiT, tyList, inR, B62, SZ, -gIdx, ip, il, ii, hw]
theorem endsSix {p : Pc} {x : Prt} {i : Nat} (hx : p[i]? = some x) (row : D) (s2 s3 s4 s6 : Slot) :
    ev (.ife (.pr gEq [(.pr gIdx [(.pr gIdx [(.var 0), (.var 5)]), (.lit (.int 0))]), (.lit (.str [97, 110, 121]))]) (.var 5) (.pr gAdd [(.var 5), (.lit (.int 1))])) [some (.lst (p.map pD), .sh), some (row, .sh), s2, s3, s4, some (.int i, .sh), s6] = some (.int (frs p i), .sh) := by
  have ip := idx_p hx
  have ik := idx_k x
  have hxf := pD_flat x
  have gk := eq_kd x.1 true
  rw [show kdS true = [97, 110, 121] from rfl] at gk
  have ef : frs p i = if x.1 then i else i + 1 := by unfold frs; rw [hx]; rfl
  rw [ef]
  generalize p.map pD = PD at *
  generalize pD x = XD at *
  generalize kdS x.1 = KD at *
  cases hk : x.1 with
  | true =>
    rw [hk] at gk
    simp [fB, runB_f, st0, evB_nl, evB_cn, seqO_nx, seqO_rt, seqO_bk, seqO_ct, seqO_none, finO_rt, finO_nx, evS_ifs, pickB_t, pickB_f, runP_some, evS.eq_1, evS.eq_2, evS.eq_3, evS.eq_4, evS.eq_5, evS.eq_6, evS.eq_7, evS.eq_11, evS.eq_12, evS.eq_13, evS.eq_14, evS.eq_15, evS.eq_16, evS.eq_17, evS.eq_18, evS.eq_19, evS.eq_20, evS.eq_21, evS.eq_22, evS.eq_23, evS.eq_24, evS.eq_25, evx_pr, evx_lst, evx_tup, evx_nil, evx_cons, evx_and, evx_or, evx_ife, evx_var, varO_some, evx_lit, prO_some, prO_none, lstO_some, tupO_some, consO_some, consO_none, andO_t, andO_f, orO_t, orO_f, ifO_t, ifO_f, runE_some, evM, evMs, bindP, bindPs, wipeE, nmz, rd, fz, isB, isFu, isSh, mkLst, mkTup, hasL, hasLs, itM, newLst, callG, isNonD, gLt, gGe, gLe, gGt, gLtA_ii, gGtA_ii, gLeA_ii, gGeA_ii, gIn2_cs, gSub, gMod, gDiv, gPow, gAddI, g2I, gAdd, gMul, gLen, gIdx, gMax2, gMin2, gIsi, gIsN, gNotN, tyD, isiT, tyList, inR, B62, SZ, -gIdx, ip, ik, gk]
  | false =>
    rw [hk] at gk
    simp [fB, runB_f, st0, evB_nl, evB_cn, seqO_nx, seqO_rt, seqO_bk, seqO_ct, seqO_none, finO_rt, finO_nx, evS_ifs, pickB_t, pickB_f, runP_some, evS.eq_1, evS.eq_2, evS.eq_3, evS.eq_4, evS.eq_5, evS.eq_6, evS.eq_7, evS.eq_11, evS.eq_12, evS.eq_13, evS.eq_14, evS.eq_15, evS.eq_16, evS.eq_17, evS.eq_18, evS.eq_19, evS.eq_20, evS.eq_21, evS.eq_22, evS.eq_23, evS.eq_24, evS.eq_25, evx_pr, evx_lst, evx_tup, evx_nil, evx_cons, evx_and, evx_or, evx_ife, evx_var, varO_some, evx_lit, prO_some, prO_none, lstO_some, tupO_some, consO_some, consO_none, andO_t, andO_f, orO_t, orO_f, ifO_t, ifO_f, runE_some, evM, evMs, bindP, bindPs, wipeE, nmz, rd, fz, isB, isFu, isSh, mkLst, mkTup, hasL, hasLs, itM, newLst, callG, isNonD, gLt, gGe, gLe, gGt, gLtA_ii, gGtA_ii, gLeA_ii, gGeA_ii, gIn2_cs, gSub, gMod, gDiv, gPow, gAddI, g2I, gAdd, gMul, gLen, gIdx, gMax2, gMin2, gIsi, gIsN, gNotN, tyD, isiT, tyList, inR, B62, SZ, -gIdx, ip, ik, gk]
theorem endsExt {p : Pc} {k : Nat} (hz : p.length ≤ 40) (hk : k ≤ p.length) (row : D) (s2 s3 s4 s5 : Slot) :
    ev (.pr gLRg2 [(.var 6), (.pr gAdd [(.pr gLen [(.var 0)]), (.lit (.int 1))])]) [some (.lst (p.map pD), .sh), some (row, .sh), s2, s3, s4, s5, some (.int k, .sh)] = some (.lst (nI (wy k p.length)), .full) := by
  have lp := len_p p
  have lr := lrg2 (k := k) (n := p.length) (by omega) hk
  generalize p.map pD = PD at *
  generalize nI (wy k p.length) = YD at *
  simp [fB, runB_f, st0, evB_nl, evB_cn, seqO_nx, seqO_rt, seqO_bk, seqO_ct, seqO_none, finO_rt, finO_nx, evS_ifs, pickB_t, pickB_f, runP_some, evS.eq_1, evS.eq_2, evS.eq_3, evS.eq_4, evS.eq_5, evS.eq_6, evS.eq_7, evS.eq_11, evS.eq_12, evS.eq_13, evS.eq_14, evS.eq_15, evS.eq_16, evS.eq_17, evS.eq_18, evS.eq_19, evS.eq_20, evS.eq_21, evS.eq_22, evS.eq_23, evS.eq_24, evS.eq_25, evx_pr, evx_lst, evx_tup, evx_nil, evx_cons, evx_and, evx_or, evx_ife, evx_var, varO_some, evx_lit, prO_some, prO_none, lstO_some, tupO_some, consO_some, consO_none, andO_t, andO_f, orO_t, orO_f, ifO_t, ifO_f, runE_some, evM, evMs, bindP, bindPs, wipeE, nmz, rd, fz, isB, isFu, isSh, mkLst, mkTup, hasL, hasLs, itM, newLst, callG, isNonD, gLt, gGe, gLe, gGt, gLtA_ii, gGtA_ii, gLeA_ii, gGeA_ii, gIn2_cs, gSub, gMod, gDiv, gPow, gAddI, g2I, gAdd, gMul, gLen, gIdx, gMax2, gMin2, gIsi, gIsN, gNotN, tyD, isiT, tyList, inR, B62, SZ, -gLen, lp, lr]
theorem endsStep {p : Pc} (hz : p.length ≤ 40) (W : List Nat) (row : D) (c i : Nat) (hi : i < p.length) (s6 : Slot) : ∃ t6, evB FUEL l__law_ends_1 [some (.lst (p.map pD), .sh), some (row, .sh), some (.lst (nI W), .full), some (.str [c], .sh), some (.lst (nI (mor p W c i)), .full), some (.int i, .sh), s6] =
        some (.nx [some (.lst (p.map pD), .sh), some (row, .sh), some (.lst (nI W), .full), some (.str [c], .sh), some (.lst (nI (mor p W c (i + 1))), .full), some (.int i, .sh), t6]) := by
  obtain ⟨x, hx⟩ : ∃ x, p[i]? = some x := ⟨_, List.getElem?_eq_getElem hi⟩
  have ea : atL p i = x.2 := by unfold atL; rw [hx]; rfl
  have ml := mor_len p W c i
  have mb : i * (p.length + 1) ≤ 40 * 41 := Nat.mul_le_mul (by omega) (by omega)
  have hcond := endsCond (c := c) (W := W) hx row (some (.lst (nI (mor p W c i)), .full)) s6
  by_cases hc : i ∈ W ∧ c ∈ x.2
  · have hfl : frs p i ≤ p.length := by unfold frs; split <;> omega
    have em : mor p W c (i + 1) = mor p W c i ++ wy (frs p i) p.length := by rw [mor_succ, if_pos ⟨hc.1, by rw [ea]; exact hc.2⟩]
    rw [decide_eq_true hc] at hcond
    rw [em]
    refine ⟨some (.int (frs p i), .sh), ?_⟩
    rw [l__law_ends_1]
    refine (bNx ((sIfT hcond).trans ?_)).trans (bNil _ _)
    refine (bSet (endsSix hx row _ _ _ _) (by simp)).trans ?_
    simp only [List.set_cons_zero, List.set_cons_succ]
    refine (bNx (sExt (ds := nI (mor p W c i)) (m := .full) rfl (endsExt hz hfl row _ _ _ _) (ext_nI (by rw [wy_len]; omega)))).trans ((bNil _ _).trans ?_)
    rfl
  · have em : mor p W c (i + 1) = mor p W c i := by rw [mor_succ, if_neg (by rw [ea]; exact hc), List.append_nil]
    rw [decide_eq_false hc] at hcond
    rw [em]
    refine ⟨s6, ?_⟩
    rw [l__law_ends_1]
    exact (bNx ((sIfF hcond).trans (bNil _ _))).trans (bNil _ _)
theorem endsIn {p : Pc} (hz : p.length ≤ 40) (W : List Nat) (row : D) (c : Nat) (s5 s6 : Slot) : ∃ t5 t6,
    forGo (.nm 5) .sh (evB FUEL l__law_ends_1) (rngD 0 1 p.length) [some (.lst (p.map pD), .sh), some (row, .sh), some (.lst (nI W), .full), some (.str [c], .sh), some (.lst (nI (mor p W c 0)), .full), s5, s6] =
      some (.nx [some (.lst (p.map pD), .sh), some (row, .sh), some (.lst (nI W), .full), some (.str [c], .sh), some (.lst (nI (mor p W c p.length)), .full), t5, t6]) := by
  obtain ⟨ρ', e, t5, t6, rfl⟩ := forGo_ind (p := .nm 5) (m := .sh) (b := evB FUEL l__law_ends_1) (fun i ρ => ∃ t5 t6, ρ = [some (.lst (p.map pD), .sh), some (row, .sh), some (.lst (nI W), .full), some (.str [c], .sh), some (.lst (nI (mor p W c i)), .full), t5, t6]) (rngD 0 1 p.length) 0
    [some (.lst (p.map pD), .sh), some (row, .sh), some (.lst (nI W), .full), some (.str [c], .sh), some (.lst (nI (mor p W c 0)), .full), s5, s6] ⟨_, _, rfl⟩ (by
    rintro i d ρ ed ⟨s5, s6, rfl⟩
    obtain ⟨hi, rfl⟩ := rngD_get ed
    rw [show (0 : Int) + (i : Int) * 1 = i by omega, Nat.zero_add]
    obtain ⟨t6, hb⟩ := endsStep hz W row c i hi s6
    exact ⟨_, _, rfl, .inl hb, _, _, rfl⟩)
  rw [Nat.zero_add, rngD_len] at e
  exact ⟨t5, t6, e⟩
theorem endsGo2 {p : Pc} (hz : p.length ≤ 40) (row : D) : ∀ (w : List Nat) (o : Option Nat) (s3 s4 s5 s6 : Slot), (∀ k, o = some k → k ≤ p.length) → ∃ W t3 t4 t5 t6, (W.isEmpty = !((o.bind fun k => rst (p.drop k) w).isSome)) ∧
    forGo (.nm 3) .sh (evB FUEL l__law_ends_2) (strD w) [some (.lst (p.map pD), .sh), some (row, .sh), some (.lst (nI (o.elim [] fun k => wy k p.length)), .full), s3, s4, s5, s6] =
      some (.nx [some (.lst (p.map pD), .sh), some (row, .sh), some (.lst (nI W), .full), t3, t4, t5, t6])
  | [], o, s3, s4, s5, s6, ho => by
    refine ⟨_, s3, s4, s5, s6, ?_, rfl⟩
    cases o with
    | none => rfl
    | some k =>
      have := ho k rfl
      have hl := wy_len k p.length
      show (wy k p.length).isEmpty = false
      cases h : wy k p.length with
      | nil => rw [h] at hl; simp at hl; omega
      | cons a l => rfl
  | c :: w, o, s3, s4, s5, s6, ho => by
    have es : strD (c :: w) = .str [c] :: strD w := rfl
    rw [es]
    obtain ⟨o', ho', hr, hm⟩ : ∃ o' : Option Nat, (∀ k, o' = some k → k ≤ p.length) ∧ ((o.bind fun k => rst (p.drop k) (c :: w)) = o'.bind fun k => rst (p.drop k) w) ∧ ∀ m, m ∈ mor p (o.elim [] fun k => wy k p.length) c p.length ↔ m ∈ (o'.elim [] fun k => wy k p.length : List Nat) := by
      cases o with
      | none =>
        refine ⟨none, (fun k h => nomatch h), rfl, fun m => ⟨fun h => ?_, (fun h => nomatch h)⟩⟩
        obtain ⟨a, _, h, _⟩ := mem_mor.mp h
        cases h
      | some k =>
        rcases mor_step p c k (ho k rfl) with ⟨h1, h2⟩ | ⟨k', h1, h2, h3⟩
        · exact ⟨none, (fun k h => nomatch h), by simp [rst, h1], h2⟩
        · exact ⟨some k', fun j h => by cases h; exact h1, by simp [rst, h2], h3⟩
    have hpw : (o'.elim [] fun k => wy k p.length : List Nat).Pairwise (· < ·) := by
      cases o' with
      | none => exact .nil
      | some k => exact wy_pw _ _
    have ml := mor_len p (o.elim [] fun k => wy k p.length) c p.length
    have mb : p.length * (p.length + 1) ≤ 40 * 41 := Nat.mul_le_mul (by omega) (by omega)
    have ss := sset_nI (by omega) hpw hm
    obtain ⟨t5, t6, hin⟩ := endsIn hz (o.elim [] fun k => wy k p.length) row c s5 s6
    have lp := len_p p
    have hq : evS FUEL q__law_ends_1 [some (.lst (p.map pD), .sh), some (row, .sh), some (.lst (nI (o.elim [] fun k => wy k p.length)), .full), some (.str [c], .sh), some (.lst [], .full), s5, s6] =
        some (.nx [some (.lst (p.map pD), .sh), some (row, .sh), some (.lst (nI (o.elim [] fun k => wy k p.length)), .full), some (.str [c], .sh), some (.lst (nI (mor p (o.elim [] fun k => wy k p.length) c p.length)), .full), t5, t6]) := by
      rw [q__law_ends_1, evS_fors (as := [(.int p.length, .sh)]) (ds := rngD 0 1 p.length) (m := .sh) (by generalize p.map pD = PD at *; simp [fB, runB_f, st0, evB_nl, evB_cn, seqO_nx, seqO_rt, seqO_bk, seqO_ct, seqO_none, finO_rt, finO_nx, evS_ifs, pickB_t, pickB_f, runP_some, evS.eq_1, evS.eq_2, evS.eq_3, evS.eq_4, evS.eq_5, evS.eq_6, evS.eq_7, evS.eq_11, evS.eq_12, evS.eq_13, evS.eq_14, evS.eq_15, evS.eq_16, evS.eq_17, evS.eq_18, evS.eq_19, evS.eq_20, evS.eq_21, evS.eq_22, evS.eq_23, evS.eq_24, evS.eq_25, evx_pr, evx_lst, evx_tup, evx_nil, evx_cons, evx_and, evx_or, evx_ife, evx_var, varO_some, evx_lit, prO_some, prO_none, lstO_some, tupO_some, consO_some, consO_none, andO_t, andO_f, orO_t, orO_f, ifO_t, ifO_f, runE_some, evM, evMs, bindP, bindPs, wipeE, nmz, rd, fz, isB, isFu, isSh, mkLst, mkTup, hasL, hasLs, itM, newLst, callG, isNonD, gLt, gGe, gLe, gGt, gLtA_ii, gGtA_ii, gLeA_ii, gGeA_ii, gIn2_cs, gSub, gMod, gDiv, gPow, gAddI, g2I, gAdd, gMul, gLen, gIdx, gMax2, gMin2, gIsi, gIsN, gNotN, tyD, isiT, tyList, inR, B62, SZ, -gLen, lp]) (igR1_nat (by omega))]
      exact hin
    have hb : evB FUEL l__law_ends_2 [some (.lst (p.map pD), .sh), some (row, .sh), some (.lst (nI (o.elim [] fun k => wy k p.length)), .full), some (.str [c], .sh), s4, s5, s6] =
        some (.nx [some (.lst (p.map pD), .sh), some (row, .sh), some (.lst (nI (o'.elim [] fun k => wy k p.length)), .full), some (.str [c], .sh), some (.lst (nI (mor p (o.elim [] fun k => wy k p.length) c p.length)), .full), t5, t6]) := by
      have fl1 := nI_flat (mor p (o.elim [] fun k => wy k p.length) c p.length)
      generalize nI (mor p (o.elim [] fun k => wy k p.length) c p.length) = MD at *
      generalize nI (o.elim [] fun k => wy k p.length) = WD at *
      generalize nI (o'.elim [] fun k => wy k p.length) = ND at *
      generalize p.map pD = PD at *
      simp [l__law_ends_2, fB, runB_f, st0, evB_nl, evB_cn, seqO_nx, seqO_rt, seqO_bk, seqO_ct, seqO_none, finO_rt, finO_nx, evS_ifs, pickB_t, pickB_f, runP_some, evS.eq_1, evS.eq_2, evS.eq_3, evS.eq_4, evS.eq_5, evS.eq_6, evS.eq_7, evS.eq_11, evS.eq_12, evS.eq_13, evS.eq_14, evS.eq_15, evS.eq_16, evS.eq_17, evS.eq_18, evS.eq_19, evS.eq_20, evS.eq_21, evS.eq_22, evS.eq_23, evS.eq_24, evS.eq_25, evx_pr, evx_lst, evx_tup, evx_nil, evx_cons, evx_and, evx_or, evx_ife, evx_var, varO_some, evx_lit, prO_some, prO_none, lstO_some, tupO_some, consO_some, consO_none, andO_t, andO_f, orO_t, orO_f, ifO_t, ifO_f, runE_some, evM, evMs, bindP, bindPs, wipeE, nmz, rd, fz, isB, isFu, isSh, mkLst, mkTup, hasL, hasLs, itM, newLst, callG, isNonD, gLt, gGe, gLe, gGt, gLtA_ii, gGtA_ii, gLeA_ii, gGeA_ii, gIn2_cs, gSub, gMod, gDiv, gPow, gAddI, g2I, gAdd, gMul, gLen, gIdx, gMax2, gMin2, gIsi, gIsN, gNotN, tyD, isiT, tyList, inR, B62, SZ, hq, ss]
    obtain ⟨W, u3, u4, u5, u6, e1, e2⟩ := endsGo2 hz row w o' (some (.str [c], .sh)) (some (.lst (nI (mor p (o.elim [] fun k => wy k p.length) c p.length)), .full)) t5 t6 ho'
    exact ⟨W, u3, u4, u5, u6, by rw [hr]; exact e1, (forGo_nx rfl hb).trans e2⟩
theorem ends_eq {p : Pc} {w : List Nat} (hz : p.length ≤ 40) : f__law_ends [.lst (p.map pD), .str w] = some (.bl (hld p w), .sh) := by
  obtain ⟨W, t3, t4, t5, t6, e1, e2⟩ := endsGo2 hz (.str w) w (some 0) none none none none (fun k h => by cases h; exact Nat.zero_le _)
  simp only [Option.elim_some, Option.bind_some, List.drop_zero] at e1 e2
  have hq : evS FUEL q__law_ends_2 [some (.lst (p.map pD), .sh), some (.str w, .sh), some (.lst (nI (wy 0 p.length)), .full), none, none, none, none] = some (.nx [some (.lst (p.map pD), .sh), some (.str w, .sh), some (.lst (nI W), .full), t3, t4, t5, t6]) := by
    rw [q__law_ends_2, evS_fors (as := [(.str w, .sh)]) (ds := strD w) (m := .sh) (by simp [fB, runB_f, st0, evB_nl, evB_cn, seqO_nx, seqO_rt, seqO_bk, seqO_ct, seqO_none, finO_rt, finO_nx, evS_ifs, pickB_t, pickB_f, runP_some, evS.eq_1, evS.eq_2, evS.eq_3, evS.eq_4, evS.eq_5, evS.eq_6, evS.eq_7, evS.eq_11, evS.eq_12, evS.eq_13, evS.eq_14, evS.eq_15, evS.eq_16, evS.eq_17, evS.eq_18, evS.eq_19, evS.eq_20, evS.eq_21, evS.eq_22, evS.eq_23, evS.eq_24, evS.eq_25, evx_pr, evx_lst, evx_tup, evx_nil, evx_cons, evx_and, evx_or, evx_ife, evx_var, varO_some, evx_lit, prO_some, prO_none, lstO_some, tupO_some, consO_some, consO_none, andO_t, andO_f, orO_t, orO_f, ifO_t, ifO_f, runE_some, evM, evMs, bindP, bindPs, wipeE, nmz, rd, fz, isB, isFu, isSh, mkLst, mkTup, hasL, hasLs, itM, newLst, callG, isNonD, gLt, gGe, gLe, gGt, gLtA_ii, gGtA_ii, gLeA_ii, gGeA_ii, gIn2_cs, gSub, gMod, gDiv, gPow, gAddI, g2I, gAdd, gMul, gLen, gIdx, gMax2, gMin2, gIsi, gIsN, gNotN, tyD, isiT, tyList, inR, B62, SZ]) (igSeq_str _ _)]
    exact e2
  have lp := len_p p
  have lr := lrg1 (n := p.length) (by omega)
  have ne := ne_nI W
  rw [e1] at ne
  have hh : (!!(rst p w).isSome) = hld p w := by unfold hld; simp
  rw [hh] at ne
  generalize p.map pD = PD at *
  generalize nI (wy 0 p.length) = YD at *
  generalize nI W = WD at *
  simp [f__law_ends, b__law_ends, fB, runB_f, st0, evB_nl, evB_cn, seqO_nx, seqO_rt, seqO_bk, seqO_ct, seqO_none, finO_rt, finO_nx, evS_ifs, pickB_t, pickB_f, runP_some, evS.eq_1, evS.eq_2, evS.eq_3, evS.eq_4, evS.eq_5, evS.eq_6, evS.eq_7, evS.eq_11, evS.eq_12, evS.eq_13, evS.eq_14, evS.eq_15, evS.eq_16, evS.eq_17, evS.eq_18, evS.eq_19, evS.eq_20, evS.eq_21, evS.eq_22, evS.eq_23, evS.eq_24, evS.eq_25, evx_pr, evx_lst, evx_tup, evx_nil, evx_cons, evx_and, evx_or, evx_ife, evx_var, varO_some, evx_lit, prO_some, prO_none, lstO_some, tupO_some, consO_some, consO_none, andO_t, andO_f, orO_t, orO_f, ifO_t, ifO_f, runE_some, evM, evMs, bindP, bindPs, wipeE, nmz, rd, fz, isB, isFu, isSh, mkLst, mkTup, hasL, hasLs, itM, newLst, callG, isNonD, gLt, gGe, gLe, gGt, gLtA_ii, gGtA_ii, gLeA_ii, gGeA_ii, gIn2_cs, gSub, gMod, gDiv, gPow, gAddI, g2I, gAdd, gMul, gLen, gIdx, gMax2, gMin2, gIsi, gIsN, gNotN, tyD, isiT, tyList, inR, B62, SZ, -gLen, lp, lr, hq, ne]

end K19
namespace K19
open PySem SW
theorem isLetter_eq {c : Nat} (h : isLow c = true) : f_is_letter [.str [c]] = some (.bl true, .sh) := by
  have hm : (c ∈ [97, 98, 99, 100, 101, 102, 103, 104, 105, 106, 107, 108, 109, 110, 111, 112, 113, 114, 115, 116, 117, 118, 119, 120, 121, 122]) := by
    have := low_mem c
    rw [h] at this
    exact of_decide_eq_true this
  have g : gEq [(.int (1 : Int), .sh), (.int 1, .sh)] = some (.bl true, .sh) := by rw [gEq_ii]; rfl
  have gi : gIn2 false [(.str [c], .sh), (c_LETTERS, .sh)] = some (.bl true, .sh) := by
    show some (D.bl (decide (c ∈ _)), Mo.sh) = _
    rw [decide_eq_true hm]
  have hl : hasL c_LETTERS = false := rfl
  simp [f_is_letter, b_is_letter, fB, runB_f, st0, evB_nl, evB_cn, seqO_nx, seqO_rt, seqO_bk, seqO_ct, seqO_none, finO_rt, finO_nx, evS_ifs, pickB_t, pickB_f, runP_some, evS.eq_1, evS.eq_2, evS.eq_3, evS.eq_4, evS.eq_5, evS.eq_6, evS.eq_7, evS.eq_11, evS.eq_12, evS.eq_13, evS.eq_14, evS.eq_15, evS.eq_16, evS.eq_17, evS.eq_18, evS.eq_19, evS.eq_20, evS.eq_21, evS.eq_22, evS.eq_23, evS.eq_24, evS.eq_25, evx_pr, evx_lst, evx_tup, evx_nil, evx_cons, evx_and, evx_or, evx_ife, evx_var, varO_some, evx_lit, prO_some, prO_none, lstO_some, tupO_some, consO_some, consO_none, andO_t, andO_f, orO_t, orO_f, ifO_t, ifO_f, runE_some, evM, evMs, bindP, bindPs, wipeE, nmz, rd, fz, isB, isFu, isSh, mkLst, mkTup, hasL, hasLs, itM, newLst, callG, isNonD, gLt, gGe, gLe, gGt, gLtA_ii, gGtA_ii, gLeA_ii, gGeA_ii, gIn2_cs, gSub, gMod, gDiv, gPow, gAddI, g2I, gAdd, gMul, gLen, gIdx, gMax2, gMin2, gIsi, gIsN, gNotN, tyD, isiT, tyList, inR, B62, SZ, g, gi, hl]
/-! ### sets that are asked with are good ones -/
theorem gLtA_chars {c d : Nat} {m n : Mo} : gLtA [(.str [d], m), (.str [c], n)] = some (.bl (decide (d < c)), .sh) := by
  have ok : ltOk (.str [d]) (.str [c]) = true := by simp [ltOk, pyOk, toPy, PySem.W.alike, isNonD, dpth]
  have e : PySem.W.dataLt (toPy (.str [d])) (toPy (.str [c])) = decide (d < c) := by
    simp only [toPy]
    rw [PySem.W.dataLt_str]
    simp [List.cons_lt_cons_iff]
  unfold gLtA gCm
  simp only [ok, if_true, e]
def gdP (x : Prt) : Prop := (x.1 = false ∧ ∃ c, isLow c = true ∧ x.2 = [c]) ∨ (x.1 = true ∧ x.2 ≠ [] ∧ x.2.all isLow = true ∧ x.2.Pairwise (· < ·) ∧ x.2.length ≤ 26)
theorem gdP_ok {x : Prt} (h : gdP x) : x.2.all isLow = true ∧ x.2.length ≤ 26 := by
  rcases h with ⟨_, c, hc, h⟩ | ⟨_, _, h, _, hl⟩
  · rw [h]; simp [hc]
  · exact ⟨h, hl⟩
theorem gdP_wf {x : Prt} (h : gdP x) (hf : x.1 = false) : ∃ c, x.2 = [c] := by
  rcases h with ⟨_, c, _, h⟩ | ⟨h, _⟩
  · exact ⟨c, h⟩
  · rw [hf] at h; cases h
theorem zpD_str : ∀ (a b : List Nat), zpD (strD a) (strD b) = (a.zip b).map fun q => .tup [.str [q.1], .str [q.2]]
  | [], _ => by simp [strD, zpD]
  | _ :: _, [] => by simp [strD, zpD]
  | x :: a, y :: b => by
    have := zpD_str a b
    unfold strD at this ⊢
    simp only [List.map_cons, zpD, List.zip_cons_cons]
    rw [this]
theorem zip_rise {L : List Nat} (h : L.Pairwise (· < ·)) : ((L.zip (L.drop 1)).all fun q => decide (q.1 < q.2)) = true := by
  induction L with
  | nil => rfl
  | cons a L ih =>
    cases L with
    | nil => rfl
    | cons b L =>
      obtain ⟨h1, h2⟩ := List.pairwise_cons.mp h
      have := ih h2
      simp only [List.drop_succ_cons, List.drop_zero, List.zip_cons_cons, List.all_cons, Bool.and_eq_true, decide_eq_true_eq] at this ⊢
      exact ⟨h1 b (List.mem_cons_self ..), this⟩
theorem isPart_eq {x : Prt} (h : gdP x) : f_is_part [pD x] = some (.bl true, .sh) := by
  have t1 : ∀ m n, gIsi [(pD x, m), (.raw (.ty "tuple"), n)] = some (.bl true, .sh) := fun m n => rfl
  have t2 : ∀ s m n, gIsi [(.str s, m), (.raw (.ty "str"), n)] = some (.bl true, .sh) := fun s m n => rfl
  have t3 : ∀ m, gLen [(pD x, m)] = some (.int 2, .sh) := fun m => rfl
  have t4 : ∀ m n, gNe [(.int 2, m), (.int 2, n)] = some (.bl false, .sh) := fun m n => by rw [gNe_ii]; rfl
  have ik := idx_k x
  have il := idx_l x
  have hxf := pD_flat x
  rcases h with ⟨hk, c, hc, hx⟩ | ⟨hk, hne, hl, hp, hz⟩
  · have g1 := eq_kd x.1 false
    rw [hk, show kdS false = [109, 97, 121, 98, 101] from rfl] at g1
    have lt : ∀ m, callG f_is_letter [(.str [c], m)] = some (.bl true, .sh) := fun m => callG_fl (isLetter_eq hc) rfl
    rw [hk, show kdS false = [109, 97, 121, 98, 101] from rfl] at ik
    rw [hx] at il
    unfold f_is_part b_is_part
    refine f_of (ρ := [some (pD x, .sh), none, none]) rfl rfl ?_
    generalize pD x = XD at *
    generalize callG f_is_letter = F at *
    generalize gIsi = G1 at *
    generalize gLen = G2 at *
    generalize gNe = G3 at *
    refine (bNx ((sIfF (m := .sh) ?_).trans (bNil _ _))).trans ?_
    · simp [fB, runB_f, st0, evB_nl, evB_cn, seqO_nx, seqO_rt, seqO_bk, seqO_ct, seqO_none, finO_rt, finO_nx, evS_ifs, pickB_t, pickB_f, runP_some, evS.eq_1, evS.eq_2, evS.eq_3, evS.eq_4, evS.eq_5, evS.eq_6, evS.eq_7, evS.eq_11, evS.eq_12, evS.eq_13, evS.eq_14, evS.eq_15, evS.eq_16, evS.eq_17, evS.eq_18, evS.eq_19, evS.eq_20, evS.eq_21, evS.eq_22, evS.eq_23, evS.eq_24, evS.eq_25, evx_pr, evx_lst, evx_tup, evx_nil, evx_cons, evx_and, evx_or, evx_ife, evx_var, varO_some, evx_lit, prO_some, prO_none, lstO_some, tupO_some, consO_some, consO_none, andO_t, andO_f, orO_t, orO_f, ifO_t, ifO_f, runE_some, evM, evMs, bindP, bindPs, wipeE, nmz, rd, fz, isB, isFu, isSh, mkLst, mkTup, hasL, hasLs, itM, newLst, callG, isNonD, gLt, gGe, gLe, gGt, gLtA_ii, gGtA_ii, gLeA_ii, gGeA_ii, gIn2_cs, gSub, gMod, gDiv, gPow, gAddI, g2I, gAdd, gMul, gLen, gIdx, gMax2, gMin2, gIsi, gIsN, gNotN, tyD, isiT, tyList, inR, B62, SZ, -gIdx, t1, t2, t3, t4, ik]
    refine bRt ((sIfT (m := .sh) ?_).trans (bRt (sRet ?_)))
    · simp [fB, runB_f, st0, evB_nl, evB_cn, seqO_nx, seqO_rt, seqO_bk, seqO_ct, seqO_none, finO_rt, finO_nx, evS_ifs, pickB_t, pickB_f, runP_some, evS.eq_1, evS.eq_2, evS.eq_3, evS.eq_4, evS.eq_5, evS.eq_6, evS.eq_7, evS.eq_11, evS.eq_12, evS.eq_13, evS.eq_14, evS.eq_15, evS.eq_16, evS.eq_17, evS.eq_18, evS.eq_19, evS.eq_20, evS.eq_21, evS.eq_22, evS.eq_23, evS.eq_24, evS.eq_25, evx_pr, evx_lst, evx_tup, evx_nil, evx_cons, evx_and, evx_or, evx_ife, evx_var, varO_some, evx_lit, prO_some, prO_none, lstO_some, tupO_some, consO_some, consO_none, andO_t, andO_f, orO_t, orO_f, ifO_t, ifO_f, runE_some, evM, evMs, bindP, bindPs, wipeE, nmz, rd, fz, isB, isFu, isSh, mkLst, mkTup, hasL, hasLs, itM, newLst, callG, isNonD, gLt, gGe, gLe, gGt, gLtA_ii, gGtA_ii, gLeA_ii, gGeA_ii, gIn2_cs, gSub, gMod, gDiv, gPow, gAddI, g2I, gAdd, gMul, gLen, gIdx, gMax2, gMin2, gIsi, gIsN, gNotN, tyD, isiT, tyList, inR, B62, SZ, -gIdx, ik, g1]
    · simp [fB, runB_f, st0, evB_nl, evB_cn, seqO_nx, seqO_rt, seqO_bk, seqO_ct, seqO_none, finO_rt, finO_nx, evS_ifs, pickB_t, pickB_f, runP_some, evS.eq_1, evS.eq_2, evS.eq_3, evS.eq_4, evS.eq_5, evS.eq_6, evS.eq_7, evS.eq_11, evS.eq_12, evS.eq_13, evS.eq_14, evS.eq_15, evS.eq_16, evS.eq_17, evS.eq_18, evS.eq_19, evS.eq_20, evS.eq_21, evS.eq_22, evS.eq_23, evS.eq_24, evS.eq_25, evx_pr, evx_lst, evx_tup, evx_nil, evx_cons, evx_and, evx_or, evx_ife, evx_var, varO_some, evx_lit, prO_some, prO_none, lstO_some, tupO_some, consO_some, consO_none, andO_t, andO_f, orO_t, orO_f, ifO_t, ifO_f, runE_some, evM, evMs, bindP, bindPs, wipeE, nmz, rd, fz, isB, isFu, isSh, mkLst, mkTup, hasL, hasLs, itM, newLst, callG, isNonD, gLt, gGe, gLe, gGt, gLtA_ii, gGtA_ii, gLeA_ii, gGeA_ii, gIn2_cs, gSub, gMod, gDiv, gPow, gAddI, g2I, gAdd, gMul, gLen, gIdx, gMax2, gMin2, gIsi, gIsN, gNotN, tyD, isiT, tyList, inR, B62, SZ, -gIdx, il, lt]
  · have g1 := eq_kd x.1 false
    rw [hk, show kdS false = [109, 97, 121, 98, 101] from rfl] at g1
    have g2 : ∀ m n, gNe [(.str (kdS true), m), (.str [97, 110, 121], n)] = some (.bl false, .sh) := fun m n => by rw [gNe_ss rfl rfl]; rfl
    have g3 : ∀ m n, gEq [(.str x.2, m), (.str [], n)] = some (.bl false, .sh) := fun m n => by
      rw [gEq_ss (low_sOk hl) rfl, decide_eq_false hne]
    have lt : ∀ m, callG f_is_row [(.str x.2, m)] = some (.bl true, .sh) := fun m => by
      have := isRow_eq (w := x.2) (by omega)
      rw [hl] at this
      exact callG_fl this rfl
    have ez : ∀ s1 s2, ev e_is_part_1 [some (pD x, .sh), s1, s2] = some (.lst ((x.2.zip (x.2.drop 1)).map fun q => .bl (decide (q.1 < q.2))), .full) := fun s1 s2 => by
      have sl : ∀ m n, gSlL [(.str x.2, m), (.int 1, n)] = some (.str (x.2.drop 1), .sh) := fun m n => by
        have := cutL_from x.2 1
        rw [show ((1 : Nat) : Int) = 1 from rfl] at this
        have hz2 : x.2.length ≤ SZ := Nat.le_trans hz (by decide)
        simp only [gSlL, slD, if_pos hz2, this]
      refine ev_comp_map (as := [(.str x.2, .sh), (.str (x.2.drop 1), .sh)]) (m := .sh) (st := true) (x.2.zip (x.2.drop 1)) (fun q => .tup [.str [q.1], .str [q.2]]) _ ?_ ?_ (by simp; omega) fun q hq => ?_
      · clear t1 t3 g1 g2 g3 lt
        generalize pD x = XD at *
        generalize gSlL = G1 at *
        simp [fB, runB_f, st0, evB_nl, evB_cn, seqO_nx, seqO_rt, seqO_bk, seqO_ct, seqO_none, finO_rt, finO_nx, evS_ifs, pickB_t, pickB_f, runP_some, evS.eq_1, evS.eq_2, evS.eq_3, evS.eq_4, evS.eq_5, evS.eq_6, evS.eq_7, evS.eq_11, evS.eq_12, evS.eq_13, evS.eq_14, evS.eq_15, evS.eq_16, evS.eq_17, evS.eq_18, evS.eq_19, evS.eq_20, evS.eq_21, evS.eq_22, evS.eq_23, evS.eq_24, evS.eq_25, evx_pr, evx_lst, evx_tup, evx_nil, evx_cons, evx_and, evx_or, evx_ife, evx_var, varO_some, evx_lit, prO_some, prO_none, lstO_some, tupO_some, consO_some, consO_none, andO_t, andO_f, orO_t, orO_f, ifO_t, ifO_f, runE_some, evM, evMs, bindP, bindPs, wipeE, nmz, rd, fz, isB, isFu, isSh, mkLst, mkTup, hasL, hasLs, itM, newLst, callG, isNonD, gLt, gGe, gLe, gGt, gLtA_ii, gGtA_ii, gLeA_ii, gGeA_ii, gIn2_cs, gSub, gMod, gDiv, gPow, gAddI, g2I, gAdd, gMul, gLen, gIdx, gMax2, gMin2, gIsi, gIsN, gNotN, tyD, isiT, tyList, inR, B62, SZ, -gIdx, il, sl]
      · show some (zpD (strD x.2) (strD (x.2.drop 1)), Mo.sh, true) = _
        rw [zpD_str]
      · have gl := fun m n => gLtA_chars (c := q.2) (d := q.1) (m := m) (n := n)
        refine ⟨[some (pD x, .sh), some (.str [q.1], .sh), some (.str [q.2], .sh)], .sh, .sh, rfl, by rw [evx_lit]; rfl, ?_, rfl⟩
        clear t1 t3 g1 g2 g3 lt
        generalize pD x = XD at *
        generalize gLtA = G1 at *
        simp [fB, runB_f, st0, evB_nl, evB_cn, seqO_nx, seqO_rt, seqO_bk, seqO_ct, seqO_none, finO_rt, finO_nx, evS_ifs, pickB_t, pickB_f, runP_some, evS.eq_1, evS.eq_2, evS.eq_3, evS.eq_4, evS.eq_5, evS.eq_6, evS.eq_7, evS.eq_11, evS.eq_12, evS.eq_13, evS.eq_14, evS.eq_15, evS.eq_16, evS.eq_17, evS.eq_18, evS.eq_19, evS.eq_20, evS.eq_21, evS.eq_22, evS.eq_23, evS.eq_24, evS.eq_25, evx_pr, evx_lst, evx_tup, evx_nil, evx_cons, evx_and, evx_or, evx_ife, evx_var, varO_some, evx_lit, prO_some, prO_none, lstO_some, tupO_some, consO_some, consO_none, andO_t, andO_f, orO_t, orO_f, ifO_t, ifO_f, runE_some, evM, evMs, bindP, bindPs, wipeE, nmz, rd, fz, isB, isFu, isSh, mkLst, mkTup, hasL, hasLs, itM, newLst, callG, isNonD, gLt, gGe, gLe, gGt, gLtA_ii, gGtA_ii, gLeA_ii, gGeA_ii, gIn2_cs, gSub, gMod, gDiv, gPow, gAddI, g2I, gAdd, gMul, gLen, gIdx, gMax2, gMin2, gIsi, gIsN, gNotN, tyD, isiT, tyList, inR, B62, SZ, gl]
    have ga := fun m => gAll_map (l := x.2.zip (x.2.drop 1)) (f := fun q => decide (q.1 < q.2)) (m := m)
    have zr := zip_rise hp
    rw [hk] at ik
    unfold f_is_part b_is_part
    refine f_of (ρ := [some (pD x, .sh), none, none]) rfl rfl ?_
    have ez' := ez none none
    clear ez
    generalize pD x = XD at *
    generalize kdS true = KD at *
    generalize callG f_is_row = F at *
    generalize gIsi = G1 at *
    generalize gLen = G2 at *
    have t4' := t4
    refine (bNx ((sIfF (m := .sh) ?_).trans (bNil _ _))).trans ?_
    · simp [fB, runB_f, st0, evB_nl, evB_cn, seqO_nx, seqO_rt, seqO_bk, seqO_ct, seqO_none, finO_rt, finO_nx, evS_ifs, pickB_t, pickB_f, runP_some, evS.eq_1, evS.eq_2, evS.eq_3, evS.eq_4, evS.eq_5, evS.eq_6, evS.eq_7, evS.eq_11, evS.eq_12, evS.eq_13, evS.eq_14, evS.eq_15, evS.eq_16, evS.eq_17, evS.eq_18, evS.eq_19, evS.eq_20, evS.eq_21, evS.eq_22, evS.eq_23, evS.eq_24, evS.eq_25, evx_pr, evx_lst, evx_tup, evx_nil, evx_cons, evx_and, evx_or, evx_ife, evx_var, varO_some, evx_lit, prO_some, prO_none, lstO_some, tupO_some, consO_some, consO_none, andO_t, andO_f, orO_t, orO_f, ifO_t, ifO_f, runE_some, evM, evMs, bindP, bindPs, wipeE, nmz, rd, fz, isB, isFu, isSh, mkLst, mkTup, hasL, hasLs, itM, newLst, callG, isNonD, gLt, gGe, gLe, gGt, gLtA_ii, gGtA_ii, gLeA_ii, gGeA_ii, gIn2_cs, gSub, gMod, gDiv, gPow, gAddI, g2I, gAdd, gMul, gLen, gIdx, gMax2, gMin2, gIsi, gIsN, gNotN, tyD, isiT, tyList, inR, B62, SZ, -gIdx, t1, t2, t3, t4, ik]
    refine (bNx ((sIfF (m := .sh) ?_).trans (bNil _ _))).trans ?_
    · simp [fB, runB_f, st0, evB_nl, evB_cn, seqO_nx, seqO_rt, seqO_bk, seqO_ct, seqO_none, finO_rt, finO_nx, evS_ifs, pickB_t, pickB_f, runP_some, evS.eq_1, evS.eq_2, evS.eq_3, evS.eq_4, evS.eq_5, evS.eq_6, evS.eq_7, evS.eq_11, evS.eq_12, evS.eq_13, evS.eq_14, evS.eq_15, evS.eq_16, evS.eq_17, evS.eq_18, evS.eq_19, evS.eq_20, evS.eq_21, evS.eq_22, evS.eq_23, evS.eq_24, evS.eq_25, evx_pr, evx_lst, evx_tup, evx_nil, evx_cons, evx_and, evx_or, evx_ife, evx_var, varO_some, evx_lit, prO_some, prO_none, lstO_some, tupO_some, consO_some, consO_none, andO_t, andO_f, orO_t, orO_f, ifO_t, ifO_f, runE_some, evM, evMs, bindP, bindPs, wipeE, nmz, rd, fz, isB, isFu, isSh, mkLst, mkTup, hasL, hasLs, itM, newLst, callG, isNonD, gLt, gGe, gLe, gGt, gLtA_ii, gGtA_ii, gLeA_ii, gGeA_ii, gIn2_cs, gSub, gMod, gDiv, gPow, gAddI, g2I, gAdd, gMul, gLen, gIdx, gMax2, gMin2, gIsi, gIsN, gNotN, tyD, isiT, tyList, inR, B62, SZ, -gIdx, ik, g1]
    refine (bNx ((sIfF (m := .sh) ?_).trans (bNil _ _))).trans ?_
    · simp [fB, runB_f, st0, evB_nl, evB_cn, seqO_nx, seqO_rt, seqO_bk, seqO_ct, seqO_none, finO_rt, finO_nx, evS_ifs, pickB_t, pickB_f, runP_some, evS.eq_1, evS.eq_2, evS.eq_3, evS.eq_4, evS.eq_5, evS.eq_6, evS.eq_7, evS.eq_11, evS.eq_12, evS.eq_13, evS.eq_14, evS.eq_15, evS.eq_16, evS.eq_17, evS.eq_18, evS.eq_19, evS.eq_20, evS.eq_21, evS.eq_22, evS.eq_23, evS.eq_24, evS.eq_25, evx_pr, evx_lst, evx_tup, evx_nil, evx_cons, evx_and, evx_or, evx_ife, evx_var, varO_some, evx_lit, prO_some, prO_none, lstO_some, tupO_some, consO_some, consO_none, andO_t, andO_f, orO_t, orO_f, ifO_t, ifO_f, runE_some, evM, evMs, bindP, bindPs, wipeE, nmz, rd, fz, isB, isFu, isSh, mkLst, mkTup, hasL, hasLs, itM, newLst, callG, isNonD, gLt, gGe, gLe, gGt, gLtA_ii, gGtA_ii, gLeA_ii, gGeA_ii, gIn2_cs, gSub, gMod, gDiv, gPow, gAddI, g2I, gAdd, gMul, gLen, gIdx, gMax2, gMin2, gIsi, gIsN, gNotN, tyD, isiT, tyList, inR, B62, SZ, -gIdx, ik, il, g2, g3, lt]
    refine bRt (sRet (m := .sh) ?_)
    rw [zr] at ga
    generalize (x.2.zip (x.2.drop 1)).map (fun q => D.bl (decide (q.1 < q.2))) = LD at *
    simp [fB, runB_f, st0, evB_nl, evB_cn, seqO_nx, seqO_rt, seqO_bk, seqO_ct, seqO_none, finO_rt, finO_nx, evS_ifs, pickB_t, pickB_f, runP_some, evS.eq_1, evS.eq_2, evS.eq_3, evS.eq_4, evS.eq_5, evS.eq_6, evS.eq_7, evS.eq_11, evS.eq_12, evS.eq_13, evS.eq_14, evS.eq_15, evS.eq_16, evS.eq_17, evS.eq_18, evS.eq_19, evS.eq_20, evS.eq_21, evS.eq_22, evS.eq_23, evS.eq_24, evS.eq_25, evx_pr, evx_lst, evx_tup, evx_nil, evx_cons, evx_and, evx_or, evx_ife, evx_var, varO_some, evx_lit, prO_some, prO_none, lstO_some, tupO_some, consO_some, consO_none, andO_t, andO_f, orO_t, orO_f, ifO_t, ifO_f, runE_some, evM, evMs, bindP, bindPs, wipeE, nmz, rd, fz, isB, isFu, isSh, mkLst, mkTup, hasL, hasLs, itM, newLst, callG, isNonD, gLt, gGe, gLe, gGt, gLtA_ii, gGtA_ii, gLeA_ii, gGeA_ii, gIn2_cs, gSub, gMod, gDiv, gPow, gAddI, g2I, gAdd, gMul, gLen, gIdx, gMax2, gMin2, gIsi, gIsN, gNotN, tyD, isiT, tyList, inR, B62, SZ, ez', ga]
/-- a set that may be asked with -/
structure ckS (S : List Pc) : Prop where
  len : S.length ≤ 6
  few : ∀ p ∈ S, p.length ≤ 8
  gd : ∀ p ∈ S, ∀ x ∈ p, gdP x
theorem ckS.ok {S : List Pc} (h : ckS S) : okS S := ⟨by have := h.len; omega, fun p hp x hx => gdP_ok (h.gd p hp x hx), fun p hp => by have := h.few p hp; omega⟩
theorem ckS.wf {S : List Pc} (h : ckS S) : wfs S := fun p hp x hx hf => gdP_wf (h.gd p hp x hx) hf
theorem isPiece_eq {p : Pc} (hl : p.length ≤ 8) (h : ∀ x ∈ p, gdP x) : f_is_piece [.lst (p.map pD)] = some (.bl true, .sh) := by
  have t1 : ∀ m n, gIsi [(.lst (p.map pD), m), (.raw (.ty "list"), n)] = some (.bl true, .sh) := fun m n => rfl
  have lp := len_p p
  have e : ev e_is_piece_1 [some (.lst (p.map pD), .sh), none] = some (.lst (p.map fun _ => .bl true), .full) := by
    refine ev_comp_map (as := [(.lst (p.map pD), .sh)]) (m := .sh) (st := true) p pD _ (by simp [fB, runB_f, st0, evB_nl, evB_cn, seqO_nx, seqO_rt, seqO_bk, seqO_ct, seqO_none, finO_rt, finO_nx, evS_ifs, pickB_t, pickB_f, runP_some, evS.eq_1, evS.eq_2, evS.eq_3, evS.eq_4, evS.eq_5, evS.eq_6, evS.eq_7, evS.eq_11, evS.eq_12, evS.eq_13, evS.eq_14, evS.eq_15, evS.eq_16, evS.eq_17, evS.eq_18, evS.eq_19, evS.eq_20, evS.eq_21, evS.eq_22, evS.eq_23, evS.eq_24, evS.eq_25, evx_pr, evx_lst, evx_tup, evx_nil, evx_cons, evx_and, evx_or, evx_ife, evx_var, varO_some, evx_lit, prO_some, prO_none, lstO_some, tupO_some, consO_some, consO_none, andO_t, andO_f, orO_t, orO_f, ifO_t, ifO_f, runE_some, evM, evMs, bindP, bindPs, wipeE, nmz, rd, fz, isB, isFu, isSh, mkLst, mkTup, hasL, hasLs, itM, newLst, callG, isNonD, gLt, gGe, gLe, gGt, gLtA_ii, gGtA_ii, gLeA_ii, gGeA_ii, gIn2_cs, gSub, gMod, gDiv, gPow, gAddI, g2I, gAdd, gMul, gLen, gIdx, gMax2, gMin2, gIsi, gIsN, gNotN, tyD, isiT, tyList, inR, B62, SZ]) (igSeq_sh _) (by omega) fun x hx => ?_
    have hp' : ∀ m, callG f_is_part [(pD x, m)] = some (.bl true, .sh) := fun m => callG_fl (isPart_eq (h x hx)) rfl
    have hxf := pD_flat x
    refine ⟨[some (.lst (p.map pD), .sh), some (pD x, .sh)], .sh, .sh, rfl, by rw [evx_lit]; rfl, ?_, rfl⟩
    clear t1 lp
    generalize p.map pD = PD at *
    generalize pD x = XD at *
    generalize callG f_is_part = F at *
    simp [fB, runB_f, st0, evB_nl, evB_cn, seqO_nx, seqO_rt, seqO_bk, seqO_ct, seqO_none, finO_rt, finO_nx, evS_ifs, pickB_t, pickB_f, runP_some, evS.eq_1, evS.eq_2, evS.eq_3, evS.eq_4, evS.eq_5, evS.eq_6, evS.eq_7, evS.eq_11, evS.eq_12, evS.eq_13, evS.eq_14, evS.eq_15, evS.eq_16, evS.eq_17, evS.eq_18, evS.eq_19, evS.eq_20, evS.eq_21, evS.eq_22, evS.eq_23, evS.eq_24, evS.eq_25, evx_pr, evx_lst, evx_tup, evx_nil, evx_cons, evx_and, evx_or, evx_ife, evx_var, varO_some, evx_lit, prO_some, prO_none, lstO_some, tupO_some, consO_some, consO_none, andO_t, andO_f, orO_t, orO_f, ifO_t, ifO_f, runE_some, evM, evMs, bindP, bindPs, wipeE, nmz, rd, fz, isB, isFu, isSh, mkLst, mkTup, hasL, hasLs, itM, newLst, callG, isNonD, gLt, gGe, gLe, gGt, gLtA_ii, gGtA_ii, gLeA_ii, gGeA_ii, gIn2_cs, gSub, gMod, gDiv, gPow, gAddI, g2I, gAdd, gMul, gLen, gIdx, gMax2, gMin2, gIsi, gIsN, gNotN, tyD, isiT, tyList, inR, B62, SZ, hp']
  have ga := gAll_map (l := p) (f := fun _ => true) (m := .sh)
  rw [show (p.all fun _ => true) = true from List.all_eq_true.mpr fun _ _ => rfl] at ga
  have le : ∀ m n, gLeA [(.int (p.length : Int), m), (c_MOST_PARTS, n)] = some (.bl true, .sh) := fun m n => by
    rw [c_MOST_PARTS, gLeA_ii, decide_eq_true (by omega)]
  have hcf : hasL c_MOST_PARTS = false := rfl
  unfold f_is_piece b_is_piece
  refine f_of (ρ := [some (.lst (p.map pD), .sh), none]) rfl rfl ?_
  refine bRt (sRet (m := .sh) ?_)
  generalize c_MOST_PARTS = C at *
  generalize (p.map fun _ => D.bl true) = LD at *
  generalize p.map pD = PD at *
  generalize gIsi = G1 at *
  generalize gLen = G2 at *
  generalize gLeA = G3 at *
  simp [fB, runB_f, st0, evB_nl, evB_cn, seqO_nx, seqO_rt, seqO_bk, seqO_ct, seqO_none, finO_rt, finO_nx, evS_ifs, pickB_t, pickB_f, runP_some, evS.eq_1, evS.eq_2, evS.eq_3, evS.eq_4, evS.eq_5, evS.eq_6, evS.eq_7, evS.eq_11, evS.eq_12, evS.eq_13, evS.eq_14, evS.eq_15, evS.eq_16, evS.eq_17, evS.eq_18, evS.eq_19, evS.eq_20, evS.eq_21, evS.eq_22, evS.eq_23, evS.eq_24, evS.eq_25, evx_pr, evx_lst, evx_tup, evx_nil, evx_cons, evx_and, evx_or, evx_ife, evx_var, varO_some, evx_lit, prO_some, prO_none, lstO_some, tupO_some, consO_some, consO_none, andO_t, andO_f, orO_t, orO_f, ifO_t, ifO_f, runE_some, evM, evMs, bindP, bindPs, wipeE, nmz, rd, fz, isB, isFu, isSh, mkLst, mkTup, hasL, hasLs, itM, newLst, callG, isNonD, gLt, gGe, gLe, gGt, gLtA_ii, gGtA_ii, gLeA_ii, gGeA_ii, gIn2_cs, gSub, gMod, gDiv, gPow, gAddI, g2I, gAdd, gMul, gLen, gIdx, gMax2, gMin2, gIsi, gIsN, gNotN, tyD, isiT, tyList, inR, B62, SZ, t1, lp, le, e, ga, hcf]
theorem len_set (S : List Pc) (m : Mo) : gLen [(.lst (setD S), m)] = some (.int S.length, .sh) := by simp [gLen, setD]
theorem checkSet_eq {S : List Pc} (h : ckS S) : f_check_set [.lst (setD S)] = some (.non, .sh) := by
  have t1 : ∀ m n, gIsi [(.lst (setD S), m), (.raw (.ty "list"), n)] = some (.bl true, .sh) := fun m n => rfl
  have ls := len_set S
  have e : ev e_check_set_1 [some (.lst (setD S), .sh), none] = some (.lst (S.map fun _ => .bl true), .full) := by
    refine ev_comp_map (as := [(.lst (setD S), .sh)]) (m := .sh) (st := true) S (fun p => .lst (p.map pD)) _ (by simp [fB, runB_f, st0, evB_nl, evB_cn, seqO_nx, seqO_rt, seqO_bk, seqO_ct, seqO_none, finO_rt, finO_nx, evS_ifs, pickB_t, pickB_f, runP_some, evS.eq_1, evS.eq_2, evS.eq_3, evS.eq_4, evS.eq_5, evS.eq_6, evS.eq_7, evS.eq_11, evS.eq_12, evS.eq_13, evS.eq_14, evS.eq_15, evS.eq_16, evS.eq_17, evS.eq_18, evS.eq_19, evS.eq_20, evS.eq_21, evS.eq_22, evS.eq_23, evS.eq_24, evS.eq_25, evx_pr, evx_lst, evx_tup, evx_nil, evx_cons, evx_and, evx_or, evx_ife, evx_var, varO_some, evx_lit, prO_some, prO_none, lstO_some, tupO_some, consO_some, consO_none, andO_t, andO_f, orO_t, orO_f, ifO_t, ifO_f, runE_some, evM, evMs, bindP, bindPs, wipeE, nmz, rd, fz, isB, isFu, isSh, mkLst, mkTup, hasL, hasLs, itM, newLst, callG, isNonD, gLt, gGe, gLe, gGt, gLtA_ii, gGtA_ii, gLeA_ii, gGeA_ii, gIn2_cs, gSub, gMod, gDiv, gPow, gAddI, g2I, gAdd, gMul, gLen, gIdx, gMax2, gMin2, gIsi, gIsN, gNotN, tyD, isiT, tyList, inR, B62, SZ]) (igSeq_sh _) (by have := h.len; omega) fun p hp => ?_
    have hp' : ∀ m, callG f_is_piece [(.lst (p.map pD), m)] = some (.bl true, .sh) := fun m => callG_fl (isPiece_eq (h.few p hp) (h.gd p hp)) rfl
    refine ⟨[some (.lst (setD S), .sh), some (.lst (p.map pD), .sh)], .sh, .sh, rfl, by rw [evx_lit]; rfl, ?_, rfl⟩
    clear t1 ls
    generalize p.map pD = PD at *
    generalize callG f_is_piece = F at *
    simp [fB, runB_f, st0, evB_nl, evB_cn, seqO_nx, seqO_rt, seqO_bk, seqO_ct, seqO_none, finO_rt, finO_nx, evS_ifs, pickB_t, pickB_f, runP_some, evS.eq_1, evS.eq_2, evS.eq_3, evS.eq_4, evS.eq_5, evS.eq_6, evS.eq_7, evS.eq_11, evS.eq_12, evS.eq_13, evS.eq_14, evS.eq_15, evS.eq_16, evS.eq_17, evS.eq_18, evS.eq_19, evS.eq_20, evS.eq_21, evS.eq_22, evS.eq_23, evS.eq_24, evS.eq_25, evx_pr, evx_lst, evx_tup, evx_nil, evx_cons, evx_and, evx_or, evx_ife, evx_var, varO_some, evx_lit, prO_some, prO_none, lstO_some, tupO_some, consO_some, consO_none, andO_t, andO_f, orO_t, orO_f, ifO_t, ifO_f, runE_some, evM, evMs, bindP, bindPs, wipeE, nmz, rd, fz, isB, isFu, isSh, mkLst, mkTup, hasL, hasLs, itM, newLst, callG, isNonD, gLt, gGe, gLe, gGt, gLtA_ii, gGtA_ii, gLeA_ii, gGeA_ii, gIn2_cs, gSub, gMod, gDiv, gPow, gAddI, g2I, gAdd, gMul, gLen, gIdx, gMax2, gMin2, gIsi, gIsN, gNotN, tyD, isiT, tyList, inR, B62, SZ, hp']
  have ga := gAll_map (l := S) (f := fun _ => true) (m := .sh)
  rw [show (S.all fun _ => true) = true from List.all_eq_true.mpr fun _ _ => rfl] at ga
  have le : ∀ m n, gGtA [(.int (S.length : Int), m), (c_MOST_PIECES, n)] = some (.bl false, .sh) := fun m n => by
    have := h.len
    rw [c_MOST_PIECES, gGtA_ii, decide_eq_false (by omega)]
  have hcf : hasL c_MOST_PIECES = false := rfl
  unfold f_check_set b_check_set
  refine f_nx (ρ := [some (.lst (setD S), .sh), none]) (ρ' := [some (.lst (setD S), .sh), none]) rfl rfl ?_
  refine (bNx ((sIfF (m := .sh) ?_).trans (bNil _ _))).trans (bNil _ _)
  generalize c_MOST_PIECES = C at *
  generalize (S.map fun _ => D.bl true) = LD at *
  generalize setD S = SD at *
  generalize gIsi = G1 at *
  generalize gLen = G2 at *
  generalize gGtA = G3 at *
  simp [fB, runB_f, st0, evB_nl, evB_cn, seqO_nx, seqO_rt, seqO_bk, seqO_ct, seqO_none, finO_rt, finO_nx, evS_ifs, pickB_t, pickB_f, runP_some, evS.eq_1, evS.eq_2, evS.eq_3, evS.eq_4, evS.eq_5, evS.eq_6, evS.eq_7, evS.eq_11, evS.eq_12, evS.eq_13, evS.eq_14, evS.eq_15, evS.eq_16, evS.eq_17, evS.eq_18, evS.eq_19, evS.eq_20, evS.eq_21, evS.eq_22, evS.eq_23, evS.eq_24, evS.eq_25, evx_pr, evx_lst, evx_tup, evx_nil, evx_cons, evx_and, evx_or, evx_ife, evx_var, varO_some, evx_lit, prO_some, prO_none, lstO_some, tupO_some, consO_some, consO_none, andO_t, andO_f, orO_t, orO_f, ifO_t, ifO_f, runE_some, evM, evMs, bindP, bindPs, wipeE, nmz, rd, fz, isB, isFu, isSh, mkLst, mkTup, hasL, hasLs, itM, newLst, callG, isNonD, gLt, gGe, gLe, gGt, gLtA_ii, gGtA_ii, gLeA_ii, gGeA_ii, gIn2_cs, gSub, gMod, gDiv, gPow, gAddI, g2I, gAdd, gMul, gLen, gIdx, gMax2, gMin2, gIsi, gIsN, gNotN, tyD, isiT, tyList, inR, B62, SZ, t1, ls, le, e, ga, hcf]

theorem holds_eq {S : List Pc} {w : List Nat} (h : ckS S) (hw : w.all isLow = true) (hl : w.length ≤ 100000) : f_holds [.lst (setD S), .str w] = some (.bl (shld S w), .sh) := by
  have c1 : ∀ m, callG f_check_set [(.lst (setD S), m)] = some (.non, .sh) := fun m => callG_fl (checkSet_eq h) rfl
  have c2 : ∀ m, callG f_is_row [(.str w, m)] = some (.bl true, .sh) := fun m => by
    have := isRow_eq (w := w) (by omega)
    rw [hw] at this
    exact callG_fl this rfl
  have c3 : ∀ m n, callG f_set_holds [(.lst (setD S), m), (.str w, n)] = some (.bl (shld S w), .sh) := fun m n => callG_fl (sholds_eq (fun p hp => by have := h.few p hp; omega) (by have := h.len; omega)) rfl
  unfold f_holds b_holds
  refine f_of (ρ := [some (.lst (setD S), .sh), some (.str w, .sh)]) rfl rfl ?_
  generalize setD S = SD at *
  generalize callG f_check_set = F1 at *
  generalize callG f_is_row = F2 at *
  generalize callG f_set_holds = F3 at *
  refine (bNx (ρ' := [some (.lst SD, .sh), some (.str w, .sh)]) ?_).trans ?_
  · simp only [evS]
    rw [show ev (.pr F1 [(.var 0)]) [some (.lst SD, .sh), some (.str w, .sh)] = some (.non, .sh) by simp [fB, runB_f, st0, evB_nl, evB_cn, seqO_nx, seqO_rt, seqO_bk, seqO_ct, seqO_none, finO_rt, finO_nx, evS_ifs, pickB_t, pickB_f, runP_some, evS.eq_1, evS.eq_2, evS.eq_3, evS.eq_4, evS.eq_5, evS.eq_6, evS.eq_7, evS.eq_11, evS.eq_12, evS.eq_13, evS.eq_14, evS.eq_15, evS.eq_16, evS.eq_17, evS.eq_18, evS.eq_19, evS.eq_20, evS.eq_21, evS.eq_22, evS.eq_23, evS.eq_24, evS.eq_25, evx_pr, evx_lst, evx_tup, evx_nil, evx_cons, evx_and, evx_or, evx_ife, evx_var, varO_some, evx_lit, prO_some, prO_none, lstO_some, tupO_some, consO_some, consO_none, andO_t, andO_f, orO_t, orO_f, ifO_t, ifO_f, runE_some, evM, evMs, bindP, bindPs, wipeE, nmz, rd, fz, isB, isFu, isSh, mkLst, mkTup, hasL, hasLs, itM, newLst, callG, isNonD, gLt, gGe, gLe, gGt, gLtA_ii, gGtA_ii, gLeA_ii, gGeA_ii, gIn2_cs, gSub, gMod, gDiv, gPow, gAddI, g2I, gAdd, gMul, gLen, gIdx, gMax2, gMin2, gIsi, gIsN, gNotN, tyD, isiT, tyList, inR, B62, SZ, c1]]
  refine (bNx ((sIfF (m := .sh) ?_).trans (bNil _ _))).trans ?_
  · simp [fB, runB_f, st0, evB_nl, evB_cn, seqO_nx, seqO_rt, seqO_bk, seqO_ct, seqO_none, finO_rt, finO_nx, evS_ifs, pickB_t, pickB_f, runP_some, evS.eq_1, evS.eq_2, evS.eq_3, evS.eq_4, evS.eq_5, evS.eq_6, evS.eq_7, evS.eq_11, evS.eq_12, evS.eq_13, evS.eq_14, evS.eq_15, evS.eq_16, evS.eq_17, evS.eq_18, evS.eq_19, evS.eq_20, evS.eq_21, evS.eq_22, evS.eq_23, evS.eq_24, evS.eq_25, evx_pr, evx_lst, evx_tup, evx_nil, evx_cons, evx_and, evx_or, evx_ife, evx_var, varO_some, evx_lit, prO_some, prO_none, lstO_some, tupO_some, consO_some, consO_none, andO_t, andO_f, orO_t, orO_f, ifO_t, ifO_f, runE_some, evM, evMs, bindP, bindPs, wipeE, nmz, rd, fz, isB, isFu, isSh, mkLst, mkTup, hasL, hasLs, itM, newLst, callG, isNonD, gLt, gGe, gLe, gGt, gLtA_ii, gGtA_ii, gLeA_ii, gGeA_ii, gIn2_cs, gSub, gMod, gDiv, gPow, gAddI, g2I, gAdd, gMul, gLen, gIdx, gMax2, gMin2, gIsi, gIsN, gNotN, tyD, isiT, tyList, inR, B62, SZ, c2]
  · exact bRt (sRet (by simp [fB, runB_f, st0, evB_nl, evB_cn, seqO_nx, seqO_rt, seqO_bk, seqO_ct, seqO_none, finO_rt, finO_nx, evS_ifs, pickB_t, pickB_f, runP_some, evS.eq_1, evS.eq_2, evS.eq_3, evS.eq_4, evS.eq_5, evS.eq_6, evS.eq_7, evS.eq_11, evS.eq_12, evS.eq_13, evS.eq_14, evS.eq_15, evS.eq_16, evS.eq_17, evS.eq_18, evS.eq_19, evS.eq_20, evS.eq_21, evS.eq_22, evS.eq_23, evS.eq_24, evS.eq_25, evx_pr, evx_lst, evx_tup, evx_nil, evx_cons, evx_and, evx_or, evx_ife, evx_var, varO_some, evx_lit, prO_some, prO_none, lstO_some, tupO_some, consO_some, consO_none, andO_t, andO_f, orO_t, orO_f, ifO_t, ifO_f, runE_some, evM, evMs, bindP, bindPs, wipeE, nmz, rd, fz, isB, isFu, isSh, mkLst, mkTup, hasL, hasLs, itM, newLst, callG, isNonD, gLt, gGe, gLe, gGt, gLtA_ii, gGtA_ii, gLeA_ii, gGeA_ii, gIn2_cs, gSub, gMod, gDiv, gPow, gAddI, g2I, gAdd, gMul, gLen, gIdx, gMax2, gMin2, gIsi, gIsN, gNotN, tyD, isiT, tyList, inR, B62, SZ, c3]))

theorem lawIn_eq {S : List Pc} {w : List Nat} (hz : ∀ p ∈ S, p.length ≤ 40) (hS : S.length ≤ 1000000) : f__law_in [.lst (setD S), .str w] = some (.bl (shld S w), .sh) := by
  have e : ∀ s2, ev e__law_in_1 [some (.lst (setD S), .sh), some (.str w, .sh), s2] = some (.lst (S.map fun p => .bl (hld p w)), .full) := fun s2 => by
    refine ev_comp_map (as := [(.lst (setD S), .sh)]) (m := .sh) (st := true) S (fun p => .lst (p.map pD)) _ (by simp [fB, runB_f, st0, evB_nl, evB_cn, seqO_nx, seqO_rt, seqO_bk, seqO_ct, seqO_none, finO_rt, finO_nx, evS_ifs, pickB_t, pickB_f, runP_some, evS.eq_1, evS.eq_2, evS.eq_3, evS.eq_4, evS.eq_5, evS.eq_6, evS.eq_7, evS.eq_11, evS.eq_12, evS.eq_13, evS.eq_14, evS.eq_15, evS.eq_16, evS.eq_17, evS.eq_18, evS.eq_19, evS.eq_20, evS.eq_21, evS.eq_22, evS.eq_23, evS.eq_24, evS.eq_25, evx_pr, evx_lst, evx_tup, evx_nil, evx_cons, evx_and, evx_or, evx_ife, evx_var, varO_some, evx_lit, prO_some, prO_none, lstO_some, tupO_some, consO_some, consO_none, andO_t, andO_f, orO_t, orO_f, ifO_t, ifO_f, runE_some, evM, evMs, bindP, bindPs, wipeE, nmz, rd, fz, isB, isFu, isSh, mkLst, mkTup, hasL, hasLs, itM, newLst, callG, isNonD, gLt, gGe, gLe, gGt, gLtA_ii, gGtA_ii, gLeA_ii, gGeA_ii, gIn2_cs, gSub, gMod, gDiv, gPow, gAddI, g2I, gAdd, gMul, gLen, gIdx, gMax2, gMin2, gIsi, gIsN, gNotN, tyD, isiT, tyList, inR, B62, SZ]) (igSeq_sh _) hS fun p hp => ?_
    have h := ends_eq (p := p) (w := w) (hz p hp)
    have h' : ∀ m n, callG f__law_ends [(.lst (p.map pD), m), (.str w, n)] = some (.bl (hld p w), .sh) := fun m n => callG_fl h rfl
    refine ⟨[some (.lst (setD S), .sh), some (.str w, .sh), some (.lst (p.map pD), .sh)], .sh, .sh, rfl, rfl, ?_, rfl⟩
    clear h
    generalize p.map pD = PD at *
    generalize callG f__law_ends = F at *
    simp [fB, runB_f, st0, evB_nl, evB_cn, seqO_nx, seqO_rt, seqO_bk, seqO_ct, seqO_none, finO_rt, finO_nx, evS_ifs, pickB_t, pickB_f, runP_some, evS.eq_1, evS.eq_2, evS.eq_3, evS.eq_4, evS.eq_5, evS.eq_6, evS.eq_7, evS.eq_11, evS.eq_12, evS.eq_13, evS.eq_14, evS.eq_15, evS.eq_16, evS.eq_17, evS.eq_18, evS.eq_19, evS.eq_20, evS.eq_21, evS.eq_22, evS.eq_23, evS.eq_24, evS.eq_25, evx_pr, evx_lst, evx_tup, evx_nil, evx_cons, evx_and, evx_or, evx_ife, evx_var, varO_some, evx_lit, prO_some, prO_none, lstO_some, tupO_some, consO_some, consO_none, andO_t, andO_f, orO_t, orO_f, ifO_t, ifO_f, runE_some, evM, evMs, bindP, bindPs, wipeE, nmz, rd, fz, isB, isFu, isSh, mkLst, mkTup, hasL, hasLs, itM, newLst, callG, isNonD, gLt, gGe, gLe, gGt, gLtA_ii, gGtA_ii, gLeA_ii, gGeA_ii, gIn2_cs, gSub, gMod, gDiv, gPow, gAddI, g2I, gAdd, gMul, gLen, gIdx, gMax2, gMin2, gIsi, gIsN, gNotN, tyD, isiT, tyList, inR, B62, SZ, h']
  have ga := gAny_map (l := S) (f := fun p => hld p w) (m := .sh)
  unfold shld
  generalize setD S = SD at *
  simp [f__law_in, b__law_in, fB, runB_f, st0, evB_nl, evB_cn, seqO_nx, seqO_rt, seqO_bk, seqO_ct, seqO_none, finO_rt, finO_nx, evS_ifs, pickB_t, pickB_f, runP_some, evS.eq_1, evS.eq_2, evS.eq_3, evS.eq_4, evS.eq_5, evS.eq_6, evS.eq_7, evS.eq_11, evS.eq_12, evS.eq_13, evS.eq_14, evS.eq_15, evS.eq_16, evS.eq_17, evS.eq_18, evS.eq_19, evS.eq_20, evS.eq_21, evS.eq_22, evS.eq_23, evS.eq_24, evS.eq_25, evx_pr, evx_lst, evx_tup, evx_nil, evx_cons, evx_and, evx_or, evx_ife, evx_var, varO_some, evx_lit, prO_some, prO_none, lstO_some, tupO_some, consO_some, consO_none, andO_t, andO_f, orO_t, orO_f, ifO_t, ifO_f, runE_some, evM, evMs, bindP, bindPs, wipeE, nmz, rd, fz, isB, isFu, isSh, mkLst, mkTup, hasL, hasLs, itM, newLst, callG, isNonD, gLt, gGe, gLe, gGt, gLtA_ii, gGtA_ii, gLeA_ii, gGeA_ii, gIn2_cs, gSub, gMod, gDiv, gPow, gAddI, g2I, gAdd, gMul, gLen, gIdx, gMax2, gMin2, gIsi, gIsN, gNotN, tyD, isiT, tyList, inR, B62, SZ, e, ga]

theorem lawFull_eq {p : Pc} {n : Nat} (h : okP p) (hl : p.length ≤ 100) (hn : n ≤ 100) : f__law_full [.lst (p.map pD), .int n] = some (.str (fl n p), .sh) := by
  have e : ∀ s2, ev e__law_full_1 [some (.lst (p.map pD), .sh), some (.int n, .sh), s2] = some (.lst (p.map fun x => .str (if x.1 then (List.replicate n x.2).flatten else x.2)), .full) := fun s2 => by
    refine ev_comp_map (as := [(.lst (p.map pD), .sh)]) (m := .sh) (st := true) p pD _ (by simp [fB, runB_f, st0, evB_nl, evB_cn, seqO_nx, seqO_rt, seqO_bk, seqO_ct, seqO_none, finO_rt, finO_nx, evS_ifs, pickB_t, pickB_f, runP_some, evS.eq_1, evS.eq_2, evS.eq_3, evS.eq_4, evS.eq_5, evS.eq_6, evS.eq_7, evS.eq_11, evS.eq_12, evS.eq_13, evS.eq_14, evS.eq_15, evS.eq_16, evS.eq_17, evS.eq_18, evS.eq_19, evS.eq_20, evS.eq_21, evS.eq_22, evS.eq_23, evS.eq_24, evS.eq_25, evx_pr, evx_lst, evx_tup, evx_nil, evx_cons, evx_and, evx_or, evx_ife, evx_var, varO_some, evx_lit, prO_some, prO_none, lstO_some, tupO_some, consO_some, consO_none, andO_t, andO_f, orO_t, orO_f, ifO_t, ifO_f, runE_some, evM, evMs, bindP, bindPs, wipeE, nmz, rd, fz, isB, isFu, isSh, mkLst, mkTup, hasL, hasLs, itM, newLst, callG, isNonD, gLt, gGe, gLe, gGt, gLtA_ii, gGtA_ii, gLeA_ii, gGeA_ii, gIn2_cs, gSub, gMod, gDiv, gPow, gAddI, g2I, gAdd, gMul, gLen, gIdx, gMax2, gMin2, gIsi, gIsN, gNotN, tyD, isiT, tyList, inR, B62, SZ]) (igSeq_sh _) (by omega) fun x hx => ?_
    have g := eq_kd x.1 false
    rw [show kdS false = [109, 97, 121, 98, 101] from rfl] at g
    have ms := mul_s (n := n) (h x hx).2 (by omega)
    have ik := idx_k x
    have il := idx_l x
    have hxf := pD_flat x
    refine ⟨[some (.lst (p.map pD), .sh), some (.int n, .sh), some (pD x, .sh)], .sh, .sh, rfl, rfl, ?_, rfl⟩
    generalize p.map pD = PD at *
    generalize pD x = XD at *
    generalize kdS x.1 = K at *
    cases hk : x.1 with
    | false =>
      rw [hk] at g
      simp [fB, runB_f, st0, evB_nl, evB_cn, seqO_nx, seqO_rt, seqO_bk, seqO_ct, seqO_none, finO_rt, finO_nx, evS_ifs, pickB_t, pickB_f, runP_some, evS.eq_1, evS.eq_2, evS.eq_3, evS.eq_4, evS.eq_5, evS.eq_6, evS.eq_7, evS.eq_11, evS.eq_12, evS.eq_13, evS.eq_14, evS.eq_15, evS.eq_16, evS.eq_17, evS.eq_18, evS.eq_19, evS.eq_20, evS.eq_21, evS.eq_22, evS.eq_23, evS.eq_24, evS.eq_25, evx_pr, evx_lst, evx_tup, evx_nil, evx_cons, evx_and, evx_or, evx_ife, evx_var, varO_some, evx_lit, prO_some, prO_none, lstO_some, tupO_some, consO_some, consO_none, andO_t, andO_f, orO_t, orO_f, ifO_t, ifO_f, runE_some, evM, evMs, bindP, bindPs, wipeE, nmz, rd, fz, isB, isFu, isSh, mkLst, mkTup, hasL, hasLs, itM, newLst, callG, isNonD, gLt, gGe, gLe, gGt, gLtA_ii, gGtA_ii, gLeA_ii, gGeA_ii, gIn2_cs, gSub, gMod, gDiv, gPow, gAddI, g2I, gAdd, gMul, gLen, gIdx, gMax2, gMin2, gIsi, gIsN, gNotN, tyD, isiT, tyList, inR, B62, SZ, -gIdx, ik, il, g]
    | true =>
      rw [hk] at g
      simp [fB, runB_f, st0, evB_nl, evB_cn, seqO_nx, seqO_rt, seqO_bk, seqO_ct, seqO_none, finO_rt, finO_nx, evS_ifs, pickB_t, pickB_f, runP_some, evS.eq_1, evS.eq_2, evS.eq_3, evS.eq_4, evS.eq_5, evS.eq_6, evS.eq_7, evS.eq_11, evS.eq_12, evS.eq_13, evS.eq_14, evS.eq_15, evS.eq_16, evS.eq_17, evS.eq_18, evS.eq_19, evS.eq_20, evS.eq_21, evS.eq_22, evS.eq_23, evS.eq_24, evS.eq_25, evx_pr, evx_lst, evx_tup, evx_nil, evx_cons, evx_and, evx_or, evx_ife, evx_var, varO_some, evx_lit, prO_some, prO_none, lstO_some, tupO_some, consO_some, consO_none, andO_t, andO_f, orO_t, orO_f, ifO_t, ifO_f, runE_some, evM, evMs, bindP, bindPs, wipeE, nmz, rd, fz, isB, isFu, isSh, mkLst, mkTup, hasL, hasLs, itM, newLst, callG, isNonD, gLt, gGe, gLe, gGt, gLtA_ii, gGtA_ii, gLeA_ii, gGeA_ii, gIn2_cs, gSub, gMod, gDiv, gPow, gAddI, g2I, gAdd, gMul, gLen, gIdx, gMax2, gMin2, gIsi, gIsN, gNotN, tyD, isiT, tyList, inR, B62, SZ, -gMul, -gIdx, ik, il, g, ms]
  have lf := fl_len (n := n) h
  have ef : ((p.map fun x => if x.1 then (List.replicate n x.2).flatten else x.2)).flatten = fl n p := by rw [fl, List.flatMap_def]
  have b1 : p.length * (26 * (n + 1)) ≤ 100 * (26 * 102) := Nat.mul_le_mul hl (by omega)
  have j := fun m k => gJoin_nil (ws := p.map fun x => if x.1 then (List.replicate n x.2).flatten else x.2) (m := m) (n := k) (by rw [ef]; omega)
  rw [ef, List.map_map] at j
  have em : (p.map fun x => D.str (if x.1 then (List.replicate n x.2).flatten else x.2)) = p.map (D.str ∘ fun x => if x.1 then (List.replicate n x.2).flatten else x.2) := rfl
  rw [em] at e
  generalize p.map pD = PD at *
  generalize p.map (D.str ∘ fun x => if x.1 then (List.replicate n x.2).flatten else x.2) = WD at *
  simp [f__law_full, b__law_full, fB, runB_f, st0, evB_nl, evB_cn, seqO_nx, seqO_rt, seqO_bk, seqO_ct, seqO_none, finO_rt, finO_nx, evS_ifs, pickB_t, pickB_f, runP_some, evS.eq_1, evS.eq_2, evS.eq_3, evS.eq_4, evS.eq_5, evS.eq_6, evS.eq_7, evS.eq_11, evS.eq_12, evS.eq_13, evS.eq_14, evS.eq_15, evS.eq_16, evS.eq_17, evS.eq_18, evS.eq_19, evS.eq_20, evS.eq_21, evS.eq_22, evS.eq_23, evS.eq_24, evS.eq_25, evx_pr, evx_lst, evx_tup, evx_nil, evx_cons, evx_and, evx_or, evx_ife, evx_var, varO_some, evx_lit, prO_some, prO_none, lstO_some, tupO_some, consO_some, consO_none, andO_t, andO_f, orO_t, orO_f, ifO_t, ifO_f, runE_some, evM, evMs, bindP, bindPs, wipeE, nmz, rd, fz, isB, isFu, isSh, mkLst, mkTup, hasL, hasLs, itM, newLst, callG, isNonD, gLt, gGe, gLe, gGt, gLtA_ii, gGtA_ii, gLeA_ii, gGeA_ii, gIn2_cs, gSub, gMod, gDiv, gPow, gAddI, g2I, gAdd, gMul, gLen, gIdx, gMax2, gMin2, gIsi, gIsN, gNotN, tyD, isiT, tyList, inR, B62, SZ, e, j]
theorem okP_fl {n : Nat} {p : Pc} (h : okP p) : (fl n p).all isLow = true := by
  rw [List.all_eq_true]
  intro c hc
  unfold fl at hc
  obtain ⟨x, hx, hc⟩ := List.mem_flatMap.mp hc
  refine List.all_eq_true.mp (h x hx).1 c ?_
  split at hc
  · obtain ⟨l, hl, hc⟩ := List.mem_flatten.mp hc
    rw [List.eq_of_mem_replicate hl] at hc
    exact hc
  · exact hc

/-! ### the law's sets -/
/-- the parts that the law draws -/
def drw (x : Prt) : Prop := (x.1 = false ∧ x.2 ∈ [[97], [98], [99], [100]]) ∨ (x.1 = true ∧ x.2 ∈ [[97], [98], [97, 98], [99], [97, 99], [98, 99], [97, 98, 99]])
theorem drw_ok {x : Prt} (h : drw x) : x.2.all isLow = true ∧ x.2.length ≤ 26 := by
  rcases h with ⟨_, h⟩ | ⟨_, h⟩
  · simp only [List.mem_cons, List.not_mem_nil, or_false] at h
    rcases h with h | h | h | h <;> rw [h] <;> decide
  · simp only [List.mem_cons, List.not_mem_nil, or_false] at h
    rcases h with h | h | h | h | h | h | h <;> rw [h] <;> decide
theorem drw_wf {x : Prt} (h : drw x) (hf : x.1 = false) : ∃ c, x.2 = [c] := by
  rcases h with ⟨_, h⟩ | ⟨h1, _⟩
  · simp only [List.mem_cons, List.not_mem_nil, or_false] at h
    rcases h with h | h | h | h <;> exact ⟨_, h⟩
  · rw [hf] at h1; cases h1
theorem anyL_ev (j : Nat) (hj : j < 7) (s0 s1 s2 s4 s5 : Slot) : ∃ L, L ∈ [[97], [98], [97, 98], [99], [97, 99], [98, 99], [97, 98, 99]] ∧ ev e__law_part_1 [s0, s1, s2, some (.int (1 + (j : Int)), .sh), s4, s5] = some (.lst (L.map fun c : Nat => D.str [c]), .full) := by
  have : j = 0 ∨ j = 1 ∨ j = 2 ∨ j = 3 ∨ j = 4 ∨ j = 5 ∨ j = 6 := by omega
  have key : ∀ (n : Int) (L : List Nat), (∀ a ∈ [((0 : Nat), (97 : Nat)), (1, 98), (2, 99)], decide (n / (1 * 2 ^ a.1) % 2 = 1) = decide (a.2 ∈ L)) → L = [97, 98, 99].filter (fun c => decide (c ∈ L)) → ev e__law_part_1 [s0, s1, s2, some (.int n, .sh), s4, s5] = some (.lst (L.map fun c : Nat => D.str [c]), .full) := fun n L h hL => by
    have := ev_comp_filter (p := .tp [.nm 4, .nm 5]) (vs := [4, 5]) (ig := igEnum) (src := [(.lit (.str [97, 98, 99]))]) (c := .pr gEq [(.pr gMod [(.pr gDiv [(.var 3), (.pr gShl [(.lit (.int 1)), (.var 4)])]), (.lit (.int 2))]), (.lit (.int 1))]) (e := .var 5)
      (ρ := [s0, s1, s2, some (.int n, .sh), s4, s5]) (as := [(.str [97, 98, 99], .sh)]) (m := .sh) (st := true) [((0 : Nat), (97 : Nat)), (1, 98), (2, 99)] (fun a => .tup [.int a.1, .str [a.2]]) (fun a => decide (a.2 ∈ L)) (fun a => .str [a.2]) (by simp [fB, runB_f, st0, evB_nl, evB_cn, seqO_nx, seqO_rt, seqO_bk, seqO_ct, seqO_none, finO_rt, finO_nx, evS_ifs, pickB_t, pickB_f, runP_some, evS.eq_1, evS.eq_2, evS.eq_3, evS.eq_4, evS.eq_5, evS.eq_6, evS.eq_7, evS.eq_11, evS.eq_12, evS.eq_13, evS.eq_14, evS.eq_15, evS.eq_16, evS.eq_17, evS.eq_18, evS.eq_19, evS.eq_20, evS.eq_21, evS.eq_22, evS.eq_23, evS.eq_24, evS.eq_25, evx_pr, evx_lst, evx_tup, evx_nil, evx_cons, evx_and, evx_or, evx_ife, evx_var, varO_some, evx_lit, prO_some, prO_none, lstO_some, tupO_some, consO_some, consO_none, andO_t, andO_f, orO_t, orO_f, ifO_t, ifO_f, runE_some, evM, evMs, bindP, bindPs, wipeE, nmz, rd, fz, isB, isFu, isSh, mkLst, mkTup, hasL, hasLs, itM, newLst, callG, isNonD, gLt, gGe, gLe, gGt, gLtA_ii, gGtA_ii, gLeA_ii, gGeA_ii, gIn2_cs, gSub, gMod, gDiv, gPow, gAddI, g2I, gAdd, gMul, gLen, gIdx, gMax2, gMin2, gIsi, gIsN, gNotN, tyD, isiT, tyList, inR, B62, SZ]) (by rfl) (by decide) (fun a ha => by
        refine ⟨[s0, s1, s2, some (.int n, .sh), some (.int a.1, .sh), some (.str [a.2], .sh)], .sh, rfl, ?_, fun _ => ⟨.sh, by simp [fB, runB_f, st0, evB_nl, evB_cn, seqO_nx, seqO_rt, seqO_bk, seqO_ct, seqO_none, finO_rt, finO_nx, evS_ifs, pickB_t, pickB_f, runP_some, evS.eq_1, evS.eq_2, evS.eq_3, evS.eq_4, evS.eq_5, evS.eq_6, evS.eq_7, evS.eq_11, evS.eq_12, evS.eq_13, evS.eq_14, evS.eq_15, evS.eq_16, evS.eq_17, evS.eq_18, evS.eq_19, evS.eq_20, evS.eq_21, evS.eq_22, evS.eq_23, evS.eq_24, evS.eq_25, evx_pr, evx_lst, evx_tup, evx_nil, evx_cons, evx_and, evx_or, evx_ife, evx_var, varO_some, evx_lit, prO_some, prO_none, lstO_some, tupO_some, consO_some, consO_none, andO_t, andO_f, orO_t, orO_f, ifO_t, ifO_f, runE_some, evM, evMs, bindP, bindPs, wipeE, nmz, rd, fz, isB, isFu, isSh, mkLst, mkTup, hasL, hasLs, itM, newLst, callG, isNonD, gLt, gGe, gLe, gGt, gLtA_ii, gGtA_ii, gLeA_ii, gGeA_ii, gIn2_cs, gSub, gMod, gDiv, gPow, gAddI, g2I, gAdd, gMul, gLen, gIdx, gMax2, gMin2, gIsi, gIsN, gNotN, tyD, isiT, tyList, inR, B62, SZ], rfl⟩⟩
        have g := gEq_ii (i := n / (1 * 2 ^ a.1) % 2) (j := 1) (m := .sh) (n := .sh)
        rw [h a ha] at g
        have r1 : gShl [(.int 1, .sh), (.int (a.1 : Int), .sh)] = some (.int (1 * 2 ^ a.1), .sh) := by
          simp only [List.mem_cons, List.not_mem_nil, or_false] at ha
          rcases ha with rfl | rfl | rfl <;> rfl
        have r2 : gDiv [(.int n, .sh), (.int (1 * 2 ^ a.1), .sh)] = some (.int (n / (1 * 2 ^ a.1)), .sh) := by
          simp only [List.mem_cons, List.not_mem_nil, or_false] at ha
          rcases ha with rfl | rfl | rfl <;> rfl
        clear h this hL
        generalize n / (1 * 2 ^ a.1) = z at *
        generalize (1 * 2 ^ a.1 : Int) = y at *
        generalize gDiv = G1 at *
        generalize gShl = G2 at *
        simp [fB, runB_f, st0, evB_nl, evB_cn, seqO_nx, seqO_rt, seqO_bk, seqO_ct, seqO_none, finO_rt, finO_nx, evS_ifs, pickB_t, pickB_f, runP_some, evS.eq_1, evS.eq_2, evS.eq_3, evS.eq_4, evS.eq_5, evS.eq_6, evS.eq_7, evS.eq_11, evS.eq_12, evS.eq_13, evS.eq_14, evS.eq_15, evS.eq_16, evS.eq_17, evS.eq_18, evS.eq_19, evS.eq_20, evS.eq_21, evS.eq_22, evS.eq_23, evS.eq_24, evS.eq_25, evx_pr, evx_lst, evx_tup, evx_nil, evx_cons, evx_and, evx_or, evx_ife, evx_var, varO_some, evx_lit, prO_some, prO_none, lstO_some, tupO_some, consO_some, consO_none, andO_t, andO_f, orO_t, orO_f, ifO_t, ifO_f, runE_some, evM, evMs, bindP, bindPs, wipeE, nmz, rd, fz, isB, isFu, isSh, mkLst, mkTup, hasL, hasLs, itM, newLst, callG, isNonD, gLt, gGe, gLe, gGt, gLtA_ii, gGtA_ii, gLeA_ii, gGeA_ii, gIn2_cs, gSub, gMod, gDiv, gPow, gAddI, g2I, gAdd, gMul, gLen, gIdx, gMax2, gMin2, gIsi, gIsN, gNotN, tyD, isiT, tyList, inR, B62, SZ, r1, r2, g])
    have e1 : e__law_part_1 = .comp (.tp [.nm 4, .nm 5]) [4, 5] igEnum [(.lit (.str [97, 98, 99]))] (.pr gEq [(.pr gMod [(.pr gDiv [(.var 3), (.pr gShl [(.lit (.int 1)), (.var 4)])]), (.lit (.int 2))]), (.lit (.int 1))]) (.var 5) := rfl
    have e2 : (List.filter (fun a : Nat × Nat => decide (a.2 ∈ L)) [(0, 97), (1, 98), (2, 99)]).map (fun a => D.str [a.2]) = L.map fun c : Nat => D.str [c] := by
      have e3 : (List.filter (fun a : Nat × Nat => decide (a.2 ∈ L)) [(0, 97), (1, 98), (2, 99)]).map (fun a => a.2) = [97, 98, 99].filter fun c => decide (c ∈ L) := by
        rw [show [97, 98, 99] = [((0 : Nat), (97 : Nat)), (1, 98), (2, 99)].map (fun a => a.2) from rfl, List.filter_map]; rfl
      rw [← hL] at e3
      conv => rhs; rw [← e3]
      rw [List.map_map]; rfl
    rw [e1, this, e2]
  rcases this with rfl | rfl | rfl | rfl | rfl | rfl | rfl
  · exact ⟨[97], by decide, key _ _ (by decide) (by decide)⟩
  · exact ⟨[98], by decide, key _ _ (by decide) (by decide)⟩
  · exact ⟨[97, 98], by decide, key _ _ (by decide) (by decide)⟩
  · exact ⟨[99], by decide, key _ _ (by decide) (by decide)⟩
  · exact ⟨[97, 99], by decide, key _ _ (by decide) (by decide)⟩
  · exact ⟨[98, 99], by decide, key _ _ (by decide) (by decide)⟩
  · exact ⟨[97, 98, 99], by decide, key _ _ (by decide) (by decide)⟩
theorem part_eq {n : Nat} {c : Int} (hb : Bd n c) (hn : n ≤ 10000000) (a : Nat) (ha : a < 900) (many : Nat) (hm : 0 < many) (hm4 : many ≤ 4) : ∃ x : Prt, drw x ∧ f__law_part [.int c, .int a, .int many] = some (pD x, .sh) := by
  obtain ⟨r, hr, er⟩ := number_eq hb hn a (by omega) 5 (by decide)
  rw [show ((5 : Nat) : Int) = 5 from rfl] at er
  by_cases h3 : r < 3
  · obtain ⟨q, hq, eq⟩ := number_eq hb hn (a + 1) (by omega) many hm
    rw [show ((a + 1 : Nat) : Int) = (a : Int) + 1 by omega] at eq
    have el : L2.atI [97, 98, 99, 100] (q : Int) = some (97 + q) := by
      rw [atI_nat]
      have : q = 0 ∨ q = 1 ∨ q = 2 ∨ q = 3 := by omega
      rcases this with rfl | rfl | rfl | rfl <;> rfl
    refine ⟨(false, [97 + q]), .inl ⟨rfl, ?_⟩, ?_⟩
    · have : q = 0 ∨ q = 1 ∨ q = 2 ∨ q = 3 := by omega
      rcases this with rfl | rfl | rfl | rfl <;> decide
    · have hlt : (r : Int) < 3 := by omega
      simp [f__law_part, b__law_part, fB, runB_f, st0, evB_nl, evB_cn, seqO_nx, seqO_rt, seqO_bk, seqO_ct, seqO_none, finO_rt, finO_nx, evS_ifs, pickB_t, pickB_f, runP_some, evS.eq_1, evS.eq_2, evS.eq_3, evS.eq_4, evS.eq_5, evS.eq_6, evS.eq_7, evS.eq_11, evS.eq_12, evS.eq_13, evS.eq_14, evS.eq_15, evS.eq_16, evS.eq_17, evS.eq_18, evS.eq_19, evS.eq_20, evS.eq_21, evS.eq_22, evS.eq_23, evS.eq_24, evS.eq_25, evx_pr, evx_lst, evx_tup, evx_nil, evx_cons, evx_and, evx_or, evx_ife, evx_var, varO_some, evx_lit, prO_some, prO_none, lstO_some, tupO_some, consO_some, consO_none, andO_t, andO_f, orO_t, orO_f, ifO_t, ifO_f, runE_some, evM, evMs, bindP, bindPs, wipeE, nmz, rd, fz, isB, isFu, isSh, mkLst, mkTup, hasL, hasLs, itM, newLst, callG, isNonD, gLt, gGe, gLe, gGt, gLtA_ii, gGtA_ii, gLeA_ii, gGeA_ii, gIn2_cs, gSub, gMod, gDiv, gPow, gAddI, g2I, gAdd, gMul, gLen, gIdx, gMax2, gMin2, gIsi, gIsN, gNotN, tyD, isiT, tyList, inR, B62, SZ, er, eq, el, hlt, pD, kdS, hasLs]
  · obtain ⟨j, hj, ej⟩ := number_eq hb hn (a + 2) (by omega) 7 (by decide)
    rw [show ((a + 2 : Nat) : Int) = (a : Int) + 2 by omega, show ((7 : Nat) : Int) = 7 from rfl] at ej
    obtain ⟨L, hL, eL⟩ := anyL_ev j hj (some (.int c, .sh)) (some (.int a, .sh)) (some (.int many, .sh)) none none
    refine ⟨(true, L), .inr ⟨rfl, hL⟩, ?_⟩
    have hlt : ¬ (r : Int) < 3 := by omega
    have hll : L.length ≤ 3 := by
      simp only [List.mem_cons, List.not_mem_nil, or_false] at hL
      rcases hL with h | h | h | h | h | h | h <;> rw [h] <;> decide
    have fm : ∀ l : List Nat, (l.map fun c : Nat => [c]).flatten = l := by
      intro l
      induction l with
      | nil => rfl
      | cons b l ih => rw [List.map_cons, List.flatten_cons, ih]; rfl
    have jn := fun m k => gJoin_nil (ws := L.map fun c : Nat => [c]) (m := m) (n := k) (by rw [fm]; omega)
    rw [fm, List.map_map] at jn
    have em : L.map (fun c : Nat => D.str [c]) = L.map (D.str ∘ fun c : Nat => [c]) := rfl
    rw [em] at eL
    have gi : ∀ (i j : Int) m n, gAdd [(.int i, m), (.int j, n)] = some (.int (i + j), .sh) := fun i j m n => nrfl rfl
    generalize L.map (D.str ∘ fun c : Nat => [c]) = LD at *
    simp [f__law_part, b__law_part, fB, runB_f, st0, evB_nl, evB_cn, seqO_nx, seqO_rt, seqO_bk, seqO_ct, seqO_none, finO_rt, finO_nx, evS_ifs, pickB_t, pickB_f, runP_some, evS.eq_1, evS.eq_2, evS.eq_3, evS.eq_4, evS.eq_5, evS.eq_6, evS.eq_7, evS.eq_11, evS.eq_12, evS.eq_13, evS.eq_14, evS.eq_15, evS.eq_16, evS.eq_17, evS.eq_18, evS.eq_19, evS.eq_20, evS.eq_21, evS.eq_22, evS.eq_23, evS.eq_24, evS.eq_25, evx_pr, evx_lst, evx_tup, evx_nil, evx_cons, evx_and, evx_or, evx_ife, evx_var, varO_some, evx_lit, prO_some, prO_none, lstO_some, tupO_some, consO_some, consO_none, andO_t, andO_f, orO_t, orO_f, ifO_t, ifO_f, runE_some, evM, evMs, bindP, bindPs, wipeE, nmz, rd, fz, isB, isFu, isSh, mkLst, mkTup, hasL, hasLs, itM, newLst, callG, isNonD, gLt, gGe, gLe, gGt, gLtA_ii, gGtA_ii, gLeA_ii, gGeA_ii, gIn2_cs, gSub, gMod, gDiv, gPow, gAddI, g2I, gAdd, gMul, gLen, gIdx, gMax2, gMin2, gIsi, gIsN, gNotN, tyD, isiT, tyList, inR, B62, SZ, -gAdd, gi, er, ej, hlt, eL, jn, pD, kdS, hasLs]
theorem piece_eq {ns : List Int} (hb : ∀ z ∈ ns, Builtin.Int.intBits z ≤ 1048576) (b most : Nat) (h1 : b < 200) (h2 : most < 50) :
    ∃ p : Pc, p.length ≤ most ∧ (∀ x ∈ p, drw x) ∧ f__law_piece [.scr ns, .int b, .int most] = some (.lst (p.map pD), .full) := by
  obtain ⟨r, hr, er⟩ := number_eq (cell_bd hb b) (by omega) (b + 3) (by omega) (most + 1) (by omega)
  rw [show ((most + 1 : Nat) : Int) = (most : Int) + 1 by omega, show ((b + 3 : Nat) : Int) = (b : Int) + 3 by omega] at er
  have loop := forGo_ind (p := .nm 4) (m := .sh) (b := evB FUEL l__law_piece_1)
    (fun i ρ => ∃ (p : Pc) (s4 : Slot), ρ = [some (.scr ns, .sh), some (.int b, .sh), some (.int most, .sh), some (.lst (p.map pD), .full), s4] ∧ p.length = i ∧ ∀ x ∈ p, drw x) (rngD 0 1 r) 0
    [some (.scr ns, .sh), some (.int b, .sh), some (.int most, .sh), some (.lst [], .full), none] ⟨[], none, rfl, rfl, by simp⟩ ?_
  · obtain ⟨ρ', e, p, s4, rfl, hp, hx⟩ := loop
    rw [Nat.zero_add, rngD_len] at hp
    refine ⟨p, by omega, hx, ?_⟩
    have hq : evS FUEL q__law_piece_1 [some (.scr ns, .sh), some (.int b, .sh), some (.int most, .sh), some (.lst [], .full), none] = some (.nx [some (.scr ns, .sh), some (.int b, .sh), some (.int most, .sh), some (.lst (p.map pD), .full), s4]) := by
      rw [q__law_piece_1, evS_fors (as := [(.int r, .sh)]) (by simp [fB, runB_f, st0, evB_nl, evB_cn, seqO_nx, seqO_rt, seqO_bk, seqO_ct, seqO_none, finO_rt, finO_nx, evS_ifs, pickB_t, pickB_f, runP_some, evS.eq_1, evS.eq_2, evS.eq_3, evS.eq_4, evS.eq_5, evS.eq_6, evS.eq_7, evS.eq_11, evS.eq_12, evS.eq_13, evS.eq_14, evS.eq_15, evS.eq_16, evS.eq_17, evS.eq_18, evS.eq_19, evS.eq_20, evS.eq_21, evS.eq_22, evS.eq_23, evS.eq_24, evS.eq_25, evx_pr, evx_lst, evx_tup, evx_nil, evx_cons, evx_and, evx_or, evx_ife, evx_var, varO_some, evx_lit, prO_some, prO_none, lstO_some, tupO_some, consO_some, consO_none, andO_t, andO_f, orO_t, orO_f, ifO_t, ifO_f, runE_some, evM, evMs, bindP, bindPs, wipeE, nmz, rd, fz, isB, isFu, isSh, mkLst, mkTup, hasL, hasLs, itM, newLst, callG, isNonD, gLt, gGe, gLe, gGt, gLtA_ii, gGtA_ii, gLeA_ii, gGeA_ii, gIn2_cs, gSub, gMod, gDiv, gPow, gAddI, g2I, gAdd, gMul, gLen, gIdx, gMax2, gMin2, gIsi, gIsN, gNotN, tyD, isiT, tyList, inR, B62, SZ, cell_eq, er]) (igR1_nat (by omega))]
      exact e
    generalize p.map pD = PD at *
    simp [f__law_piece, b__law_piece, fB, runB_f, st0, evB_nl, evB_cn, seqO_nx, seqO_rt, seqO_bk, seqO_ct, seqO_none, finO_rt, finO_nx, evS_ifs, pickB_t, pickB_f, runP_some, evS.eq_1, evS.eq_2, evS.eq_3, evS.eq_4, evS.eq_5, evS.eq_6, evS.eq_7, evS.eq_11, evS.eq_12, evS.eq_13, evS.eq_14, evS.eq_15, evS.eq_16, evS.eq_17, evS.eq_18, evS.eq_19, evS.eq_20, evS.eq_21, evS.eq_22, evS.eq_23, evS.eq_24, evS.eq_25, evx_pr, evx_lst, evx_tup, evx_nil, evx_cons, evx_and, evx_or, evx_ife, evx_var, varO_some, evx_lit, prO_some, prO_none, lstO_some, tupO_some, consO_some, consO_none, andO_t, andO_f, orO_t, orO_f, ifO_t, ifO_f, runE_some, evM, evMs, bindP, bindPs, wipeE, nmz, rd, fz, isB, isFu, isSh, mkLst, mkTup, hasL, hasLs, itM, newLst, callG, isNonD, gLt, gGe, gLe, gGt, gLtA_ii, gGtA_ii, gLeA_ii, gGeA_ii, gIn2_cs, gSub, gMod, gDiv, gPow, gAddI, g2I, gAdd, gMul, gLen, gIdx, gMax2, gMin2, gIsi, gIsN, gNotN, tyD, isiT, tyList, inR, B62, SZ, hq]
  · rintro i d ρ ed ⟨p, s4, rfl, hp, hx⟩
    obtain ⟨hi, ed'⟩ := rngD_get ed
    rw [show (0 : Int) + (i : Int) * 1 = i by omega] at ed'
    subst ed'
    rw [Nat.zero_add] at *
    have c1 := cell_eq ns (b + i)
    rw [show ((b + i : Nat) : Int) = (b : Int) + (i : Int) by omega] at c1
    have b1 : bitsOk (31 : Int) (i : Int) = true := (Bd.lit (n := 5) (by decide)).ok (Bd.nat (n := 10) (by omega)) (by omega)
    have b2 : bitsOk (2 : Int) (i : Int) = true := (Bd.lit (n := 5) (by decide)).ok (Bd.nat (n := 10) (by omega)) (by omega)
    obtain ⟨x, hd, ex⟩ := part_eq ((cell_bd hb (b + i)).add ((Bd.lit (n := 5) (k := 31) (by decide)).mul (Bd.nat (n := 10) (k := i) (by omega)))) (by omega) (b + 2 * i) (by omega) 3 (by decide) (by decide)
    rw [show ((b + 2 * i : Nat) : Int) = (b : Int) + 2 * (i : Int) by omega, show ((3 : Nat) : Int) = 3 from rfl] at ex
    have hz : (p.map pD).length < 16777216 := by rw [List.length_map]; omega
    have hfl := pD_flats p
    have hxf := pD_flat x
    refine ⟨_, [some (.scr ns, .sh), some (.int b, .sh), some (.int most, .sh), some (.lst ((p ++ [x]).map pD), .full), some (.int i, .sh)], rfl, .inl ?_, p ++ [x], _, rfl, by simp [hp], fun y hy => ?_⟩
    · rw [List.map_append, List.map_cons, List.map_nil]
      generalize p.map pD = PD at *
      generalize pD x = XD at *
      simp [l__law_piece_1, fB, runB_f, st0, evB_nl, evB_cn, seqO_nx, seqO_rt, seqO_bk, seqO_ct, seqO_none, finO_rt, finO_nx, evS_ifs, pickB_t, pickB_f, runP_some, evS.eq_1, evS.eq_2, evS.eq_3, evS.eq_4, evS.eq_5, evS.eq_6, evS.eq_7, evS.eq_11, evS.eq_12, evS.eq_13, evS.eq_14, evS.eq_15, evS.eq_16, evS.eq_17, evS.eq_18, evS.eq_19, evS.eq_20, evS.eq_21, evS.eq_22, evS.eq_23, evS.eq_24, evS.eq_25, evx_pr, evx_lst, evx_tup, evx_nil, evx_cons, evx_and, evx_or, evx_ife, evx_var, varO_some, evx_lit, prO_some, prO_none, lstO_some, tupO_some, consO_some, consO_none, andO_t, andO_f, orO_t, orO_f, ifO_t, ifO_f, runE_some, evM, evMs, bindP, bindPs, wipeE, nmz, rd, fz, isB, isFu, isSh, mkLst, mkTup, hasL, hasLs, itM, newLst, callG, isNonD, gLt, gGe, gLe, gGt, gLtA_ii, gGtA_ii, gLeA_ii, gGeA_ii, gIn2_cs, gSub, gMod, gDiv, gPow, gAddI, g2I, gAdd, gMul, gLen, gIdx, gMax2, gMin2, gIsi, gIsN, gNotN, tyD, isiT, tyList, inR, B62, SZ, c1, b1, b2, ex, appL, isOw, hz, hfl, hxf, drop_nil, drop_cons, drS_none, drS_sh, drS_full, drS_top, drS_bo]
    · rcases List.mem_append.mp hy with hy | hy
      · exact hx y hy
      · simp only [List.mem_singleton] at hy
        subst hy; exact hd
/-- a comprehension whose items are made anew, one by one -/
theorem compGo_ex {α β : Type} {p : Pt} {m : Mo} {c e : SW.Env → Option DM} {ρ : SW.Env} (inj : α → D) (out : β → D) (Pr : α → β → Prop) (hl : ∀ b, hasL (out b) = true) : ∀ l : List α, (∀ a ∈ l, ∃ ρ1 mm b, bindP p (inj a) m ρ = some ρ1 ∧ c ρ1 = some (.bl true, mm) ∧ e ρ1 = some (out b, .full) ∧ Pr a b) →
    ∃ bs : List β, bs.length = l.length ∧ (∀ b ∈ bs, ∃ a ∈ l, Pr a b) ∧ compGo p m c e ρ (l.map inj) = some (bs.map fun b => (out b, Mo.full))
  | [], _ => ⟨[], rfl, fun _ h => (nomatch h), rfl⟩
  | a :: l, h => by
    obtain ⟨ρ1, mm, b, e1, e2, e3, e4⟩ := h a (List.mem_cons_self ..)
    obtain ⟨bs, k1, k2, k3⟩ := compGo_ex inj out Pr hl l fun a' ha => h a' (List.mem_cons_of_mem _ ha)
    refine ⟨b :: bs, by simp [k1], fun b' hb => ?_, ?_⟩
    · rcases List.mem_cons.mp hb with rfl | hb
      · exact ⟨a, List.mem_cons_self .., e4⟩
      · obtain ⟨a', ha, hp⟩ := k2 b' hb
        exact ⟨a', List.mem_cons_of_mem _ ha, hp⟩
    · simp only [List.map_cons, compGo, e1, e2, e3, k3, nmz, hl, if_true]
theorem mkLst_full {β : Type} (out : β → D) (hl : ∀ b, hasL (out b) = true) (bs : List β) : mkLst (bs.map fun b => (out b, Mo.full)) = some (.lst (bs.map out), .full) := by
  have h1 : (bs.map fun b => (out b, Mo.full)).any isB = false := by
    rw [List.any_eq_false]
    intro a ha
    obtain ⟨b, _, rfl⟩ := List.mem_map.mp ha
    simp [isB, hl]
  have h2 : (bs.map fun b => (out b, Mo.full)).all isFu = true := by
    rw [List.all_eq_true]
    intro a ha
    obtain ⟨b, _, rfl⟩ := List.mem_map.mp ha
    simp [isFu]
  unfold mkLst
  rw [h1, h2]
  simp
theorem setItem {ns : List Int} (hb : ∀ z ∈ ns, Builtin.Int.intBits z ≤ 1048576) (b most parts r i : Nat) (h1 : b < 100) (h3 : parts < 50) (hi : i < 30) : ∃ p : Pc, ev (.pr (callG f__law_piece) [(.var 0), (.pr gAdd [(.var 1), (.pr gMul [(.lit (.int 2)), (.var 5)])]), (.var 3)]) [some (.scr ns, .sh), some (.int b, .sh), some (.int most, .sh), some (.int parts, .sh), some (.int r, .sh), some (.int i, .sh)] = some (.lst (p.map pD), .full) ∧ p.length ≤ parts ∧ ∀ x ∈ p, drw x := by
  obtain ⟨p, q1, q2, q3⟩ := piece_eq hb (b + 2 * i) parts (by omega) h3
  rw [show ((b + 2 * i : Nat) : Int) = (b : Int) + 2 * (i : Int) by omega] at q3
  have b2 : gMul [(.int 2, .sh), (.int (i : Int), .sh)] = some (.int (2 * (i : Int)), .sh) := by
    have : bitsOk (2 : Int) (i : Int) = true := (Bd.lit (n := 5) (by decide)).ok (Bd.nat (n := 10) (by omega)) (by omega)
    simp only [gMul, this, if_true]
  have gi : ∀ (i j : Int) m n, gAdd [(.int i, m), (.int j, n)] = some (.int (i + j), .sh) := fun i j m n => nrfl rfl
  have q3' : ∀ m1 m2 m3, callG f__law_piece [(.scr ns, m1), (.int ((b : Int) + 2 * (i : Int)), m2), (.int parts, m3)] = some (.lst (p.map pD), .full) := fun m1 m2 m3 => callG_fu q3 rfl
  refine ⟨p, ?_, q1, q2⟩
  clear q3
  generalize p.map pD = PD at *
  generalize callG f__law_piece = F at *
  generalize gMul = G1 at *
  simp [fB, runB_f, st0, evB_nl, evB_cn, seqO_nx, seqO_rt, seqO_bk, seqO_ct, seqO_none, finO_rt, finO_nx, evS_ifs, pickB_t, pickB_f, runP_some, evS.eq_1, evS.eq_2, evS.eq_3, evS.eq_4, evS.eq_5, evS.eq_6, evS.eq_7, evS.eq_11, evS.eq_12, evS.eq_13, evS.eq_14, evS.eq_15, evS.eq_16, evS.eq_17, evS.eq_18, evS.eq_19, evS.eq_20, evS.eq_21, evS.eq_22, evS.eq_23, evS.eq_24, evS.eq_25, evx_pr, evx_lst, evx_tup, evx_nil, evx_cons, evx_and, evx_or, evx_ife, evx_var, varO_some, evx_lit, prO_some, prO_none, lstO_some, tupO_some, consO_some, consO_none, andO_t, andO_f, orO_t, orO_f, ifO_t, ifO_f, runE_some, evM, evMs, bindP, bindPs, wipeE, nmz, rd, fz, isB, isFu, isSh, mkLst, mkTup, hasL, hasLs, itM, newLst, callG, isNonD, gLt, gGe, gLe, gGt, gLtA_ii, gGtA_ii, gLeA_ii, gGeA_ii, gIn2_cs, gSub, gMod, gDiv, gPow, gAddI, g2I, gAdd, gMul, gLen, gIdx, gMax2, gMin2, gIsi, gIsN, gNotN, tyD, isiT, tyList, inR, B62, SZ, -gAdd, gi, b2, q3']
theorem setHead {ns : List Int} (b most parts r : Nat) (er : f__law_number [.int (ns[b]?.getD 0), .int ((b : Int) + 5), .int ((most : Int) + 1)] = some (.int r, .sh)) : ev (.pr (callG f__law_number) [(.pr (callG f__law_cell_at) [(.var 0), (.var 1)]), (.pr gAdd [(.var 1), (.lit (.int 5))]), (.pr gAdd [(.var 2), (.lit (.int 1))])]) [some (.scr ns, .sh), some (.int b, .sh), some (.int most, .sh), some (.int parts, .sh), none, none] = some (.int r, .sh) := by
  have cq' : ∀ m1 m2, callG f__law_cell_at [(.scr ns, m1), (.int b, m2)] = some (.int (ns[b]?.getD 0), .sh) := fun m1 m2 => callG_fl (cell_eq ns b) rfl
  have er' : ∀ m1 m2 m3, callG f__law_number [(.int (ns[b]?.getD 0), m1), (.int ((b : Int) + 5), m2), (.int ((most : Int) + 1), m3)] = some (.int r, .sh) := fun m1 m2 m3 => callG_fl er rfl
  have gi : ∀ (i j : Int) m n, gAdd [(.int i, m), (.int j, n)] = some (.int (i + j), .sh) := fun i j m n => nrfl rfl
  clear er
  generalize callG f__law_cell_at = F1 at *
  generalize callG f__law_number = F2 at *
  simp [fB, runB_f, st0, evB_nl, evB_cn, seqO_nx, seqO_rt, seqO_bk, seqO_ct, seqO_none, finO_rt, finO_nx, evS_ifs, pickB_t, pickB_f, runP_some, evS.eq_1, evS.eq_2, evS.eq_3, evS.eq_4, evS.eq_5, evS.eq_6, evS.eq_7, evS.eq_11, evS.eq_12, evS.eq_13, evS.eq_14, evS.eq_15, evS.eq_16, evS.eq_17, evS.eq_18, evS.eq_19, evS.eq_20, evS.eq_21, evS.eq_22, evS.eq_23, evS.eq_24, evS.eq_25, evx_pr, evx_lst, evx_tup, evx_nil, evx_cons, evx_and, evx_or, evx_ife, evx_var, varO_some, evx_lit, prO_some, prO_none, lstO_some, tupO_some, consO_some, consO_none, andO_t, andO_f, orO_t, orO_f, ifO_t, ifO_f, runE_some, evM, evMs, bindP, bindPs, wipeE, nmz, rd, fz, isB, isFu, isSh, mkLst, mkTup, hasL, hasLs, itM, newLst, callG, isNonD, gLt, gGe, gLe, gGt, gLtA_ii, gGtA_ii, gLeA_ii, gGeA_ii, gIn2_cs, gSub, gMod, gDiv, gPow, gAddI, g2I, gAdd, gMul, gLen, gIdx, gMax2, gMin2, gIsi, gIsN, gNotN, tyD, isiT, tyList, inR, B62, SZ, -gAdd, gi, cq', er']
theorem rngD_nat (r : Nat) : rngD 0 1 r = (List.range r).map fun i : Nat => D.int i := by
  unfold rngD
  apply List.map_congr_left
  intro j _
  simp
theorem setComp {ns : List Int} (hb : ∀ z ∈ ns, Builtin.Int.intBits z ≤ 1048576) (b most parts r : Nat) (h1 : b < 100) (hr : r ≤ 20) (h3 : parts < 50) :
    ∃ S : List Pc, S.length ≤ r ∧ (∀ p ∈ S, p.length ≤ parts ∧ ∀ x ∈ p, drw x) ∧ compGo (.nm 5) .sh (ev (.lit (.bl true))) (ev (.pr (callG f__law_piece) [(.var 0), (.pr gAdd [(.var 1), (.pr gMul [(.lit (.int 2)), (.var 5)])]), (.var 3)])) [some (.scr ns, .sh), some (.int b, .sh), some (.int most, .sh), some (.int parts, .sh), some (.int r, .sh), none] ((List.range r).map fun i : Nat => D.int i) = some (S.map fun p => (.lst (p.map pD), .full)) := by
  obtain ⟨S, k1, k2, k3⟩ := compGo_ex (p := .nm 5) (m := .sh) (c := ev (.lit (.bl true))) (e := ev (.pr (callG f__law_piece) [(.var 0), (.pr gAdd [(.var 1), (.pr gMul [(.lit (.int 2)), (.var 5)])]), (.var 3)])) (ρ := [some (.scr ns, .sh), some (.int b, .sh), some (.int most, .sh), some (.int parts, .sh), some (.int r, .sh), none])
    (fun i : Nat => D.int i) (fun p : Pc => D.lst (p.map pD)) (fun _ p => p.length ≤ parts ∧ ∀ x ∈ p, drw x) (fun _ => rfl) (List.range r) (fun i hi => by
      rw [List.mem_range] at hi
      obtain ⟨p, q1, q2, q3⟩ := setItem hb b most parts r i h1 h3 (by omega)
      exact ⟨[some (.scr ns, .sh), some (.int b, .sh), some (.int most, .sh), some (.int parts, .sh), some (.int r, .sh), some (.int i, .sh)], .sh, p, rfl, by rw [evx_lit]; rfl, q1, q2, q3⟩)
  exact ⟨S, by rw [k1, List.length_range]; omega, fun p hp => (k2 p hp).elim fun _ h => h.2, k3⟩
theorem setEv {ns : List Int} {b most parts r : Nat} {S : List Pc} (hr : r ≤ 20) (k3 : compGo (.nm 5) .sh (ev (.lit (.bl true))) (ev (.pr (callG f__law_piece) [(.var 0), (.pr gAdd [(.var 1), (.pr gMul [(.lit (.int 2)), (.var 5)])]), (.var 3)])) [some (.scr ns, .sh), some (.int b, .sh), some (.int most, .sh), some (.int parts, .sh), some (.int r, .sh), none] ((List.range r).map fun i : Nat => D.int i) = some (S.map fun p => (.lst (p.map pD), .full))) :
    ev e__law_set_1 [some (.scr ns, .sh), some (.int b, .sh), some (.int most, .sh), some (.int parts, .sh), some (.int r, .sh), none] = some (.lst (setD S), .full) := by
  have hw : wipeE [some (.scr ns, .sh), some (.int b, .sh), some (.int most, .sh), some (.int parts, .sh), some (.int r, .sh), none] [5] = [some (.scr ns, .sh), some (.int b, .sh), some (.int most, .sh), some (.int parts, .sh), some (.int r, .sh), none] := rfl
  rw [← rngD_nat, ← hw] at k3
  rw [e__law_set_1, ev_comp (as := [(.int r, .sh)]) (by simp [fB, runB_f, st0, evB_nl, evB_cn, seqO_nx, seqO_rt, seqO_bk, seqO_ct, seqO_none, finO_rt, finO_nx, evS_ifs, pickB_t, pickB_f, runP_some, evS.eq_1, evS.eq_2, evS.eq_3, evS.eq_4, evS.eq_5, evS.eq_6, evS.eq_7, evS.eq_11, evS.eq_12, evS.eq_13, evS.eq_14, evS.eq_15, evS.eq_16, evS.eq_17, evS.eq_18, evS.eq_19, evS.eq_20, evS.eq_21, evS.eq_22, evS.eq_23, evS.eq_24, evS.eq_25, evx_pr, evx_lst, evx_tup, evx_nil, evx_cons, evx_and, evx_or, evx_ife, evx_var, varO_some, evx_lit, prO_some, prO_none, lstO_some, tupO_some, consO_some, consO_none, andO_t, andO_f, orO_t, orO_f, ifO_t, ifO_f, runE_some, evM, evMs, bindP, bindPs, wipeE, nmz, rd, fz, isB, isFu, isSh, mkLst, mkTup, hasL, hasLs, itM, newLst, callG, isNonD, gLt, gGe, gLe, gGt, gLtA_ii, gGtA_ii, gLeA_ii, gGeA_ii, gIn2_cs, gSub, gMod, gDiv, gPow, gAddI, g2I, gAdd, gMul, gLen, gIdx, gMax2, gMin2, gIsi, gIsN, gNotN, tyD, isiT, tyList, inR, B62, SZ]) (igR1_nat (by omega)) k3 (by rw [rngD_len]; omega)]
  exact mkLst_full (fun p : Pc => D.lst (p.map pD)) (fun _ => rfl) S
theorem set_eq {ns : List Int} (hb : ∀ z ∈ ns, Builtin.Int.intBits z ≤ 1048576) (b most parts : Nat) (h1 : b < 100) (h2 : most < 20) (h3 : parts < 50) :
    ∃ S : List Pc, S.length ≤ most ∧ (∀ p ∈ S, p.length ≤ parts ∧ ∀ x ∈ p, drw x) ∧ f__law_set [.scr ns, .int b, .int most, .int parts] = some (.lst (setD S), .full) := by
  obtain ⟨r, hr, er⟩ := number_eq (cell_bd hb b) (by omega) (b + 5) (by omega) (most + 1) (by omega)
  rw [show ((most + 1 : Nat) : Int) = (most : Int) + 1 by omega, show ((b + 5 : Nat) : Int) = (b : Int) + 5 by omega] at er
  obtain ⟨S, k1, k2, k3⟩ := setComp hb b most parts r h1 (by omega) h3
  have e := setEv (by omega) k3
  have hd := setHead (ns := ns) b most parts r er
  refine ⟨S, by omega, k2, ?_⟩
  clear k1 k2 k3 er
  unfold f__law_set b__law_set
  generalize e__law_set_1 = E at *
  refine f_of (ρ := [some (.scr ns, .sh), some (.int b, .sh), some (.int most, .sh), some (.int parts, .sh), none, none]) rfl rfl ?_
  refine (bSet hd (by simp)).trans ?_
  simp only [List.set_cons_zero, List.set_cons_succ]
  exact bRt (sRet e)

end K19
namespace K19
open PySem SW
theorem ev_comp_full {α : Type} {p : Pt} {vs : List Nat} {ig : IG} {src : List Ex} {c e : Ex} {ρ : SW.Env} {as : List DM} {m : Mo} {st : Bool} (l : List α) (inj : α → D) (out : α → D) (h : evs src ρ = some as) (h2 : ig (as.map fz) = some (l.map inj, m, st)) (h4 : l.length ≤ 1000000) (hl : ∀ a, hasL (out a) = true)
    (h3 : ∀ a ∈ l, ∃ ρ1 mm, bindP p (inj a) m (wipeE ρ vs) = some ρ1 ∧ ev c ρ1 = some (.bl true, mm) ∧ ev e ρ1 = some (out a, .full)) : ev (.comp p vs ig src c e) ρ = some (.lst (l.map out), .full) := by
  have go : ∀ l : List α, (∀ a ∈ l, ∃ ρ1 mm, bindP p (inj a) m (wipeE ρ vs) = some ρ1 ∧ ev c ρ1 = some (.bl true, mm) ∧ ev e ρ1 = some (out a, .full)) → compGo p m (ev c) (ev e) (wipeE ρ vs) (l.map inj) = some (l.map fun a => (out a, Mo.full)) := by
    intro l
    induction l with
    | nil => intro _; rfl
    | cons a l ih =>
      intro h
      obtain ⟨ρ1, mm, e1, e2, e3⟩ := h a (List.mem_cons_self ..)
      simp only [List.map_cons, compGo, e1, e2, e3, ih fun b hb => h b (List.mem_cons_of_mem _ hb), nmz, hl, if_true]
  rw [ev_comp h h2 (go l h3) (by rw [List.length_map]; exact h4)]
  exact mkLst_full out hl l
theorem okDs_set : ∀ {S : List Pc}, (∀ p ∈ S, okP p) → okDs (setD S) = true
  | [], _ => rfl
  | p :: S, h => by
    have h1 := okDs_p (h p (List.mem_cons_self ..))
    have h2 := okDs_set (S := S) fun q hq => h q (List.mem_cons_of_mem _ hq)
    show okDs (.lst (p.map pD) :: setD S) = true
    simp only [okDs, okD, h1, h2, Bool.and_self]
theorem noBs_set : ∀ S : List Pc, noBs (setD S) = true
  | [] => rfl
  | p :: S => by
    show noBs (.lst (p.map pD) :: setD S) = true
    simp only [noBs, noB, noBs_p, noBs_set S, Bool.and_self]
theorem dpths_set : ∀ S : List Pc, dpths (setD S) ≤ 2
  | [] => by decide
  | p :: S => by
    have h1 := dpths_p p
    have h2 := dpths_set S
    show dpths (.lst (p.map pD) :: setD S) ≤ 2
    simp only [dpths, dpth]; omega
theorem pD_inj {x y : Prt} (h : pD x = pD y) : x = y := by
  obtain ⟨k, L⟩ := x
  obtain ⟨j, M⟩ := y
  simp only [pD, D.tup.injEq, List.cons.injEq, D.str.injEq, and_true] at h
  obtain ⟨h1, rfl⟩ := h
  cases k <;> cases j <;> simp_all [kdS]
theorem pcs_inj : ∀ {p q : Pc}, p.map pD = q.map pD → p = q
  | [], [], _ => rfl
  | [], _ :: _, h => by simp at h
  | _ :: _, [], h => by simp at h
  | x :: p, y :: q, h => by
    simp only [List.map_cons, List.cons.injEq] at h
    rw [pD_inj h.1, pcs_inj h.2]
theorem setD_inj : ∀ {S T : List Pc}, setD S = setD T → S = T
  | [], [], _ => rfl
  | [], _ :: _, h => by simp [setD] at h
  | _ :: _, [], h => by simp [setD] at h
  | p :: S, q :: T, h => by
    have : D.lst (p.map pD) :: setD S = D.lst (q.map pD) :: setD T := h
    simp only [List.cons.injEq, D.lst.injEq] at this
    rw [pcs_inj this.1, setD_inj this.2]
theorem eqD_set {S T : List Pc} (hS : ∀ p ∈ S, okP p) (hT : ∀ p ∈ T, okP p) : eqD (.lst (setD S)) (.lst (setD T)) = decide (S = T) := by
  by_cases h : S = T
  · subst h
    rw [eqD_self (by simpa only [okD] using okDs_set hS) (by simpa only [noB] using noBs_set S)]
    simp
  · rw [eqD_ne (by simpa only [okD] using okDs_set hS) (by simpa only [okD] using okDs_set hT) (by simpa only [noB] using noBs_set S) (by simpa only [noB] using noBs_set T) (fun e => h (setD_inj (by injection e))), decide_eq_false h]
theorem ne_set {S T : List Pc} (hS : ∀ p ∈ S, okP p) (hT : ∀ p ∈ T, okP p) (m n : Mo) : gNe [(.lst (setD S), m), (.lst (setD T), n)] = some (.bl (!decide (S = T)), .sh) := by
  have d1 := dpths_set S
  have d2 := dpths_set T
  rw [gNe_of (by simpa only [okD] using okDs_set hS) (by simp only [dpth]; omega) (by simpa only [okD] using okDs_set hT) (by simp only [dpth]; omega), eqD_set hS hT]
theorem eq_set {S T : List Pc} (hS : ∀ p ∈ S, okP p) (hT : ∀ p ∈ T, okP p) (m n : Mo) : gEq [(.lst (setD S), m), (.lst (setD T), n)] = some (.bl (decide (S = T)), .sh) := by
  have d1 := dpths_set S
  have d2 := dpths_set T
  rw [gEq_of (by simpa only [okD] using okDs_set hS) (by simp only [dpth]; omega) (by simpa only [okD] using okDs_set hT) (by simp only [dpth]; omega), eqD_set hS hT]
theorem list_p (p : Pc) (m : Mo) : gList [(.lst (p.map pD), m)] = some (.lst (p.map pD), .full) := by
  simp only [gList, newLst, pD_flats, if_true]
theorem setD_set (S : List Pc) (j : Nat) (p : Pc) : (setD S).set j (.lst (p.map pD)) = setD (S.set j p) := by
  unfold setD
  rw [List.map_set]
theorem evJ_set {S : List Pc} {ρ : SW.Env} {k : Ex} {z : Int} {mk : Mo} {j : Nat} {p : Pc} (hk : ev k ρ = some (.int z, mk)) (hj : L2.ixN S.length z = some j) (hp : S[j]? = some p) : evJ ρ (.lst (setD S)) [k] = some ([j], .lst (p.map pD)) := by
  have hl : (setD S).length = S.length := by simp [setD]
  have hg : (setD S)[j]? = some (.lst (p.map pD)) := by unfold setD; rw [List.getElem?_map, hp]; rfl
  simp only [evJ, hk, hl, hj, hg, List.nil_append]
theorem setP_set {S : List Pc} {j : Nat} {p q : Pc} (hp : S[j]? = some p) : setP [j] (.lst (q.map pD)) (.lst (setD S)) = some (.lst (setD (S.set j q))) := by
  have hg : (setD S)[j]? = some (.lst (p.map pD)) := by unfold setD; rw [List.getElem?_map, hp]; rfl
  simp only [setP, hg, setD_set]
theorem papp_set {S : List Pc} {ρ : SW.Env} {i : Nat} {k x : Ex} {z : Int} {mk my : Mo} {j : Nat} {p : Pc} {y : Prt} (hi : ρ[i]? = some (some (.lst (setD S), .full))) (hk : ev k ρ = some (.int z, mk)) (hj : L2.ixN S.length z = some j) (hp : S[j]? = some p) (hx : ev x ρ = some (pD y, my)) (hl : p.length ≤ 1000) :
    gPApp i [k] x ρ = some ((dropB ρ).set i (some (.lst (setD (S.set j (p ++ [y]))), .full))) := by
  have hz : hasL (pD y) = false ∧ (p.map pD).length < SZ := ⟨pD_flat y, by rw [List.length_map]; exact Nat.lt_of_le_of_lt hl (by decide)⟩
  have e : p.map pD ++ [pD y] = (p ++ [y]).map pD := by simp
  unfold gPApp
  rw [hi]
  simp only [evJ_set hk hj hp, hx, if_pos hz, e, setP_set hp]
theorem pins_set {S : List Pc} {ρ : SW.Env} {i : Nat} {k x : Ex} {z : Int} {mk my : Mo} {j : Nat} {p : Pc} {y : Prt} (hi : ρ[i]? = some (some (.lst (setD S), .full))) (hk : ev k ρ = some (.int z, mk)) (hj : L2.ixN S.length z = some j) (hp : S[j]? = some p) (hx : ev x ρ = some (pD y, my)) (hl : p.length ≤ 1000) :
    gPIns i [k] 0 x ρ = some ((dropB ρ).set i (some (.lst (setD (S.set j (y :: p))), .full))) := by
  have hz : hasL (pD y) = false ∧ (p.map pD).length < SZ ∧ 0 < 1000000 := ⟨pD_flat y, by rw [List.length_map]; exact Nat.lt_of_le_of_lt hl (by decide), by decide⟩
  have e : (p.map pD).take 0 ++ [pD y] ++ (p.map pD).drop 0 = (y :: p).map pD := by simp
  unfold gPIns
  rw [hi]
  simp only [evJ_set hk hj hp, hx, if_pos hz, e, setP_set hp]
theorem gAdd_strs {l l' : List (List Nat)} {m n : Mo} (h : l.length + l'.length ≤ 1000000) : gAdd [(.lst (l.map .str), m), (.lst (l'.map .str), n)] = some (.lst ((l ++ l').map .str), .full) := by
  have z : (l.map D.str).length + (l'.map D.str).length ≤ SZ := by
    rw [List.length_map, List.length_map]
    exact Nat.le_trans h (by decide)
  simp only [gAdd, if_pos z, newLst, hasLs_append, hasLs_strs, Bool.or_self, if_true, List.map_append]
theorem cutL_map {α β : Type} (f : α → β) (l : List α) (a b : Option Int) : cutL (l.map f) a b = (cutL l a b).map f := by
  unfold cutL
  rw [List.length_map, List.map_take, List.map_drop]
theorem slH_strs (l : List (List Nat)) (z : Int) (m n : Mo) : gSlH [(.lst (l.map .str), m), (.int z, n)] = some (.lst ((cutL l none (some z)).map .str), .full) := by
  simp only [gSlH, slD, cutL_map, newLst, hasLs_strs, if_true]
theorem slL_strs (l : List (List Nat)) (z : Int) (m n : Mo) : gSlL [(.lst (l.map .str), m), (.int z, n)] = some (.lst ((cutL l (some z) none).map .str), .full) := by
  simp only [gSlL, slD, cutL_map, newLst, hasLs_strs, if_true]
theorem cutL_len {α : Type} (l : List α) (a b : Option Int) : (cutL l a b).length ≤ l.length := by
  unfold cutL
  rw [List.length_take, List.length_drop]; omega
theorem gAdd_s {a b : List Nat} {m n : Mo} (h : a.length + b.length ≤ 1000000) : gAdd [(.str a, m), (.str b, n)] = some (.str (a ++ b), .sh) := by
  have : a.length + b.length ≤ SZ := Nat.le_trans h (by decide)
  simp only [gAdd, if_pos this]
theorem gAdd_i2 (i j : Int) (m n : Mo) : gAdd [(.int i, m), (.int j, n)] = some (.int (i + j), .sh) := nrfl rfl
theorem gEq_bb2 (x y : Bool) (m n : Mo) : gEq [(.bl x, m), (.bl y, n)] = some (.bl (x == y), .sh) := by
  cases x <;> cases y <;> (rw [gEq_of rfl (by decide) rfl (by decide)]; rfl)
theorem says_eq (x y : Bool) : f__law_says [.bl x, .bl y] = some (.bl (x == y), .sh) := by
  have g := gEq_bb2
  simp [f__law_says, b__law_says, fB, runB_f, st0, evB_nl, evB_cn, seqO_nx, seqO_rt, seqO_bk, seqO_ct, seqO_none, finO_rt, finO_nx, evS_ifs, pickB_t, pickB_f, runP_some, evS.eq_1, evS.eq_2, evS.eq_3, evS.eq_4, evS.eq_5, evS.eq_6, evS.eq_7, evS.eq_11, evS.eq_12, evS.eq_13, evS.eq_14, evS.eq_15, evS.eq_16, evS.eq_17, evS.eq_18, evS.eq_19, evS.eq_20, evS.eq_21, evS.eq_22, evS.eq_23, evS.eq_24, evS.eq_25, evx_pr, evx_lst, evx_tup, evx_nil, evx_cons, evx_and, evx_or, evx_ife, evx_var, varO_some, evx_lit, prO_some, prO_none, lstO_some, tupO_some, consO_some, consO_none, andO_t, andO_f, orO_t, orO_f, ifO_t, ifO_f, runE_some, evM, evMs, bindP, bindPs, wipeE, nmz, rd, fz, isB, isFu, isSh, mkLst, mkTup, hasL, hasLs, itM, newLst, callG, isNonD, gLt, gGe, gLe, gGt, gLtA_ii, gGtA_ii, gLeA_ii, gGeA_ii, gIn2_cs, gSub, gMod, gDiv, gPow, gAddI, g2I, gAdd, gMul, gLen, gIdx, gMax2, gMin2, gIsi, gIsN, gNotN, tyD, isiT, tyList, inR, B62, SZ, g]

/-! ### the law -/
theorem gdP_b : gdP (false, [98]) := .inl ⟨rfl, 98, by decide, rfl⟩
theorem gdP_c : gdP (true, [99]) := .inr ⟨rfl, by decide, by decide, by decide, by decide⟩
theorem drw_gd {x : Prt} (h : drw x) : gdP x := by
  rcases h with ⟨hk, h⟩ | ⟨hk, h⟩
  · simp only [List.mem_cons, List.not_mem_nil, or_false] at h
    rcases h with h | h | h | h <;> exact .inl ⟨hk, _, by decide, h⟩
  · simp only [List.mem_cons, List.not_mem_nil, or_false] at h
    rcases h with h | h | h | h | h | h | h <;> exact .inr ⟨hk, by rw [h]; decide, by rw [h]; decide, by rw [h]; decide, by rw [h]; decide⟩
def late (S : List Pc) : List Pc := match S with
  | [] => [[(true, [99])]]
  | p :: S => match S with
    | [] => [(true, [99]) :: (p ++ [(false, [98])])]
    | q :: S => ((true, [99]) :: p) :: (q :: S).set S.length ((q :: S)[S.length]! ++ [(false, [98])])
theorem holdsC {S : List Pc} (h : ckS S) {w : List Nat} (hw : w.all isLow = true) (hl : w.length ≤ 100000) (m n : Mo) : callG f_holds [(.lst (setD S), m), (.str w, n)] = some (.bl (shld S w), .sh) := callG_fl (holds_eq h hw hl) rfl
theorem inC {S : List Pc} (h : ckS S) {w : List Nat} (m n : Mo) : callG f__law_in [(.lst (setD S), m), (.str w, n)] = some (.bl (shld S w), .sh) := callG_fl (lawIn_eq (fun p hp => by have := h.few p hp; omega) (by have := h.len; omega)) rfl
theorem saysC (x : Bool) (m n : Mo) : callG f__law_says [(.bl x, m), (.bl x, n)] = some (.bl true, .sh) := by rw [callG_fl (says_eq _ _) rfl, beq_self_eq_true]
/-- rows that may be asked with -/
def okR (R : List (List Nat)) : Prop := R.length ≤ 1000 ∧ ∀ w ∈ R, w.all isLow = true ∧ w.length ≤ 10000
theorem rowsGo {S : List Pc} (h : ckS S) (s1 s4 s5 : Slot) : ∀ (l : List (List Nat)) (s3 : Slot), drS s3 = s3 → (∀ w ∈ l, w.all isLow = true ∧ w.length ≤ 10000) → ∃ t3, drS t3 = t3 ∧
    forGo (.nm 3) .sh (evB FUEL l__law_right_1) (l.map .str) [some (.lst (setD S), .sh), s1, some (.lst (setD S), .full), s3, s4, s5] = some (.nx [some (.lst (setD S), .sh), s1, some (.lst (setD S), .full), t3, s4, s5])
  | [], s3, hd, _ => ⟨s3, hd, rfl⟩
  | w :: l, s3, hd, hw => by
    obtain ⟨h1, h2⟩ := hw w (List.mem_cons_self ..)
    obtain ⟨t3, hd3, ih⟩ := rowsGo h s1 s4 s5 l (some (.str w, .sh)) rfl fun v hv => hw v (List.mem_cons_of_mem _ hv)
    refine ⟨t3, hd3, ?_⟩
    rw [List.map_cons]
    refine (forGo_nx (ρ1 := [some (.lst (setD S), .sh), s1, some (.lst (setD S), .full), some (.str w, .sh), s4, s5]) rfl ?_).trans ih
    have c1 := holdsC h h1 (by omega)
    have c2 := inC h (w := w)
    have c3 := saysC (shld S w)
    unfold l__law_right_1
    refine (bNx ((sIfF (m := .sh) ?_).trans (bNil _ _))).trans (bNil _ _)
    clear ih
    generalize setD S = SD at *
    generalize callG f_holds = F1 at *
    generalize callG f__law_in = F2 at *
    generalize callG f__law_says = F3 at *
    simp [fB, runB_f, st0, evB_nl, evB_cn, seqO_nx, seqO_rt, seqO_bk, seqO_ct, seqO_none, finO_rt, finO_nx, evS_ifs, pickB_t, pickB_f, runP_some, evS.eq_1, evS.eq_2, evS.eq_3, evS.eq_4, evS.eq_5, evS.eq_6, evS.eq_7, evS.eq_11, evS.eq_12, evS.eq_13, evS.eq_14, evS.eq_15, evS.eq_16, evS.eq_17, evS.eq_18, evS.eq_19, evS.eq_20, evS.eq_21, evS.eq_22, evS.eq_23, evS.eq_24, evS.eq_25, evx_pr, evx_lst, evx_tup, evx_nil, evx_cons, evx_and, evx_or, evx_ife, evx_var, varO_some, evx_lit, prO_some, prO_none, lstO_some, tupO_some, consO_some, consO_none, andO_t, andO_f, orO_t, orO_f, ifO_t, ifO_f, runE_some, evM, evMs, bindP, bindPs, wipeE, nmz, rd, fz, isB, isFu, isSh, mkLst, mkTup, hasL, hasLs, itM, newLst, callG, isNonD, gLt, gGe, gLe, gGt, gLtA_ii, gGtA_ii, gLeA_ii, gGeA_ii, gIn2_cs, gSub, gMod, gDiv, gPow, gAddI, g2I, gAdd, gMul, gLen, gIdx, gMax2, gMin2, gIsi, gIsN, gNotN, tyD, isiT, tyList, inR, B62, SZ, c1, c2, c3]
theorem copyEv {S : List Pc} (hz : S.length ≤ 1000) (s1 s2 s3 s4 s5 : Slot) : ev e__law_right_1 [some (.lst (setD S), .sh), s1, s2, s3, s4, s5] = some (.lst (setD S), .full) := by
  refine ev_comp_full (as := [(.lst (setD S), .sh)]) (m := .sh) (st := true) S (fun p => .lst (p.map pD)) (fun p => .lst (p.map pD)) (by simp [fB, runB_f, st0, evB_nl, evB_cn, seqO_nx, seqO_rt, seqO_bk, seqO_ct, seqO_none, finO_rt, finO_nx, evS_ifs, pickB_t, pickB_f, runP_some, evS.eq_1, evS.eq_2, evS.eq_3, evS.eq_4, evS.eq_5, evS.eq_6, evS.eq_7, evS.eq_11, evS.eq_12, evS.eq_13, evS.eq_14, evS.eq_15, evS.eq_16, evS.eq_17, evS.eq_18, evS.eq_19, evS.eq_20, evS.eq_21, evS.eq_22, evS.eq_23, evS.eq_24, evS.eq_25, evx_pr, evx_lst, evx_tup, evx_nil, evx_cons, evx_and, evx_or, evx_ife, evx_var, varO_some, evx_lit, prO_some, prO_none, lstO_some, tupO_some, consO_some, consO_none, andO_t, andO_f, orO_t, orO_f, ifO_t, ifO_f, runE_some, evM, evMs, bindP, bindPs, wipeE, nmz, rd, fz, isB, isFu, isSh, mkLst, mkTup, hasL, hasLs, itM, newLst, callG, isNonD, gLt, gGe, gLe, gGt, gLtA_ii, gGtA_ii, gLeA_ii, gGeA_ii, gIn2_cs, gSub, gMod, gDiv, gPow, gAddI, g2I, gAdd, gMul, gLen, gIdx, gMax2, gMin2, gIsi, gIsN, gNotN, tyD, isiT, tyList, inR, B62, SZ]) (igSeq_sh _) (by omega) (fun _ => rfl) fun p hp => ?_
  have h := list_p p
  refine ⟨[some (.lst (setD S), .sh), s1, s2, s3, s4, some (.lst (p.map pD), .sh)], .sh, rfl, by rw [evx_lit]; rfl, ?_⟩
  generalize p.map pD = PD at *
  generalize gList = G1 at *
  simp [fB, runB_f, st0, evB_nl, evB_cn, seqO_nx, seqO_rt, seqO_bk, seqO_ct, seqO_none, finO_rt, finO_nx, evS_ifs, pickB_t, pickB_f, runP_some, evS.eq_1, evS.eq_2, evS.eq_3, evS.eq_4, evS.eq_5, evS.eq_6, evS.eq_7, evS.eq_11, evS.eq_12, evS.eq_13, evS.eq_14, evS.eq_15, evS.eq_16, evS.eq_17, evS.eq_18, evS.eq_19, evS.eq_20, evS.eq_21, evS.eq_22, evS.eq_23, evS.eq_24, evS.eq_25, evx_pr, evx_lst, evx_tup, evx_nil, evx_cons, evx_and, evx_or, evx_ife, evx_var, varO_some, evx_lit, prO_some, prO_none, lstO_some, tupO_some, consO_some, consO_none, andO_t, andO_f, orO_t, orO_f, ifO_t, ifO_f, runE_some, evM, evMs, bindP, bindPs, wipeE, nmz, rd, fz, isB, isFu, isSh, mkLst, mkTup, hasL, hasLs, itM, newLst, callG, isNonD, gLt, gGe, gLe, gGt, gLtA_ii, gGtA_ii, gLeA_ii, gGeA_ii, gIn2_cs, gSub, gMod, gDiv, gPow, gAddI, g2I, gAdd, gMul, gLen, gIdx, gMax2, gMin2, gIsi, gIsN, gNotN, tyD, isiT, tyList, inR, B62, SZ, h]
def som (R : List (List Nat)) : List (List Nat) := cutL R none (some 9) ++ (cutL R none (some 9)).map fun w => 99 :: w ++ [98]
theorem someEv {R : List (List Nat)} (hR : okR R) (s0 s2 s3 s4 s5 : Slot) : ev (.pr gAdd [e__law_right_2, e__law_right_3]) [s0, some (.lst (R.map .str), .sh), s2, s3, s4, s5] = some (.lst ((som R).map .str), .full) := by
  have hl := cutL_len R none (some 9)
  have hm : ∀ w ∈ cutL R none (some 9), w.length ≤ 10000 := fun w hw => (hR.2 w (cutL_mem w hw)).2
  have hr := hR.1
  have sl := slH_strs R 9
  have e2 : ev e__law_right_2 [s0, some (.lst (R.map .str), .sh), s2, s3, s4, s5] = some (.lst ((cutL R none (some 9)).map .str), .full) := by
    refine ev_comp_map (as := [(.lst ((cutL R none (some 9)).map .str), .full)]) (m := .sh) (st := true) (cutL R none (some 9)) D.str D.str ?_ ?_ (by omega) fun w hw => ?_
    · generalize R.map D.str = RD at *
      generalize (cutL R none (some 9)).map D.str = CD at *
      generalize gSlH = G1 at *
      simp [fB, runB_f, st0, evB_nl, evB_cn, seqO_nx, seqO_rt, seqO_bk, seqO_ct, seqO_none, finO_rt, finO_nx, evS_ifs, pickB_t, pickB_f, runP_some, evS.eq_1, evS.eq_2, evS.eq_3, evS.eq_4, evS.eq_5, evS.eq_6, evS.eq_7, evS.eq_11, evS.eq_12, evS.eq_13, evS.eq_14, evS.eq_15, evS.eq_16, evS.eq_17, evS.eq_18, evS.eq_19, evS.eq_20, evS.eq_21, evS.eq_22, evS.eq_23, evS.eq_24, evS.eq_25, evx_pr, evx_lst, evx_tup, evx_nil, evx_cons, evx_and, evx_or, evx_ife, evx_var, varO_some, evx_lit, prO_some, prO_none, lstO_some, tupO_some, consO_some, consO_none, andO_t, andO_f, orO_t, orO_f, ifO_t, ifO_f, runE_some, evM, evMs, bindP, bindPs, wipeE, nmz, rd, fz, isB, isFu, isSh, mkLst, mkTup, hasL, hasLs, itM, newLst, callG, isNonD, gLt, gGe, gLe, gGt, gLtA_ii, gGtA_ii, gLeA_ii, gGeA_ii, gIn2_cs, gSub, gMod, gDiv, gPow, gAddI, g2I, gAdd, gMul, gLen, gIdx, gMax2, gMin2, gIsi, gIsN, gNotN, tyD, isiT, tyList, inR, B62, SZ, sl]
    · simp [igSeq, fz, hasL]
    · exact ⟨[s0, some (.lst (R.map .str), .sh), s2, some (.str w, .sh), s4, s5], .sh, .sh, rfl, by rw [evx_lit]; rfl, by simp [fB, runB_f, st0, evB_nl, evB_cn, seqO_nx, seqO_rt, seqO_bk, seqO_ct, seqO_none, finO_rt, finO_nx, evS_ifs, pickB_t, pickB_f, runP_some, evS.eq_1, evS.eq_2, evS.eq_3, evS.eq_4, evS.eq_5, evS.eq_6, evS.eq_7, evS.eq_11, evS.eq_12, evS.eq_13, evS.eq_14, evS.eq_15, evS.eq_16, evS.eq_17, evS.eq_18, evS.eq_19, evS.eq_20, evS.eq_21, evS.eq_22, evS.eq_23, evS.eq_24, evS.eq_25, evx_pr, evx_lst, evx_tup, evx_nil, evx_cons, evx_and, evx_or, evx_ife, evx_var, varO_some, evx_lit, prO_some, prO_none, lstO_some, tupO_some, consO_some, consO_none, andO_t, andO_f, orO_t, orO_f, ifO_t, ifO_f, runE_some, evM, evMs, bindP, bindPs, wipeE, nmz, rd, fz, isB, isFu, isSh, mkLst, mkTup, hasL, hasLs, itM, newLst, callG, isNonD, gLt, gGe, gLe, gGt, gLtA_ii, gGtA_ii, gLeA_ii, gGeA_ii, gIn2_cs, gSub, gMod, gDiv, gPow, gAddI, g2I, gAdd, gMul, gLen, gIdx, gMax2, gMin2, gIsi, gIsN, gNotN, tyD, isiT, tyList, inR, B62, SZ], rfl⟩
  have e3 : ev e__law_right_3 [s0, some (.lst (R.map .str), .sh), s2, s3, s4, s5] = some (.lst (((cutL R none (some 9)).map fun w => 99 :: w ++ [98]).map .str), .full) := by
    rw [List.map_map]
    refine ev_comp_map (as := [(.lst ((cutL R none (some 9)).map .str), .full)]) (m := .sh) (st := true) (cutL R none (some 9)) D.str _ ?_ ?_ (by omega) fun w hw => ?_
    · generalize R.map D.str = RD at *
      generalize (cutL R none (some 9)).map D.str = CD at *
      generalize gSlH = G1 at *
      simp [fB, runB_f, st0, evB_nl, evB_cn, seqO_nx, seqO_rt, seqO_bk, seqO_ct, seqO_none, finO_rt, finO_nx, evS_ifs, pickB_t, pickB_f, runP_some, evS.eq_1, evS.eq_2, evS.eq_3, evS.eq_4, evS.eq_5, evS.eq_6, evS.eq_7, evS.eq_11, evS.eq_12, evS.eq_13, evS.eq_14, evS.eq_15, evS.eq_16, evS.eq_17, evS.eq_18, evS.eq_19, evS.eq_20, evS.eq_21, evS.eq_22, evS.eq_23, evS.eq_24, evS.eq_25, evx_pr, evx_lst, evx_tup, evx_nil, evx_cons, evx_and, evx_or, evx_ife, evx_var, varO_some, evx_lit, prO_some, prO_none, lstO_some, tupO_some, consO_some, consO_none, andO_t, andO_f, orO_t, orO_f, ifO_t, ifO_f, runE_some, evM, evMs, bindP, bindPs, wipeE, nmz, rd, fz, isB, isFu, isSh, mkLst, mkTup, hasL, hasLs, itM, newLst, callG, isNonD, gLt, gGe, gLe, gGt, gLtA_ii, gGtA_ii, gLeA_ii, gGeA_ii, gIn2_cs, gSub, gMod, gDiv, gPow, gAddI, g2I, gAdd, gMul, gLen, gIdx, gMax2, gMin2, gIsi, gIsN, gNotN, tyD, isiT, tyList, inR, B62, SZ, sl]
    · simp [igSeq, fz, hasL]
    · have q1 := fun m n => gAdd_s (a := [99]) (b := w) (m := m) (n := n) (by have := hm w hw; simp; omega)
      have q2 := fun m n => gAdd_s (a := [99] ++ w) (b := [98]) (m := m) (n := n) (by have := hm w hw; simp; omega)
      refine ⟨[s0, some (.lst (R.map .str), .sh), s2, some (.str w, .sh), s4, s5], .sh, .sh, rfl, by rw [evx_lit]; rfl, ?_, rfl⟩
      show ev _ _ = some (D.str (([99] ++ w) ++ [98]), Mo.sh)
      generalize ([99] ++ w) ++ [98] = X2 at *
      generalize [99] ++ w = X1 at *
      generalize gAdd = G1 at *
      simp [fB, runB_f, st0, evB_nl, evB_cn, seqO_nx, seqO_rt, seqO_bk, seqO_ct, seqO_none, finO_rt, finO_nx, evS_ifs, pickB_t, pickB_f, runP_some, evS.eq_1, evS.eq_2, evS.eq_3, evS.eq_4, evS.eq_5, evS.eq_6, evS.eq_7, evS.eq_11, evS.eq_12, evS.eq_13, evS.eq_14, evS.eq_15, evS.eq_16, evS.eq_17, evS.eq_18, evS.eq_19, evS.eq_20, evS.eq_21, evS.eq_22, evS.eq_23, evS.eq_24, evS.eq_25, evx_pr, evx_lst, evx_tup, evx_nil, evx_cons, evx_and, evx_or, evx_ife, evx_var, varO_some, evx_lit, prO_some, prO_none, lstO_some, tupO_some, consO_some, consO_none, andO_t, andO_f, orO_t, orO_f, ifO_t, ifO_f, runE_some, evM, evMs, bindP, bindPs, wipeE, nmz, rd, fz, isB, isFu, isSh, mkLst, mkTup, hasL, hasLs, itM, newLst, callG, isNonD, gLt, gGe, gLe, gGt, gLtA_ii, gGtA_ii, gLeA_ii, gGeA_ii, gIn2_cs, gSub, gMod, gDiv, gPow, gAddI, g2I, gAdd, gMul, gLen, gIdx, gMax2, gMin2, gIsi, gIsN, gNotN, tyD, isiT, tyList, inR, B62, SZ, q1, q2]
  have ga := fun m n => gAdd_strs (l := cutL R none (some 9)) (l' := (cutL R none (some 9)).map fun w => 99 :: w ++ [98]) (m := m) (n := n) (by simp; omega)
  unfold som
  generalize ((cutL R none (some 9)) ++ (cutL R none (some 9)).map fun w => 99 :: w ++ [98]).map D.str = X3 at *
  generalize ((cutL R none (some 9)).map fun w => 99 :: w ++ [98]).map D.str = X2 at *
  generalize (cutL R none (some 9)).map D.str = X1 at *
  generalize e__law_right_2 = E2 at *
  generalize e__law_right_3 = E3 at *
  generalize gAdd = G1 at *
  simp [fB, runB_f, st0, evB_nl, evB_cn, seqO_nx, seqO_rt, seqO_bk, seqO_ct, seqO_none, finO_rt, finO_nx, evS_ifs, pickB_t, pickB_f, runP_some, evS.eq_1, evS.eq_2, evS.eq_3, evS.eq_4, evS.eq_5, evS.eq_6, evS.eq_7, evS.eq_11, evS.eq_12, evS.eq_13, evS.eq_14, evS.eq_15, evS.eq_16, evS.eq_17, evS.eq_18, evS.eq_19, evS.eq_20, evS.eq_21, evS.eq_22, evS.eq_23, evS.eq_24, evS.eq_25, evx_pr, evx_lst, evx_tup, evx_nil, evx_cons, evx_and, evx_or, evx_ife, evx_var, varO_some, evx_lit, prO_some, prO_none, lstO_some, tupO_some, consO_some, consO_none, andO_t, andO_f, orO_t, orO_f, ifO_t, ifO_f, runE_some, evM, evMs, bindP, bindPs, wipeE, nmz, rd, fz, isB, isFu, isSh, mkLst, mkTup, hasL, hasLs, itM, newLst, callG, isNonD, gLt, gGe, gLe, gGt, gLtA_ii, gGtA_ii, gLeA_ii, gGeA_ii, gIn2_cs, gSub, gMod, gDiv, gPow, gAddI, g2I, gAdd, gMul, gLen, gIdx, gMax2, gMin2, gIsi, gIsN, gNotN, tyD, isiT, tyList, inR, B62, SZ, e2, e3, ga]
theorem som_ok {R : List (List Nat)} (hR : okR R) : (som R).length ≤ 10000 ∧ ∀ w ∈ som R, w.all isLow = true ∧ w.length ≤ 10002 := by
  have hl := cutL_len R none (some 9)
  have hr := hR.1
  refine ⟨by unfold som; simp; omega, fun w hw => ?_⟩
  rcases List.mem_append.mp hw with hw | hw
  · have := hR.2 w (cutL_mem w hw)
    exact ⟨this.1, by omega⟩
  · obtain ⟨v, hv, rfl⟩ := List.mem_map.mp hw
    have := hR.2 v (cutL_mem v hv)
    refine ⟨?_, by simp; omega⟩
    simp only [List.cons_append, List.all_cons, List.all_append, this.1, List.all_nil, Bool.and_true]
    decide
theorem maxEv {S : List Pc} (hz : S.length ≤ 1000) (s0 s1 s3 s4 s5 : Slot) : ev (.pr gGtA [(.pr gMax1 [(.pr gAdd [(.lst [(.lit (.int 0))]), e__law_right_4])]), (.lit (.int 8))]) [s0, s1, some (.lst (setD S), .full), s3, s4, s5] = some (.bl (decide (8 < mxl S)), .sh) := by
  have e : ev e__law_right_4 [s0, s1, some (.lst (setD S), .full), s3, s4, s5] = some (.lst (S.map fun p => .int p.length), .full) := by
    refine ev_comp_map (as := [(.lst (setD S), .bo)]) (m := if hasLs (setD S) then .bo else .sh) (st := false) S (fun p => .lst (p.map pD)) _ (by simp [fB, runB_f, st0, evB_nl, evB_cn, seqO_nx, seqO_rt, seqO_bk, seqO_ct, seqO_none, finO_rt, finO_nx, evS_ifs, pickB_t, pickB_f, runP_some, evS.eq_1, evS.eq_2, evS.eq_3, evS.eq_4, evS.eq_5, evS.eq_6, evS.eq_7, evS.eq_11, evS.eq_12, evS.eq_13, evS.eq_14, evS.eq_15, evS.eq_16, evS.eq_17, evS.eq_18, evS.eq_19, evS.eq_20, evS.eq_21, evS.eq_22, evS.eq_23, evS.eq_24, evS.eq_25, evx_pr, evx_lst, evx_tup, evx_nil, evx_cons, evx_and, evx_or, evx_ife, evx_var, varO_some, evx_lit, prO_some, prO_none, lstO_some, tupO_some, consO_some, consO_none, andO_t, andO_f, orO_t, orO_f, ifO_t, ifO_f, runE_some, evM, evMs, bindP, bindPs, wipeE, nmz, rd, fz, isB, isFu, isSh, mkLst, mkTup, hasL, hasLs, itM, newLst, callG, isNonD, gLt, gGe, gLe, gGt, gLtA_ii, gGtA_ii, gLeA_ii, gGeA_ii, gIn2_cs, gSub, gMod, gDiv, gPow, gAddI, g2I, gAdd, gMul, gLen, gIdx, gMax2, gMin2, gIsi, gIsN, gNotN, tyD, isiT, tyList, inR, B62, SZ]) ?_ (by omega) fun p hp => ?_
    · exact (show igSeq [(D.lst (setD S), Mo.bo)] = _ from rfl)
    · have lp := len_p p
      refine ⟨[s0, s1, some (.lst (setD S), .full), s3, s4, some (.lst (p.map pD), if hasLs (setD S) then .bo else .sh)], .sh, .sh, rfl, by rw [evx_lit]; rfl, ?_, rfl⟩
      generalize setD S = SD at *
      generalize p.map pD = PD at *
      generalize gLen = G1 at *
      simp [fB, runB_f, st0, evB_nl, evB_cn, seqO_nx, seqO_rt, seqO_bk, seqO_ct, seqO_none, finO_rt, finO_nx, evS_ifs, pickB_t, pickB_f, runP_some, evS.eq_1, evS.eq_2, evS.eq_3, evS.eq_4, evS.eq_5, evS.eq_6, evS.eq_7, evS.eq_11, evS.eq_12, evS.eq_13, evS.eq_14, evS.eq_15, evS.eq_16, evS.eq_17, evS.eq_18, evS.eq_19, evS.eq_20, evS.eq_21, evS.eq_22, evS.eq_23, evS.eq_24, evS.eq_25, evx_pr, evx_lst, evx_tup, evx_nil, evx_cons, evx_and, evx_or, evx_ife, evx_var, varO_some, evx_lit, prO_some, prO_none, lstO_some, tupO_some, consO_some, consO_none, andO_t, andO_f, orO_t, orO_f, ifO_t, ifO_f, runE_some, evM, evMs, bindP, bindPs, wipeE, nmz, rd, fz, isB, isFu, isSh, mkLst, mkTup, hasL, hasLs, itM, newLst, callG, isNonD, gLt, gGe, gLe, gGt, gLtA_ii, gGtA_ii, gLeA_ii, gGeA_ii, gIn2_cs, gSub, gMod, gDiv, gPow, gAddI, g2I, gAdd, gMul, gLen, gIdx, gMax2, gMin2, gIsi, gIsN, gNotN, tyD, isiT, tyList, inR, B62, SZ, lp]
  have mx := max_lens S
  have hf : hasLs (S.map fun p : Pc => D.int (p.length : Int)) = false := by
    have := hasLs_ints (S.map fun p : Pc => (p.length : Int))
    rw [List.map_map] at this
    exact this
  generalize hl : (S.map fun p : Pc => D.int (p.length : Int)) = LD at *
  have hll : LD.length = S.length := by rw [← hl]; simp
  have ga : ∀ m n, gAdd [(.lst [.int 0], m), (.lst LD, n)] = some (.lst (.int 0 :: LD), .full) := fun m n => by
    have : hasLs (D.int 0 :: LD) = false := by simp only [hasLs, hasL, hf, Bool.or_self]
    simp only [gAdd, List.length_cons, List.length_nil, hll, newLst, List.cons_append, List.nil_append, this, if_true, SZ]
    rw [if_pos (by omega)]
  have gg : ∀ m n, gGtA [(.int (mxl S : Int), m), (.int 8, n)] = some (.bl (decide (8 < mxl S)), .sh) := fun m n => by
    rw [gGtA_ii]
    congr 2
    by_cases h : 8 < mxl S
    · rw [decide_eq_true h, decide_eq_true (by omega)]
    · rw [decide_eq_false h, decide_eq_false (by omega)]
  generalize setD S = SD at *
  generalize e__law_right_4 = E at *
  generalize gAdd = G1 at *
  generalize gMax1 = G2 at *
  generalize gGtA = G3 at *
  simp [fB, runB_f, st0, evB_nl, evB_cn, seqO_nx, seqO_rt, seqO_bk, seqO_ct, seqO_none, finO_rt, finO_nx, evS_ifs, pickB_t, pickB_f, runP_some, evS.eq_1, evS.eq_2, evS.eq_3, evS.eq_4, evS.eq_5, evS.eq_6, evS.eq_7, evS.eq_11, evS.eq_12, evS.eq_13, evS.eq_14, evS.eq_15, evS.eq_16, evS.eq_17, evS.eq_18, evS.eq_19, evS.eq_20, evS.eq_21, evS.eq_22, evS.eq_23, evS.eq_24, evS.eq_25, evx_pr, evx_lst, evx_tup, evx_nil, evx_cons, evx_and, evx_or, evx_ife, evx_var, varO_some, evx_lit, prO_some, prO_none, lstO_some, tupO_some, consO_some, consO_none, andO_t, andO_f, orO_t, orO_f, ifO_t, ifO_f, runE_some, evM, evMs, bindP, bindPs, wipeE, nmz, rd, fz, isB, isFu, isSh, mkLst, mkTup, hasL, hasLs, itM, newLst, callG, isNonD, gLt, gGe, gLe, gGt, gLtA_ii, gGtA_ii, gLeA_ii, gGeA_ii, gIn2_cs, gSub, gMod, gDiv, gPow, gAddI, g2I, gAdd, gMul, gLen, gIdx, gMax2, gMin2, gIsi, gIsN, gNotN, tyD, isiT, tyList, inR, B62, SZ, e, ga, mx, gg]
theorem allEv {S : List Pc} (h : ckS S) {R : List (List Nat)} (hz : R.length ≤ 10000) (hR : ∀ w ∈ R, w.all isLow = true ∧ w.length ≤ 10002) (s0 s1 s3 s5 : Slot) : ev (.pr gAll [e__law_right_5]) [s0, s1, some (.lst (setD S), .full), s3, some (.lst (R.map .str), .full), s5] = some (.bl true, .sh) := by
  have e : ev e__law_right_5 [s0, s1, some (.lst (setD S), .full), s3, some (.lst (R.map .str), .full), s5] = some (.lst (R.map fun _ => .bl true), .full) := by
    refine ev_comp_map (as := [(.lst (R.map .str), .bo)]) (m := .sh) (st := false) R D.str _ (by simp [fB, runB_f, st0, evB_nl, evB_cn, seqO_nx, seqO_rt, seqO_bk, seqO_ct, seqO_none, finO_rt, finO_nx, evS_ifs, pickB_t, pickB_f, runP_some, evS.eq_1, evS.eq_2, evS.eq_3, evS.eq_4, evS.eq_5, evS.eq_6, evS.eq_7, evS.eq_11, evS.eq_12, evS.eq_13, evS.eq_14, evS.eq_15, evS.eq_16, evS.eq_17, evS.eq_18, evS.eq_19, evS.eq_20, evS.eq_21, evS.eq_22, evS.eq_23, evS.eq_24, evS.eq_25, evx_pr, evx_lst, evx_tup, evx_nil, evx_cons, evx_and, evx_or, evx_ife, evx_var, varO_some, evx_lit, prO_some, prO_none, lstO_some, tupO_some, consO_some, consO_none, andO_t, andO_f, orO_t, orO_f, ifO_t, ifO_f, runE_some, evM, evMs, bindP, bindPs, wipeE, nmz, rd, fz, isB, isFu, isSh, mkLst, mkTup, hasL, hasLs, itM, newLst, callG, isNonD, gLt, gGe, gLe, gGt, gLtA_ii, gGtA_ii, gLeA_ii, gGeA_ii, gIn2_cs, gSub, gMod, gDiv, gPow, gAddI, g2I, gAdd, gMul, gLen, gIdx, gMax2, gMin2, gIsi, gIsN, gNotN, tyD, isiT, tyList, inR, B62, SZ]) (by simp [igSeq, fz, hasL, hasLs_strs]) (by omega) fun w hw => ?_
    have c1 := holdsC h (hR w hw).1 (by have := (hR w hw).2; omega)
    have c2 := inC h (w := w)
    have c3 := saysC (shld S w)
    refine ⟨[s0, s1, some (.lst (setD S), .full), some (.str w, .sh), some (.lst (R.map .str), .full), s5], .sh, .sh, rfl, by rw [evx_lit]; rfl, ?_, rfl⟩
    generalize setD S = SD at *
    generalize R.map D.str = RD at *
    generalize callG f_holds = F1 at *
    generalize callG f__law_in = F2 at *
    generalize callG f__law_says = F3 at *
    simp [fB, runB_f, st0, evB_nl, evB_cn, seqO_nx, seqO_rt, seqO_bk, seqO_ct, seqO_none, finO_rt, finO_nx, evS_ifs, pickB_t, pickB_f, runP_some, evS.eq_1, evS.eq_2, evS.eq_3, evS.eq_4, evS.eq_5, evS.eq_6, evS.eq_7, evS.eq_11, evS.eq_12, evS.eq_13, evS.eq_14, evS.eq_15, evS.eq_16, evS.eq_17, evS.eq_18, evS.eq_19, evS.eq_20, evS.eq_21, evS.eq_22, evS.eq_23, evS.eq_24, evS.eq_25, evx_pr, evx_lst, evx_tup, evx_nil, evx_cons, evx_and, evx_or, evx_ife, evx_var, varO_some, evx_lit, prO_some, prO_none, lstO_some, tupO_some, consO_some, consO_none, andO_t, andO_f, orO_t, orO_f, ifO_t, ifO_f, runE_some, evM, evMs, bindP, bindPs, wipeE, nmz, rd, fz, isB, isFu, isSh, mkLst, mkTup, hasL, hasLs, itM, newLst, callG, isNonD, gLt, gGe, gLe, gGt, gLtA_ii, gGtA_ii, gLeA_ii, gGeA_ii, gIn2_cs, gSub, gMod, gDiv, gPow, gAddI, g2I, gAdd, gMul, gLen, gIdx, gMax2, gMin2, gIsi, gIsN, gNotN, tyD, isiT, tyList, inR, B62, SZ, c1, c2, c3]
  have ga := gAll_map (l := R) (f := fun _ => true) (m := .sh)
  rw [show (R.all fun _ => true) = true from List.all_eq_true.mpr fun _ _ => rfl] at ga
  generalize (R.map fun _ => D.bl true) = LD at *
  generalize setD S = SD at *
  generalize R.map D.str = RD at *
  generalize e__law_right_5 = E at *
  simp [fB, runB_f, st0, evB_nl, evB_cn, seqO_nx, seqO_rt, seqO_bk, seqO_ct, seqO_none, finO_rt, finO_nx, evS_ifs, pickB_t, pickB_f, runP_some, evS.eq_1, evS.eq_2, evS.eq_3, evS.eq_4, evS.eq_5, evS.eq_6, evS.eq_7, evS.eq_11, evS.eq_12, evS.eq_13, evS.eq_14, evS.eq_15, evS.eq_16, evS.eq_17, evS.eq_18, evS.eq_19, evS.eq_20, evS.eq_21, evS.eq_22, evS.eq_23, evS.eq_24, evS.eq_25, evx_pr, evx_lst, evx_tup, evx_nil, evx_cons, evx_and, evx_or, evx_ife, evx_var, varO_some, evx_lit, prO_some, prO_none, lstO_some, tupO_some, consO_some, consO_none, andO_t, andO_f, orO_t, orO_f, ifO_t, ifO_f, runE_some, evM, evMs, bindP, bindPs, wipeE, nmz, rd, fz, isB, isFu, isSh, mkLst, mkTup, hasL, hasLs, itM, newLst, callG, isNonD, gLt, gGe, gLe, gGt, gLtA_ii, gGtA_ii, gLeA_ii, gGeA_ii, gIn2_cs, gSub, gMod, gDiv, gPow, gAddI, g2I, gAdd, gMul, gLen, gIdx, gMax2, gMin2, gIsi, gIsN, gNotN, tyD, isiT, tyList, inR, B62, SZ, e, ga]
/-! #### the handed set, changed -/
theorem ixN_last {n : Nat} (h : 0 < n) : L2.ixN n (-1) = some (n - 1) := by
  unfold L2.ixN
  rw [if_neg (by omega), if_pos (by omega)]
  congr 1
  omega
theorem ixN_zero {n : Nat} (h : 0 < n) : L2.ixN n 0 = some 0 := by
  unfold L2.ixN
  rw [if_pos (by omega), if_pos (by omega)]
  rfl
theorem lateEv {S : List Pc} (h : ckS S) (P : D) (s1 s3 s4 s5 : Slot) (h1 : drS s1 = s1) (h3 : drS s3 = s3) (h4 : drS s4 = s4) (h5 : drS s5 = s5) (hP : P = .lst (setD S)) : ∃ T : List Pc, T.length ≤ 6 ∧ (∀ p ∈ T, ∀ x ∈ p, gdP x) ∧
    evS FUEL (.ifs (.pr gNe [(.var 2), (.lst [])]) [.gen (gPApp 2 [(.lit (.int (-1)))] (.tup [(.lit (.str [109, 97, 121, 98, 101])), (.lit (.str [98]))])), .gen (gPIns 2 [(.lit (.int 0))] 0 (.tup [(.lit (.str [97, 110, 121])), (.lit (.str [99]))]))] [.app 2 (.lst [(.tup [(.lit (.str [97, 110, 121])), (.lit (.str [99]))])])])
      [some (P, .sh), s1, some (.lst (setD S), .full), s3, s4, s5] = some (.nx [some (P, .sh), s1, some (.lst (setD T), .full), s3, s4, s5]) := by
  have db : ∀ d : D, dropB [some (P, .sh), s1, some (d, .full), s3, s4, s5] = [some (P, .sh), s1, some (d, .full), s3, s4, s5] := fun d => by
    simp only [drop_nil, drop_cons, drS_none, drS_sh, drS_full, drS_top, drS_bo, h1, h3, h4, h5]
  have hcond : ev (.pr gNe [(.var 2), (.lst [])]) [some (P, .sh), s1, some (.lst (setD S), .full), s3, s4, s5] = some (.bl (!decide (S = [])), .sh) := by
    have ne := ne_set (S := S) (T := []) h.ok.ok (fun _ h => nomatch h)
    rw [show setD [] = [] from rfl] at ne
    generalize setD S = SD at *
    generalize gNe = G1 at *
    simp [fB, runB_f, st0, evB_nl, evB_cn, seqO_nx, seqO_rt, seqO_bk, seqO_ct, seqO_none, finO_rt, finO_nx, evS_ifs, pickB_t, pickB_f, runP_some, evS.eq_1, evS.eq_2, evS.eq_3, evS.eq_4, evS.eq_5, evS.eq_6, evS.eq_7, evS.eq_11, evS.eq_12, evS.eq_13, evS.eq_14, evS.eq_15, evS.eq_16, evS.eq_17, evS.eq_18, evS.eq_19, evS.eq_20, evS.eq_21, evS.eq_22, evS.eq_23, evS.eq_24, evS.eq_25, evx_pr, evx_lst, evx_tup, evx_nil, evx_cons, evx_and, evx_or, evx_ife, evx_var, varO_some, evx_lit, prO_some, prO_none, lstO_some, tupO_some, consO_some, consO_none, andO_t, andO_f, orO_t, orO_f, ifO_t, ifO_f, runE_some, evM, evMs, bindP, bindPs, wipeE, nmz, rd, fz, isB, isFu, isSh, mkLst, mkTup, hasL, hasLs, itM, newLst, callG, isNonD, gLt, gGe, gLe, gGt, gLtA_ii, gGtA_ii, gLeA_ii, gGeA_ii, gIn2_cs, gSub, gMod, gDiv, gPow, gAddI, g2I, gAdd, gMul, gLen, gIdx, gMax2, gMin2, gIsi, gIsN, gNotN, tyD, isiT, tyList, inR, B62, SZ, ne]
  cases S with
  | nil =>
    refine ⟨[[(true, [99])]], by decide, fun p hp x hx => ?_, ?_⟩
    · simp only [List.mem_singleton] at hp
      subst hp
      simp only [List.mem_singleton] at hx
      subst hx
      exact gdP_c
    · refine (sIfF hcond).trans ?_
      refine (bNx (sApp (ds := []) (m := .full) (p := (.lst [pD (true, [99])], .full)) (q := (.lst (setD [[(true, [99])]]), .full)) rfl ?_ ?_)).trans ((bNil _ _).trans ?_)
      · simp [fB, runB_f, st0, evB_nl, evB_cn, seqO_nx, seqO_rt, seqO_bk, seqO_ct, seqO_none, finO_rt, finO_nx, evS_ifs, pickB_t, pickB_f, runP_some, evS.eq_1, evS.eq_2, evS.eq_3, evS.eq_4, evS.eq_5, evS.eq_6, evS.eq_7, evS.eq_11, evS.eq_12, evS.eq_13, evS.eq_14, evS.eq_15, evS.eq_16, evS.eq_17, evS.eq_18, evS.eq_19, evS.eq_20, evS.eq_21, evS.eq_22, evS.eq_23, evS.eq_24, evS.eq_25, evx_pr, evx_lst, evx_tup, evx_nil, evx_cons, evx_and, evx_or, evx_ife, evx_var, varO_some, evx_lit, prO_some, prO_none, lstO_some, tupO_some, consO_some, consO_none, andO_t, andO_f, orO_t, orO_f, ifO_t, ifO_f, runE_some, evM, evMs, bindP, bindPs, wipeE, nmz, rd, fz, isB, isFu, isSh, mkLst, mkTup, hasL, hasLs, itM, newLst, callG, isNonD, gLt, gGe, gLe, gGt, gLtA_ii, gGtA_ii, gLeA_ii, gGeA_ii, gIn2_cs, gSub, gMod, gDiv, gPow, gAddI, g2I, gAdd, gMul, gLen, gIdx, gMax2, gMin2, gIsi, gIsN, gNotN, tyD, isiT, tyList, inR, B62, SZ, pD, kdS, hasLs]
      · rfl
      · have := db (.lst (setD []))
        rw [show setD ([] : List Pc) = [] from rfl] at this ⊢
        rw [this]; rfl
  | cons p0 S0 =>
    have hl : 0 < (p0 :: S0).length := by simp
    have hlen := h.len
    obtain ⟨pl, hpl⟩ : ∃ pl, (p0 :: S0)[(p0 :: S0).length - 1]? = some pl := ⟨_, List.getElem?_eq_getElem (by omega)⟩
    have hplm : pl ∈ p0 :: S0 := List.mem_of_getElem? hpl
    generalize hT : (p0 :: S0).set ((p0 :: S0).length - 1) (pl ++ [(false, [98])]) = T1
    have hTl : T1.length = (p0 :: S0).length := by rw [← hT, List.length_set]
    have hTm : ∀ p ∈ T1, p.length ≤ 9 ∧ ∀ x ∈ p, gdP x := fun p hp => by
      rw [← hT] at hp
      rcases List.mem_or_eq_of_mem_set hp with hp | rfl
      · exact ⟨by have := h.few p hp; omega, h.gd p hp⟩
      · refine ⟨by have := h.few pl hplm; simp; omega, fun x hx => ?_⟩
        rcases List.mem_append.mp hx with hx | hx
        · exact h.gd pl hplm x hx
        · simp only [List.mem_singleton] at hx
          subst hx; exact gdP_b
    obtain ⟨ph, hph⟩ : ∃ ph, T1[0]? = some ph := ⟨_, List.getElem?_eq_getElem (by omega)⟩
    have hphm : ph ∈ T1 := List.mem_of_getElem? hph
    refine ⟨T1.set 0 ((true, [99]) :: ph), by rw [List.length_set]; omega, fun p hp x hx => ?_, ?_⟩
    · rcases List.mem_or_eq_of_mem_set hp with hp | rfl
      · exact (hTm p hp).2 x hx
      · rcases List.mem_cons.mp hx with rfl | hx
        · exact gdP_c
        · exact (hTm ph hphm).2 x hx
    · have hne : ¬ (p0 :: S0 = []) := by simp
      rw [decide_eq_false hne] at hcond
      refine (sIfT hcond).trans ?_
      have g1 := papp_set (S := p0 :: S0) (ρ := [some (P, .sh), s1, some (.lst (setD (p0 :: S0)), .full), s3, s4, s5]) (i := 2) (k := .lit (.int (-1))) (x := .tup [(.lit (.str [109, 97, 121, 98, 101])), (.lit (.str [98]))]) (z := -1) (mk := .sh) (my := .sh) (y := (false, [98])) rfl (by rw [evx_lit]; rfl) (ixN_last hl) hpl (by simp [fB, runB_f, st0, evB_nl, evB_cn, seqO_nx, seqO_rt, seqO_bk, seqO_ct, seqO_none, finO_rt, finO_nx, evS_ifs, pickB_t, pickB_f, runP_some, evS.eq_1, evS.eq_2, evS.eq_3, evS.eq_4, evS.eq_5, evS.eq_6, evS.eq_7, evS.eq_11, evS.eq_12, evS.eq_13, evS.eq_14, evS.eq_15, evS.eq_16, evS.eq_17, evS.eq_18, evS.eq_19, evS.eq_20, evS.eq_21, evS.eq_22, evS.eq_23, evS.eq_24, evS.eq_25, evx_pr, evx_lst, evx_tup, evx_nil, evx_cons, evx_and, evx_or, evx_ife, evx_var, varO_some, evx_lit, prO_some, prO_none, lstO_some, tupO_some, consO_some, consO_none, andO_t, andO_f, orO_t, orO_f, ifO_t, ifO_f, runE_some, evM, evMs, bindP, bindPs, wipeE, nmz, rd, fz, isB, isFu, isSh, mkLst, mkTup, hasL, hasLs, itM, newLst, callG, isNonD, gLt, gGe, gLe, gGt, gLtA_ii, gGtA_ii, gLeA_ii, gGeA_ii, gIn2_cs, gSub, gMod, gDiv, gPow, gAddI, g2I, gAdd, gMul, gLen, gIdx, gMax2, gMin2, gIsi, gIsN, gNotN, tyD, isiT, tyList, inR, B62, SZ, pD, kdS, hasLs]) (by have := h.few pl hplm; omega)
      rw [db, hT] at g1
      have g2 := pins_set (S := T1) (ρ := [some (P, .sh), s1, some (.lst (setD T1), .full), s3, s4, s5]) (i := 2) (k := .lit (.int 0)) (x := .tup [(.lit (.str [97, 110, 121])), (.lit (.str [99]))]) (z := 0) (mk := .sh) (my := .sh) (y := (true, [99])) rfl (by rw [evx_lit]; rfl) (ixN_zero (by omega)) hph (by simp [fB, runB_f, st0, evB_nl, evB_cn, seqO_nx, seqO_rt, seqO_bk, seqO_ct, seqO_none, finO_rt, finO_nx, evS_ifs, pickB_t, pickB_f, runP_some, evS.eq_1, evS.eq_2, evS.eq_3, evS.eq_4, evS.eq_5, evS.eq_6, evS.eq_7, evS.eq_11, evS.eq_12, evS.eq_13, evS.eq_14, evS.eq_15, evS.eq_16, evS.eq_17, evS.eq_18, evS.eq_19, evS.eq_20, evS.eq_21, evS.eq_22, evS.eq_23, evS.eq_24, evS.eq_25, evx_pr, evx_lst, evx_tup, evx_nil, evx_cons, evx_and, evx_or, evx_ife, evx_var, varO_some, evx_lit, prO_some, prO_none, lstO_some, tupO_some, consO_some, consO_none, andO_t, andO_f, orO_t, orO_f, ifO_t, ifO_f, runE_some, evM, evMs, bindP, bindPs, wipeE, nmz, rd, fz, isB, isFu, isSh, mkLst, mkTup, hasL, hasLs, itM, newLst, callG, isNonD, gLt, gGe, gLe, gGt, gLtA_ii, gGtA_ii, gLeA_ii, gGeA_ii, gIn2_cs, gSub, gMod, gDiv, gPow, gAddI, g2I, gAdd, gMul, gLen, gIdx, gMax2, gMin2, gIsi, gIsN, gNotN, tyD, isiT, tyList, inR, B62, SZ, pD, kdS, hasLs]) (by have := (hTm ph hphm).1; omega)
      rw [db] at g2
      simp only [List.set_cons_succ, List.set_cons_zero] at g1 g2
      exact (bNx (evS_gen1 g1)).trans ((bNx (evS_gen1 g2)).trans (bNil _ _))
theorem right_eq {S : List Pc} (h : ckS S) {R : List (List Nat)} (hR : okR R) : f__law_right [.lst (setD S), .lst (R.map .str)] = some (.bl true, .sh) := by
  have hl := h.len
  have ec := copyEv (S := S) (by omega) (some (.lst (R.map .str), .sh)) none none none none
  obtain ⟨t3, hd3, eg⟩ := rowsGo h (some (.lst (R.map .str), .sh)) none none R none rfl hR.2
  have hq : evS FUEL q__law_right_1 [some (.lst (setD S), .sh), some (.lst (R.map .str), .sh), some (.lst (setD S), .full), none, none, none] = some (.nx [some (.lst (setD S), .sh), some (.lst (R.map .str), .sh), some (.lst (setD S), .full), t3, none, none]) := by
    rw [q__law_right_1, evS_fors (as := [(.lst (R.map .str), .sh)]) (ds := R.map .str) (m := .sh) (by simp [fB, runB_f, st0, evB_nl, evB_cn, seqO_nx, seqO_rt, seqO_bk, seqO_ct, seqO_none, finO_rt, finO_nx, evS_ifs, pickB_t, pickB_f, runP_some, evS.eq_1, evS.eq_2, evS.eq_3, evS.eq_4, evS.eq_5, evS.eq_6, evS.eq_7, evS.eq_11, evS.eq_12, evS.eq_13, evS.eq_14, evS.eq_15, evS.eq_16, evS.eq_17, evS.eq_18, evS.eq_19, evS.eq_20, evS.eq_21, evS.eq_22, evS.eq_23, evS.eq_24, evS.eq_25, evx_pr, evx_lst, evx_tup, evx_nil, evx_cons, evx_and, evx_or, evx_ife, evx_var, varO_some, evx_lit, prO_some, prO_none, lstO_some, tupO_some, consO_some, consO_none, andO_t, andO_f, orO_t, orO_f, ifO_t, ifO_f, runE_some, evM, evMs, bindP, bindPs, wipeE, nmz, rd, fz, isB, isFu, isSh, mkLst, mkTup, hasL, hasLs, itM, newLst, callG, isNonD, gLt, gGe, gLe, gGt, gLtA_ii, gGtA_ii, gLeA_ii, gGeA_ii, gIn2_cs, gSub, gMod, gDiv, gPow, gAddI, g2I, gAdd, gMul, gLen, gIdx, gMax2, gMin2, gIsi, gIsN, gNotN, tyD, isiT, tyList, inR, B62, SZ]) (igSeq_sh _)]
    exact eg
  unfold f__law_right b__law_right
  refine f_of (ρ := [some (.lst (setD S), .sh), some (.lst (R.map .str), .sh), none, none, none, none]) rfl rfl ?_
  refine (bSet ec (by simp)).trans ?_
  simp only [List.set_cons_zero, List.set_cons_succ]
  refine (bNx hq).trans ?_
  refine (bNx ((sIfF (m := .sh) ?_).trans (bNil _ _))).trans ?_
  · have ne := ne_set (S := S) (T := S) h.ok.ok h.ok.ok
    rw [decide_eq_true rfl] at ne
    generalize setD S = SD at *
    generalize R.map D.str = RD at *
    generalize gNe = G1 at *
    simp [fB, runB_f, st0, evB_nl, evB_cn, seqO_nx, seqO_rt, seqO_bk, seqO_ct, seqO_none, finO_rt, finO_nx, evS_ifs, pickB_t, pickB_f, runP_some, evS.eq_1, evS.eq_2, evS.eq_3, evS.eq_4, evS.eq_5, evS.eq_6, evS.eq_7, evS.eq_11, evS.eq_12, evS.eq_13, evS.eq_14, evS.eq_15, evS.eq_16, evS.eq_17, evS.eq_18, evS.eq_19, evS.eq_20, evS.eq_21, evS.eq_22, evS.eq_23, evS.eq_24, evS.eq_25, evx_pr, evx_lst, evx_tup, evx_nil, evx_cons, evx_and, evx_or, evx_ife, evx_var, varO_some, evx_lit, prO_some, prO_none, lstO_some, tupO_some, consO_some, consO_none, andO_t, andO_f, orO_t, orO_f, ifO_t, ifO_f, runE_some, evM, evMs, bindP, bindPs, wipeE, nmz, rd, fz, isB, isFu, isSh, mkLst, mkTup, hasL, hasLs, itM, newLst, callG, isNonD, gLt, gGe, gLe, gGt, gLtA_ii, gGtA_ii, gLeA_ii, gGeA_ii, gIn2_cs, gSub, gMod, gDiv, gPow, gAddI, g2I, gAdd, gMul, gLen, gIdx, gMax2, gMin2, gIsi, gIsN, gNotN, tyD, isiT, tyList, inR, B62, SZ, ne]
  obtain ⟨T, lT, gT, eL⟩ := lateEv h (.lst (setD S)) (some (.lst (R.map .str), .sh)) t3 none none rfl hd3 rfl rfl rfl
  refine (bNx eL).trans ?_
  refine (bSet (someEv hR _ _ _ _ _) (by simp)).trans ?_
  simp only [List.set_cons_zero, List.set_cons_succ]
  have em := maxEv (S := T) (by omega) (some (.lst (setD S), .sh)) (some (.lst (R.map .str), .sh)) t3 (some (.lst ((som R).map .str), .full)) none
  by_cases h8 : 8 < mxl T
  · rw [decide_eq_true h8] at em
    exact bRt ((sIfT em).trans (bRt (sRet (by rw [evx_lit]; rfl))))
  · rw [decide_eq_false h8] at em
    have hT : ckS T := ⟨lT, fun p hp => by have := mxl_le hp; omega, gT⟩
    have hso := som_ok hR
    refine (bNx ((sIfF em).trans (bNil _ _))).trans ?_
    exact bRt (sRet (allEv hT hso.1 hso.2 _ _ _ _))

end K19
namespace K19
open PySem SW
def nearL : List (List Nat) := [[], [97], [98], [99], [97, 97], [97, 98], [97, 99], [98, 97], [98, 98], [98, 99], [99, 97], [99, 98], [99, 99]]
theorem near_eq : f__law_rows [.int 2, .str [97, 98, 99]] = some (.lst (nearL.map .str), .full) := by rfl
theorem compGo_exf {α β : Type} {p : Pt} {m : Mo} {c e : SW.Env → Option DM} {ρ : SW.Env} (inj : α → D) (out : β → D) (Pr : α → β → Prop) (hl : ∀ b, hasL (out b) = false) : ∀ l : List α, (∀ a ∈ l, ∃ ρ1 mm n b, bindP p (inj a) m ρ = some ρ1 ∧ c ρ1 = some (.bl true, mm) ∧ e ρ1 = some (out b, n) ∧ Pr a b) →
    ∃ bs : List β, bs.length = l.length ∧ (∀ b ∈ bs, ∃ a ∈ l, Pr a b) ∧ compGo p m c e ρ (l.map inj) = some (bs.map fun b => (out b, Mo.sh))
  | [], _ => ⟨[], rfl, fun _ h => (nomatch h), rfl⟩
  | a :: l, h => by
    obtain ⟨ρ1, mm, n, b, e1, e2, e3, e4⟩ := h a (List.mem_cons_self ..)
    obtain ⟨bs, k1, k2, k3⟩ := compGo_exf inj out Pr hl l fun a' ha => h a' (List.mem_cons_of_mem _ ha)
    refine ⟨b :: bs, by simp [k1], fun b' hb => ?_, ?_⟩
    · rcases List.mem_cons.mp hb with rfl | hb
      · exact ⟨a, List.mem_cons_self .., e4⟩
      · obtain ⟨a', ha, hp⟩ := k2 b' hb
        exact ⟨a', List.mem_cons_of_mem _ ha, hp⟩
    · simp only [List.map_cons, compGo, e1, e2, e3, k3, nmz, hl, Bool.false_eq_true, if_false]
theorem mkLst_flatf {β : Type} (out : β → D) (hl : ∀ b, hasL (out b) = false) (bs : List β) : mkLst (bs.map fun b => (out b, Mo.sh)) = some (.lst (bs.map out), .full) := by
  rw [mkLst_flat (fun a ha => by obtain ⟨b, _, rfl⟩ := List.mem_map.mp ha; exact hl b), List.map_map]; rfl
theorem gAdd_ps (p q : Pc) (h : p.length + q.length ≤ 1000) (m n : Mo) : gAdd [(.lst (p.map pD), m), (.lst (q.map pD), n)] = some (.lst ((p ++ q).map pD), .full) := by
  have z : (p.map pD).length + (q.map pD).length ≤ SZ := by
    rw [List.length_map, List.length_map]
    exact Nat.le_trans h (by decide)
  have f : hasLs (p.map pD ++ q.map pD) = false := by rw [← List.map_append]; exact pD_flats _
  simp only [gAdd, if_pos z, newLst, f, if_true, List.map_append]
theorem slH_ps (p : Pc) (m n : Mo) : gSlH [(.lst (p.map pD), m), (.int 8, n)] = some (.lst ((p.take 8).map pD), .full) := by
  have := cutL_to p 8
  rw [show ((8 : Nat) : Int) = 8 from rfl] at this
  simp only [gSlH, slD, cutL_map, this, newLst, pD_flats, if_true]
/-- all shorter rows by one letter -/
def less (w : List Nat) : List (List Nat) := (List.range w.length).map fun a => w.take a ++ w.drop (a + 1)
theorem less_sub {w v : List Nat} (h : v ∈ less w) : v.Sublist w := by
  obtain ⟨a, _, rfl⟩ := List.mem_map.mp h
  have := List.take_append_drop a w
  conv => rhs; rw [← this]
  refine List.Sublist.append (List.Sublist.refl _) ?_
  rw [← List.drop_drop]
  exact List.drop_sublist 1 _
theorem lessEv {w : List Nat} (hz : w.length ≤ 10000) (s0 s1 s2 s3 s4 s6 s7 s8 s9 s10 s11 s12 : Slot) : ev e_law_4 [s0, s1, s2, s3, s4, some (.str w, .sh), s6, s7, s8, s9, s10, s11, s12] = some (.lst ((less w).map .str), .full) := by
  unfold less
  rw [List.map_map]
  have hz2 : w.length ≤ 16777216 := by omega
  refine ev_comp_map (as := [(.int w.length, .sh)]) (m := .sh) (st := true) (List.range w.length) (fun a : Nat => D.int a) _ ?_ ?_ (by simp; omega) fun a ha => ?_
  · simp [fB, runB_f, st0, evB_nl, evB_cn, seqO_nx, seqO_rt, seqO_bk, seqO_ct, seqO_none, finO_rt, finO_nx, evS_ifs, pickB_t, pickB_f, runP_some, evS.eq_1, evS.eq_2, evS.eq_3, evS.eq_4, evS.eq_5, evS.eq_6, evS.eq_7, evS.eq_11, evS.eq_12, evS.eq_13, evS.eq_14, evS.eq_15, evS.eq_16, evS.eq_17, evS.eq_18, evS.eq_19, evS.eq_20, evS.eq_21, evS.eq_22, evS.eq_23, evS.eq_24, evS.eq_25, evx_pr, evx_lst, evx_tup, evx_nil, evx_cons, evx_and, evx_or, evx_ife, evx_var, varO_some, evx_lit, prO_some, prO_none, lstO_some, tupO_some, consO_some, consO_none, andO_t, andO_f, orO_t, orO_f, ifO_t, ifO_f, runE_some, evM, evMs, bindP, bindPs, wipeE, nmz, rd, fz, isB, isFu, isSh, mkLst, mkTup, hasL, hasLs, itM, newLst, callG, isNonD, gLt, gGe, gLe, gGt, gLtA_ii, gGtA_ii, gLeA_ii, gGeA_ii, gIn2_cs, gSub, gMod, gDiv, gPow, gAddI, g2I, gAdd, gMul, gLen, gIdx, gMax2, gMin2, gIsi, gIsN, gNotN, tyD, isiT, tyList, inR, B62, SZ, hz2]
  · have := igR1_nat (r := w.length) (m := .sh) (by omega)
    rw [rngD_nat] at this
    exact this
  · rw [List.mem_range] at ha
    have g1 : ∀ m n, gSlH [(.str w, m), (.int (a : Int), n)] = some (.str (w.take a), .sh) := fun m n => by
      have := cutL_to w a
      simp only [gSlH, slD, SZ, if_pos hz2, this]
    have g2 : ∀ m n, gSlL [(.str w, m), (.int ((a : Int) + 1), n)] = some (.str (w.drop (a + 1)), .sh) := fun m n => by
      have := cutL_from w (a + 1)
      rw [show ((a + 1 : Nat) : Int) = (a : Int) + 1 by omega] at this
      simp only [gSlL, slD, SZ, if_pos hz2, this]
    have g3 := fun m n => gAdd_s (a := w.take a) (b := w.drop (a + 1)) (m := m) (n := n) (by simp; omega)
    have gi := gAdd_i2
    refine ⟨[s0, s1, s2, s3, s4, some (.str w, .sh), s6, s7, s8, s9, s10, some (.int a, .sh), s12], .sh, .sh, rfl, by rw [evx_lit]; rfl, ?_, rfl⟩
    show ev _ _ = some (D.str (w.take a ++ w.drop (a + 1)), Mo.sh)
    generalize w.take a ++ w.drop (a + 1) = X3 at *
    generalize w.take a = X1 at *
    generalize w.drop (a + 1) = X2 at *
    generalize gAdd = G1 at *
    generalize gSlH = G2 at *
    generalize gSlL = G3 at *
    simp [fB, runB_f, st0, evB_nl, evB_cn, seqO_nx, seqO_rt, seqO_bk, seqO_ct, seqO_none, finO_rt, finO_nx, evS_ifs, pickB_t, pickB_f, runP_some, evS.eq_1, evS.eq_2, evS.eq_3, evS.eq_4, evS.eq_5, evS.eq_6, evS.eq_7, evS.eq_11, evS.eq_12, evS.eq_13, evS.eq_14, evS.eq_15, evS.eq_16, evS.eq_17, evS.eq_18, evS.eq_19, evS.eq_20, evS.eq_21, evS.eq_22, evS.eq_23, evS.eq_24, evS.eq_25, evx_pr, evx_lst, evx_tup, evx_nil, evx_cons, evx_and, evx_or, evx_ife, evx_var, varO_some, evx_lit, prO_some, prO_none, lstO_some, tupO_some, consO_some, consO_none, andO_t, andO_f, orO_t, orO_f, ifO_t, ifO_f, runE_some, evM, evMs, bindP, bindPs, wipeE, nmz, rd, fz, isB, isFu, isSh, mkLst, mkTup, hasL, hasLs, itM, newLst, callG, isNonD, gLt, gGe, gLe, gGt, gLtA_ii, gGtA_ii, gLeA_ii, gGeA_ii, gIn2_cs, gSub, gMod, gDiv, gPow, gAddI, g2I, gAdd, gMul, gLen, gIdx, gMax2, gMin2, gIsi, gIsN, gNotN, tyD, isiT, tyList, inR, B62, SZ, g1, g2, g3, gi]
theorem lessGo {S : List Pc} (h : ckS S) (s0 s1 s2 s4 s7 s8 s9 s10 s11 s12 : Slot) : ∀ (l : List (List Nat)) (s5 s6 : Slot), (∀ w ∈ l, w.all isLow = true ∧ w.length ≤ 10000) → ∃ t5 t6,
    forGo (.nm 5) .sh (evB FUEL l_law_1) (l.map .str) [s0, s1, s2, some (.lst (setD S), .sh), s4, s5, s6, s7, s8, s9, s10, s11, s12] = some (.nx [s0, s1, s2, some (.lst (setD S), .sh), s4, t5, t6, s7, s8, s9, s10, s11, s12])
  | [], s5, s6, _ => ⟨s5, s6, rfl⟩
  | w :: l, s5, s6, hw => by
    obtain ⟨h1, h2⟩ := hw w (List.mem_cons_self ..)
    obtain ⟨t5, t6, ih⟩ := lessGo h s0 s1 s2 s4 s7 s8 s9 s10 s11 s12 l (some (.str w, .sh)) (some (.lst ((less w).map .str), .full)) fun v hv => hw v (List.mem_cons_of_mem _ hv)
    refine ⟨t5, t6, ?_⟩
    rw [List.map_cons]
    refine (forGo_nx (ρ1 := [s0, s1, s2, some (.lst (setD S), .sh), s4, some (.str w, .sh), s6, s7, s8, s9, s10, s11, s12]) rfl ?_).trans ih
    unfold l_law_1
    refine (bSet (lessEv h2 _ _ _ _ _ _ _ _ _ _ _ _) (by simp)).trans ?_
    simp only [List.set_cons_zero, List.set_cons_succ]
    refine (bNx ((sIfF (m := .sh) ?_).trans (bNil _ _))).trans (bNil _ _)
    have hl : (less w).length ≤ 10000 := by simp [less]; omega
    have hm : ∀ v ∈ less w, v.all isLow = true ∧ v.length ≤ 10000 := fun v hv => by
      have := less_sub hv
      refine ⟨?_, by have := this.length_le; omega⟩
      rw [List.all_eq_true] at h1 ⊢
      exact fun c hc => h1 c (this.subset hc)
    have e6 : ev e_law_6 [s0, s1, s2, some (.lst (setD S), .sh), s4, some (.str w, .sh), some (.lst ((less w).map .str), .full), s7, s8, s9, s10, s11, s12] = some (.lst ((less w).map fun v => .bl (shld S v)), .full) := by
      refine ev_comp_map (as := [(.lst ((less w).map .str), .bo)]) (m := .sh) (st := false) (less w) D.str _ (by simp [fB, runB_f, st0, evB_nl, evB_cn, seqO_nx, seqO_rt, seqO_bk, seqO_ct, seqO_none, finO_rt, finO_nx, evS_ifs, pickB_t, pickB_f, runP_some, evS.eq_1, evS.eq_2, evS.eq_3, evS.eq_4, evS.eq_5, evS.eq_6, evS.eq_7, evS.eq_11, evS.eq_12, evS.eq_13, evS.eq_14, evS.eq_15, evS.eq_16, evS.eq_17, evS.eq_18, evS.eq_19, evS.eq_20, evS.eq_21, evS.eq_22, evS.eq_23, evS.eq_24, evS.eq_25, evx_pr, evx_lst, evx_tup, evx_nil, evx_cons, evx_and, evx_or, evx_ife, evx_var, varO_some, evx_lit, prO_some, prO_none, lstO_some, tupO_some, consO_some, consO_none, andO_t, andO_f, orO_t, orO_f, ifO_t, ifO_f, runE_some, evM, evMs, bindP, bindPs, wipeE, nmz, rd, fz, isB, isFu, isSh, mkLst, mkTup, hasL, hasLs, itM, newLst, callG, isNonD, gLt, gGe, gLe, gGt, gLtA_ii, gGtA_ii, gLeA_ii, gGeA_ii, gIn2_cs, gSub, gMod, gDiv, gPow, gAddI, g2I, gAdd, gMul, gLen, gIdx, gMax2, gMin2, gIsi, gIsN, gNotN, tyD, isiT, tyList, inR, B62, SZ]) (by simp [igSeq, fz, hasL, hasLs_strs]) (by omega) fun v hv => ?_
      have c1 := holdsC h (hm v hv).1 (by have := (hm v hv).2; omega)
      refine ⟨[s0, s1, s2, some (.lst (setD S), .sh), s4, some (.str w, .sh), some (.lst ((less w).map .str), .full), s7, s8, s9, s10, s11, some (.str v, .sh)], .sh, .sh, rfl, by rw [evx_lit]; rfl, ?_, rfl⟩
      generalize setD S = SD at *
      generalize (less w).map D.str = LD at *
      generalize callG f_holds = F1 at *
      simp [fB, runB_f, st0, evB_nl, evB_cn, seqO_nx, seqO_rt, seqO_bk, seqO_ct, seqO_none, finO_rt, finO_nx, evS_ifs, pickB_t, pickB_f, runP_some, evS.eq_1, evS.eq_2, evS.eq_3, evS.eq_4, evS.eq_5, evS.eq_6, evS.eq_7, evS.eq_11, evS.eq_12, evS.eq_13, evS.eq_14, evS.eq_15, evS.eq_16, evS.eq_17, evS.eq_18, evS.eq_19, evS.eq_20, evS.eq_21, evS.eq_22, evS.eq_23, evS.eq_24, evS.eq_25, evx_pr, evx_lst, evx_tup, evx_nil, evx_cons, evx_and, evx_or, evx_ife, evx_var, varO_some, evx_lit, prO_some, prO_none, lstO_some, tupO_some, consO_some, consO_none, andO_t, andO_f, orO_t, orO_f, ifO_t, ifO_f, runE_some, evM, evMs, bindP, bindPs, wipeE, nmz, rd, fz, isB, isFu, isSh, mkLst, mkTup, hasL, hasLs, itM, newLst, callG, isNonD, gLt, gGe, gLe, gGt, gLtA_ii, gGtA_ii, gLeA_ii, gGeA_ii, gIn2_cs, gSub, gMod, gDiv, gPow, gAddI, g2I, gAdd, gMul, gLen, gIdx, gMax2, gMin2, gIsi, gIsN, gNotN, tyD, isiT, tyList, inR, B62, SZ, c1]
    have ga := gAll_map (l := less w) (f := fun v => shld S v) (m := .sh)
    have c1 := holdsC h h1 (by omega)
    have key : shld S w = true → ((less w).all fun v => shld S v) = true := fun hs => by
      rw [List.all_eq_true]
      intro v hv
      obtain ⟨p, hp, k⟩ := shld_iff.mp hs
      exact shld_iff.mpr ⟨p, hp, mm_sub (less_sub hv) k⟩
    clear ih
    generalize (less w).map (fun v => D.bl (shld S v)) = BD at *
    generalize ((less w).all fun v => shld S v) = b at *
    generalize (less w).map D.str = LD at *
    generalize shld S w = a at *
    generalize setD S = SD at *
    generalize callG f_holds = F1 at *
    generalize e_law_6 = E at *
    cases a with
    | false => simp [fB, runB_f, st0, evB_nl, evB_cn, seqO_nx, seqO_rt, seqO_bk, seqO_ct, seqO_none, finO_rt, finO_nx, evS_ifs, pickB_t, pickB_f, runP_some, evS.eq_1, evS.eq_2, evS.eq_3, evS.eq_4, evS.eq_5, evS.eq_6, evS.eq_7, evS.eq_11, evS.eq_12, evS.eq_13, evS.eq_14, evS.eq_15, evS.eq_16, evS.eq_17, evS.eq_18, evS.eq_19, evS.eq_20, evS.eq_21, evS.eq_22, evS.eq_23, evS.eq_24, evS.eq_25, evx_pr, evx_lst, evx_tup, evx_nil, evx_cons, evx_and, evx_or, evx_ife, evx_var, varO_some, evx_lit, prO_some, prO_none, lstO_some, tupO_some, consO_some, consO_none, andO_t, andO_f, orO_t, orO_f, ifO_t, ifO_f, runE_some, evM, evMs, bindP, bindPs, wipeE, nmz, rd, fz, isB, isFu, isSh, mkLst, mkTup, hasL, hasLs, itM, newLst, callG, isNonD, gLt, gGe, gLe, gGt, gLtA_ii, gGtA_ii, gLeA_ii, gGeA_ii, gIn2_cs, gSub, gMod, gDiv, gPow, gAddI, g2I, gAdd, gMul, gLen, gIdx, gMax2, gMin2, gIsi, gIsN, gNotN, tyD, isiT, tyList, inR, B62, SZ, c1]
    | true =>
      have := key rfl
      subst this
      simp [fB, runB_f, st0, evB_nl, evB_cn, seqO_nx, seqO_rt, seqO_bk, seqO_ct, seqO_none, finO_rt, finO_nx, evS_ifs, pickB_t, pickB_f, runP_some, evS.eq_1, evS.eq_2, evS.eq_3, evS.eq_4, evS.eq_5, evS.eq_6, evS.eq_7, evS.eq_11, evS.eq_12, evS.eq_13, evS.eq_14, evS.eq_15, evS.eq_16, evS.eq_17, evS.eq_18, evS.eq_19, evS.eq_20, evS.eq_21, evS.eq_22, evS.eq_23, evS.eq_24, evS.eq_25, evx_pr, evx_lst, evx_tup, evx_nil, evx_cons, evx_and, evx_or, evx_ife, evx_var, varO_some, evx_lit, prO_some, prO_none, lstO_some, tupO_some, consO_some, consO_none, andO_t, andO_f, orO_t, orO_f, ifO_t, ifO_f, runE_some, evM, evMs, bindP, bindPs, wipeE, nmz, rd, fz, isB, isFu, isSh, mkLst, mkTup, hasL, hasLs, itM, newLst, callG, isNonD, gLt, gGe, gLe, gGt, gLtA_ii, gGtA_ii, gLeA_ii, gGeA_ii, gIn2_cs, gSub, gMod, gDiv, gPow, gAddI, g2I, gAdd, gMul, gLen, gIdx, gMax2, gMin2, gIsi, gIsN, gNotN, tyD, isiT, tyList, inR, B62, SZ, c1, e6, ga]
/-! #### the rows asked with -/
theorem fullEv {S : List Pc} (h : ckS S) (s0 s1 s2 s4 s5 s6 s7 s8 s9 s10 s11 s12 : Slot) : ev e_law_1 [s0, s1, s2, some (.lst (setD S), .sh), s4, s5, s6, s7, s8, s9, s10, s11, s12] = some (.lst ((S.map (fl 2)).map .str), .full) := by
  rw [List.map_map]
  refine ev_comp_map (as := [(.lst (setD S), .sh)]) (m := .sh) (st := true) S (fun p => .lst (p.map pD)) (D.str ∘ fl 2) (by simp [fB, runB_f, st0, evB_nl, evB_cn, seqO_nx, seqO_rt, seqO_bk, seqO_ct, seqO_none, finO_rt, finO_nx, evS_ifs, pickB_t, pickB_f, runP_some, evS.eq_1, evS.eq_2, evS.eq_3, evS.eq_4, evS.eq_5, evS.eq_6, evS.eq_7, evS.eq_11, evS.eq_12, evS.eq_13, evS.eq_14, evS.eq_15, evS.eq_16, evS.eq_17, evS.eq_18, evS.eq_19, evS.eq_20, evS.eq_21, evS.eq_22, evS.eq_23, evS.eq_24, evS.eq_25, evx_pr, evx_lst, evx_tup, evx_nil, evx_cons, evx_and, evx_or, evx_ife, evx_var, varO_some, evx_lit, prO_some, prO_none, lstO_some, tupO_some, consO_some, consO_none, andO_t, andO_f, orO_t, orO_f, ifO_t, ifO_f, runE_some, evM, evMs, bindP, bindPs, wipeE, nmz, rd, fz, isB, isFu, isSh, mkLst, mkTup, hasL, hasLs, itM, newLst, callG, isNonD, gLt, gGe, gLe, gGt, gLtA_ii, gGtA_ii, gLeA_ii, gGeA_ii, gIn2_cs, gSub, gMod, gDiv, gPow, gAddI, g2I, gAdd, gMul, gLen, gIdx, gMax2, gMin2, gIsi, gIsN, gNotN, tyD, isiT, tyList, inR, B62, SZ]) (igSeq_sh _) (by have := h.len; omega) fun p hp => ?_
  have h' : ∀ m n, callG f__law_full [(.lst (p.map pD), m), (.int 2, n)] = some (.str (fl 2 p), .sh) := fun m n => callG_fl (lawFull_eq (n := 2) (h.ok.ok p hp) (h.ok.few p hp) (by decide)) rfl
  refine ⟨[s0, s1, s2, some (.lst (setD S), .sh), s4, s5, s6, s7, s8, some (.lst (p.map pD), .sh), s10, s11, s12], .sh, .sh, rfl, by rw [evx_lit]; rfl, ?_, rfl⟩
  generalize setD S = SD at *
  generalize p.map pD = PD at *
  generalize callG f__law_full = F at *
  show ev (.pr F [(.var 9), (.lit (.int 2))]) _ = _
  simp [fB, runB_f, st0, evB_nl, evB_cn, seqO_nx, seqO_rt, seqO_bk, seqO_ct, seqO_none, finO_rt, finO_nx, evS_ifs, pickB_t, pickB_f, runP_some, evS.eq_1, evS.eq_2, evS.eq_3, evS.eq_4, evS.eq_5, evS.eq_6, evS.eq_7, evS.eq_11, evS.eq_12, evS.eq_13, evS.eq_14, evS.eq_15, evS.eq_16, evS.eq_17, evS.eq_18, evS.eq_19, evS.eq_20, evS.eq_21, evS.eq_22, evS.eq_23, evS.eq_24, evS.eq_25, evx_pr, evx_lst, evx_tup, evx_nil, evx_cons, evx_and, evx_or, evx_ife, evx_var, varO_some, evx_lit, prO_some, prO_none, lstO_some, tupO_some, consO_some, consO_none, andO_t, andO_f, orO_t, orO_f, ifO_t, ifO_f, runE_some, evM, evMs, bindP, bindPs, wipeE, nmz, rd, fz, isB, isFu, isSh, mkLst, mkTup, hasL, hasLs, itM, newLst, callG, isNonD, gLt, gGe, gLe, gGt, gLtA_ii, gGtA_ii, gLeA_ii, gGeA_ii, gIn2_cs, gSub, gMod, gDiv, gPow, gAddI, g2I, gAdd, gMul, gLen, gIdx, gMax2, gMin2, gIsi, gIsN, gNotN, tyD, isiT, tyList, inR, B62, SZ, h']
theorem revEv {S : List Pc} (h : ckS S) (s0 s1 s2 s4 s5 s6 s7 s8 s9 s10 s11 s12 : Slot) : ev e_law_2 [s0, s1, s2, some (.lst (setD S), .sh), s4, s5, s6, s7, s8, s9, s10, s11, s12] = some (.lst ((S.map fun p => (fl 1 p).reverse).map .str), .full) := by
  rw [List.map_map]
  refine ev_comp_map (as := [(.lst (setD S), .sh)]) (m := .sh) (st := true) S (fun p => .lst (p.map pD)) (D.str ∘ fun p => (fl 1 p).reverse) (by simp [fB, runB_f, st0, evB_nl, evB_cn, seqO_nx, seqO_rt, seqO_bk, seqO_ct, seqO_none, finO_rt, finO_nx, evS_ifs, pickB_t, pickB_f, runP_some, evS.eq_1, evS.eq_2, evS.eq_3, evS.eq_4, evS.eq_5, evS.eq_6, evS.eq_7, evS.eq_11, evS.eq_12, evS.eq_13, evS.eq_14, evS.eq_15, evS.eq_16, evS.eq_17, evS.eq_18, evS.eq_19, evS.eq_20, evS.eq_21, evS.eq_22, evS.eq_23, evS.eq_24, evS.eq_25, evx_pr, evx_lst, evx_tup, evx_nil, evx_cons, evx_and, evx_or, evx_ife, evx_var, varO_some, evx_lit, prO_some, prO_none, lstO_some, tupO_some, consO_some, consO_none, andO_t, andO_f, orO_t, orO_f, ifO_t, ifO_f, runE_some, evM, evMs, bindP, bindPs, wipeE, nmz, rd, fz, isB, isFu, isSh, mkLst, mkTup, hasL, hasLs, itM, newLst, callG, isNonD, gLt, gGe, gLe, gGt, gLtA_ii, gGtA_ii, gLeA_ii, gGeA_ii, gIn2_cs, gSub, gMod, gDiv, gPow, gAddI, g2I, gAdd, gMul, gLen, gIdx, gMax2, gMin2, gIsi, gIsN, gNotN, tyD, isiT, tyList, inR, B62, SZ]) (igSeq_sh _) (by have := h.len; omega) fun p hp => ?_
  have h' : ∀ m n, callG f__law_full [(.lst (p.map pD), m), (.int 1, n)] = some (.str (fl 1 p), .sh) := fun m n => callG_fl (lawFull_eq (n := 1) (h.ok.ok p hp) (h.ok.few p hp) (by decide)) rfl
  have hl := fl_len (n := 1) (h.ok.ok p hp)
  have hb : p.length * (26 * (1 + 1)) ≤ 100 * 52 := Nat.mul_le_mul (h.ok.few p hp) (by decide)
  have gr : ∀ m, gStep (-1) [(.str (fl 1 p), m)] = some (.str (fl 1 p).reverse, .sh) := fun m => by
    have : (fl 1 p).length ≤ SZ := Nat.le_trans (Nat.le_trans hl hb) (by decide)
    simp [gStep, stepL_rev, this]
  refine ⟨[s0, s1, s2, some (.lst (setD S), .sh), s4, s5, s6, s7, s8, some (.lst (p.map pD), .sh), s10, s11, s12], .sh, .sh, rfl, by rw [evx_lit]; rfl, ?_, rfl⟩
  generalize setD S = SD at *
  generalize p.map pD = PD at *
  generalize callG f__law_full = F at *
  generalize gStep (-1) = G1 at *
  show ev (.pr G1 [(.pr F [(.var 9), (.lit (.int 1))])]) _ = _
  simp [fB, runB_f, st0, evB_nl, evB_cn, seqO_nx, seqO_rt, seqO_bk, seqO_ct, seqO_none, finO_rt, finO_nx, evS_ifs, pickB_t, pickB_f, runP_some, evS.eq_1, evS.eq_2, evS.eq_3, evS.eq_4, evS.eq_5, evS.eq_6, evS.eq_7, evS.eq_11, evS.eq_12, evS.eq_13, evS.eq_14, evS.eq_15, evS.eq_16, evS.eq_17, evS.eq_18, evS.eq_19, evS.eq_20, evS.eq_21, evS.eq_22, evS.eq_23, evS.eq_24, evS.eq_25, evx_pr, evx_lst, evx_tup, evx_nil, evx_cons, evx_and, evx_or, evx_ife, evx_var, varO_some, evx_lit, prO_some, prO_none, lstO_some, tupO_some, consO_some, consO_none, andO_t, andO_f, orO_t, orO_f, ifO_t, ifO_f, runE_some, evM, evMs, bindP, bindPs, wipeE, nmz, rd, fz, isB, isFu, isSh, mkLst, mkTup, hasL, hasLs, itM, newLst, callG, isNonD, gLt, gGe, gLe, gGt, gLtA_ii, gGtA_ii, gLeA_ii, gGeA_ii, gIn2_cs, gSub, gMod, gDiv, gPow, gAddI, g2I, gAdd, gMul, gLen, gIdx, gMax2, gMin2, gIsi, gIsN, gNotN, tyD, isiT, tyList, inR, B62, SZ, h', gr]
theorem wordsEv {ns : List Int} (hb : ∀ z ∈ ns, Builtin.Int.intBits z ≤ 1048576) (b : Nat) (h1 : b < 90) (s1 s3 s4 s5 s6 s7 s8 s9 s11 s12 : Slot) : ∃ W : List (List Nat), W.length ≤ 4 ∧ (∀ w ∈ W, w.all isLow = true ∧ w.length ≤ 9) ∧
    ∀ s10, ev e_law_3 [some (.scr ns, .sh), s1, some (.int b, .sh), s3, s4, s5, s6, s7, s8, s9, s10, s11, s12] = some (.lst (W.map .str), .full) := by
  obtain ⟨W, k1, k2, k3⟩ := compGo_exf (p := .nm 10) (m := .sh) (c := ev (.lit (.bl true))) (e := ev (.pr (callG f__law_word) [(.var 0), (.pr gAdd [(.var 2), (.var 10)]), (.lit (.int 9)), (.lit (.int 4))])) (ρ := [some (.scr ns, .sh), s1, some (.int b, .sh), s3, s4, s5, s6, s7, s8, s9, none, s11, s12])
    (fun i : Nat => D.int i) (fun w : List Nat => D.str w) (fun _ w => w.all isLow = true ∧ w.length ≤ 9) (fun _ => rfl) (List.range 4) (fun i hi => by
      rw [List.mem_range] at hi
      obtain ⟨w, q1, q2, q3⟩ := word_eq hb (b + i) 9 4 (by omega) (by omega) (by omega) (by omega)
      rw [show ((b + i : Nat) : Int) = (b : Int) + (i : Int) by omega, show ((9 : Nat) : Int) = 9 from rfl, show ((4 : Nat) : Int) = 4 from rfl] at q3
      have q3' : ∀ m1 m2 m3 m4, callG f__law_word [(.scr ns, m1), (.int ((b : Int) + (i : Int)), m2), (.int 9, m3), (.int 4, m4)] = some (.str w, .sh) := fun m1 m2 m3 m4 => callG_fl q3 rfl
      have gi := gAdd_i2
      have hw : w.all isLow = true := by
        rw [List.all_eq_true]
        intro c hc
        have := q2 c hc
        simp only [isLow, Bool.and_eq_true, decide_eq_true_eq]
        omega
      refine ⟨[some (.scr ns, .sh), s1, some (.int b, .sh), s3, s4, s5, s6, s7, s8, s9, some (.int i, .sh), s11, s12], .sh, .sh, w, rfl, by rw [evx_lit]; rfl, ?_, hw, q1⟩
      clear q3
      generalize gAdd = G1 at *
      generalize callG f__law_word = F at *
      simp [fB, runB_f, st0, evB_nl, evB_cn, seqO_nx, seqO_rt, seqO_bk, seqO_ct, seqO_none, finO_rt, finO_nx, evS_ifs, pickB_t, pickB_f, runP_some, evS.eq_1, evS.eq_2, evS.eq_3, evS.eq_4, evS.eq_5, evS.eq_6, evS.eq_7, evS.eq_11, evS.eq_12, evS.eq_13, evS.eq_14, evS.eq_15, evS.eq_16, evS.eq_17, evS.eq_18, evS.eq_19, evS.eq_20, evS.eq_21, evS.eq_22, evS.eq_23, evS.eq_24, evS.eq_25, evx_pr, evx_lst, evx_tup, evx_nil, evx_cons, evx_and, evx_or, evx_ife, evx_var, varO_some, evx_lit, prO_some, prO_none, lstO_some, tupO_some, consO_some, consO_none, andO_t, andO_f, orO_t, orO_f, ifO_t, ifO_f, runE_some, evM, evMs, bindP, bindPs, wipeE, nmz, rd, fz, isB, isFu, isSh, mkLst, mkTup, hasL, hasLs, itM, newLst, callG, isNonD, gLt, gGe, gLe, gGt, gLtA_ii, gGtA_ii, gLeA_ii, gGeA_ii, gIn2_cs, gSub, gMod, gDiv, gPow, gAddI, g2I, gAdd, gMul, gLen, gIdx, gMax2, gMin2, gIsi, gIsN, gNotN, tyD, isiT, tyList, inR, B62, SZ, gi, q3'])
  refine ⟨W, by rw [k1, List.length_range]; omega, fun w hw => (k2 w hw).elim fun _ h => h.2, fun s10 => ?_⟩
  have hw : wipeE [some (.scr ns, .sh), s1, some (.int b, .sh), s3, s4, s5, s6, s7, s8, s9, s10, s11, s12] [10] = [some (.scr ns, .sh), s1, some (.int b, .sh), s3, s4, s5, s6, s7, s8, s9, none, s11, s12] := rfl
  rw [← rngD_nat, ← hw] at k3
  rw [e_law_3, ev_comp (as := [(.int 4, .sh)]) (by simp [fB, runB_f, st0, evB_nl, evB_cn, seqO_nx, seqO_rt, seqO_bk, seqO_ct, seqO_none, finO_rt, finO_nx, evS_ifs, pickB_t, pickB_f, runP_some, evS.eq_1, evS.eq_2, evS.eq_3, evS.eq_4, evS.eq_5, evS.eq_6, evS.eq_7, evS.eq_11, evS.eq_12, evS.eq_13, evS.eq_14, evS.eq_15, evS.eq_16, evS.eq_17, evS.eq_18, evS.eq_19, evS.eq_20, evS.eq_21, evS.eq_22, evS.eq_23, evS.eq_24, evS.eq_25, evx_pr, evx_lst, evx_tup, evx_nil, evx_cons, evx_and, evx_or, evx_ife, evx_var, varO_some, evx_lit, prO_some, prO_none, lstO_some, tupO_some, consO_some, consO_none, andO_t, andO_f, orO_t, orO_f, ifO_t, ifO_f, runE_some, evM, evMs, bindP, bindPs, wipeE, nmz, rd, fz, isB, isFu, isSh, mkLst, mkTup, hasL, hasLs, itM, newLst, callG, isNonD, gLt, gGe, gLe, gGt, gLtA_ii, gGtA_ii, gLeA_ii, gGeA_ii, gIn2_cs, gSub, gMod, gDiv, gPow, gAddI, g2I, gAdd, gMul, gLen, gIdx, gMax2, gMin2, gIsi, gIsN, gNotN, tyD, isiT, tyList, inR, B62, SZ]) (igR1_nat (r := 4) (by decide)) k3 (by rw [rngD_len]; omega)]
  exact mkLst_flatf (fun w : List Nat => D.str w) (fun _ => rfl) W
theorem wideEv {ns : List Int} (hb : ∀ z ∈ ns, Builtin.Int.intBits z ≤ 1048576) (b : Nat) (h1 : b < 90) (s1 s3 s4 s5 s6 s7 s8 s9 s11 s12 : Slot) : ∃ S : List Pc, ckS S ∧
    ∀ s10, ev e_law_7 [some (.scr ns, .sh), s1, some (.int b, .sh), s3, s4, s5, s6, s7, s8, s9, s10, s11, s12] = some (.lst (setD S), .full) := by
  obtain ⟨S, k1, k2, k3⟩ := compGo_ex (p := .nm 10) (m := .sh) (c := ev (.lit (.bl true))) (e := ev (.pr gSlH [(.pr gAdd [(.pr (callG f__law_piece) [(.var 0), (.pr gAdd [(.var 2), (.var 10)]), (.lit (.int 8))]), (.pr gMul [(.lst [(.tup [(.lit (.str [97, 110, 121])), (.lit (.str [120, 121, 122]))])]), (.lit (.int 8))])]), (.lit (.int 8))])) (ρ := [some (.scr ns, .sh), s1, some (.int b, .sh), s3, s4, s5, s6, s7, s8, s9, none, s11, s12])
    (fun i : Nat => D.int i) (fun p : Pc => D.lst (p.map pD)) (fun _ p => p.length ≤ 8 ∧ ∀ x ∈ p, gdP x) (fun _ => rfl) (List.range 6) (fun i hi => by
      rw [List.mem_range] at hi
      obtain ⟨p, q1, q2, q3⟩ := piece_eq hb (b + i) 8 (by omega) (by omega)
      rw [show ((b + i : Nat) : Int) = (b : Int) + (i : Int) by omega, show ((8 : Nat) : Int) = 8 from rfl] at q3
      have q3' : ∀ m1 m2 m3, callG f__law_piece [(.scr ns, m1), (.int ((b : Int) + (i : Int)), m2), (.int 8, m3)] = some (.lst (p.map pD), .full) := fun m1 m2 m3 => callG_fu q3 rfl
      have gi := gAdd_i2
      have gm : ∀ m n, gMul [(.lst [.tup [.str [97, 110, 121], .str [120, 121, 122]]], m), (.int 8, n)] = some (.lst ((List.replicate 8 ((true, [120, 121, 122]) : Prt)).map pD), .full) := fun m n => by rfl
      have ga := gAdd_ps p (List.replicate 8 ((true, [120, 121, 122]) : Prt)) (by simp; omega)
      have gs := slH_ps (p ++ List.replicate 8 ((true, [120, 121, 122]) : Prt))
      refine ⟨[some (.scr ns, .sh), s1, some (.int b, .sh), s3, s4, s5, s6, s7, s8, s9, some (.int i, .sh), s11, s12], .sh, (p ++ List.replicate 8 ((true, [120, 121, 122]) : Prt)).take 8, rfl, by rw [evx_lit]; rfl, ?_, by rw [List.length_take]; omega, fun x hx => ?_⟩
      · clear q3
        generalize ((p ++ List.replicate 8 ((true, [120, 121, 122]) : Prt)).take 8).map pD = X3 at *
        generalize (p ++ List.replicate 8 ((true, [120, 121, 122]) : Prt)).map pD = X2 at *
        generalize (List.replicate 8 ((true, [120, 121, 122]) : Prt)).map pD = X1 at *
        generalize p.map pD = PD at *
        generalize gAdd = G1 at *
        generalize gMul = G2 at *
        generalize gSlH = G3 at *
        generalize callG f__law_piece = F at *
        simp [fB, runB_f, st0, evB_nl, evB_cn, seqO_nx, seqO_rt, seqO_bk, seqO_ct, seqO_none, finO_rt, finO_nx, evS_ifs, pickB_t, pickB_f, runP_some, evS.eq_1, evS.eq_2, evS.eq_3, evS.eq_4, evS.eq_5, evS.eq_6, evS.eq_7, evS.eq_11, evS.eq_12, evS.eq_13, evS.eq_14, evS.eq_15, evS.eq_16, evS.eq_17, evS.eq_18, evS.eq_19, evS.eq_20, evS.eq_21, evS.eq_22, evS.eq_23, evS.eq_24, evS.eq_25, evx_pr, evx_lst, evx_tup, evx_nil, evx_cons, evx_and, evx_or, evx_ife, evx_var, varO_some, evx_lit, prO_some, prO_none, lstO_some, tupO_some, consO_some, consO_none, andO_t, andO_f, orO_t, orO_f, ifO_t, ifO_f, runE_some, evM, evMs, bindP, bindPs, wipeE, nmz, rd, fz, isB, isFu, isSh, mkLst, mkTup, hasL, hasLs, itM, newLst, callG, isNonD, gLt, gGe, gLe, gGt, gLtA_ii, gGtA_ii, gLeA_ii, gGeA_ii, gIn2_cs, gSub, gMod, gDiv, gPow, gAddI, g2I, gAdd, gMul, gLen, gIdx, gMax2, gMin2, gIsi, gIsN, gNotN, tyD, isiT, tyList, inR, B62, SZ, gi, q3', gm, ga, gs, hasLs]
      · have hx := List.mem_of_mem_take hx
        rcases List.mem_append.mp hx with hx | hx
        · exact drw_gd (q2 x hx)
        · rw [List.eq_of_mem_replicate hx]
          exact .inr ⟨rfl, by decide, by decide, by decide, by decide⟩)
  refine ⟨S, ⟨by rw [k1, List.length_range]; omega, fun p hp => (k2 p hp).elim fun _ h => h.2.1, fun p hp => (k2 p hp).elim fun _ h => h.2.2⟩, fun s10 => ?_⟩
  have hw : wipeE [some (.scr ns, .sh), s1, some (.int b, .sh), s3, s4, s5, s6, s7, s8, s9, s10, s11, s12] [10] = [some (.scr ns, .sh), s1, some (.int b, .sh), s3, s4, s5, s6, s7, s8, s9, none, s11, s12] := rfl
  rw [← rngD_nat, ← hw] at k3
  rw [e_law_7, ev_comp (as := [(.int 6, .sh)]) (by simp [fB, runB_f, st0, evB_nl, evB_cn, seqO_nx, seqO_rt, seqO_bk, seqO_ct, seqO_none, finO_rt, finO_nx, evS_ifs, pickB_t, pickB_f, runP_some, evS.eq_1, evS.eq_2, evS.eq_3, evS.eq_4, evS.eq_5, evS.eq_6, evS.eq_7, evS.eq_11, evS.eq_12, evS.eq_13, evS.eq_14, evS.eq_15, evS.eq_16, evS.eq_17, evS.eq_18, evS.eq_19, evS.eq_20, evS.eq_21, evS.eq_22, evS.eq_23, evS.eq_24, evS.eq_25, evx_pr, evx_lst, evx_tup, evx_nil, evx_cons, evx_and, evx_or, evx_ife, evx_var, varO_some, evx_lit, prO_some, prO_none, lstO_some, tupO_some, consO_some, consO_none, andO_t, andO_f, orO_t, orO_f, ifO_t, ifO_f, runE_some, evM, evMs, bindP, bindPs, wipeE, nmz, rd, fz, isB, isFu, isSh, mkLst, mkTup, hasL, hasLs, itM, newLst, callG, isNonD, gLt, gGe, gLe, gGt, gLtA_ii, gGtA_ii, gLeA_ii, gGeA_ii, gIn2_cs, gSub, gMod, gDiv, gPow, gAddI, g2I, gAdd, gMul, gLen, gIdx, gMax2, gMin2, gIsi, gIsN, gNotN, tyD, isiT, tyList, inR, B62, SZ]) (igR1_nat (r := 6) (by decide)) k3 (by rw [rngD_len]; omega)]
  exact mkLst_full (fun p : Pc => D.lst (p.map pD)) (fun _ => rfl) S
theorem rightC {S : List Pc} (h : ckS S) {R : List (List Nat)} (hR : okR R) (m n : Mo) : callG f__law_right [(.lst (setD S), m), (.lst (R.map .str), n)] = some (.bl true, .sh) := callG_fl (right_eq h hR) rfl

end K19
namespace K19
open PySem SW
theorem okR_near : ∀ w ∈ nearL, w.all isLow = true ∧ w.length ≤ 10000 := fun w hw => by
  have h := List.all_eq_true.mp (show nearL.all (fun w => w.all isLow && decide (w.length ≤ 2)) = true by decide) w hw
  simp only [Bool.and_eq_true, decide_eq_true_eq] at h
  exact ⟨h.1, by omega⟩
def rowsL (S : List Pc) (W : List (List Nat)) : List (List Nat) := nearL ++ S.map (fl 2) ++ (S.map fun p => (fl 1 p).reverse) ++ W ++ [[122], [97, 98, 122]]
theorem rowsL_ok {S : List Pc} (h : ckS S) {W : List (List Nat)} (hW : W.length ≤ 4) (hw : ∀ w ∈ W, w.all isLow = true ∧ w.length ≤ 9) : okR (rowsL S W) := by
  have hl := h.len
  have hf : ∀ n, n ≤ 2 → ∀ p ∈ S, (fl n p).all isLow = true ∧ (fl n p).length ≤ 10000 := fun n hn p hp => by
    refine ⟨okP_fl (h.ok.ok p hp), ?_⟩
    have h1 := fl_len (n := n) (h.ok.ok p hp)
    have h2 : p.length * (26 * (n + 1)) ≤ 8 * (26 * 3) := Nat.mul_le_mul (h.few p hp) (by omega)
    omega
  refine ⟨by simp [rowsL, nearL]; omega, fun w hm => ?_⟩
  rcases List.mem_append.mp hm with hm | hm
  · rcases List.mem_append.mp hm with hm | hm
    · rcases List.mem_append.mp hm with hm | hm
      · rcases List.mem_append.mp hm with hm | hm
        · exact okR_near w hm
        · obtain ⟨p, hp, rfl⟩ := List.mem_map.mp hm
          exact hf 2 (by omega) p hp
      · obtain ⟨p, hp, rfl⟩ := List.mem_map.mp hm
        have := hf 1 (by omega) p hp
        rw [List.all_reverse, List.length_reverse]
        exact this
    · have := hw w hm
      exact ⟨this.1, by omega⟩
  · simp only [List.mem_cons, List.not_mem_nil, or_false] at hm
    rcases hm with rfl | rfl <;> exact ⟨by decide, by decide⟩
theorem okR_app {A B : List (List Nat)} (hA : A.length ≤ 500 ∧ ∀ w ∈ A, w.all isLow = true ∧ w.length ≤ 10000) (hB : B.length ≤ 500 ∧ ∀ w ∈ B, w.all isLow = true ∧ w.length ≤ 10000) : okR (A ++ B) := ⟨by simp; omega, fun w hw => by
  rcases List.mem_append.mp hw with hw | hw
  · exact hA.2 w hw
  · exact hB.2 w hw⟩
theorem lawBody {ns : List Int} (hb : ∀ z ∈ ns, Builtin.Int.intBits z ≤ 1048576) (b : Nat) (h1 : b < 90) (s3 s4 s5 s6 s7 s8 s9 s10 s11 s12 : Slot) : ∃ t3 t4 t5 t6 t7 t8 t9 t10 t11 t12,
    evB FUEL l_law_2 [some (.scr ns, .sh), some (.lst (nearL.map .str), .full), some (.int b, .sh), s3, s4, s5, s6, s7, s8, s9, s10, s11, s12] = some (.nx [some (.scr ns, .sh), some (.lst (nearL.map .str), .full), some (.int b, .sh), t3, t4, t5, t6, t7, t8, t9, t10, t11, t12]) := by
  obtain ⟨S, k1, k2, eS⟩ := set_eq hb b 4 5 (by omega) (by omega) (by omega)
  rw [show ((4 : Nat) : Int) = 4 from rfl, show ((5 : Nat) : Int) = 5 from rfl] at eS
  have hS : ckS S := ⟨by omega, fun p hp => by have := (k2 p hp).1; omega, fun p hp x hx => drw_gd ((k2 p hp).2 x hx)⟩
  have eS' : ∀ m1 m2 m3 m4, callG f__law_set [(.scr ns, m1), (.int b, m2), (.int 4, m3), (.int 5, m4)] = some (.lst (setD S), .full) := fun m1 m2 m3 m4 => callG_fu eS rfl
  obtain ⟨p, p1, p2, ep⟩ := piece_eq hb b 4 (by omega) (by omega)
  obtain ⟨q, q1, q2, eq⟩ := piece_eq hb (b + 3) 4 (by omega) (by omega)
  rw [show ((4 : Nat) : Int) = 4 from rfl] at ep eq
  rw [show ((b + 3 : Nat) : Int) = (b : Int) + 3 by omega] at eq
  have ep' : ∀ m1 m2 m3, callG f__law_piece [(.scr ns, m1), (.int b, m2), (.int 4, m3)] = some (.lst (p.map pD), .full) := fun m1 m2 m3 => callG_fu ep rfl
  have eq' : ∀ m1 m2 m3, callG f__law_piece [(.scr ns, m1), (.int ((b : Int) + 3), m2), (.int 4, m3)] = some (.lst (q.map pD), .full) := fun m1 m2 m3 => callG_fu eq rfl
  have gi := gAdd_i2
  have hl := hS.len
  obtain ⟨W, w1, w2, eW⟩ := wordsEv hb b h1 (some (.lst (nearL.map .str), .full)) (some (.lst (setD S), .sh)) (some (.lst ((nearL ++ S.map (fl 2) ++ S.map fun p => (fl 1 p).reverse).map .str), .full)) s5 s6 s7 s8 s9 s11 s12
  have hR := rowsL_ok hS w1 w2
  generalize hRR : rowsL S W = R at *
  obtain ⟨t5, t6, eg⟩ := lessGo hS (some (.scr ns, .sh)) (some (.lst (nearL.map .str), .full)) (some (.int b, .sh)) (some (.lst (R.map .str), .sh)) s7 s8 s9 s10 s11 s12 R s5 s6 hR.2
  have hq : evS FUEL q_law_1 [some (.scr ns, .sh), some (.lst (nearL.map .str), .full), some (.int b, .sh), some (.lst (setD S), .sh), some (.lst (R.map .str), .sh), s5, s6, s7, s8, s9, s10, s11, s12] =
      some (.nx [some (.scr ns, .sh), some (.lst (nearL.map .str), .full), some (.int b, .sh), some (.lst (setD S), .sh), some (.lst (R.map .str), .sh), t5, t6, s7, s8, s9, s10, s11, s12]) := by
    rw [q_law_1, evS_fors (as := [(.lst (R.map .str), .sh)]) (ds := R.map .str) (m := .sh) (by simp [fB, runB_f, st0, evB_nl, evB_cn, seqO_nx, seqO_rt, seqO_bk, seqO_ct, seqO_none, finO_rt, finO_nx, evS_ifs, pickB_t, pickB_f, runP_some, evS.eq_1, evS.eq_2, evS.eq_3, evS.eq_4, evS.eq_5, evS.eq_6, evS.eq_7, evS.eq_11, evS.eq_12, evS.eq_13, evS.eq_14, evS.eq_15, evS.eq_16, evS.eq_17, evS.eq_18, evS.eq_19, evS.eq_20, evS.eq_21, evS.eq_22, evS.eq_23, evS.eq_24, evS.eq_25, evx_pr, evx_lst, evx_tup, evx_nil, evx_cons, evx_and, evx_or, evx_ife, evx_var, varO_some, evx_lit, prO_some, prO_none, lstO_some, tupO_some, consO_some, consO_none, andO_t, andO_f, orO_t, orO_f, ifO_t, ifO_f, runE_some, evM, evMs, bindP, bindPs, wipeE, nmz, rd, fz, isB, isFu, isSh, mkLst, mkTup, hasL, hasLs, itM, newLst, callG, isNonD, gLt, gGe, gLe, gGt, gLtA_ii, gGtA_ii, gLeA_ii, gGeA_ii, gIn2_cs, gSub, gMod, gDiv, gPow, gAddI, g2I, gAdd, gMul, gLen, gIdx, gMax2, gMin2, gIsi, gIsN, gNotN, tyD, isiT, tyList, inR, B62, SZ]) (igSeq_sh _)]
    exact eg
  obtain ⟨V, hV, eV⟩ := wideEv hb b h1 (some (.lst (nearL.map .str), .full)) (some (.lst (setD S), .sh)) (some (.lst (R.map .str), .sh)) t5 t6 s7 s8 s9 s11 s12
  have hRl : (cutL R (some (-5)) none).length ≤ R.length := cutL_len _ _ _
  have hRb : R.length ≤ 100 := by rw [← hRR]; simp [rowsL, nearL]; omega
  have hRm : ∀ w ∈ cutL R (some (-5)) none, w.all isLow = true ∧ w.length ≤ 10000 := fun w hw => hR.2 w (cutL_mem w hw)
  have hN4 : ∀ w ∈ nearL ++ [[122, 121, 120], [97, 120], [120, 97], [109]], w.all isLow = true ∧ w.length ≤ 10000 := fun w hw => by
    rcases List.mem_append.mp hw with hw | hw
    · exact okR_near w hw
    · simp only [List.mem_cons, List.not_mem_nil, or_false] at hw
      rcases hw with rfl | rfl | rfl | rfl <;> exact ⟨by decide, by decide⟩
  have hR2 : okR (nearL ++ [[122, 121, 120], [97, 120], [120, 97], [109]] ++ cutL R (some (-5)) none) := okR_app ⟨by simp [nearL], hN4⟩ ⟨by omega, hRm⟩
  have hR3 : okR (nearL ++ cutL R (some (-5)) none) := okR_app ⟨by simp [nearL], okR_near⟩ ⟨by omega, hRm⟩
  have hL : ckS [(p ++ q).take 8] := ⟨by simp, fun r hr => by simp only [List.mem_singleton] at hr; subst hr; rw [List.length_take]; omega, fun r hr x hx => by
    simp only [List.mem_singleton] at hr
    subst hr
    rcases List.mem_append.mp (List.mem_of_mem_take hx) with hx | hx
    · exact drw_gd (p2 x hx)
    · exact drw_gd (q2 x hx)⟩
  have r1 := rightC hS hR
  have r2 := rightC hV hR2
  have r3 := rightC hL hR3
  have sl := slL_strs R (-5)
  unfold l_law_2
  refine ⟨some (.lst (setD S), .sh), some (.lst (R.map .str), .sh), t5, t6, some (.lst (setD V), .full), some (.lst ((p ++ q).map pD), .full), s9, s10, s11, s12, ?_⟩
  refine (bSet (d := .lst (setD S)) (m := .full) (by
    generalize setD S = SD at *
    generalize callG f__law_set = F at *
    simp [fB, runB_f, st0, evB_nl, evB_cn, seqO_nx, seqO_rt, seqO_bk, seqO_ct, seqO_none, finO_rt, finO_nx, evS_ifs, pickB_t, pickB_f, runP_some, evS.eq_1, evS.eq_2, evS.eq_3, evS.eq_4, evS.eq_5, evS.eq_6, evS.eq_7, evS.eq_11, evS.eq_12, evS.eq_13, evS.eq_14, evS.eq_15, evS.eq_16, evS.eq_17, evS.eq_18, evS.eq_19, evS.eq_20, evS.eq_21, evS.eq_22, evS.eq_23, evS.eq_24, evS.eq_25, evx_pr, evx_lst, evx_tup, evx_nil, evx_cons, evx_and, evx_or, evx_ife, evx_var, varO_some, evx_lit, prO_some, prO_none, lstO_some, tupO_some, consO_some, consO_none, andO_t, andO_f, orO_t, orO_f, ifO_t, ifO_f, runE_some, evM, evMs, bindP, bindPs, wipeE, nmz, rd, fz, isB, isFu, isSh, mkLst, mkTup, hasL, hasLs, itM, newLst, callG, isNonD, gLt, gGe, gLe, gGt, gLtA_ii, gGtA_ii, gLeA_ii, gGeA_ii, gIn2_cs, gSub, gMod, gDiv, gPow, gAddI, g2I, gAdd, gMul, gLen, gIdx, gMax2, gMin2, gIsi, gIsN, gNotN, tyD, isiT, tyList, inR, B62, SZ, eS']) (by simp)).trans ?_
  simp only [List.set_cons_zero, List.set_cons_succ]
  refine (bFrz (i := 3) (m := .full) (d := .lst (setD S)) (by simp) (by decide) (by decide)).trans ?_
  simp only [List.set_cons_zero, List.set_cons_succ]
  refine (bSet (d := .lst ((nearL ++ S.map (fl 2)).map .str)) (m := .full) (by
    have e := fullEv hS (some (.scr ns, .sh)) (some (.lst (nearL.map .str), .full)) (some (.int b, .sh)) s4 s5 s6 s7 s8 s9 s10 s11 s12
    have ga := fun m n => gAdd_strs (l := nearL) (l' := S.map (fl 2)) (m := m) (n := n) (by simp [nearL]; omega)
    clear r1 r2 r3 eg hq eV eW
    generalize (nearL ++ S.map (fl 2)).map D.str = X2 at *
    generalize (S.map (fl 2)).map D.str = X1 at *
    generalize nearL.map D.str = X0 at *
    generalize setD S = SD at *
    generalize e_law_1 = E at *
    generalize gAdd = G1 at *
    simp [fB, runB_f, st0, evB_nl, evB_cn, seqO_nx, seqO_rt, seqO_bk, seqO_ct, seqO_none, finO_rt, finO_nx, evS_ifs, pickB_t, pickB_f, runP_some, evS.eq_1, evS.eq_2, evS.eq_3, evS.eq_4, evS.eq_5, evS.eq_6, evS.eq_7, evS.eq_11, evS.eq_12, evS.eq_13, evS.eq_14, evS.eq_15, evS.eq_16, evS.eq_17, evS.eq_18, evS.eq_19, evS.eq_20, evS.eq_21, evS.eq_22, evS.eq_23, evS.eq_24, evS.eq_25, evx_pr, evx_lst, evx_tup, evx_nil, evx_cons, evx_and, evx_or, evx_ife, evx_var, varO_some, evx_lit, prO_some, prO_none, lstO_some, tupO_some, consO_some, consO_none, andO_t, andO_f, orO_t, orO_f, ifO_t, ifO_f, runE_some, evM, evMs, bindP, bindPs, wipeE, nmz, rd, fz, isB, isFu, isSh, mkLst, mkTup, hasL, hasLs, itM, newLst, callG, isNonD, gLt, gGe, gLe, gGt, gLtA_ii, gGtA_ii, gLeA_ii, gGeA_ii, gIn2_cs, gSub, gMod, gDiv, gPow, gAddI, g2I, gAdd, gMul, gLen, gIdx, gMax2, gMin2, gIsi, gIsN, gNotN, tyD, isiT, tyList, inR, B62, SZ, e, ga]) (by simp)).trans ?_
  simp only [List.set_cons_zero, List.set_cons_succ]
  refine (bSet (d := .lst ((nearL ++ S.map (fl 2) ++ S.map fun p => (fl 1 p).reverse).map .str)) (m := .full) (by
    have e := revEv hS (some (.scr ns, .sh)) (some (.lst (nearL.map .str), .full)) (some (.int b, .sh)) (some (.lst ((nearL ++ S.map (fl 2)).map .str), .full)) s5 s6 s7 s8 s9 s10 s11 s12
    have ga := fun m n => gAdd_strs (l := nearL ++ S.map (fl 2)) (l' := S.map fun p => (fl 1 p).reverse) (m := m) (n := n) (by simp [nearL]; omega)
    clear r1 r2 r3 eg hq eV eW
    generalize (nearL ++ S.map (fl 2) ++ S.map fun p => (fl 1 p).reverse).map D.str = X3 at *
    generalize (nearL ++ S.map (fl 2)).map D.str = X2 at *
    generalize (S.map fun p => (fl 1 p).reverse).map D.str = X1 at *
    generalize nearL.map D.str = X0 at *
    generalize setD S = SD at *
    generalize e_law_2 = E at *
    generalize gAdd = G1 at *
    simp [fB, runB_f, st0, evB_nl, evB_cn, seqO_nx, seqO_rt, seqO_bk, seqO_ct, seqO_none, finO_rt, finO_nx, evS_ifs, pickB_t, pickB_f, runP_some, evS.eq_1, evS.eq_2, evS.eq_3, evS.eq_4, evS.eq_5, evS.eq_6, evS.eq_7, evS.eq_11, evS.eq_12, evS.eq_13, evS.eq_14, evS.eq_15, evS.eq_16, evS.eq_17, evS.eq_18, evS.eq_19, evS.eq_20, evS.eq_21, evS.eq_22, evS.eq_23, evS.eq_24, evS.eq_25, evx_pr, evx_lst, evx_tup, evx_nil, evx_cons, evx_and, evx_or, evx_ife, evx_var, varO_some, evx_lit, prO_some, prO_none, lstO_some, tupO_some, consO_some, consO_none, andO_t, andO_f, orO_t, orO_f, ifO_t, ifO_f, runE_some, evM, evMs, bindP, bindPs, wipeE, nmz, rd, fz, isB, isFu, isSh, mkLst, mkTup, hasL, hasLs, itM, newLst, callG, isNonD, gLt, gGe, gLe, gGt, gLtA_ii, gGtA_ii, gLeA_ii, gGeA_ii, gIn2_cs, gSub, gMod, gDiv, gPow, gAddI, g2I, gAdd, gMul, gLen, gIdx, gMax2, gMin2, gIsi, gIsN, gNotN, tyD, isiT, tyList, inR, B62, SZ, e, ga]) (by simp)).trans ?_
  simp only [List.set_cons_zero, List.set_cons_succ]
  refine (bSet (d := .lst (R.map .str)) (m := .full) (by
    have e := eW s10
    have ga := fun m n => gAdd_strs (l := nearL ++ S.map (fl 2) ++ S.map fun p => (fl 1 p).reverse) (l' := W) (m := m) (n := n) (by simp [nearL]; omega)
    have ga2 := fun m n => gAdd_strs (l := nearL ++ S.map (fl 2) ++ (S.map fun p => (fl 1 p).reverse) ++ W) (l' := [[122], [97, 98, 122]]) (m := m) (n := n) (by simp [nearL]; omega)
    rw [show nearL ++ S.map (fl 2) ++ (S.map fun p => (fl 1 p).reverse) ++ W ++ [[122], [97, 98, 122]] = R from hRR, show ([[122], [97, 98, 122]] : List (List Nat)).map D.str = [.str [122], .str [97, 98, 122]] from rfl] at ga2
    clear r1 r2 r3 eg hq eV eW
    generalize R.map D.str = X4 at *
    generalize (nearL ++ S.map (fl 2) ++ (S.map fun p => (fl 1 p).reverse) ++ W).map D.str = X3 at *
    generalize (nearL ++ S.map (fl 2) ++ S.map fun p => (fl 1 p).reverse).map D.str = X2 at *
    generalize W.map D.str = X1 at *
    generalize nearL.map D.str = X0 at *
    generalize setD S = SD at *
    generalize e_law_3 = E at *
    generalize gAdd = G1 at *
    simp [fB, runB_f, st0, evB_nl, evB_cn, seqO_nx, seqO_rt, seqO_bk, seqO_ct, seqO_none, finO_rt, finO_nx, evS_ifs, pickB_t, pickB_f, runP_some, evS.eq_1, evS.eq_2, evS.eq_3, evS.eq_4, evS.eq_5, evS.eq_6, evS.eq_7, evS.eq_11, evS.eq_12, evS.eq_13, evS.eq_14, evS.eq_15, evS.eq_16, evS.eq_17, evS.eq_18, evS.eq_19, evS.eq_20, evS.eq_21, evS.eq_22, evS.eq_23, evS.eq_24, evS.eq_25, evx_pr, evx_lst, evx_tup, evx_nil, evx_cons, evx_and, evx_or, evx_ife, evx_var, varO_some, evx_lit, prO_some, prO_none, lstO_some, tupO_some, consO_some, consO_none, andO_t, andO_f, orO_t, orO_f, ifO_t, ifO_f, runE_some, evM, evMs, bindP, bindPs, wipeE, nmz, rd, fz, isB, isFu, isSh, mkLst, mkTup, hasL, hasLs, itM, newLst, callG, isNonD, gLt, gGe, gLe, gGt, gLtA_ii, gGtA_ii, gLeA_ii, gGeA_ii, gIn2_cs, gSub, gMod, gDiv, gPow, gAddI, g2I, gAdd, gMul, gLen, gIdx, gMax2, gMin2, gIsi, gIsN, gNotN, tyD, isiT, tyList, inR, B62, SZ, e, ga, ga2, hasLs]) (by simp)).trans ?_
  simp only [List.set_cons_zero, List.set_cons_succ]
  refine (bNx ((sIfF (m := .sh) ?_).trans (bNil _ _))).trans ?_
  · clear r2 r3 eg hq eV eW
    generalize R.map D.str = X4 at *
    generalize setD S = SD at *
    generalize nearL.map D.str = X0 at *
    generalize callG f__law_right = F at *
    simp [fB, runB_f, st0, evB_nl, evB_cn, seqO_nx, seqO_rt, seqO_bk, seqO_ct, seqO_none, finO_rt, finO_nx, evS_ifs, pickB_t, pickB_f, runP_some, evS.eq_1, evS.eq_2, evS.eq_3, evS.eq_4, evS.eq_5, evS.eq_6, evS.eq_7, evS.eq_11, evS.eq_12, evS.eq_13, evS.eq_14, evS.eq_15, evS.eq_16, evS.eq_17, evS.eq_18, evS.eq_19, evS.eq_20, evS.eq_21, evS.eq_22, evS.eq_23, evS.eq_24, evS.eq_25, evx_pr, evx_lst, evx_tup, evx_nil, evx_cons, evx_and, evx_or, evx_ife, evx_var, varO_some, evx_lit, prO_some, prO_none, lstO_some, tupO_some, consO_some, consO_none, andO_t, andO_f, orO_t, orO_f, ifO_t, ifO_f, runE_some, evM, evMs, bindP, bindPs, wipeE, nmz, rd, fz, isB, isFu, isSh, mkLst, mkTup, hasL, hasLs, itM, newLst, callG, isNonD, gLt, gGe, gLe, gGt, gLtA_ii, gGtA_ii, gLeA_ii, gGeA_ii, gIn2_cs, gSub, gMod, gDiv, gPow, gAddI, g2I, gAdd, gMul, gLen, gIdx, gMax2, gMin2, gIsi, gIsN, gNotN, tyD, isiT, tyList, inR, B62, SZ, r1]
  refine (bFrz (i := 4) (m := .full) (d := .lst (R.map .str)) (by simp) (by decide) (by decide)).trans ?_
  simp only [List.set_cons_zero, List.set_cons_succ]
  refine (bNx hq).trans ?_
  refine (bSet (eV s10) (by simp)).trans ?_
  simp only [List.set_cons_zero, List.set_cons_succ]
  refine (bNx ((sIfF (m := .sh) ?_).trans (bNil _ _))).trans ?_
  · have a1 := fun m n => gAdd_strs (l := nearL) (l' := [[122, 121, 120], [97, 120], [120, 97], [109]]) (m := m) (n := n) (by simp [nearL])
    have a2 := fun m n => gAdd_strs (l := nearL ++ [[122, 121, 120], [97, 120], [120, 97], [109]]) (l' := cutL R (some (-5)) none) (m := m) (n := n) (by simp [nearL]; omega)
    rw [show ([[122, 121, 120], [97, 120], [120, 97], [109]] : List (List Nat)).map D.str = [.str [122, 121, 120], .str [97, 120], .str [120, 97], .str [109]] from rfl] at a1
    clear r1 r3 eg hq eV eW
    generalize (nearL ++ [[122, 121, 120], [97, 120], [120, 97], [109]] ++ cutL R (some (-5)) none).map D.str = X3 at *
    generalize (nearL ++ [[122, 121, 120], [97, 120], [120, 97], [109]]).map D.str = X2 at *
    generalize (cutL R (some (-5)) none).map D.str = X1 at *
    generalize R.map D.str = X4 at *
    generalize nearL.map D.str = X0 at *
    generalize setD S = SD at *
    generalize setD V = VD at *
    generalize gAdd = G1 at *
    generalize gSlL = G2 at *
    generalize callG f__law_right = F at *
    simp [fB, runB_f, st0, evB_nl, evB_cn, seqO_nx, seqO_rt, seqO_bk, seqO_ct, seqO_none, finO_rt, finO_nx, evS_ifs, pickB_t, pickB_f, runP_some, evS.eq_1, evS.eq_2, evS.eq_3, evS.eq_4, evS.eq_5, evS.eq_6, evS.eq_7, evS.eq_11, evS.eq_12, evS.eq_13, evS.eq_14, evS.eq_15, evS.eq_16, evS.eq_17, evS.eq_18, evS.eq_19, evS.eq_20, evS.eq_21, evS.eq_22, evS.eq_23, evS.eq_24, evS.eq_25, evx_pr, evx_lst, evx_tup, evx_nil, evx_cons, evx_and, evx_or, evx_ife, evx_var, varO_some, evx_lit, prO_some, prO_none, lstO_some, tupO_some, consO_some, consO_none, andO_t, andO_f, orO_t, orO_f, ifO_t, ifO_f, runE_some, evM, evMs, bindP, bindPs, wipeE, nmz, rd, fz, isB, isFu, isSh, mkLst, mkTup, hasL, hasLs, itM, newLst, callG, isNonD, gLt, gGe, gLe, gGt, gLtA_ii, gGtA_ii, gLeA_ii, gGeA_ii, gIn2_cs, gSub, gMod, gDiv, gPow, gAddI, g2I, gAdd, gMul, gLen, gIdx, gMax2, gMin2, gIsi, gIsN, gNotN, tyD, isiT, tyList, inR, B62, SZ, r2, a1, a2, sl, hasLs]
  refine (bSet (d := .lst ((p ++ q).map pD)) (m := .full) (by
    have ga := gAdd_ps p q (by omega)
    clear r1 r2 r3 eg hq eV eW
    generalize (p ++ q).map pD = X3 at *
    generalize p.map pD = X1 at *
    generalize q.map pD = X2 at *
    generalize gAdd = G1 at *
    generalize callG f__law_piece = F at *
    simp [fB, runB_f, st0, evB_nl, evB_cn, seqO_nx, seqO_rt, seqO_bk, seqO_ct, seqO_none, finO_rt, finO_nx, evS_ifs, pickB_t, pickB_f, runP_some, evS.eq_1, evS.eq_2, evS.eq_3, evS.eq_4, evS.eq_5, evS.eq_6, evS.eq_7, evS.eq_11, evS.eq_12, evS.eq_13, evS.eq_14, evS.eq_15, evS.eq_16, evS.eq_17, evS.eq_18, evS.eq_19, evS.eq_20, evS.eq_21, evS.eq_22, evS.eq_23, evS.eq_24, evS.eq_25, evx_pr, evx_lst, evx_tup, evx_nil, evx_cons, evx_and, evx_or, evx_ife, evx_var, varO_some, evx_lit, prO_some, prO_none, lstO_some, tupO_some, consO_some, consO_none, andO_t, andO_f, orO_t, orO_f, ifO_t, ifO_f, runE_some, evM, evMs, bindP, bindPs, wipeE, nmz, rd, fz, isB, isFu, isSh, mkLst, mkTup, hasL, hasLs, itM, newLst, callG, isNonD, gLt, gGe, gLe, gGt, gLtA_ii, gGtA_ii, gLeA_ii, gGeA_ii, gIn2_cs, gSub, gMod, gDiv, gPow, gAddI, g2I, gAdd, gMul, gLen, gIdx, gMax2, gMin2, gIsi, gIsN, gNotN, tyD, isiT, tyList, inR, B62, SZ, ga, gi, ep', eq']) (by simp)).trans ?_
  simp only [List.set_cons_zero, List.set_cons_succ]
  refine (bNx ((sIfF (m := .sh) ?_).trans (bNil _ _))).trans (bNil _ _)
  have a2 := fun m n => gAdd_strs (l := nearL) (l' := cutL R (some (-5)) none) (m := m) (n := n) (by simp [nearL]; omega)
  have gs := slH_ps (p ++ q)
  rw [show setD [(p ++ q).take 8] = [.lst (((p ++ q).take 8).map pD)] from rfl] at r3
  clear r1 r2 eg hq eV eW
  generalize (nearL ++ cutL R (some (-5)) none).map D.str = X3 at *
  generalize (cutL R (some (-5)) none).map D.str = X1 at *
  generalize R.map D.str = X4 at *
  generalize nearL.map D.str = X0 at *
  generalize ((p ++ q).take 8).map pD = X5 at *
  generalize (p ++ q).map pD = X6 at *
  generalize setD S = SD at *
  generalize setD V = VD at *
  generalize gAdd = G1 at *
  generalize gSlL = G2 at *
  generalize gSlH = G3 at *
  generalize callG f__law_right = F at *
  simp [fB, runB_f, st0, evB_nl, evB_cn, seqO_nx, seqO_rt, seqO_bk, seqO_ct, seqO_none, finO_rt, finO_nx, evS_ifs, pickB_t, pickB_f, runP_some, evS.eq_1, evS.eq_2, evS.eq_3, evS.eq_4, evS.eq_5, evS.eq_6, evS.eq_7, evS.eq_11, evS.eq_12, evS.eq_13, evS.eq_14, evS.eq_15, evS.eq_16, evS.eq_17, evS.eq_18, evS.eq_19, evS.eq_20, evS.eq_21, evS.eq_22, evS.eq_23, evS.eq_24, evS.eq_25, evx_pr, evx_lst, evx_tup, evx_nil, evx_cons, evx_and, evx_or, evx_ife, evx_var, varO_some, evx_lit, prO_some, prO_none, lstO_some, tupO_some, consO_some, consO_none, andO_t, andO_f, orO_t, orO_f, ifO_t, ifO_f, runE_some, evM, evMs, bindP, bindPs, wipeE, nmz, rd, fz, isB, isFu, isSh, mkLst, mkTup, hasL, hasLs, itM, newLst, callG, isNonD, gLt, gGe, gLe, gGt, gLtA_ii, gGtA_ii, gLeA_ii, gGeA_ii, gIn2_cs, gSub, gMod, gDiv, gPow, gAddI, g2I, gAdd, gMul, gLen, gIdx, gMax2, gMin2, gIsi, gIsN, gNotN, tyD, isiT, tyList, inR, B62, SZ, r3, a2, sl, gs]
theorem lawGo {ns : List Int} (hb : ∀ z ∈ ns, Builtin.Int.intBits z ≤ 1048576) (n : Nat) (hn : n ≤ 20) : ∃ s2 s3 s4 s5 s6 s7 s8 s9 s10 s11 s12, forGo (.nm 2) .sh (evB FUEL l_law_2) (rngD 0 4 n) [some (.scr ns, .sh), some (.lst (nearL.map .str), .full), none, none, none, none, none, none, none, none, none, none, none] = some (.nx [some (.scr ns, .sh), some (.lst (nearL.map .str), .full), s2, s3, s4, s5, s6, s7, s8, s9, s10, s11, s12]) := by
  obtain ⟨ρ', e, s2, s3, s4, s5, s6, s7, s8, s9, s10, s11, s12, rfl⟩ := forGo_ind (p := .nm 2) (m := .sh) (b := evB FUEL l_law_2) (fun _ ρ => ∃ s2 s3 s4 s5 s6 s7 s8 s9 s10 s11 s12, ρ = [some (.scr ns, .sh), some (.lst (nearL.map .str), .full), s2, s3, s4, s5, s6, s7, s8, s9, s10, s11, s12]) (rngD 0 4 n) 0 [some (.scr ns, .sh), some (.lst (nearL.map .str), .full), none, none, none, none, none, none, none, none, none, none, none] ⟨_, _, _, _, _, _, _, _, _, _, _, rfl⟩ (by
    rintro i d ρ ed ⟨s2, s3, s4, s5, s6, s7, s8, s9, s10, s11, s12, rfl⟩
    obtain ⟨hi, rfl⟩ := rngD_get ed
    have ei : (0 : Int) + (i : Int) * 4 = ((4 * i : Nat) : Int) := by omega
    rw [ei]
    obtain ⟨t3, t4, t5, t6, t7, t8, t9, t10, t11, t12, e⟩ := lawBody hb (4 * i) (by omega) s3 s4 s5 s6 s7 s8 s9 s10 s11 s12
    exact ⟨_, _, rfl, .inl e, _, _, _, _, _, _, _, _, _, _, _, rfl⟩)
  exact ⟨s2, s3, s4, s5, s6, s7, s8, s9, s10, s11, s12, e⟩
theorem law_true {ns : List Int} (hb : ∀ z ∈ ns, Builtin.Int.intBits z ≤ 1048576) : f_law [.scr ns] = some (.bl true, .sh) := by
  obtain ⟨s2, s3, s4, s5, s6, s7, s8, s9, s10, s11, s12, e⟩ := lawGo hb (rngN 0 (max 1 (min 12 (ns.length : Int))) 4) (by
    unfold rngN Builtin.Range.rangeSize
    rw [if_pos (by decide), if_pos (by omega)]
    omega)
  have hq : evS FUEL q_law_2 [some (.scr ns, .sh), some (.lst (nearL.map .str), .full), none, none, none, none, none, none, none, none, none, none, none] = some (.nx [some (.scr ns, .sh), some (.lst (nearL.map .str), .full), s2, s3, s4, s5, s6, s7, s8, s9, s10, s11, s12]) := by
    rw [q_law_2, evS_fors (as := [(.int 0, .sh), (.int (max 1 (min 12 (ns.length : Int))), .sh), (.int 4, .sh)]) (by simp [fB, runB_f, st0, evB_nl, evB_cn, seqO_nx, seqO_rt, seqO_bk, seqO_ct, seqO_none, finO_rt, finO_nx, evS_ifs, pickB_t, pickB_f, runP_some, evS.eq_1, evS.eq_2, evS.eq_3, evS.eq_4, evS.eq_5, evS.eq_6, evS.eq_7, evS.eq_11, evS.eq_12, evS.eq_13, evS.eq_14, evS.eq_15, evS.eq_16, evS.eq_17, evS.eq_18, evS.eq_19, evS.eq_20, evS.eq_21, evS.eq_22, evS.eq_23, evS.eq_24, evS.eq_25, evx_pr, evx_lst, evx_tup, evx_nil, evx_cons, evx_and, evx_or, evx_ife, evx_var, varO_some, evx_lit, prO_some, prO_none, lstO_some, tupO_some, consO_some, consO_none, andO_t, andO_f, orO_t, orO_f, ifO_t, ifO_f, runE_some, evM, evMs, bindP, bindPs, wipeE, nmz, rd, fz, isB, isFu, isSh, mkLst, mkTup, hasL, hasLs, itM, newLst, callG, isNonD, gLt, gGe, gLe, gGt, gLtA_ii, gGtA_ii, gLeA_ii, gGeA_ii, gIn2_cs, gSub, gMod, gDiv, gPow, gAddI, g2I, gAdd, gMul, gLen, gIdx, gMax2, gMin2, gIsi, gIsN, gNotN, tyD, isiT, tyList, inR, B62, SZ]) (igR3_small (by omega) (by omega) (by decide) (by omega)), e]
  have near' : ∀ m n, callG f__law_rows [(.int 2, m), (.str [97, 98, 99], n)] = some (.lst (nearL.map .str), .full) := fun m n => callG_fu near_eq rfl
  have g0 : ckS [] := ⟨by decide, fun _ h => (nomatch h), fun _ h => (nomatch h)⟩
  have g1 : ckS [[]] := ⟨by decide, fun p hp => by simp only [List.mem_singleton] at hp; subst hp; decide, fun p hp => by simp only [List.mem_singleton] at hp; subst hp; exact fun _ h => (nomatch h)⟩
  have g2 : ckS [[(true, [97, 98]), (false, [99])]] := ⟨by decide, fun p hp => by simp only [List.mem_singleton] at hp; subst hp; decide, fun p hp x hx => by
    simp only [List.mem_singleton] at hp
    subst hp
    simp only [List.mem_cons, List.not_mem_nil, or_false] at hx
    rcases hx with rfl | rfl
    · exact .inr ⟨rfl, by decide, by decide, by decide, by decide⟩
    · exact .inl ⟨rfl, 99, by decide, rfl⟩⟩
  have m0 := holdsC g0 (w := []) (by decide) (by decide)
  have m1 := holdsC g1 (w := []) (by decide) (by decide)
  have m2 := holdsC g2 (w := (List.replicate 9 [97, 98, 97, 99]).flatten) (by decide +kernel) (by decide +kernel)
  rw [show shld [] [] = false by decide +kernel, show setD [] = [] from rfl] at m0
  rw [show shld [[]] [] = true by decide +kernel, show setD [[]] = [.lst []] from rfl] at m1
  rw [show shld [[(true, [97, 98]), (false, [99])]] (List.replicate 9 [97, 98, 97, 99]).flatten = false by decide +kernel, show setD [[(true, [97, 98]), (false, [99])]] = [.lst [.tup [.str [97, 110, 121], .str [97, 98]], .tup [.str [109, 97, 121, 98, 101], .str [99]]]] from rfl] at m2
  have ms := mul_s (L := [97, 98, 97, 99]) (n := 9) (by decide) (by decide)
  rw [show ((9 : Nat) : Int) = 9 from rfl] at ms
  unfold f_law b_law
  refine f_of (ρ := [some (.scr ns, .sh), none, none, none, none, none, none, none, none, none, none, none, none]) rfl rfl ?_
  refine (bSet (d := .lst (nearL.map .str)) (m := .full) (by
    generalize callG f__law_rows = F at *
    simp [fB, runB_f, st0, evB_nl, evB_cn, seqO_nx, seqO_rt, seqO_bk, seqO_ct, seqO_none, finO_rt, finO_nx, evS_ifs, pickB_t, pickB_f, runP_some, evS.eq_1, evS.eq_2, evS.eq_3, evS.eq_4, evS.eq_5, evS.eq_6, evS.eq_7, evS.eq_11, evS.eq_12, evS.eq_13, evS.eq_14, evS.eq_15, evS.eq_16, evS.eq_17, evS.eq_18, evS.eq_19, evS.eq_20, evS.eq_21, evS.eq_22, evS.eq_23, evS.eq_24, evS.eq_25, evx_pr, evx_lst, evx_tup, evx_nil, evx_cons, evx_and, evx_or, evx_ife, evx_var, varO_some, evx_lit, prO_some, prO_none, lstO_some, tupO_some, consO_some, consO_none, andO_t, andO_f, orO_t, orO_f, ifO_t, ifO_f, runE_some, evM, evMs, bindP, bindPs, wipeE, nmz, rd, fz, isB, isFu, isSh, mkLst, mkTup, hasL, hasLs, itM, newLst, callG, isNonD, gLt, gGe, gLe, gGt, gLtA_ii, gGtA_ii, gLeA_ii, gGeA_ii, gIn2_cs, gSub, gMod, gDiv, gPow, gAddI, g2I, gAdd, gMul, gLen, gIdx, gMax2, gMin2, gIsi, gIsN, gNotN, tyD, isiT, tyList, inR, B62, SZ, near']) (by simp)).trans ?_
  simp only [List.set_cons_zero, List.set_cons_succ]
  refine (bNx hq).trans ?_
  clear e hq near'
  generalize (List.replicate 9 [97, 98, 97, 99]).flatten = WL at *
  generalize callG f_holds = F at *
  generalize gMul = G1 at *
  refine (bNx ((sIfF (m := .sh) ?_).trans (bNil _ _))).trans ?_
  · simp [fB, runB_f, st0, evB_nl, evB_cn, seqO_nx, seqO_rt, seqO_bk, seqO_ct, seqO_none, finO_rt, finO_nx, evS_ifs, pickB_t, pickB_f, runP_some, evS.eq_1, evS.eq_2, evS.eq_3, evS.eq_4, evS.eq_5, evS.eq_6, evS.eq_7, evS.eq_11, evS.eq_12, evS.eq_13, evS.eq_14, evS.eq_15, evS.eq_16, evS.eq_17, evS.eq_18, evS.eq_19, evS.eq_20, evS.eq_21, evS.eq_22, evS.eq_23, evS.eq_24, evS.eq_25, evx_pr, evx_lst, evx_tup, evx_nil, evx_cons, evx_and, evx_or, evx_ife, evx_var, varO_some, evx_lit, prO_some, prO_none, lstO_some, tupO_some, consO_some, consO_none, andO_t, andO_f, orO_t, orO_f, ifO_t, ifO_f, runE_some, evM, evMs, bindP, bindPs, wipeE, nmz, rd, fz, isB, isFu, isSh, mkLst, mkTup, hasL, hasLs, itM, newLst, callG, isNonD, gLt, gGe, gLe, gGt, gLtA_ii, gGtA_ii, gLeA_ii, gGeA_ii, gIn2_cs, gSub, gMod, gDiv, gPow, gAddI, g2I, gAdd, gMul, gLen, gIdx, gMax2, gMin2, gIsi, gIsN, gNotN, tyD, isiT, tyList, inR, B62, SZ, m0, m1, gNotB, hasLs]
  · exact bRt (sRet (by simp [fB, runB_f, st0, evB_nl, evB_cn, seqO_nx, seqO_rt, seqO_bk, seqO_ct, seqO_none, finO_rt, finO_nx, evS_ifs, pickB_t, pickB_f, runP_some, evS.eq_1, evS.eq_2, evS.eq_3, evS.eq_4, evS.eq_5, evS.eq_6, evS.eq_7, evS.eq_11, evS.eq_12, evS.eq_13, evS.eq_14, evS.eq_15, evS.eq_16, evS.eq_17, evS.eq_18, evS.eq_19, evS.eq_20, evS.eq_21, evS.eq_22, evS.eq_23, evS.eq_24, evS.eq_25, evx_pr, evx_lst, evx_tup, evx_nil, evx_cons, evx_and, evx_or, evx_ife, evx_var, varO_some, evx_lit, prO_some, prO_none, lstO_some, tupO_some, consO_some, consO_none, andO_t, andO_f, orO_t, orO_f, ifO_t, ifO_f, runE_some, evM, evMs, bindP, bindPs, wipeE, nmz, rd, fz, isB, isFu, isSh, mkLst, mkTup, hasL, hasLs, itM, newLst, callG, isNonD, gLt, gGe, gLe, gGt, gLtA_ii, gGtA_ii, gLeA_ii, gGeA_ii, gIn2_cs, gSub, gMod, gDiv, gPow, gAddI, g2I, gAdd, gMul, gLen, gIdx, gMax2, gMin2, gIsi, gIsN, gNotN, tyD, isiT, tyList, inR, B62, SZ, m2, ms, gIsB, hasLs]))
theorem law_holds {K : PySem.W.Frag} {H : L2.Hp} {a : Addr} {ns : List Int} {E : L2.XK} (_ : ns.length ≤ 63) (hb : ∀ z ∈ ns, Builtin.Int.intBits z ≤ 1048576) (ho : L2.Only H) (hS : L2.SqL K H a (ns.map L2.V.int)) : spP K f_law [.ref a] H (fun v _ => v = .bl true) E := law_of ho hS (law_true hb)

end K19
open PySem PySem.W PyProof.Rows
set_option maxHeartbeats 0 in
theorem PySem.Challenge.cw_strikeword_k19_whole_holds_holds : PySem.Challenge.rw_strikeword_k19_whole_holds.Holds := by
  w_on; o_law; k_head; (case hw => w_witness2)
  k_fill
  refine L2.walk_ofB (l := PySem.Challenge.rw_strikeword_k19_whole_holds) (n := 63) (k := 7) (x := "_law_script") (CX := fun _ => L2.CX0) (sp := fun w => SW.spP _ K19.f_law) rfl (by decide) rfl ⟨rfl, by decide, by decide⟩ (fun w h Y => PySem.W.kIn_of Y) ?F (fun w H a ns hl hb ho hS => K19.law_holds hl hb ho hS) (fun _ _ _ _ _ h => h)
  case F =>
    intro w mg fa h KX G hmg
    refine' K19.all_mk KX G hmg ?a0 ?l0 ?c0 ?k0 ?a1 ?l1 ?c1 ?k1 ?a2 ?l2 ?c2 ?k2 ?a3 ?l3 ?c3 ?k3 ?a4 ?l4 ?c4 ?k4 ?a5 ?l5 ?c5 ?k5 ?a6 ?l6 ?c6 ?k6 ?a7 ?l7 ?c7 ?k7 ?a8 ?l8 ?c8 ?k8 ?a9 ?l9 ?c9 ?k9 ?a10 ?l10 ?c10 ?k10 ?a11 ?l11 ?c11 ?k11 ?a12 ?l12 ?c12 ?k12 ?a13 ?l13 ?c13 ?k13 ?a14 ?l14 ?c14 ?k14 ?a15 ?l15 ?c15 ?k15 ?a16 ?l16 ?c16 ?k16 ?a17 ?l17 ?c17 ?k17 ?a18 ?l18 ?c18 ?k18 ?a19 ?l19 ?c19 ?k19 ?a20 ?l20 ?c20 ?k20 ?a21 ?l21 ?c21 ?k21 ?z0 ?z1 ?z2 ?z3 ?z4 ?z5 ?z6 ?z7 ?z8 ?z9 ?z10 ?z11 ?z12 ?z13 ?z14 ?yc0 ?yc1 ?yc2
    (case a0 => k_is); (case l0 => k_is); (case c0 => k_is); (case k0 => k_is); (case a1 => k_is); (case l1 => k_is); (case c1 => k_is); (case k1 => k_is)
    (case a2 => k_is); (case l2 => k_is); (case c2 => k_is); (case k2 => k_is); (case a3 => k_is); (case l3 => k_is); (case c3 => k_is); (case k3 => k_is)
    (case a4 => k_is); (case l4 => k_is); (case c4 => k_is); (case k4 => k_is); (case a5 => k_is); (case l5 => k_is); (case c5 => k_is); (case k5 => k_is)
    (case a6 => k_is); (case l6 => k_is); (case c6 => k_is); (case k6 => k_is); (case a7 => k_is); (case l7 => k_is); (case c7 => k_is); (case k7 => k_is)
    (case a8 => k_is); (case l8 => k_is); (case c8 => k_is); (case k8 => k_is); (case a9 => k_is); (case l9 => k_is); (case c9 => k_is); (case k9 => k_is)
    (case a10 => k_is); (case l10 => k_is); (case c10 => k_is); (case k10 => k_is); (case a11 => k_is); (case l11 => k_is); (case c11 => k_is); (case k11 => k_is)
    (case a12 => k_is); (case l12 => k_is); (case c12 => k_is); (case k12 => k_is); (case a13 => k_is); (case l13 => k_is); (case c13 => k_is); (case k13 => k_is)
    (case a14 => k_is); (case l14 => k_is); (case c14 => k_is); (case k14 => k_is); (case a15 => k_is); (case l15 => k_is); (case c15 => k_is); (case k15 => k_is)
    (case a16 => k_is); (case l16 => k_is); (case c16 => k_is); (case k16 => k_is); (case a17 => k_is); (case l17 => k_is); (case c17 => k_is); (case k17 => k_is)
    (case a18 => k_is); (case l18 => k_is); (case c18 => k_is); (case k18 => k_is); (case a19 => k_is); (case l19 => k_is); (case c19 => k_is); (case k19 => k_is)
    (case a20 => k_is); (case l20 => k_is); (case c20 => k_is); (case k20 => k_is); (case a21 => k_is); (case l21 => k_is); (case c21 => k_is); (case k21 => k_is)
    (case z0 => k_is); (case z1 => k_is); (case z2 => k_is); (case z3 => k_is); (case z4 => k_is); (case z5 => k_is); (case z6 => k_is); (case z7 => k_is)
    (case z8 => k_is); (case z9 => k_is); (case z10 => k_is); (case z11 => k_is); (case z12 => k_is); (case z13 => k_is); (case z14 => k_is); (case yc0 => k_is)
    (case yc1 => k_is); (case yc2 => k_is)
