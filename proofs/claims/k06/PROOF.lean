import PyProof.Rows.All
import Wide.All
import OpenK.AllK
import Wide.FinOn
import HandS.ForMost
import HandS.Zip
import HandS.Deep
import HandS.IsInst
import HandS.DictComp
import HandS.TupAny
import HandS.Style
import HandS.Conv
import HandS.Strs
import HandS.SortOrd
import HandS.DictTup
import KE.KDictPairs
import KE.KDictSum
import KE.GoesMore
import KE.KRevSl
import KE.KDictZip
import KE.GoesEnum
import KE.DataMinMax
import KE.KDictDisplayH
import KE.KDictWalk
import PyProof.SumWalk
import KE.SortData
import PySem.Challenge.RW_topseen_k06_whole_fewest_wrong_and_how_m
set_option Elab.async false
set_option linter.all false
set_option maxRecDepth 100000
set_option maxHeartbeats 4000001
namespace T
open PySem PySem.Spec PyProof.Rows L2
set_option autoImplicit false
abbrev St := L2.St

inductive D where
  | non | bl (b : Bool) | int (i : Int) | str (x : Str)
  | lst (ds : List D) | tup (ds : List D) | ftup (ds : List D)
  | dk (kvs : List (Key × D)) | dt (kvs : List (List Key × D))
  /-- a changing object told by F alone -/
  | opq (F : Addr → Hp → HO → Prop) (m : ∀ a N N' u, (∀ b o, N b = some o → N' b = some o) → F a N u → F a N' u)
/-- none, or never seen as data -/
def isNon : D → Bool
  | .non => true
  | .opq _ _ => true
  | _ => false

mutual
inductive Rp (H : Hp) : V → D → Prop
  | non : Rp H .non .non
  | bl (b : Bool) : Rp H (.bl b) (.bl b)
  | int (i : Int) : Rp H (.int i) (.int i)
  | str (x : Str) : Rp H (.str x) (.str x)
  | lst {a : Addr} {xs : List V} {ds : List D} : H a = some (.lst xs) → Rps H xs ds → Rp H (.ref a) (.lst ds)
  | tup {a : Addr} {xs : List V} {ds : List D} : H a = some (.tup xs) → Rps H xs ds → Rp H (.ref a) (.tup ds)
  | ftup {a : Addr} {o : Obj} {xs : List V} {ds : List D} : o.dict = none → H a = some (.frz o (.tup xs)) → Rps H xs ds → Rp H (.ref a) (.ftup ds)
  | dk {a : Addr} {vs : List (Key × V)} {kvs : List (Key × D)} : H a = some (.dK vs) → vs.map Prod.fst = kvs.map Prod.fst → Rps H (vs.map Prod.snd) (kvs.map Prod.snd) → Rp H (.ref a) (.dk kvs)
  | dt {a : Addr} {vs : List (List Key × V)} {kvs : List (List Key × D)} : H a = some (.dT vs) → vs.map Prod.fst = kvs.map Prod.fst → Rps H (vs.map Prod.snd) (kvs.map Prod.snd) → Rp H (.ref a) (.dt kvs)
inductive Rps (H : Hp) : List V → List D → Prop
  | nil : Rps H [] []
  | cons {v : V} {vs : List V} {d : D} {ds : List D} : Rp H v d → Rps H vs ds → Rps H (v :: vs) (d :: ds)
end

/-! frozen: made of tuples and plain things alone -/
mutual
def fz : D → Bool
  | .non => true
  | .bl _ => true
  | .int _ => true
  | .str _ => true
  | .tup ds => fzs ds
  | .ftup ds => fzs ds
  | .lst _ => false
  | .dk _ => false
  | .dt _ => false
  | .opq _ _ => false
def fzs : List D → Bool
  | [] => true
  | d :: ds => fz d && fzs ds
end

abbrev Ex (H H' : Hp) : Prop := ∀ a o, H a = some o → H' a = some o
theorem Ex.refl (H : Hp) : Ex H H := fun _ _ h => h
theorem Ex.trans {H H1 H2 : Hp} (a : Ex H H1) (b : Ex H1 H2) : Ex H H2 := fun x o h => b x o (a x o h)

mutual
theorem Rp.mono {H H' : Hp} (e : Ex H H') : ∀ {v : V} {d : D}, Rp H v d → Rp H' v d
  | _, _, .non => .non
  | _, _, .bl b => .bl b
  | _, _, .int i => .int i
  | _, _, .str x => .str x
  | _, _, .lst h r => .lst (e _ _ h) (Rps.mono e r)
  | _, _, .tup h r => .tup (e _ _ h) (Rps.mono e r)
  | _, _, .ftup q h r => .ftup q (e _ _ h) (Rps.mono e r)
  | _, _, .dk h k r => .dk (e _ _ h) k (Rps.mono e r)
  | _, _, .dt h k r => .dt (e _ _ h) k (Rps.mono e r)
theorem Rps.mono {H H' : Hp} (e : Ex H H') : ∀ {vs : List V} {ds : List D}, Rps H vs ds → Rps H' vs ds
  | _, _, .nil => .nil
  | _, _, .cons h r => .cons (Rp.mono e h) (Rps.mono e r)
end

mutual
theorem Rp.monoF {H H' : Hp} (e : ∀ a u, (∃ xs, u = HO.tup xs ∨ ∃ o, u = HO.frz o (.tup xs)) → H a = some u → H' a = some u) : ∀ {v : V} {d : D}, fz d = true → Rp H v d → Rp H' v d
  | _, _, _, .non => .non
  | _, _, _, .bl b => .bl b
  | _, _, _, .int i => .int i
  | _, _, _, .str x => .str x
  | _, .lst _, f, .lst _ _ => by simp [fz] at f
  | _, .tup ds, f, .tup h r => .tup (e _ _ ⟨_, .inl rfl⟩ h) (Rps.monoF e (by simpa [fz] using f) r)
  | _, .ftup ds, f, .ftup q h r => .ftup q (e _ _ ⟨_, .inr ⟨_, rfl⟩⟩ h) (Rps.monoF e (by simpa [fz] using f) r)
  | _, .dk _, f, .dk _ _ _ => by simp [fz] at f
  | _, .dt _, f, .dt _ _ _ => by simp [fz] at f
theorem Rps.monoF {H H' : Hp} (e : ∀ a u, (∃ xs, u = HO.tup xs ∨ ∃ o, u = HO.frz o (.tup xs)) → H a = some u → H' a = some u) : ∀ {vs : List V} {ds : List D}, fzs ds = true → Rps H vs ds → Rps H' vs ds
  | _, _, _, .nil => .nil
  | _, d :: ds, f, .cons h r => by
    simp only [fzs, Bool.and_eq_true] at f
    exact .cons (Rp.monoF e f.1 h) (Rps.monoF e f.2 r)
end

theorem Rps.length {H : Hp} : ∀ {vs : List V} {ds : List D}, Rps H vs ds → vs.length = ds.length
  | _, _, .nil => rfl
  | _, _, .cons _ r => by simp [Rps.length r]
theorem Rps.get {H : Hp} : ∀ {vs : List V} {ds : List D} {i : Nat} {d : D}, Rps H vs ds → ds[i]? = some d → ∃ v, vs[i]? = some v ∧ Rp H v d
  | _, _, _, _, .nil, h => by simp at h
  | _, _, 0, d, .cons h _, e => by simp at e; subst e; exact ⟨_, rfl, h⟩
  | _, _, i + 1, d, .cons _ r, e => by
    obtain ⟨v, a, b⟩ := Rps.get (i := i) (d := d) r (by simpa using e)
    exact ⟨v, by simpa using a, b⟩
theorem Rps.get' {H : Hp} : ∀ {vs : List V} {ds : List D} {i : Nat} {v : V}, Rps H vs ds → vs[i]? = some v → ∃ d, ds[i]? = some d ∧ Rp H v d
  | _, _, _, _, .nil, h => by simp at h
  | _, _, 0, d, .cons h _, e => by simp at e; subst e; exact ⟨_, rfl, h⟩
  | _, _, i + 1, d, .cons _ r, e => by
    obtain ⟨v, a, b⟩ := Rps.get' (i := i) (v := d) r (by simpa using e)
    exact ⟨v, by simpa using a, b⟩
theorem Rps.append {H : Hp} : ∀ {vs ws : List V} {ds es : List D}, Rps H vs ds → Rps H ws es → Rps H (vs ++ ws) (ds ++ es)
  | _, _, _, _, .nil, h => h
  | _, _, _, _, .cons h r, q => .cons h (Rps.append r q)
theorem Rps.take {H : Hp} : ∀ (n : Nat) {vs : List V} {ds : List D}, Rps H vs ds → Rps H (vs.take n) (ds.take n)
  | 0, _, _, _ => .nil
  | _ + 1, _, _, .nil => .nil
  | n + 1, _, _, .cons h r => .cons h (Rps.take n r)
theorem Rps.drop {H : Hp} : ∀ (n : Nat) {vs : List V} {ds : List D}, Rps H vs ds → Rps H (vs.drop n) (ds.drop n)
  | 0, _, _, r => r
  | _ + 1, _, _, .nil => .nil
  | n + 1, _, _, .cons _ r => Rps.drop n r
theorem Rps.nil_iff {H : Hp} {vs : List V} {ds : List D} (r : Rps H vs ds) : vs = [] ↔ ds = [] := by
  cases r <;> simp
theorem Rps.reverse {H : Hp} : ∀ {vs : List V} {ds : List D}, Rps H vs ds → Rps H vs.reverse ds.reverse
  | _, _, .nil => .nil
  | _, _, .cons h r => by
    rw [List.reverse_cons, List.reverse_cons]
    exact Rps.append (Rps.reverse r) (.cons h .nil)
theorem Rps.set {H : Hp} {v : V} {d : D} (h : Rp H v d) : ∀ (i : Nat) {vs : List V} {ds : List D}, Rps H vs ds → Rps H (vs.set i v) (ds.set i d)
  | _, _, _, .nil => .nil
  | 0, _, _, .cons _ r => .cons h r
  | i + 1, _, _, .cons q r => .cons q (Rps.set h i r)
theorem Rps.eraseIdx {H : Hp} : ∀ (i : Nat) {vs : List V} {ds : List D}, Rps H vs ds → Rps H (vs.eraseIdx i) (ds.eraseIdx i)
  | _, _, _, .nil => .nil
  | 0, _, _, .cons _ r => r
  | i + 1, _, _, .cons q r => .cons q (Rps.eraseIdx i r)
theorem Rp.inv_int {H : Hp} {v : V} {i : Int} (h : Rp H v (.int i)) : v = .int i := by cases h; rfl
theorem Rp.inv_bl {H : Hp} {v : V} {b : Bool} (h : Rp H v (.bl b)) : v = .bl b := by cases h; rfl
theorem Rp.inv_str {H : Hp} {v : V} {x : Str} (h : Rp H v (.str x)) : v = .str x := by cases h; rfl
theorem Rp.inv_non {H : Hp} {v : V} (h : Rp H v .non) : v = .non := by cases h; rfl
theorem Rp.inv_lst {H : Hp} {v : V} {ds : List D} (h : Rp H v (.lst ds)) : ∃ a xs, v = .ref a ∧ H a = some (.lst xs) ∧ Rps H xs ds := by
  cases h with | lst h r => exact ⟨_, _, rfl, h, r⟩
theorem Rp.inv_tup {H : Hp} {v : V} {ds : List D} (h : Rp H v (.tup ds)) : ∃ a xs, v = .ref a ∧ H a = some (.tup xs) ∧ Rps H xs ds := by
  cases h with | tup h r => exact ⟨_, _, rfl, h, r⟩
theorem Rp.inv_ftup {H : Hp} {v : V} {ds : List D} (h : Rp H v (.ftup ds)) : ∃ a o xs, v = .ref a ∧ o.dict = none ∧ H a = some (.frz o (.tup xs)) ∧ Rps H xs ds := by
  cases h with | ftup q h r => exact ⟨_, _, _, rfl, q, h, r⟩
theorem Rp.inv_dk {H : Hp} {v : V} {kvs : List (Key × D)} (h : Rp H v (.dk kvs)) : ∃ a vs, v = .ref a ∧ H a = some (.dK vs) ∧ vs.map Prod.fst = kvs.map Prod.fst ∧ Rps H (vs.map Prod.snd) (kvs.map Prod.snd) := by
  cases h with | dk h k r => exact ⟨_, _, rfl, h, k, r⟩
theorem Rp.inv_dt {H : Hp} {v : V} {kvs : List (List Key × D)} (h : Rp H v (.dt kvs)) : ∃ a vs, v = .ref a ∧ H a = some (.dT vs) ∧ vs.map Prod.fst = kvs.map Prod.fst ∧ Rps H (vs.map Prod.snd) (kvs.map Prod.snd) := by
  cases h with | dt h k r => exact ⟨_, _, rfl, h, k, r⟩
theorem Rps.inv_nil {H : Hp} {vs : List V} (h : Rps H vs []) : vs = [] := by cases h; rfl
theorem Rps.inv_cons {H : Hp} {vs : List V} {d : D} {ds : List D} (h : Rps H vs (d :: ds)) : ∃ v r, vs = v :: r ∧ Rp H v d ∧ Rps H r ds := by
  cases h with | cons h r => exact ⟨_, _, rfl, h, r⟩
theorem Rps.ints {H : Hp} : ∀ {ns : List Int} {vs : List V}, Rps H vs (ns.map .int) → vs = ns.map V.int
  | [], _, h => h.inv_nil
  | n :: ns, _, h => by
    obtain ⟨v, r, rfl, h1, h2⟩ := Rps.inv_cons h
    rw [h1.inv_int, Rps.ints h2]; rfl
theorem Rps.bls {H : Hp} : ∀ {ns : List Bool} {vs : List V}, Rps H vs (ns.map .bl) → vs = ns.map V.bl
  | [], _, h => h.inv_nil
  | n :: ns, _, h => by
    obtain ⟨v, r, rfl, h1, h2⟩ := Rps.inv_cons h
    rw [h1.inv_bl, Rps.bls h2]; rfl
theorem Rps.strs {H : Hp} : ∀ {ns : List Str} {vs : List V}, Rps H vs (ns.map .str) → vs = ns.map V.str
  | [], _, h => h.inv_nil
  | n :: ns, _, h => by
    obtain ⟨v, r, rfl, h1, h2⟩ := Rps.inv_cons h
    rw [h1.inv_str, Rps.strs h2]; rfl
theorem Rps.of_ints {H : Hp} : ∀ (ns : List Int), Rps H (ns.map V.int) (ns.map .int)
  | [] => .nil
  | n :: ns => .cons (.int n) (Rps.of_ints ns)
theorem Rps.of_strs {H : Hp} : ∀ (ns : List Str), Rps H (ns.map V.str) (ns.map .str)
  | [] => .nil
  | n :: ns => .cons (.str n) (Rps.of_strs ns)

/-! ### data as the library's PyData (for ==, in, index) -/
mutual
def toPy : D → PyData
  | .non => .none
  | .bl b => .bool b
  | .int i => .int i
  | .str x => .str x
  | .lst ds => .list (toPys ds)
  | .tup ds => .tuple (toPys ds)
  | .ftup ds => .tuple (toPys ds)
  | .dk _ => .none
  | .dt _ => .none
  | .opq _ _ => .none
def toPys : List D → List PyData
  | [] => []
  | d :: ds => toPy d :: toPys ds
end
theorem toPys_map : ∀ ds : List D, toPys ds = ds.map toPy
  | [] => rfl
  | d :: ds => by rw [toPys, toPys_map ds]; rfl
/-! no dict within -/
mutual
def nd : D → Bool
  | .non => true
  | .bl _ => true
  | .int _ => true
  | .str _ => true
  | .lst ds => nds ds
  | .tup ds => nds ds
  | .ftup ds => nds ds
  | .dk _ => false
  | .dt _ => false
  | .opq _ _ => false
def nds : List D → Bool
  | [] => true
  | d :: ds => nd d && nds ds
end
mutual
theorem Rp.dp {K : PySem.W.Frag} {H : Hp} : ∀ {v : V} {d : D}, nd d = true → Rp H v d → Dp K H v (toPy d)
  | _, _, _, .non => .non
  | _, _, _, .bl b => .bl b
  | _, _, _, .int i => .int i
  | _, _, _, .str x => .str x
  | _, .lst ds, f, .lst h r => .lst (SqL.of h) (Rps.dp (by simpa [nd] using f) r)
  | _, .tup ds, f, .tup h r => .tup (SqT.of h) (Rps.dp (by simpa [nd] using f) r)
  | _, .ftup ds, f, .ftup q h r => .tup (.inl (.inr ⟨_, h⟩)) (Rps.dp (by simpa [nd] using f) r)
  | _, .dk _, f, .dk _ _ _ => by simp [nd] at f
  | _, .dt _, f, .dt _ _ _ => by simp [nd] at f
theorem Rps.dp {K : PySem.W.Frag} {H : Hp} : ∀ {vs : List V} {ds : List D}, nds ds = true → Rps H vs ds → DpAll K H vs (toPys ds)
  | _, _, _, .nil => .nil
  | _, d :: ds, f, .cons h r => by
    simp only [nds, Bool.and_eq_true] at f
    exact .cons (Rp.dp f.1 h) (Rps.dp f.2 r)
end
/-- shaped for the library's ==: no dict, not deep -/
def okD (d : D) : Bool := nd d && SeqAt.shaped (toPy d)
def eqD (a b : D) : Bool := PyData.eqv (toPy a) (toPy b)

/-! ### slots -/
inductive Sl where
  | no | val (v : V) | dat (d : D)
  | prd (P : Hp → V → Prop) (m : ∀ N N' v, Ex N N' → P N v → P N' v)
structure Sg (N : Hp) (σ : St) (ρ : List Sl) : Prop where
  len : σ.length = ρ.length
  val : ∀ (i : Nat) (v : V), ρ[i]? = some (Sl.val v) → σ[i]? = some (some v)
  dat : ∀ (i : Nat) (d : D), ρ[i]? = some (Sl.dat d) → ∃ v, σ[i]? = some (some v) ∧ Rp N v d
  prd : ∀ (i : Nat) P m, ρ[i]? = some (Sl.prd P m) → ∃ v, σ[i]? = some (some v) ∧ P N v
theorem Sg.mono {N N' : Hp} {σ : St} {ρ : List Sl} (S : Sg N σ ρ) (e : Ex N N') : Sg N' σ ρ :=
  ⟨S.len, S.val, fun i d h => let ⟨v, a, b⟩ := S.dat i d h; ⟨v, a, b.mono e⟩, fun i P m h => let ⟨v, a, b⟩ := S.prd i P m h; ⟨v, a, m _ _ _ e b⟩⟩
theorem Sg.setD {N : Hp} {σ : St} {ρ : List Sl} {v : V} {d : D} (S : Sg N σ ρ) (i : Nat) (h : Rp N v d) : Sg N (σ.set i (some v)) (ρ.set i (.dat d)) := by
  refine ⟨by simp [S.len], fun j w e => ?_, fun j w e => ?_, fun j w m e => ?_⟩
  · by_cases q : i = j
    · subst q
      rw [List.getElem?_set] at e
      split at e
      · split at e <;> simp at e
      · exact absurd rfl ‹_›
    · rw [List.getElem?_set_ne q] at e ⊢
      exact S.val j w e
  · by_cases q : i = j
    · subst q
      rw [List.getElem?_set] at e
      simp only [if_true] at e
      split at e
      · rename_i hlt
        simp at e
        subst e
        refine ⟨v, ?_, h⟩
        rw [List.getElem?_set, if_pos rfl, if_pos (by rw [S.len]; exact hlt)]
      · simp at e
    · rw [List.getElem?_set_ne q] at e ⊢
      exact S.dat j w e
  · by_cases q : i = j
    · subst q
      rw [List.getElem?_set] at e
      split at e
      · split at e <;> simp at e
      · exact absurd rfl ‹_›
    · rw [List.getElem?_set_ne q] at e ⊢
      exact S.prd j w m e
theorem Sg.setV {N : Hp} {σ : St} {ρ : List Sl} {v : V} (S : Sg N σ ρ) (i : Nat) : Sg N (σ.set i (some v)) (ρ.set i (.val v)) := by
  refine ⟨by simp [S.len], fun j w e => ?_, fun j w e => ?_, fun j w m e => ?_⟩
  · by_cases q : i = j
    · subst q
      rw [List.getElem?_set] at e
      simp only [if_true] at e
      split at e
      · rename_i hlt
        simp at e
        subst e
        rw [List.getElem?_set, if_pos rfl, if_pos (by rw [S.len]; exact hlt)]
      · simp at e
    · rw [List.getElem?_set_ne q] at e ⊢
      exact S.val j w e
  · by_cases q : i = j
    · subst q
      rw [List.getElem?_set] at e
      split at e
      · split at e <;> simp at e
      · exact absurd rfl ‹_›
    · rw [List.getElem?_set_ne q] at e ⊢
      exact S.dat j w e
  · by_cases q : i = j
    · subst q
      rw [List.getElem?_set] at e
      split at e
      · split at e <;> simp at e
      · exact absurd rfl ‹_›
    · rw [List.getElem?_set_ne q] at e ⊢
      exact S.prd j w m e
theorem Sg.setN {N : Hp} {σ : St} {ρ : List Sl} {v : Option V} (S : Sg N σ ρ) (i : Nat) : Sg N (σ.set i v) (ρ.set i .no) := by
  refine ⟨by simp [S.len], fun j w e => ?_, fun j w e => ?_, fun j w m e => ?_⟩
  all_goals
    by_cases q : i = j
    · subst q
      rw [List.getElem?_set] at e
      split at e
      · split at e <;> simp at e
      · exact absurd rfl ‹_›
    · rw [List.getElem?_set_ne q] at e ⊢
      first | exact S.val j w e | exact S.dat j w e | exact S.prd j w m e
/-- a slot may be forgotten -/
inductive Wk : List Sl → List Sl → Prop
  | nil : Wk [] []
  | same {s : Sl} {a b : List Sl} : Wk a b → Wk (s :: a) (s :: b)
  | drop {s : Sl} {a b : List Sl} : Wk a b → Wk (s :: a) (.no :: b)
theorem Wk.get : ∀ {a b : List Sl} {i : Nat} {s : Sl}, Wk a b → b[i]? = some s → s = .no ∨ a[i]? = some s
  | _, _, _, _, .nil, h => by simp at h
  | _, _, 0, s, .same _, e => by simp at e; subst e; exact .inr rfl
  | _, _, 0, s, .drop _, e => by simp at e; subst e; exact .inl rfl
  | _, _, i + 1, s, .same w, e => by
    have := Wk.get (i := i) (s := s) w (by simpa using e)
    simpa using this
  | _, _, i + 1, s, .drop w, e => by
    have := Wk.get (i := i) (s := s) w (by simpa using e)
    simpa using this
theorem Wk.len : ∀ {a b : List Sl}, Wk a b → a.length = b.length
  | _, _, .nil => rfl
  | _, _, .same w => by simp [Wk.len w]
  | _, _, .drop w => by simp [Wk.len w]
theorem Sg.weak {N : Hp} {σ : St} {ρ ρ' : List Sl} (S : Sg N σ ρ) (w : Wk ρ ρ') : Sg N σ ρ' := by
  refine ⟨S.len.trans w.len, fun i v e => ?_, fun i d e => ?_, fun i P m e => ?_⟩
  · rcases w.get e with z | z
    · cases z
    · exact S.val i v z
  · rcases w.get e with z | z
    · cases z
    · exact S.dat i d z
  · rcases w.get e with z | z
    · cases z
    · exact S.prd i P m z
def wipeS (ρ : List Sl) : List Nat → List Sl
  | [] => ρ
  | i :: vs => (wipeS ρ vs).set i .no
theorem Sg.wipe {N : Hp} {σ : St} {ρ : List Sl} (S : Sg N σ ρ) : ∀ vs : List Nat, Sg N (L2.wipe σ vs) (wipeS ρ vs)
  | [] => S
  | i :: vs => (Sg.wipe S vs).setN i
theorem Sg.start {N : Hp} {names : List Str} : ∀ {vs : List V} {ds : List D}, Rps N vs ds → Sg N (L2.start names vs) (ds.map .dat ++ List.replicate (names.length - vs.length) .no) := by
  intro vs ds r
  have hl := r.length
  refine ⟨by simp [L2.start, hl], fun i v e => ?_, fun i d e => ?_, fun i P m e => ?_⟩
  · by_cases h : i < ds.length
    · rw [List.getElem?_append_left (by simpa using h), List.getElem?_map] at e
      cases q : ds[i]? with
      | none => rw [q] at e; simp at e
      | some d => rw [q] at e; simp at e
    · rw [List.getElem?_append_right (by simp; omega)] at e
      rw [List.getElem?_replicate] at e
      split at e <;> simp at e
  · by_cases h : i < ds.length
    · rw [List.getElem?_append_left (by simpa using h), List.getElem?_map] at e
      cases q : ds[i]? with
      | none => rw [q] at e; simp at e
      | some d' =>
        rw [q] at e
        simp at e
        subst e
        obtain ⟨v, h1, h2⟩ := r.get q
        refine ⟨v, ?_, h2⟩
        unfold L2.start
        rw [List.getElem?_append_left (by simp; omega), List.getElem?_map, h1]
        rfl
    · rw [List.getElem?_append_right (by simp; omega)] at e
      rw [List.getElem?_replicate] at e
      split at e <;> simp at e

  · by_cases h : i < ds.length
    · rw [List.getElem?_append_left (by simpa using h), List.getElem?_map] at e
      cases q : ds[i]? with
      | none => rw [q] at e; simp at e
      | some d => rw [q] at e; simp at e
    · rw [List.getElem?_append_right (by simp; omega)] at e
      rw [List.getElem?_replicate] at e
      split at e <;> simp at e

/-! ### a known part N of the heap H, and a step of both -/
abbrev Imm (u : HO) : Prop := ∃ xs, u = .tup xs ∨ ∃ o, u = .frz o (.tup xs)
theorem nimm_lst {xs : List V} : ¬ Imm (.lst xs) := by
  rintro ⟨ys, h | ⟨o, h⟩⟩ <;> cases h
theorem nimm_dK {xs : List (Key × V)} : ¬ Imm (.dK xs) := by
  rintro ⟨ys, h | ⟨o, h⟩⟩ <;> cases h
theorem nimm_dT {xs : List (List Key × V)} : ¬ Imm (.dT xs) := by
  rintro ⟨ys, h | ⟨o, h⟩⟩ <;> cases h
structure Fr (M : List Addr) (N H N' H' : Hp) : Prop where
  big : ∀ b o, b ∉ M → H b = some o → H' b = some o
  dom : ∀ b, H b ≠ none → H' b ≠ none
  sml : Ex N N'
  sub : Ex N' H'
  new : ∀ b u, N b = none → H b = some u → ¬ Imm u → N' b = none
  chg : ∀ b u, H b = some u → ¬ Imm u → ∃ u', H' b = some u' ∧ ¬ Imm u'
theorem Fr.refl {M : List Addr} {N H : Hp} (e : Ex N H) : Fr M N H N H := ⟨fun _ _ _ h => h, fun _ h => h, Ex.refl N, e, fun _ _ h _ _ => h, fun _ u h n => ⟨u, h, n⟩⟩
theorem Fr.trans {M : List Addr} {N H N1 H1 N2 H2 : Hp} (a : Fr M N H N1 H1) (b : Fr M N1 H1 N2 H2) : Fr M N H N2 H2 :=
  ⟨fun x o m h => b.big x o m (a.big x o m h), fun x h => b.dom x (a.dom x h), a.sml.trans b.sml, b.sub, fun x u h q n => let ⟨u', q', n'⟩ := a.chg x u q n; b.new x u' (a.new x u h q n) q' n',
    fun x u q n => let ⟨u', q', n'⟩ := a.chg x u q n; b.chg x u' q' n'⟩
theorem Fr.newL {M : List Addr} {N H N' H' : Hp} (f : Fr M N H N' H') {b : Addr} {xs : List V} (h : N b = none) (q : H b = some (.lst xs)) : N' b = none := f.new b _ h q nimm_lst
theorem Fr.newK {M : List Addr} {N H N' H' : Hp} (f : Fr M N H N' H') {b : Addr} {xs : List (Key × V)} (h : N b = none) (q : H b = some (.dK xs)) : N' b = none := f.new b _ h q nimm_dK
theorem Fr.wider {M M' : List Addr} {N H N' H' : Hp} (f : Fr M N H N' H') (h : ∀ b ∈ M, b ∈ M') : Fr M' N H N' H' := ⟨fun b o m q => f.big b o (fun z => m (h b z)) q, f.dom, f.sml, f.sub, f.new, f.chg⟩
theorem Fr.ex {N H N' H' : Hp} (f : Fr [] N H N' H') : Ex H H' := fun b o h => f.big b o (by simp) h
theorem some_ne {α : Type} {o : Option α} {x : α} (h : o = some x) : o ≠ none := by rw [h]; exact fun z => nomatch z
theorem Fr.fresh {M : List Addr} {N H N' H' : Hp} {p : Addr} {o : HO} (f : Fr M N H N' H') (e : Ex N H) (h : H' p = none) : H p = none ∧ N p = none ∧ N' p = none := by
  have h1 : H p = none := by
    cases q : H p with
    | none => rfl
    | some o => exact absurd h (f.dom p (some_ne q))
  have h2 : N p = none := by
    cases q : N p with
    | none => rfl
    | some o => rw [e p o q] at h1; cases h1
  have h3 : N' p = none := by
    cases q : N' p with
    | none => rfl
    | some o => rw [f.sub p o q] at h; cases h
  exact ⟨h1, h2, h3⟩
theorem none_of_ex {N H : Hp} {p : Addr} (e : Ex N H) (h : H p = none) : N p = none := by
  cases q : N p with
  | none => rfl
  | some o => rw [e p o q] at h; cases h
/-- a new object, known from now on -/
theorem Fr.made {M : List Addr} {N H : Hp} {p : Addr} {o : HO} (e : Ex N H) (h : H p = none) : Fr M N H (upd N p o) (upd H p o) := by
  have hN := none_of_ex e h
  refine ⟨fun b u _ q => ?_, fun b q => ?_, fun b u q => ?_, fun b u q => ?_, fun b u q1 q2 _ => ?_, fun b u q n => ⟨u, ?_, n⟩⟩
  · rw [upd_ne (ne_of_none q h)]; exact q
  · by_cases z : b = p
    · subst z; exact absurd h q
    · rw [upd_ne z]; exact q
  · rw [upd_ne (ne_of_none q hN)]; exact q
  · by_cases z : b = p
    · subst z; rw [upd_same] at q ⊢; exact q
    · rw [upd_ne z] at q ⊢; exact e b u q
  · rw [upd_ne (ne_of_none q2 h)]; exact q1
  · rw [upd_ne (ne_of_none q h)]; exact q
/-- a new object, not known -/
theorem Fr.laid {M : List Addr} {N H : Hp} {p : Addr} {o : HO} (e : Ex N H) (h : H p = none) : Fr M N H N (upd H p o) := by
  refine ⟨fun b u _ q => ?_, fun b q => ?_, Ex.refl N, fun b u q => ?_, fun b u q1 _ _ => q1, fun b u q n => ⟨u, by rw [upd_ne (ne_of_none q h)]; exact q, n⟩⟩
  · rw [upd_ne (ne_of_none q h)]; exact q
  · by_cases z : b = p
    · subst z; exact absurd h q
    · rw [upd_ne z]; exact q
  · rw [upd_ne (ne_of_none q (none_of_ex e h))]; exact e b u q

/-! ### readings that evaluate to data -/
def E (te : TE) (ρ : List Sl) (d : D) : Prop := ∀ σ N H, Sg N σ ρ → Ex N H → ∀ Q : VK, (∀ v N' H', Fr [] N H N' H' → Rp N' v d → Q v H') → te σ H Q
/-- .. to a new object p, not known yet, with the content d -/
def Cont (N H : Hp) (p : Addr) : D → Prop
  | .lst ds => ∃ vs, H p = some (.lst vs) ∧ Rps N vs ds
  | .dk kvs => ∃ vs, H p = some (.dK vs) ∧ vs.map Prod.fst = kvs.map Prod.fst ∧ Rps N (vs.map Prod.snd) (kvs.map Prod.snd)
  | .dt kvs => ∃ vs, H p = some (.dT vs) ∧ vs.map Prod.fst = kvs.map Prod.fst ∧ Rps N (vs.map Prod.snd) (kvs.map Prod.snd)
  | .opq F _ => ∃ u, H p = some u ∧ (¬ Imm u) ∧ F p N u
  | _ => False
def EL (te : TE) (ρ : List Sl) (d : D) : Prop := ∀ σ N H, Sg N σ ρ → Ex N H → ∀ Q : VK, (∀ p N' H', Fr [] N H N' H' → H p = none → N' p = none → Cont N' H' p d → Q (.ref p) H') → te σ H Q
def EA (ta : TA) (ρ : List Sl) (ds : List D) : Prop := ∀ σ N H, Sg N σ ρ → Ex N H → ∀ Q : List V → Hp → Prop, (∀ vs N' H', Fr [] N H N' H' → Rps N' vs ds → Q vs H') → ta σ H Q
def ET (tt : TT) (ρ : List Sl) (b : Bool) : Prop := ∀ σ N H, Sg N σ ρ → Ex N H → ∀ Q : Bool → Hp → Prop, (∀ N' H', Fr [] N H N' H' → Q b H') → tt σ H Q
def EO (to : TO) (ρ : List Sl) (o : Option Int) : Prop := ∀ σ N H, Sg N σ ρ → Ex N H → ∀ Q : Option Int → Hp → Prop, (∀ N' H', Fr [] N H N' H' → Q o H') → to σ H Q
theorem Cont.some {N H : Hp} {p : Addr} {d : D} (c : Cont N H p d) : H p ≠ none := by
  cases d with
  | lst ds => obtain ⟨vs, h, _⟩ := c; exact some_ne h
  | dk ds => obtain ⟨vs, h, _⟩ := c; exact some_ne h
  | dt ds => obtain ⟨vs, h, _⟩ := c; exact some_ne h
  | opq F m => obtain ⟨u, h, _⟩ := c; exact some_ne h
  | _ => exact c.elim
theorem Cont.nimm {N H : Hp} {p : Addr} {d : D} (c : Cont N H p d) : ∃ u, H p = .some u ∧ ¬ Imm u := by
  cases d with
  | lst ds => obtain ⟨vs, h, _⟩ := c; exact ⟨_, h, nimm_lst⟩
  | dk ds => obtain ⟨vs, h, _⟩ := c; exact ⟨_, h, nimm_dK⟩
  | dt ds => obtain ⟨vs, h, _⟩ := c; exact ⟨_, h, nimm_dT⟩
  | opq F m => obtain ⟨u, h, n, _⟩ := c; exact ⟨_, h, n⟩
  | _ => exact c.elim
theorem Cont.notup {N H : Hp} {p : Addr} {d : D} {xs : List V} (c : Cont N H p d) : H p ≠ .some (.tup xs) := by
  intro z
  cases d with
  | lst ds => obtain ⟨vs, h, _⟩ := c; rw [h] at z; cases z
  | dk ds => obtain ⟨vs, h, _⟩ := c; rw [h] at z; cases z
  | dt ds => obtain ⟨vs, h, _⟩ := c; rw [h] at z; cases z
  | opq F m => obtain ⟨u, h, n, _⟩ := c; rw [h] at z; cases z; exact n ⟨_, .inl rfl⟩
  | _ => exact c.elim
theorem Cont.nofrz {N H : Hp} {p : Addr} {d : D} {o : Obj} {xs : List V} (c : Cont N H p d) : H p ≠ .some (.frz o (.tup xs)) := by
  intro z
  cases d with
  | lst ds => obtain ⟨vs, h, _⟩ := c; rw [h] at z; cases z
  | dk ds => obtain ⟨vs, h, _⟩ := c; rw [h] at z; cases z
  | dt ds => obtain ⟨vs, h, _⟩ := c; rw [h] at z; cases z
  | opq F m => obtain ⟨u2, h, n, _⟩ := c; rw [h] at z; cases z; exact n ⟨_, .inr ⟨_, rfl⟩⟩
  | _ => exact c.elim
theorem Cont.keep {N H N' H' : Hp} {p : Addr} {d : D} (c : Cont N H p d) (e : Ex N N') (h : H' p = H p) : Cont N' H' p d := by
  cases d with
  | lst ds => obtain ⟨vs, q, r⟩ := c; exact ⟨vs, h.trans q, r.mono e⟩
  | dk ds => obtain ⟨vs, q, k, r⟩ := c; exact ⟨vs, h.trans q, k, r.mono e⟩
  | dt ds => obtain ⟨vs, q, k, r⟩ := c; exact ⟨vs, h.trans q, k, r.mono e⟩
  | opq F m => obtain ⟨u, q, n, r⟩ := c; exact ⟨u, h.trans q, n, m _ _ _ _ e r⟩
  | _ => exact c.elim
/-- N with the object of H at p -/
def addH (N H : Hp) (p : Addr) : Hp := fun b => if b = p then H p else N b
theorem addH_same {N H : Hp} {p : Addr} : addH N H p p = H p := by unfold addH; rw [if_pos rfl]
theorem addH_ne {N H : Hp} {p b : Addr} (h : b ≠ p) : addH N H p b = N b := by unfold addH; rw [if_neg h]
theorem addH_ex {N H : Hp} {p : Addr} (h : N p = none) : Ex N (addH N H p) := fun b o q => by rw [addH_ne (ne_of_none q h)]; exact q
theorem addH_sub {N H : Hp} {p : Addr} (e : Ex N H) : Ex (addH N H p) H := fun b o q => by
  by_cases z : b = p
  · subst z; rw [addH_same] at q; exact q
  · rw [addH_ne z] at q; exact e b o q
theorem Cont.rp {N H : Hp} {p : Addr} {d : D} (c : Cont N H p d) (hn : isNon d = false) (h : N p = none) : Rp (addH N H p) (.ref p) d := by
  cases d with
  | lst ds => obtain ⟨vs, q, r⟩ := c; exact .lst (by rw [addH_same]; exact q) (r.mono (addH_ex h))
  | dk ds => obtain ⟨vs, q, k, r⟩ := c; exact .dk (by rw [addH_same]; exact q) k (r.mono (addH_ex h))
  | dt ds => obtain ⟨vs, q, k, r⟩ := c; exact .dt (by rw [addH_same]; exact q) k (r.mono (addH_ex h))
  | opq F m => simp [isNon] at hn
  | _ => exact c.elim
theorem Fr.add {M : List Addr} {N H N' H' : Hp} {p : Addr} (f : Fr M N H N' H') (hp : H p = none) (hN : N' p = none) : Fr M N H (addH N' H' p) H' := by
  refine ⟨f.big, f.dom, f.sml.trans (addH_ex hN), addH_sub f.sub, fun b u h1 h2 n => ?_, f.chg⟩
  rw [addH_ne (ne_of_none h2 hp)]; exact f.new b u h1 h2 n
theorem EL.e {te : TE} {ρ : List Sl} {d : D} (h : EL te ρ d) (hn : isNon d = false := by rfl) : E te ρ d := fun σ N H S e Q k =>
  h σ N H S e Q fun p N' H' f hp hN c => k (.ref p) (addH N' H' p) H' (f.add hp hN) (c.rp hn hN)
/-- a two-place operation of values, a one-place one, a call on values: of data -/
def R2D (r : R2) (a b d : D) : Prop := ∀ x y N H, Ex N H → Rp N x a → Rp N y b → ∀ Q : VK, (∀ v N' H', Fr [] N H N' H' → Rp N' v d → Q v H') → r x y H Q
def RCD (r : List V → Hp → VK → Prop) (ds : List D) (d : D) : Prop := ∀ xs N H, Ex N H → Rps N xs ds → ∀ Q : VK, (∀ v N' H', Fr [] N H N' H' → Rp N' v d → Q v H') → r xs H Q
def R2L (r : R2) (a b d : D) : Prop := ∀ x y N H, Ex N H → Rp N x a → Rp N y b → ∀ Q : VK, (∀ p N' H', Fr [] N H N' H' → H p = none → N' p = none → Cont N' H' p d → Q (.ref p) H') → r x y H Q
def RCL (r : List V → Hp → VK → Prop) (ds : List D) (d : D) : Prop := ∀ xs N H, Ex N H → Rps N xs ds → ∀ Q : VK, (∀ p N' H', Fr [] N H N' H' → H p = none → N' p = none → Cont N' H' p d → Q (.ref p) H') → r xs H Q
section
variable {ρ : List Sl} {ta tb tc te : TE} {a b c d : D} {r : R2}
theorem e_var {i : Nat} (h : ρ[i]? = some (.dat d)) : E (tVar i) ρ d := fun σ N H S e Q k =>
  let ⟨v, h1, h2⟩ := S.dat i d h
  ⟨v, h1, k v N H (Fr.refl e) h2⟩
theorem e_cst {v : V} (h : ∀ N, Rp N v d) : E (tC v) ρ d := fun σ N H S e Q k => k v N H (Fr.refl e) (h N)
theorem e_int {i : Int} : E (tC (.int i)) ρ (.int i) := e_cst fun _ => .int i
theorem e_str {i : Str} : E (tC (.str i)) ρ (.str i) := e_cst fun _ => .str i
theorem e_bl {i : Bool} : E (tC (.bl i)) ρ (.bl i) := e_cst fun _ => .bl i
theorem e_non : E (tC .non) ρ .non := e_cst fun _ => .non
theorem e_op (ha : E ta ρ a) (hb : E tb ρ b) (hr : R2D r a b d) : E (tOp r ta tb) ρ d := fun σ N H S e Q k =>
  ha σ N H S e _ fun x N1 H1 f1 rx => hb σ N1 H1 (S.mono f1.sml) f1.sub _ fun y N2 H2 f2 ry => hr x y N2 H2 f2.sub (rx.mono f2.sml) ry Q fun v N3 H3 f3 rv => k v N3 H3 ((f1.trans f2).trans f3) rv
theorem el_op (ha : E ta ρ a) (hb : E tb ρ b) (hr : R2L r a b d) : EL (tOp r ta tb) ρ d := fun σ N H S e Q k =>
  ha σ N H S e _ fun x N1 H1 f1 rx => hb σ N1 H1 (S.mono f1.sml) f1.sub _ fun y N2 H2 f2 ry => hr x y N2 H2 f2.sub (rx.mono f2.sml) ry Q fun p N3 H3 f3 hp hN c =>
    k p N3 H3 ((f1.trans f2).trans f3) (Fr.fresh (o := .lst []) (f1.trans f2) e hp).1 hN c
theorem e_un {r : V → Hp → VK → Prop} (ha : E ta ρ a) (hr : ∀ x N H, Ex N H → Rp N x a → ∀ Q : VK, (∀ v N' H', Fr [] N H N' H' → Rp N' v d → Q v H') → r x H Q) : E (tUn r ta) ρ d := fun σ N H S e Q k =>
  ha σ N H S e _ fun x N1 H1 f1 rx => hr x N1 H1 f1.sub rx Q fun v N3 H3 f3 rv => k v N3 H3 (f1.trans f3) rv
theorem ea_nil : EA tNil ρ [] := fun σ N H S e Q k => k [] N H (Fr.refl e) .nil
theorem ea_cons {tr : TA} {ds : List D} (ha : E ta ρ a) (hr : EA tr ρ ds) : EA (tCons ta tr) ρ (a :: ds) := fun σ N H S e Q k =>
  ha σ N H S e _ fun x N1 H1 f1 rx => hr σ N1 H1 (S.mono f1.sml) f1.sub _ fun vs N2 H2 f2 rv => k (x :: vs) N2 H2 (f1.trans f2) (.cons (rx.mono f2.sml) rv)
theorem ea1 (ha : E ta ρ a) : EA (tCons ta tNil) ρ [a] := ea_cons ha ea_nil
theorem ea2 (ha : E ta ρ a) (hb : E tb ρ b) : EA (tCons ta (tCons tb tNil)) ρ [a, b] := ea_cons ha (ea1 hb)
theorem ea3 (ha : E ta ρ a) (hb : E tb ρ b) (hc : E tc ρ c) : EA (tCons ta (tCons tb (tCons tc tNil))) ρ [a, b, c] := ea_cons ha (ea2 hb hc)
theorem ea4 {td : TE} (ha : E ta ρ a) (hb : E tb ρ b) (hc : E tc ρ c) (hd : E td ρ d) : EA (tCons ta (tCons tb (tCons tc (tCons td tNil)))) ρ [a, b, c, d] := ea_cons ha (ea3 hb hc hd)
theorem le_line {n : Nat} (h : n ≤ 100000) : n ≤ sizeLine := Nat.le_trans h (by decide)
theorem lt_line {n : Nat} (h : n ≤ 100000) : n < sizeLine := Nat.lt_of_le_of_lt h (by decide)
theorem e_tup {t : TA} {ds : List D} (h : EA t ρ ds) (hz : ds.length ≤ 100000 := by first | decide | simp) : E (tTup t) ρ (.tup ds) := fun σ N H S e Q k =>
  h σ N H S e _ fun vs N1 H1 f1 r => ⟨by rw [r.length]; exact le_line hz, fun p hp => k (.ref p) _ _ (f1.trans (Fr.made f1.sub hp)) (.tup upd_same (r.mono (Fr.made (M := []) f1.sub hp).sml))⟩
theorem el_lst {t : TA} {ds : List D} (h : EA t ρ ds) (hz : ds.length ≤ 100000 := by first | decide | simp) : EL (tLst t) ρ (.lst ds) := fun σ N H S e Q k =>
  h σ N H S e _ fun vs N1 H1 f1 r => ⟨by rw [r.length]; exact le_line hz, fun p hp => k p N1 _ (f1.trans (Fr.laid f1.sub hp)) (Fr.fresh (o := .lst []) f1 e hp).1 (none_of_ex f1.sub hp) ⟨vs, upd_same, r⟩⟩
theorem e_call {r : List V → Hp → VK → Prop} {t : TA} {ds : List D} (h : EA t ρ ds) (hr : RCD r ds d) : E (tCB r t) ρ d := fun σ N H S e Q k =>
  h σ N H S e _ fun vs N1 H1 f1 rv => hr vs N1 H1 f1.sub rv Q fun v N3 H3 f3 rv => k v N3 H3 (f1.trans f3) rv
theorem el_call {r : List V → Hp → VK → Prop} {t : TA} {ds : List D} (h : EA t ρ ds) (hr : RCL r ds d) : EL (tCB r t) ρ d := fun σ N H S e Q k =>
  h σ N H S e _ fun vs N1 H1 f1 rv => hr vs N1 H1 f1.sub rv Q fun p N3 H3 f3 hp hN c => k p N3 H3 (f1.trans f3) (Fr.fresh (o := .lst []) f1 e hp).1 hN c
theorem e_is {d' : D} (h : E te ρ d) (e : d = d') : E te ρ d' := e ▸ h
theorem el_is {d' : D} (h : EL te ρ d) (e : d = d') : EL te ρ d' := e ▸ h
theorem et_is {tt : TT} {b b' : Bool} (h : ET tt ρ b) (e : b = b') : ET tt ρ b' := e ▸ h
end


/-! ### operations by values, joined -/
def uAdd (K : PySem.W.Frag) : R2 := fun x y H Q => rI0 (fun i j => .int (i + j)) x y H Q ∨ (rCatA K x y H Q ∨ rCat x y H Q)
def uSub : R2 := rI0 fun i j => .int (i - j)
def uMul : R2 := rI CMul fun i j => .int (i * j)
def uDiv : R2 := rI CDivN fun i j => .int (i.fdiv j)
def uMod : R2 := rI (fun _ j => j ≠ 0) fun i j => .int (i.fmod j)
def uPow : R2 := rI CPow fun i j => .int (i ^ j.toNat)
def uLt : R2 := rI0 fun i j => .bl (decide (i < j))
def uLe : R2 := rI0 fun i j => .bl (decide (i ≤ j))
def uGt : R2 := rI0 fun i j => .bl (decide (j < i))
def uGe : R2 := rI0 fun i j => .bl (decide (j ≤ i))
def uIsN : R2 := fun x y H Q => y = .non ∧ Q (.bl (decide (x = .non))) H
def uNotN : R2 := fun x y H Q => y = .non ∧ Q (.bl (!decide (x = .non))) H
def uIn (K : PySem.W.Frag) : R2 := fun x y H Q => rInD K x y H Q ∨ rIn K false x y H Q
def uNotIn (K : PySem.W.Frag) : R2 := fun x y H Q => rNotInD K x y H Q ∨ rIn K true x y H Q
def uSl (K : PySem.W.Frag) : V → Option Int → Option Int → Hp → VK → Prop := fun x lo hi H Q => rSlL K x lo hi H Q ∨ rSlA K x lo hi H Q
section
variable {X : Cx}
theorem op_addU : OpR X (binaryOp .Add) (uAdd X.K) := op_add.or (op_catA.or op_cat)
theorem op_subU : OpR X (binaryOp .Sub) uSub := op_sub
theorem op_mulU : OpR X (binaryOp .Mult) uMul := op_mul
theorem op_divU : OpR X (binaryOp .FloorDiv) uDiv := op_fdivN
theorem op_modU : OpR X (binaryOp .Mod) uMod := op_modN
theorem op_powU : OpR X (binaryOp .Pow) uPow := op_pow
theorem op_ltU : OpR X (compareOp .Lt) uLt := op_lt
theorem op_leU : OpR X (compareOp .LtE) uLe := op_le
theorem op_gtU : OpR X (compareOp .Gt) uGt := op_gt
theorem op_geU : OpR X (compareOp .GtE) uGe := op_ge
theorem op_isNU : OpR X (compareOp .Is) uIsN := op_isN
theorem op_notNU : OpR X (compareOp .IsNot) uNotN := op_notN
theorem op_inU (hu : X.A.units + 65 < cLine) : OpR X (compareOp .In) (uIn X.K) := (op_inD hu).or op_in_seq
theorem op_notInU (hu : X.A.units + 65 < cLine) : OpR X (compareOp .NotIn) (uNotIn X.K) := (op_notInD hu).or op_notIn_seq
theorem sl_U : SlR X (uSl X.K) := sl_list.or sl_tupA
end

/-! ### the same of data -/
section
variable {K : PySem.W.Frag} {ρ : List Sl} {ta tb tc te : TE} {a b c d : D} {i j : Int} {ds es : List D}
theorem rI0_int {g : Int → Int → V} {f : D} (hf : ∀ N, Rp N (g i j) f) : R2D (rI0 g) (.int i) (.int j) f := fun x y N H e rx ry Q k =>
  ⟨i, j, rx.inv_int, ry.inv_int, k _ N H (Fr.refl e) (hf N)⟩
theorem rI_int {C : Int → Int → Prop} {g : Int → Int → V} {f : D} (hc : C i j) (hf : ∀ N, Rp N (g i j) f) : R2D (rI C g) (.int i) (.int j) f := fun x y N H e rx ry Q k =>
  ⟨i, j, rx.inv_int, ry.inv_int, hc, k _ N H (Fr.refl e) (hf N)⟩
theorem e_add (ha : E ta ρ (.int i)) (hb : E tb ρ (.int j)) : E (tOp (uAdd K) ta tb) ρ (.int (i + j)) := e_op ha hb fun x y N H e rx ry Q k => .inl (rI0_int (fun _ => .int _) x y N H e rx ry Q k)
theorem e_sub (ha : E ta ρ (.int i)) (hb : E tb ρ (.int j)) : E (tOp uSub ta tb) ρ (.int (i - j)) := e_op ha hb (rI0_int fun _ => .int _)
theorem e_mul (ha : E ta ρ (.int i)) (hb : E tb ρ (.int j)) (hc : CMul i j) : E (tOp uMul ta tb) ρ (.int (i * j)) := e_op ha hb (rI_int hc fun _ => .int _)
theorem e_div (ha : E ta ρ (.int i)) (hb : E tb ρ (.int j)) (hc : CDivN i j) : E (tOp uDiv ta tb) ρ (.int (i.fdiv j)) := e_op ha hb (rI_int hc fun _ => .int _)
theorem e_mod (ha : E ta ρ (.int i)) (hb : E tb ρ (.int j)) (hc : j ≠ 0) : E (tOp uMod ta tb) ρ (.int (i.fmod j)) := e_op ha hb (rI_int hc fun _ => .int _)
theorem e_pow (ha : E ta ρ (.int i)) (hb : E tb ρ (.int j)) (hc : CPow i j) : E (tOp uPow ta tb) ρ (.int (i ^ j.toNat)) := e_op ha hb (rI_int hc fun _ => .int _)
theorem e_lt (ha : E ta ρ (.int i)) (hb : E tb ρ (.int j)) : E (tOp uLt ta tb) ρ (.bl (decide (i < j))) := e_op ha hb (rI0_int fun _ => .bl _)
theorem e_le (ha : E ta ρ (.int i)) (hb : E tb ρ (.int j)) : E (tOp uLe ta tb) ρ (.bl (decide (i ≤ j))) := e_op ha hb (rI0_int fun _ => .bl _)
theorem e_gt (ha : E ta ρ (.int i)) (hb : E tb ρ (.int j)) : E (tOp uGt ta tb) ρ (.bl (decide (j < i))) := e_op ha hb (rI0_int fun _ => .bl _)
theorem e_ge (ha : E ta ρ (.int i)) (hb : E tb ρ (.int j)) : E (tOp uGe ta tb) ρ (.bl (decide (j ≤ i))) := e_op ha hb (rI0_int fun _ => .bl _)
theorem e_neg (ha : E ta ρ (.int i)) : E (tUn (rU fun i => .int (-i)) ta) ρ (.int (-i)) := e_un ha fun x N H e rx Q k => ⟨i, rx.inv_int, k _ N H (Fr.refl e) (.int _)⟩
theorem Rp.non_iff {N : Hp} {v : V} {d : D} (r : Rp N v d) : decide (v = .non) = isNon d := by
  cases r <;> simp [isNon]
theorem e_isN (ha : E ta ρ a) : E (tOp uIsN ta (tC .non)) ρ (.bl (isNon a)) := e_op ha e_non fun x y N H e rx ry Q k => by
  refine ⟨ry.inv_non, ?_⟩
  rw [rx.non_iff]
  exact k _ N H (Fr.refl e) (.bl _)
theorem e_notN (ha : E ta ρ a) : E (tOp uNotN ta (tC .non)) ρ (.bl (!isNon a)) := e_op ha e_non fun x y N H e rx ry Q k => by
  refine ⟨ry.inv_non, ?_⟩
  rw [rx.non_iff]
  exact k _ N H (Fr.refl e) (.bl _)
theorem okD_split {d : D} (h : okD d = true) : nd d = true ∧ SeqAt.shaped (toPy d) = true := by
  unfold okD at h
  simpa using h
theorem e_eq (ha : E ta ρ a) (hb : E tb ρ b) (oa : okD a = true) (ob : okD b = true) : E (tOp (rEqD K) ta tb) ρ (.bl (eqD a b)) := e_op ha hb fun x y N H e rx ry Q k =>
  ⟨toPy a, toPy b, (rx.mono e).dp (okD_split oa).1, (ry.mono e).dp (okD_split ob).1, (okD_split oa).2, (okD_split ob).2, k _ N H (Fr.refl e) (.bl _)⟩
theorem e_ne (ha : E ta ρ a) (hb : E tb ρ b) (oa : okD a = true) (ob : okD b = true) : E (tOp (rNeD K) ta tb) ρ (.bl (!eqD a b)) := e_op ha hb fun x y N H e rx ry Q k =>
  ⟨toPy a, toPy b, (rx.mono e).dp (okD_split oa).1, (ry.mono e).dp (okD_split ob).1, (okD_split oa).2, (okD_split ob).2, k _ N H (Fr.refl e) (.bl _)⟩
theorem ok_int (i : Int) : okD (.int i) = true := rfl
theorem ok_bl (i : Bool) : okD (.bl i) = true := rfl
theorem ok_non : okD .non = true := rfl
theorem e_eqI (ha : E ta ρ (.int i)) (hb : E tb ρ (.int j)) : E (tOp (rEqD K) ta tb) ρ (.bl (decide (i = j))) := e_is (e_eq ha hb rfl rfl) (by
  show D.bl (i == j) = _
  rw [Bool.beq_eq_decide_eq])
theorem e_neI (ha : E ta ρ (.int i)) (hb : E tb ρ (.int j)) : E (tOp (rNeD K) ta tb) ρ (.bl (!decide (i = j))) := e_is (e_ne ha hb rfl rfl) (by
  show D.bl (!(i == j)) = _
  rw [Bool.beq_eq_decide_eq])
theorem e_eqS {x y : Str} (ha : E ta ρ (.str x)) (hb : E tb ρ (.str y)) (hx : okD (.str x) = true) (hy : okD (.str y) = true) : E (tOp (rEqD K) ta tb) ρ (.bl (decide (x = y))) := e_is (e_eq ha hb hx hy) (by
  show D.bl (x == y) = _
  rw [Bool.beq_eq_decide_eq])
theorem e_addT (ha : E ta ρ (.tup ds)) (hb : E tb ρ (.tup es)) (hz : ds.length + es.length ≤ 100000) : E (tOp (uAdd K) ta tb) ρ (.tup (ds ++ es)) := e_op ha hb fun x y N H e rx ry Q k => by
  obtain ⟨a, xs, rfl, h1, r1⟩ := rx.inv_tup
  obtain ⟨b, ys, rfl, h2, r2⟩ := ry.inv_tup
  refine .inr (.inl ⟨a, b, xs, ys, rfl, rfl, SqT.of (e _ _ h1), SqT.of (e _ _ h2), by rw [r1.length, r2.length]; exact le_line hz, fun q => ?_, fun q1 q2 => ?_, fun q1 q2 p hp => ?_⟩)
  · have z := r1.nil_iff.mp q
    subst z
    exact k _ N H (Fr.refl e) ry
  · have z := r2.nil_iff.mp q2
    subst z
    refine k _ N H (Fr.refl e) ?_
    rw [List.append_nil]
    exact rx
  · exact k _ _ _ (Fr.made e hp) (.tup upd_same ((r1.append r2).mono (Fr.made (M := []) e hp).sml))
theorem el_addL (ha : E ta ρ (.lst ds)) (hb : E tb ρ (.lst es)) (hz : ds.length + es.length ≤ 100000) : EL (tOp (uAdd K) ta tb) ρ (.lst (ds ++ es)) := el_op ha hb fun x y N H e rx ry Q k => by
  obtain ⟨a, xs, rfl, h1, r1⟩ := rx.inv_lst
  obtain ⟨b, ys, rfl, h2, r2⟩ := ry.inv_lst
  exact .inr (.inr ⟨a, b, xs, ys, rfl, rfl, e _ _ h1, e _ _ h2, by rw [r1.length, r2.length]; exact le_line hz, fun p hp =>
    k p N _ (Fr.laid e hp) hp (none_of_ex e hp) ⟨_, upd_same, r1.append r2⟩⟩)
theorem atI_rel {H : Hp} {vs : List V} {ds : List D} {i : Int} {d : D} (r : Rps H vs ds) (h : atI ds i = some d) : ∃ v, atI vs i = some v ∧ Rp H v d := by
  unfold atI at h ⊢
  rw [r.length]
  cases q : ixN ds.length i with
  | none => rw [q] at h; cases h
  | some j =>
    rw [q] at h
    exact r.get h
theorem e_ixT (ha : E ta ρ (.tup ds)) (hb : E tb ρ (.int i)) (h : atI ds i = some d) : E (tOp (rIx K) ta tb) ρ d := e_op ha hb fun x y N H e rx ry Q k => by
  obtain ⟨a, xs, rfl, h1, r1⟩ := rx.inv_tup
  obtain ⟨v, hv, rv⟩ := atI_rel r1 h
  exact .inr (.inl ⟨a, xs, i, v, rfl, ry.inv_int, SqT.of (e _ _ h1), hv, k _ N H (Fr.refl e) rv⟩)
theorem e_ixL (ha : E ta ρ (.lst ds)) (hb : E tb ρ (.int i)) (h : atI ds i = some d) : E (tOp (rIx K) ta tb) ρ d := e_op ha hb fun x y N H e rx ry Q k => by
  obtain ⟨a, xs, rfl, h1, r1⟩ := rx.inv_lst
  obtain ⟨v, hv, rv⟩ := atI_rel r1 h
  exact .inl ⟨a, xs, i, v, rfl, ry.inv_int, SqL.of (e _ _ h1), hv, k _ N H (Fr.refl e) rv⟩
/-! slices -/
def cutL {α : Type} (xs : List α) (lo hi : Option Int) : List α := (xs.drop (HT.sIx xs.length 0 lo)).take (HT.sIx xs.length xs.length hi - HT.sIx xs.length 0 lo)
theorem Rps.cut {H : Hp} {vs : List V} {ds : List D} (r : Rps H vs ds) (lo hi : Option Int) : Rps H (cutV vs lo hi) (cutL ds lo hi) := by
  unfold cutV cutL
  rw [r.length]
  exact (r.drop _).take _
theorem eo_none : EO tNoPart ρ none := fun σ N H S e Q k => k N H (Fr.refl e)
theorem eo_some (h : E te ρ (.int i)) : EO (tPart te) ρ (some i) := fun σ N H S e Q k => h σ N H S e _ fun v N1 H1 f r => ⟨i, r.inv_int, k N1 H1 f⟩
theorem e_slT {tl th : TO} {lo hi : Option Int} (h : E te ρ (.tup ds)) (hl : EO tl ρ lo) (hh : EO th ρ hi) : E (tSl (uSl K) te tl th) ρ (.tup (cutL ds lo hi)) := fun σ N H S e Q k =>
  h σ N H S e _ fun x N1 H1 f1 rx => hl σ N1 H1 (S.mono f1.sml) f1.sub _ fun N2 H2 f2 => hh σ N2 H2 ((S.mono f1.sml).mono f2.sml) f2.sub _ fun N3 H3 f3 => by
    have rx3 := (rx.mono f2.sml).mono f3.sml
    have ff := (f1.trans f2).trans f3
    obtain ⟨a, xs, rfl, h1, r1⟩ := rx3.inv_tup
    have hc := r1.cut lo hi
    refine .inr ⟨a, xs, rfl, SqT.of (f3.sub _ _ h1), fun q => ?_, fun q p hp => ?_⟩
    · refine k _ N3 H3 ff ?_
      have e1 : cutV xs lo hi = xs := by
        unfold cutV
        rw [q.1, q.2]
        simp
      rw [e1] at hc
      exact .tup h1 hc
    · exact k _ _ _ (ff.trans (Fr.made f3.sub hp)) (.tup upd_same (hc.mono (Fr.made (M := []) f3.sub hp).sml))
theorem el_slL {tl th : TO} {lo hi : Option Int} (h : E te ρ (.lst ds)) (hl : EO tl ρ lo) (hh : EO th ρ hi) : EL (tSl (uSl K) te tl th) ρ (.lst (cutL ds lo hi)) := fun σ N H S e Q k =>
  h σ N H S e _ fun x N1 H1 f1 rx => hl σ N1 H1 (S.mono f1.sml) f1.sub _ fun N2 H2 f2 => hh σ N2 H2 ((S.mono f1.sml).mono f2.sml) f2.sub _ fun N3 H3 f3 => by
    have rx3 := (rx.mono f2.sml).mono f3.sml
    have ff := (f1.trans f2).trans f3
    obtain ⟨a, xs, rfl, h1, r1⟩ := rx3.inv_lst
    exact .inl ⟨a, xs, rfl, SqL.of (f3.sub _ _ h1), fun p hp => k p N3 _ (ff.trans (Fr.laid f3.sub hp)) (Fr.fresh (o := .lst []) ff e hp).1 (none_of_ex f3.sub hp) ⟨_, upd_same, r1.cut lo hi⟩⟩
/-! in, not in -/
def flatD : D → Bool
  | .non => true
  | .bl _ => true
  | .int _ => true
  | .str _ => true
  | _ => false
theorem Rp.flat {H : Hp} {v : V} {d : D} (r : Rp H v d) (h : flatD d = true) : flatV v = true := by
  cases r <;> first | rfl | (simp [flatD] at h)
theorem Rps.flat {H : Hp} : ∀ {vs : List V} {ds : List D}, Rps H vs ds → ds.all flatD = true → vs.all flatV = true
  | _, _, .nil, _ => rfl
  | _, _, .cons r rs, h => by
    simp only [List.all_cons, Bool.and_eq_true] at h ⊢
    exact ⟨r.flat h.1, Rps.flat rs h.2⟩
theorem eqV_D {H : Hp} {v w : V} {a b : D} (ra : Rp H v a) (rb : Rp H w b) (ha : flatD a = true) (hb : flatD b = true) : eqV v w = eqD a b := by
  cases ra <;> cases rb <;> first | rfl | (simp [flatD] at ha hb) | skip
  all_goals (simp only [eqV, eqD, toPy, PyData.eqv] <;> rfl)
theorem inV_D {H : Hp} {w : V} {b : D} (rb : Rp H w b) (hb : flatD b = true) : ∀ {vs : List V} {ds : List D}, Rps H vs ds → ds.all flatD = true → inV w vs = ds.any fun z => eqD z b
  | _, _, .nil, _ => rfl
  | _, _, .cons r rs, h => by
    simp only [List.all_cons, Bool.and_eq_true] at h
    have ih := inV_D rb hb rs h.2
    unfold inV at ih ⊢
    rw [List.any_cons, List.any_cons, ih, eqV_D r rb h.1 hb]
theorem any_toPy (b : D) (ds : List D) : ((toPys ds).any fun z => PyData.eqv z (toPy b)) = ds.any fun z => eqD z b := by
  rw [toPys_map, List.any_map]; rfl
theorem e_inT (ha : E ta ρ a) (hb : E tb ρ (.tup ds)) (fa : flatD a = true) (fd : ds.all flatD = true) : E (tOp (uIn K) ta tb) ρ (.bl (ds.any fun z => eqD z a)) := e_op ha hb fun x y N H e rx ry Q k => by
  obtain ⟨p, xs, rfl, h1, r1⟩ := ry.inv_tup
  refine .inr ⟨p, xs, rfl, .inr (SqT.of (e _ _ h1)), rx.flat fa, r1.flat fd, ?_⟩
  rw [if_neg Bool.false_ne_true, inV_D rx fa r1 fd]
  exact k _ N H (Fr.refl e) (.bl _)
theorem e_ninT (ha : E ta ρ a) (hb : E tb ρ (.tup ds)) (fa : flatD a = true) (fd : ds.all flatD = true) : E (tOp (uNotIn K) ta tb) ρ (.bl (!ds.any fun z => eqD z a)) := e_op ha hb fun x y N H e rx ry Q k => by
  obtain ⟨p, xs, rfl, h1, r1⟩ := ry.inv_tup
  refine .inr ⟨p, xs, rfl, .inr (SqT.of (e _ _ h1)), rx.flat fa, r1.flat fd, ?_⟩
  rw [if_pos rfl, inV_D rx fa r1 fd]
  exact k _ N H (Fr.refl e) (.bl _)
theorem e_inL (ha : E ta ρ a) (hb : E tb ρ (.lst ds)) (oa : okD a = true) (od : okD (.lst ds) = true) : E (tOp (uIn K) ta tb) ρ (.bl (ds.any fun z => eqD z a)) := e_op ha hb fun x y N H e rx ry Q k => by
  refine .inl ⟨toPy a, toPys ds, (rx.mono e).dp (okD_split oa).1, (ry.mono e).dp (okD_split od).1, (okD_split oa).2, (okD_split od).2, ?_⟩
  rw [any_toPy]
  exact k _ N H (Fr.refl e) (.bl _)
theorem e_ninL (ha : E ta ρ a) (hb : E tb ρ (.lst ds)) (oa : okD a = true) (od : okD (.lst ds) = true) : E (tOp (uNotIn K) ta tb) ρ (.bl (!ds.any fun z => eqD z a)) := e_op ha hb fun x y N H e rx ry Q k => by
  refine .inl ⟨toPy a, toPys ds, (rx.mono e).dp (okD_split oa).1, (ry.mono e).dp (okD_split od).1, (okD_split oa).2, (okD_split od).2, ?_⟩
  rw [any_toPy]
  exact k _ N H (Fr.refl e) (.bl _)
/-! tests -/
theorem et_B {k : Bool} (h : E te ρ (.bl k)) : ET (tB te) ρ k := fun σ N H S e Q q => h σ N H S e _ fun v N1 H1 f r => ⟨k, r.inv_bl, q N1 H1 f⟩
theorem et_T {k : Bool} (h : E te ρ (.bl k)) : ET (tTest te) ρ k := fun σ N H S e Q q => h σ N H S e _ fun v N1 H1 f r => ⟨k, r.inv_bl, q N1 H1 f⟩
theorem et_and {t u : TT} {p q : Bool} (h1 : ET t ρ p) (h2 : p = true → ET u ρ q) : ET (tAnd t u) ρ (p && q) := fun σ N H S e Q k => h1 σ N H S e _ fun N1 H1 f1 => by
  cases p with
  | true => exact h2 rfl σ N1 H1 (S.mono f1.sml) f1.sub _ fun N2 H2 f2 => k N2 H2 (f1.trans f2)
  | false => exact k N1 H1 f1
theorem et_or {t u : TT} {p q : Bool} (h1 : ET t ρ p) (h2 : p = false → ET u ρ q) : ET (tOr t u) ρ (p || q) := fun σ N H S e Q k => h1 σ N H S e _ fun N1 H1 f1 => by
  cases p with
  | false => exact h2 rfl σ N1 H1 (S.mono f1.sml) f1.sub _ fun N2 H2 f2 => k N2 H2 (f1.trans f2)
  | true => exact k N1 H1 f1
theorem et_not {t : TT} {p : Bool} (h1 : ET t ρ p) : ET (tNot t) ρ (!p) := fun σ N H S e Q k => h1 σ N H S e _ fun N1 H1 f1 => k N1 H1 f1
theorem e_andV {p q : Bool} (h1 : E ta ρ (.bl p)) (h2 : p = true → E tb ρ (.bl q)) : E (tAndV ta tb) ρ (.bl (p && q)) := fun σ N H S e Q k => h1 σ N H S e _ fun v N1 H1 f1 r => ⟨p, r.inv_bl, by
  cases p with
  | true => exact h2 rfl σ N1 H1 (S.mono f1.sml) f1.sub _ fun v N2 H2 f2 r2 => k v N2 H2 (f1.trans f2) r2
  | false => exact k _ N1 H1 f1 (.bl _)⟩
theorem e_orV {p q : Bool} (h1 : E ta ρ (.bl p)) (h2 : p = false → E tb ρ (.bl q)) : E (tOrV ta tb) ρ (.bl (p || q)) := fun σ N H S e Q k => h1 σ N H S e _ fun v N1 H1 f1 r => ⟨p, r.inv_bl, by
  cases p with
  | false => exact h2 rfl σ N1 H1 (S.mono f1.sml) f1.sub _ fun v N2 H2 f2 r2 => k v N2 H2 (f1.trans f2) r2
  | true => exact k _ N1 H1 f1 (.bl _)⟩
theorem e_notV {p : Bool} (h1 : E ta ρ (.bl p)) : E (tNotV ta) ρ (.bl (!p)) := fun σ N H S e Q k => h1 σ N H S e _ fun v N1 H1 f1 r => ⟨p, r.inv_bl, k _ N1 H1 f1 (.bl _)⟩
theorem e_if {t : TT} {p : Bool} (h : ET t ρ p) (h1 : p = true → E ta ρ d) (h2 : p = false → E tb ρ d) : E (tIf t ta tb) ρ d := fun σ N H S e Q k => h σ N H S e _ fun N1 H1 f1 => by
  cases p with
  | true => exact h1 rfl σ N1 H1 (S.mono f1.sml) f1.sub _ fun v N2 H2 f2 r2 => k v N2 H2 (f1.trans f2) r2
  | false => exact h2 rfl σ N1 H1 (S.mono f1.sml) f1.sub _ fun v N2 H2 f2 r2 => k v N2 H2 (f1.trans f2) r2
theorem e_ifB {t : TT} {p : Bool} (h : ET t ρ p) (h1 : p = true → E ta ρ a) (h2 : p = false → E tb ρ b) : E (tIf t ta tb) ρ (if p = true then a else b) := by
  refine e_if h (fun q => ?_) (fun q => ?_)
  · rw [if_pos q]; exact h1 q
  · rw [if_neg (by rw [q]; exact Bool.false_ne_true)]; exact h2 q
theorem e_chain {p q : Bool} {r r' : R2} (ha : E ta ρ a) (hb : E tb ρ b) (hr : R2D r a b (.bl p)) (hc : p = true → E tc ρ c) (hr' : p = true → R2D r' b c (.bl q)) : E (tChain r r' ta tb tc) ρ (.bl (p && q)) := fun σ N H S e Q k =>
  ha σ N H S e _ fun x N1 H1 f1 rx => hb σ N1 H1 (S.mono f1.sml) f1.sub _ fun y N2 H2 f2 ry => hr x y N2 H2 f2.sub (rx.mono f2.sml) ry _ fun z N3 H3 f3 rz => ⟨p, rz.inv_bl, by
    have ff := (f1.trans f2).trans f3
    cases p with
    | true => exact hc rfl σ N3 H3 (S.mono ff.sml) ff.sub _ fun u N4 H4 f4 ru => hr' rfl y u N4 H4 f4.sub ((ry.mono f3.sml).mono f4.sml) ru _ fun w N5 H5 f5 rw' => k w N5 H5 ((ff.trans f4).trans f5) rw'
    | false => exact k _ N3 H3 ff (.bl _)⟩
def truD : D → Bool
  | .non => false
  | .bl b => b
  | .int i => i != 0
  | .str x => (x.length : Int) != 0
  | .lst ds => !ds.isEmpty
  | .tup ds => !ds.isEmpty
  | .ftup ds => !ds.isEmpty
  | .dk kvs => !kvs.isEmpty
  | .dt kvs => !kvs.isEmpty
  | .opq _ _ => false
def truOk : D → Bool
  | .dt _ => false
  | .str x => decide (x.length ≤ 100000)
  | _ => true
theorem Rps.isEmpty {H : Hp} {vs : List V} {ds : List D} (r : Rps H vs ds) : vs.isEmpty = ds.isEmpty := by cases r <;> rfl
theorem et_tru {K : PySem.W.Frag} (h : E te ρ d) (hk : truOk d = true) : ET (fun σ H Q => te σ H fun x H1 => ∃ k, TruV K x H1 k ∧ Q k H1) ρ (truD d) := fun σ N H S e Q q => h σ N H S e _ fun v N1 H1 f r => by
  refine ⟨truD d, ?_, q N1 H1 f⟩
  cases r with
  | non => rfl
  | bl b => rfl
  | int i => rfl
  | str x => exact ⟨le_line (by simpa [truOk] using hk), rfl⟩
  | lst hq r => exact .inl ⟨_, SqL.of (f.sub _ _ hq), by rw [r.isEmpty]; rfl⟩
  | tup hq r => exact .inr (.inl ⟨_, SqT.of (f.sub _ _ hq), by rw [r.isEmpty]; rfl⟩)
  | ftup q hq r => exact .inr (.inl ⟨_, .inl (.inr ⟨_, f.sub _ _ hq⟩), by rw [r.isEmpty]; rfl⟩)
  | dk hq k' r =>
    refine .inr (.inr ⟨_, f.sub _ _ hq, ?_⟩)
    rename_i a vs kvs
    have : vs.isEmpty = kvs.isEmpty := by
      cases vs <;> cases kvs <;> first | rfl | (simp at k')
    rw [this]; rfl
  | dt h k' r => simp [truOk] at hk
end

/-! ### len, int(flag), isinstance -/
section
variable {K : PySem.W.Frag} {ρ : List Sl} {ta tb : TE} {d : D} {ds : List D}
def rLenU (K : PySem.W.Frag) : List V → Hp → VK → Prop := fun xs H Q => ∃ x n, xs = [x] ∧ LenV K x H n ∧ Q (.int n) H
theorem e_lenT (h : E ta ρ (.tup ds)) : E (tCB (rLenU K) (tCons ta tNil)) ρ (.int (ds.length : Int)) := e_call (ea1 h) fun xs N H e r Q k => by
  obtain ⟨v, r', rfl, h1, h2⟩ := r.inv_cons
  rw [h2.inv_nil]
  obtain ⟨a, ys, rfl, g1, g2⟩ := h1.inv_tup
  refine ⟨.ref a, ys.length, rfl, .inr ⟨_, SqT.of (e _ _ g1), rfl⟩, ?_⟩
  rw [g2.length]
  exact k _ N H (Fr.refl e) (.int _)
theorem e_lenL (h : E ta ρ (.lst ds)) : E (tCB (rLenU K) (tCons ta tNil)) ρ (.int (ds.length : Int)) := e_call (ea1 h) fun xs N H e r Q k => by
  obtain ⟨v, r', rfl, h1, h2⟩ := r.inv_cons
  rw [h2.inv_nil]
  obtain ⟨a, ys, rfl, g1, g2⟩ := h1.inv_lst
  refine ⟨.ref a, ys.length, rfl, .inl ⟨_, SqL.of (e _ _ g1), rfl⟩, ?_⟩
  rw [g2.length]
  exact k _ N H (Fr.refl e) (.int _)
def rIntU : List V → Hp → VK → Prop := fun xs H Q => (∃ i, xs = [.int i] ∧ Q (.int i) H) ∨ ∃ k, xs = [.bl k] ∧ Q (.int (if k then 1 else 0)) H
theorem e_intB {b : Bool} (h : E ta ρ (.bl b)) : E (tCB rIntU (tCons ta tNil)) ρ (.int (if b then 1 else 0)) := e_call (ea1 h) fun xs N H e r Q k => by
  obtain ⟨v, r', rfl, h1, h2⟩ := r.inv_cons
  rw [h2.inv_nil, h1.inv_bl]
  exact .inr ⟨b, rfl, k _ N H (Fr.refl e) (.int _)⟩
def tyD : D → String
  | .non => "NoneType"
  | .bl _ => "bool"
  | .int _ => "int"
  | .str _ => "str"
  | .lst _ => "list"
  | .tup _ => "tuple"
  | .ftup _ => "tuple"
  | .dk _ => "dict"
  | .dt _ => "dict"
  | .opq _ _ => "NoneType"
end
/-! ### max, min of two; sums; all, any -/
section
variable {K : PySem.W.Frag} {ρ : List Sl} {ta tb : TE} {i j : Int}
def rMax2 : List V → Hp → VK → Prop := fun xs H Q => ∃ i j, xs = [.int i, .int j] ∧ Q (.int (if j > i then j else i)) H
def rMin2 : List V → Hp → VK → Prop := fun xs H Q => ∃ i j, xs = [.int i, .int j] ∧ Q (.int (if j < i then j else i)) H
theorem e_max2 (ha : E ta ρ (.int i)) (hb : E tb ρ (.int j)) : E (tCB rMax2 (tCons ta (tCons tb tNil))) ρ (.int (max i j)) := e_call (ea2 ha hb) fun xs N H e r Q k => by
  obtain ⟨v, r', rfl, h1, h2⟩ := r.inv_cons
  obtain ⟨v', r'', rfl, h3, h4⟩ := h2.inv_cons
  rw [h4.inv_nil, h1.inv_int, h3.inv_int]
  refine ⟨i, j, rfl, ?_⟩
  have e1 : (if j > i then j else i) = max i j := by
    rw [Int.max_def]
    split <;> split <;> omega
  rw [e1]
  exact k _ N H (Fr.refl e) (.int _)
theorem e_min2 (ha : E ta ρ (.int i)) (hb : E tb ρ (.int j)) : E (tCB rMin2 (tCons ta (tCons tb tNil))) ρ (.int (min i j)) := e_call (ea2 ha hb) fun xs N H e r Q k => by
  obtain ⟨v, r', rfl, h1, h2⟩ := r.inv_cons
  obtain ⟨v', r'', rfl, h3, h4⟩ := h2.inv_cons
  rw [h4.inv_nil, h1.inv_int, h3.inv_int]
  refine ⟨i, j, rfl, ?_⟩
  have e1 : (if j < i then j else i) = min i j := by
    rw [Int.min_def]
    split <;> split <;> omega
  rw [e1]
  exact k _ N H (Fr.refl e) (.int _)
theorem Rps.one {N : Hp} {xs : List V} {d : D} (r : Rps N xs [d]) : ∃ v, xs = [v] ∧ Rp N v d := by
  obtain ⟨v, r', rfl, h1, h2⟩ := r.inv_cons
  rw [h2.inv_nil]
  exact ⟨v, rfl, h1⟩
theorem e_sumL {ns : List Int} (h : E ta ρ (.lst (ns.map .int))) : E (tCB (rSum K) (tCons ta tNil)) ρ (.int ns.sum) := e_call (ea1 h) fun xs N H e r Q k => by
  obtain ⟨v, rfl, h1⟩ := r.one
  obtain ⟨a, ys, rfl, g1, g2⟩ := h1.inv_lst
  rw [g2.ints] at g1
  exact ⟨a, ns, rfl, SqL.of (e _ _ g1), k _ N H (Fr.refl e) (.int _)⟩
theorem e_allL {ns : List Bool} (h : E ta ρ (.lst (ns.map .bl))) : E (tCB (rAll K) (tCons ta tNil)) ρ (.bl (ns.all id)) := e_call (ea1 h) fun xs N H e r Q k => by
  obtain ⟨v, rfl, h1⟩ := r.one
  obtain ⟨a, ys, rfl, g1, g2⟩ := h1.inv_lst
  rw [g2.bls] at g1
  exact ⟨a, ns, rfl, SqL.of (e _ _ g1), k _ N H (Fr.refl e) (.bl _)⟩
theorem e_anyL {ns : List Bool} (h : E ta ρ (.lst (ns.map .bl))) : E (tCB (rAny K) (tCons ta tNil)) ρ (.bl (ns.any id)) := e_call (ea1 h) fun xs N H e r Q k => by
  obtain ⟨v, rfl, h1⟩ := r.one
  obtain ⟨a, ys, rfl, g1, g2⟩ := h1.inv_lst
  rw [g2.bls] at g1
  exact ⟨a, ns, rfl, SqL.of (e _ _ g1), k _ N H (Fr.refl e) (.bl _)⟩
/-! tuple(list), tuple(tuple), list(..) -/
def rTupU (K : PySem.W.Frag) : List V → Hp → VK → Prop := fun xs H Q => ∃ p ys, xs = [.ref p] ∧ ((SqL K H p ys ∧ ∀ l, H l = none → Q (.ref l) (upd H l (.tup ys))) ∨ (SqT K H p ys ∧ Q (.ref p) H))
def rLstU (K : PySem.W.Frag) : List V → Hp → VK → Prop := fun xs H Q => ∃ p ys, xs = [.ref p] ∧ (SqL K H p ys ∨ SqT K H p ys) ∧ ∀ l, H l = none → Q (.ref l) (upd H l (.lst ys))
variable {ds : List D}
theorem e_tupL (h : E ta ρ (.lst ds)) : E (tCB (rTupU K) (tCons ta tNil)) ρ (.tup ds) := e_call (ea1 h) fun xs N H e r Q k => by
  obtain ⟨v, rfl, h1⟩ := r.one
  obtain ⟨a, ys, rfl, g1, g2⟩ := h1.inv_lst
  exact ⟨a, ys, rfl, .inl ⟨SqL.of (e _ _ g1), fun l hl => k _ _ _ (Fr.made e hl) (.tup upd_same (g2.mono (Fr.made (M := []) e hl).sml))⟩⟩
theorem e_tupT (h : E ta ρ (.tup ds)) : E (tCB (rTupU K) (tCons ta tNil)) ρ (.tup ds) := e_call (ea1 h) fun xs N H e r Q k => by
  obtain ⟨v, rfl, h1⟩ := r.one
  obtain ⟨a, ys, rfl, g1, g2⟩ := h1.inv_tup
  exact ⟨a, ys, rfl, .inr ⟨SqT.of (e _ _ g1), k _ _ _ (Fr.refl e) (.tup g1 g2)⟩⟩
theorem el_lstT (h : E ta ρ (.tup ds)) : EL (tCB (rLstU K) (tCons ta tNil)) ρ (.lst ds) := el_call (ea1 h) fun xs N H e r Q k => by
  obtain ⟨v, rfl, h1⟩ := r.one
  obtain ⟨a, ys, rfl, g1, g2⟩ := h1.inv_tup
  exact ⟨a, ys, rfl, .inr (SqT.of (e _ _ g1)), fun l hl => k l N _ (Fr.laid e hl) hl (none_of_ex e hl) ⟨_, upd_same, g2⟩⟩
theorem el_lstL (h : E ta ρ (.lst ds)) : EL (tCB (rLstU K) (tCons ta tNil)) ρ (.lst ds) := el_call (ea1 h) fun xs N H e r Q k => by
  obtain ⟨v, rfl, h1⟩ := r.one
  obtain ⟨a, ys, rfl, g1, g2⟩ := h1.inv_lst
  exact ⟨a, ys, rfl, .inl (SqL.of (e _ _ g1)), fun l hl => k l N _ (Fr.laid e hl) hl (none_of_ex e hl) ⟨_, upd_same, g2⟩⟩
end


/-! ### what is walked -/
structure Srv (J : It) (L : Hp) (ds : List D) : Prop where
  go : ∀ (i : Nat) (H : Hp), Ex L H → i < ds.length → J.go i H
  stop : ∀ (i : Nat) (H : Hp), Ex L H → ds.length ≤ i → J.stop i H
  yld : ∀ (i : Nat) (d : D) (x : V) (N H H' : Hp), ds[i]? = some d → Ex L N → Ex N H → J.yld i H x H' → ∃ N', Fr [] N H N' H' ∧ Rp N' x d
def Src (wi : TI) (ρ : List Sl) (ds : List D) : Prop := ∀ σ N H, Sg N σ ρ → Ex N H → ∀ R : It → Hp → Prop, (∀ J N1 H1, Fr [] N H N1 H1 → Srv J N1 ds → R J H1) → wi σ H R
def iSeq (K : PySem.W.Frag) (tl : TE) : TI := fun σ H R => tl σ H fun x H1 => (∃ a, x = .ref a ∧ (∃ xs, SqL K H1 a xs) ∧ R (Itl K a) H1) ∨ (∃ a, x = .ref a ∧ (∃ xs, SqT K H1 a xs) ∧ R (Itt K a) H1)
theorem pi_seq {X : Cx} {tg l : Expr} {tl : TE} (hl : PE X l tl) : PI X tg l (iSeq X.K tl) := by
  refine ⟨fun pins s σ H R I h => ?_⟩
  refine thn (hl.run pins s σ H _ I h) fun v s1 ⟨x, H1, I1, r1, q1⟩ => ?_
  rcases q1 with q1 | q1
  · obtain ⟨a, e, ⟨xs, hq⟩, q⟩ := q1
    subst e
    cases r1
    obtain ⟨its, rv, p, hz⟩ := I1.list hq
    refine wpAny_pyIter_list p.isList ?_
    refine ⟨s1.heap.objs.size, [s1.heap.objs.size], _, _, H1, rfl, I1.kept (t' := s1.toks) fun b o e => Heap.get?_push_of_some _ e, turn_list a _, ⟨_, Heap.get?_push_size _ rfl, rfl, rfl⟩, fun b hb => ?_, q⟩
    have e : b = s1.heap.objs.size := by simpa using hb
    subst e
    exact I1.fpOk (Nat.le_refl _) (I1.hok.fresh (Nat.le_refl _))
  · obtain ⟨a, e, ⟨xs, hq⟩, q⟩ := q1
    subst e
    cases r1
    obtain ⟨its, rv, p, hz⟩ := I1.tuple hq
    refine wpAny_pyIter_tuple (show s1.heap.IsTuple a its.toArray from p) ?_
    refine ⟨s1.heap.objs.size, [s1.heap.objs.size], _, _, H1, rfl, I1.kept (t' := s1.toks) fun b o e => Heap.get?_push_of_some _ e, turn_tuple a _, ⟨_, Heap.get?_push_size _ rfl, rfl, rfl⟩, fun b hb => ?_, q⟩
    have e : b = s1.heap.objs.size := by simpa using hb
    subst e
    exact I1.fpOk (Nat.le_refl _) (I1.hok.fresh (Nat.le_refl _))
section
variable {K : PySem.W.Frag} {ρ : List Sl} {te tl : TE} {ds es : List D}
theorem at_lt {α : Type} {l : List α} {i : Nat} {x : α} (h : l[i]? = some x) : i < l.length := (List.getElem?_eq_some_iff.mp h).1
theorem Rps.atN {H : Hp} {vs : List V} {ds : List D} {i : Nat} (r : Rps H vs ds) (h : i < ds.length) : ∃ v, vs[i]? = some v := by
  obtain ⟨v, a, _⟩ := r.get (List.getElem?_eq_getElem h)
  exact ⟨v, a⟩
theorem srv_list {L : Hp} {a : Addr} {xs : List V} (h : L a = some (.lst xs)) (r : Rps L xs ds) : Srv (Itl K a) L ds where
  go := fun i H e hi => let ⟨v, hv⟩ := r.atN hi; ⟨xs, v, SqL.of (e _ _ h), hv⟩
  stop := fun i H e hi => ⟨xs, SqL.of (e _ _ h), by rw [r.length]; exact hi⟩
  yld := fun i d x N H H' hd eL eN y => by
    obtain ⟨rfl, y⟩ := y
    obtain ⟨v, hv, rv⟩ := r.get hd
    have e1 := y xs (SqL.of (eN _ _ (eL _ _ h)))
    rw [hv] at e1
    cases e1
    exact ⟨N, Fr.refl eN, rv.mono eL⟩
theorem srv_tup {L : Hp} {a : Addr} {xs : List V} (h : L a = some (.tup xs)) (r : Rps L xs ds) : Srv (Itt K a) L ds where
  go := fun i H e hi => let ⟨v, hv⟩ := r.atN hi; ⟨xs, v, SqT.of (e _ _ h), hv⟩
  stop := fun i H e hi => ⟨xs, SqT.of (e _ _ h), by rw [r.length]; exact hi⟩
  yld := fun i d x N H H' hd eL eN y => by
    obtain ⟨rfl, y⟩ := y
    obtain ⟨v, hv, rv⟩ := r.get hd
    have e1 := y xs (SqT.of (eN _ _ (eL _ _ h)))
    rw [hv] at e1
    cases e1
    exact ⟨N, Fr.refl eN, rv.mono eL⟩
theorem src_L (h : E tl ρ (.lst ds)) : Src (iSeq K tl) ρ ds := fun σ N H S e R k => h σ N H S e _ fun v N1 H1 f r => by
  obtain ⟨a, xs, rfl, h1, r1⟩ := r.inv_lst
  exact .inl ⟨a, rfl, ⟨xs, SqL.of (f.sub _ _ h1)⟩, k _ N1 H1 f (srv_list h1 r1)⟩
theorem src_T (h : E tl ρ (.tup ds)) : Src (iSeq K tl) ρ ds := fun σ N H S e R k => h σ N H S e _ fun v N1 H1 f r => by
  obtain ⟨a, xs, rfl, h1, r1⟩ := r.inv_tup
  exact .inr ⟨a, rfl, ⟨xs, SqT.of (f.sub _ _ h1)⟩, k _ N1 H1 f (srv_tup h1 r1)⟩
theorem srv_ftup {L : Hp} {a : Addr} {o : Obj} {xs : List V} (h : L a = some (.frz o (.tup xs))) (r : Rps L xs ds) : Srv (Itt K a) L ds where
  go := fun i H e hi => let ⟨v, hv⟩ := r.atN hi; ⟨xs, v, .inl (.inr ⟨o, e _ _ h⟩), hv⟩
  stop := fun i H e hi => ⟨xs, .inl (.inr ⟨o, e _ _ h⟩), by rw [r.length]; exact hi⟩
  yld := fun i d x N H H' hd eL eN y => by
    obtain ⟨rfl, y⟩ := y
    obtain ⟨v, hv, rv⟩ := r.get hd
    have e1 := y xs (.inl (.inr ⟨o, eN _ _ (eL _ _ h)⟩))
    rw [hv] at e1
    cases e1
    exact ⟨N, Fr.refl eN, rv.mono eL⟩
theorem src_F (h : E tl ρ (.ftup ds)) : Src (iSeq K tl) ρ ds := fun σ N H S e R k => h σ N H S e _ fun v N1 H1 f r => by
  obtain ⟨a, o, xs, rfl, _, h1, r1⟩ := r.inv_ftup
  exact .inr ⟨a, rfl, ⟨xs, .inl (.inr ⟨o, f.sub _ _ h1⟩)⟩, k _ N1 H1 f (srv_ftup h1 r1)⟩
/-- a tuple, with its object known or not -/
def tupF (fl : Bool) (ds : List D) : D := match fl with
  | true => .ftup ds
  | false => .tup ds
theorem src_tF {fl : Bool} (h : E tl ρ (tupF fl ds)) : Src (iSeq K tl) ρ ds := by
  cases fl with
  | true => exact src_F h
  | false => exact src_T h
def rangeD (lo : Int) (n : Nat) : List D := (List.range n).map fun i => .int (lo + (i : Nat))
theorem rangeD_len (lo : Int) (n : Nat) : (rangeD lo n).length = n := by simp [rangeD]
theorem rangeD_get {lo : Int} {n i : Nat} (h : i < n) : (rangeD lo n)[i]? = some (.int (lo + (i : Nat))) := by simp [rangeD, h]
theorem srv_rng {L : Hp} (lo : Int) (n : Nat) : Srv (Itr lo n) L (rangeD lo n) where
  go := fun i H e hi => by rw [rangeD_len] at hi; exact hi
  stop := fun i H e hi => by rw [rangeD_len] at hi; exact hi
  yld := fun i d x N H H' hd eL eN y => by
    obtain ⟨rfl, rfl⟩ := y
    have hi := at_lt hd
    rw [rangeD_len] at hi
    rw [rangeD_get hi] at hd
    cases hd
    exact ⟨N, Fr.refl eN, .int _⟩
theorem src_r1 {ta : TA} {n : Int} (h : EA ta ρ [.int n]) (hn : -(2 ^ 62) ≤ n ∧ n < 2 ^ 62) : Src (iRng1 ta) ρ (rangeD 0 n.toNat) := fun σ N H S e R k => h σ N H S e _ fun vs N1 H1 f r => by
  obtain ⟨v, rfl, h1⟩ := r.one
  exact ⟨n, by rw [h1.inv_int], hn.1, hn.2, k _ N1 H1 f (srv_rng 0 n.toNat)⟩
theorem Rps.two {N : Hp} {xs : List V} {d e : D} (r : Rps N xs [d, e]) : ∃ v w, xs = [v, w] ∧ Rp N v d ∧ Rp N w e := by
  obtain ⟨v, r', rfl, h1, h2⟩ := r.inv_cons
  obtain ⟨w, rfl, h3⟩ := h2.one
  exact ⟨v, w, rfl, h1, h3⟩
theorem src_r2 {ta : TA} {lo n : Int} (h : EA ta ρ [.int lo, .int n]) (hn : -(2 ^ 62) ≤ lo ∧ lo < 2 ^ 62 ∧ -(2 ^ 62) ≤ n ∧ n < 2 ^ 62) : Src (iRng2 ta) ρ (rangeD lo (n - lo).toNat) := fun σ N H S e R k => h σ N H S e _ fun vs N1 H1 f r => by
  obtain ⟨v, w, rfl, h1, h2⟩ := r.two
  exact ⟨lo, n, by rw [h1.inv_int, h2.inv_int], hn, k _ N1 H1 f (srv_rng lo _)⟩
def zipD (ds es : List D) : List D := (ds.zip es).map fun p => .tup [p.1, p.2]
theorem zipD_get {i : Nat} {d : D} (h : (zipD ds es)[i]? = some d) : ∃ a b, ds[i]? = some a ∧ es[i]? = some b ∧ d = .tup [a, b] := by
  unfold zipD at h
  rw [List.getElem?_map] at h
  cases q : (ds.zip es)[i]? with
  | none => rw [q] at h; cases h
  | some p =>
    rw [q] at h
    obtain ⟨h1, h2⟩ := List.getElem?_zip_eq_some.mp q
    simp at h
    exact ⟨p.1, p.2, h1, h2, h.symm⟩
theorem zipD_len : (zipD ds es).length = min ds.length es.length := by simp [zipD]
theorem srv_zipL {L : Hp} {a b : Addr} {xs ys : List V} (ha : L a = some (.lst xs)) (ra : Rps L xs ds) (hb : L b = some (.lst ys)) (rb : Rps L ys es) : Srv (Itz K a b) L (zipD ds es) where
  go := fun i H e hi => by
    rw [zipD_len] at hi
    obtain ⟨v, hv⟩ := ra.atN (i := i) (by omega)
    obtain ⟨w, hw⟩ := rb.atN (i := i) (by omega)
    exact ⟨xs, ys, v, w, SqL.of (e _ _ ha), SqL.of (e _ _ hb), hv, hw⟩
  stop := fun i H e hi => by
    rw [zipD_len] at hi
    refine ⟨xs, ys, SqL.of (e _ _ ha), SqL.of (e _ _ hb), ?_⟩
    rw [ra.length, rb.length]
    omega
  yld := fun i d x N H H' hd eL eN y => by
    obtain ⟨T, x1, x2, rfl, nT, rfl, f1, f2⟩ := y
    obtain ⟨d1, d2, h1, h2, rfl⟩ := zipD_get hd
    obtain ⟨v, hv, rv⟩ := ra.get h1
    obtain ⟨w, hw, rw'⟩ := rb.get h2
    have e1 := f1 xs (SqL.of (eN _ _ (eL _ _ ha)))
    rw [hv] at e1
    cases e1
    have e2 := f2 ys (SqL.of (eN _ _ (eL _ _ hb)))
    rw [hw] at e2
    cases e2
    have F := Fr.made (M := []) (o := .tup [x1, x2]) eN nT
    exact ⟨_, F, .tup upd_same (.cons ((rv.mono eL).mono F.sml) (.cons ((rw'.mono eL).mono F.sml) .nil))⟩
theorem srv_zipT {L : Hp} {a b : Addr} {xs ys : List V} (ha : L a = some (.tup xs)) (ra : Rps L xs ds) (hb : L b = some (.tup ys)) (rb : Rps L ys es) : Srv (RZ.ItzT K a b) L (zipD ds es) where
  go := fun i H e hi => by
    rw [zipD_len] at hi
    obtain ⟨v, hv⟩ := ra.atN (i := i) (by omega)
    obtain ⟨w, hw⟩ := rb.atN (i := i) (by omega)
    exact ⟨xs, ys, v, w, SqT.of (e _ _ ha), SqT.of (e _ _ hb), hv, hw⟩
  stop := fun i H e hi => by
    rw [zipD_len] at hi
    refine ⟨xs, ys, SqT.of (e _ _ ha), SqT.of (e _ _ hb), ?_⟩
    rw [ra.length, rb.length]
    omega
  yld := fun i d x N H H' hd eL eN y => by
    obtain ⟨T, x1, x2, rfl, nT, rfl, f1, f2⟩ := y
    obtain ⟨d1, d2, h1, h2, rfl⟩ := zipD_get hd
    obtain ⟨v, hv, rv⟩ := ra.get h1
    obtain ⟨w, hw, rw'⟩ := rb.get h2
    have e1 := f1 xs (SqT.of (eN _ _ (eL _ _ ha)))
    rw [hv] at e1
    cases e1
    have e2 := f2 ys (SqT.of (eN _ _ (eL _ _ hb)))
    rw [hw] at e2
    cases e2
    have F := Fr.made (M := []) (o := .tup [x1, x2]) eN nT
    exact ⟨_, F, .tup upd_same (.cons ((rv.mono eL).mono F.sml) (.cons ((rw'.mono eL).mono F.sml) .nil))⟩
theorem src_zipL {ta : TA} (h : EA ta ρ [.lst ds, .lst es]) : Src (RZ.iZipA K ta) ρ (zipD ds es) := fun σ N H S e R k => h σ N H S e _ fun vs N1 H1 f r => by
  obtain ⟨v, w, rfl, h1, h2⟩ := r.two
  obtain ⟨a, xs, rfl, g1, r1⟩ := h1.inv_lst
  obtain ⟨b, ys, rfl, g2, r2⟩ := h2.inv_lst
  exact ⟨a, b, xs, ys, rfl, .inl ⟨SqL.of (f.sub _ _ g1), SqL.of (f.sub _ _ g2), k _ N1 H1 f (srv_zipL g1 r1 g2 r2)⟩⟩
theorem src_zipT {ta : TA} (h : EA ta ρ [.tup ds, .tup es]) : Src (RZ.iZipA K ta) ρ (zipD ds es) := fun σ N H S e R k => h σ N H S e _ fun vs N1 H1 f r => by
  obtain ⟨v, w, rfl, h1, h2⟩ := r.two
  obtain ⟨a, xs, rfl, g1, r1⟩ := h1.inv_tup
  obtain ⟨b, ys, rfl, g2, r2⟩ := h2.inv_tup
  exact ⟨a, b, xs, ys, rfl, .inr ⟨SqT.of (f.sub _ _ g1), SqT.of (f.sub _ _ g2), k _ N1 H1 f (srv_zipT g1 r1 g2 r2)⟩⟩
def enumD (ds : List D) : List D := ds.mapIdx fun i d => .tup [.int (i : Nat), d]
theorem srv_enumL {L : Hp} {a : Addr} {xs : List V} (h : L a = some (.lst xs)) (r : Rps L xs ds) : Srv (Ite K a) L (enumD ds) where
  go := fun i H e hi => by
    have hi : i < ds.length := by simpa [enumD] using hi
    obtain ⟨v, hv⟩ := r.atN hi
    exact ⟨xs, v, SqL.of (e _ _ h), hv⟩
  stop := fun i H e hi => by
    have hi : ds.length ≤ i := by simpa [enumD] using hi
    exact ⟨xs, SqL.of (e _ _ h), by rw [r.length]; exact hi⟩
  yld := fun i d x N H H' hd eL eN y => by
    obtain ⟨T, x1, rfl, nT, rfl, f1⟩ := y
    unfold enumD at hd
    rw [List.getElem?_mapIdx] at hd
    cases q : ds[i]? with
    | none => rw [q] at hd; cases hd
    | some d1 =>
      rw [q] at hd
      simp at hd
      subst hd
      obtain ⟨v, hv, rv⟩ := r.get q
      have e1 := f1 xs (SqL.of (eN _ _ (eL _ _ h)))
      rw [hv] at e1
      cases e1
      have F := Fr.made (M := []) (o := .tup [.int (i : Nat), x1]) eN nT
      exact ⟨_, F, .tup upd_same (.cons (.int _) (.cons ((rv.mono eL).mono F.sml) .nil))⟩
theorem src_enumL {ta : TA} (h : EA ta ρ [.lst ds]) : Src (iEnum K ta) ρ (enumD ds) := fun σ N H S e R k => h σ N H S e _ fun vs N1 H1 f r => by
  obtain ⟨v, rfl, h1⟩ := r.one
  obtain ⟨a, xs, rfl, g1, r1⟩ := h1.inv_lst
  exact ⟨a, xs, rfl, SqL.of (f.sub _ _ g1), k _ N1 H1 f (srv_enumL g1 r1)⟩
end

/-! ### targets -/
theorem wipe_get (σ : St) (i : Nat) : ∀ vs : List Nat, (L2.wipe σ vs)[i]? = if i ∈ vs ∧ i < σ.length then some none else σ[i]?
  | [] => by simp [L2.wipe]
  | v :: vs => by
    unfold L2.wipe
    rw [List.getElem?_set, wipe_length, wipe_get σ i vs]
    by_cases e : v = i
    · subst e
      by_cases h : v < σ.length
      · simp [h]
      · simp [h]
    · rw [if_neg e]
      have e' : ¬ i = v := fun z => e z.symm
      by_cases h : i ∈ vs ∧ i < σ.length
      · rw [if_pos h, if_pos ⟨List.mem_cons_of_mem _ h.1, h.2⟩]
      · rw [if_neg h, if_neg]
        intro z
        rcases List.mem_cons.mp z.1 with q | q
        · exact e' q
        · exact h ⟨q, z.2⟩
theorem wipe_set (σ : St) (j : Nat) (x : Option V) (vs : List Nat) (h : j ∈ vs) : L2.wipe (σ.set j x) vs = L2.wipe σ vs := by
  apply List.ext_getElem?
  intro i
  rw [wipe_get, wipe_get, List.length_set]
  by_cases q : i ∈ vs ∧ i < σ.length
  · rw [if_pos q, if_pos q]
  · rw [if_neg q, if_neg q]
    by_cases e : j = i
    · subst e
      have : ¬ j < σ.length := fun z => q ⟨h, z⟩
      rw [List.getElem?_eq_none (by simp; omega), List.getElem?_eq_none (by omega)]
    · rw [List.getElem?_set_ne e]
theorem wipe_wipe (σ : St) (vs : List Nat) : L2.wipe (L2.wipe σ vs) vs = L2.wipe σ vs := by
  apply List.ext_getElem?
  intro i
  rw [wipe_get, wipe_length]
  by_cases q : i ∈ vs ∧ i < σ.length
  · rw [if_pos q, wipe_get, if_pos q]
  · rw [if_neg q]
def Tg (g : TG) (ts : List Nat) (ρ : List Sl) (d : D) (ρ' : List Sl) : Prop := ∀ σ N H x, Sg N σ ρ → Ex N H → Rp N x d → ∀ Q : St → Hp → Prop, (∀ σ', Sg N σ' ρ' → (∀ vs : List Nat, (∀ j ∈ ts, j ∈ vs) → L2.wipe σ' vs = L2.wipe σ vs) → Q σ' H) → g x σ H Q
def Tgs (g : TGs) (ts : List Nat) (ρ : List Sl) (ds : List D) (ρ' : List Sl) : Prop := ∀ σ N H xs, Sg N σ ρ → Ex N H → Rps N xs ds → ∀ Q : St → Hp → Prop, (∀ σ', Sg N σ' ρ' → (∀ vs : List Nat, (∀ j ∈ ts, j ∈ vs) → L2.wipe σ' vs = L2.wipe σ vs) → Q σ' H) → g xs σ H Q
section
variable {K : PySem.W.Frag} {ρ ρ1 ρ2 : List Sl} {d : D} {ds : List D}
theorem tg_n (j : Nat) : Tg (gName j) [j] ρ d (ρ.set j (.dat d)) := fun σ N H x S e r Q k =>
  k _ (S.setD j r) fun vs h => wipe_set σ j _ vs (h j (by simp))
theorem tgs_nil : Tgs gNil [] ρ [] ρ := fun σ N H xs S e r Q k => ⟨r.inv_nil, k σ S fun _ _ => rfl⟩
theorem tgs_cons {g : TG} {gs : TGs} {ts us : List Nat} (h1 : Tg g ts ρ d ρ1) (h2 : Tgs gs us ρ1 ds ρ2) : Tgs (gCons g gs) (ts ++ us) ρ (d :: ds) ρ2 := fun σ N H xs S e r Q k => by
  obtain ⟨v, r', rfl, q1, q2⟩ := r.inv_cons
  exact ⟨v, r', rfl, h1 σ N H v S e q1 _ fun σ1 S1 w1 => h2 σ1 N H r' S1 e q2 Q fun σ2 S2 w2 => k σ2 S2 fun vs h =>
    (w2 vs fun j hj => h j (List.mem_append_right _ hj)).trans (w1 vs fun j hj => h j (List.mem_append_left _ hj))⟩
theorem tg_tup {gs : TGs} {ts : List Nat} {n : Nat} (h : Tgs gs ts ρ ds ρ1) (hn : ds.length = n := by rfl) : Tg (gTup K n gs) ts ρ (.tup ds) ρ1 := fun σ N H x S e r Q k => by
  obtain ⟨a, xs, rfl, g1, r1⟩ := r.inv_tup
  exact ⟨a, xs, rfl, SqT.of (e _ _ g1), by rw [r1.length]; exact hn, h σ N H xs S e r1 Q k⟩
theorem tg2 (i j : Nat) {a b : D} : Tg (gTup K 2 (gCons (gName i) (gCons (gName j) gNil))) [i, j] ρ (.tup [a, b]) ((ρ.set i (.dat a)).set j (.dat b)) :=
  tg_tup (tgs_cons (tg_n i) (tgs_cons (tg_n j) tgs_nil))
end

/-! ### comprehensions -/
section
variable {K : PySem.W.Frag} {ρ : List Sl} {wi : TI} {g : TG} {tt : TT} {te tk tv : TE} {vs ts : List Nat} {α : Type}
theorem et_yes : ET tYes ρ true := fun σ N H S e Q k => k N H (Fr.refl e)
theorem take_succ_filter {xs : List α} {i : Nat} {x : α} (h : xs[i]? = some x) (p : α → Bool) : (xs.take (i + 1)).filter p = (xs.take i).filter p ++ (if p x = true then [x] else []) := by
  rw [List.take_add_one, h, List.filter_append]
  cases q : p x <;> simp [q]
theorem el_lc (xs : List α) (enc : α → D) (p : α → Bool) (f : α → D) (ρ' : α → List Sl) (hs : Src wi ρ (xs.map enc)) (hz : xs.length ≤ 100000) (hts : ∀ j ∈ ts, j ∈ vs)
    (hg : ∀ x, x ∈ xs → Tg g ts (wipeS ρ vs) (enc x) (ρ' x)) (ht : ∀ x, x ∈ xs → ET tt (ρ' x) (p x)) (he : ∀ x, x ∈ xs → p x = true → E te (ρ' x) (f x)) :
    EL (tLc wi g tt te vs) ρ (.lst ((xs.filter p).map f)) := fun σ N H S e Q k => hs σ N H S e _ fun J N1 H1 f1 sv => fun Dl hD => by
  have n1 : N1 Dl = none := none_of_ex f1.sub hD
  refine ⟨fun i m H' => m = xs.length - i ∧ i ≤ xs.length ∧ ∃ Nw acc, Fr [] N1 H1 Nw H' ∧ Nw Dl = none ∧ H' Dl = some (.lst acc) ∧ Rps Nw acc (((xs.take i).filter p).map f),
    ⟨xs.length, rfl, Nat.zero_le _, N1, [], Fr.laid f1.sub hD, n1, upd_same, .nil⟩, ?_⟩
  rintro i m H' ⟨rfl, hi, Nw, acc, fw, nD, eD, racc⟩
  by_cases hlt : i < xs.length
  · have hx : xs[i]? = some xs[i] := List.getElem?_eq_getElem hlt
    generalize xs[i] = x at hx
    have hm : x ∈ xs := List.mem_of_getElem? hx
    refine .inr ⟨sv.go i H' (fw.sml.trans fw.sub) (by simpa using hlt), fun H2 => ∃ Nw acc, Fr [] N1 H1 Nw H2 ∧ Nw Dl = none ∧ H2 Dl = some (.lst acc) ∧ Rps Nw acc (((xs.take (i + 1)).filter p).map f),
      fun H2 ⟨Nw, acc, q⟩ => ⟨xs.length - (i + 1), by omega, rfl, hlt, Nw, acc, q⟩, fun v H2 y => ?_⟩
    obtain ⟨N2, f2, rv⟩ := sv.yld i (enc x) v Nw H' H2 (by rw [List.getElem?_map, hx]; rfl) fw.sml fw.sub y
    have d2 : H2 Dl = some (.lst acc) := f2.ex _ _ eD
    have k2 : N2 Dl = none := f2.newL nD eD
    refine hg x hm (L2.wipe σ vs) N2 H2 v (((S.mono (f1.sml.trans (fw.sml.trans f2.sml)))).wipe vs) f2.sub rv _ fun σ2 S2 w2 => ⟨(w2 vs hts).trans (wipe_wipe σ vs), ?_⟩
    refine ht x hm σ2 N2 H2 S2 f2.sub _ fun N3 H3 f3 => ?_
    have d3 : H3 Dl = some (.lst acc) := f3.ex _ _ d2
    have k3 : N3 Dl = none := f3.newL k2 d2
    have hl := racc.length
    have hle : acc.length ≤ 100000 := by
      rw [hl, List.length_map]
      have h1 := List.length_filter_le p (xs.take i)
      rw [List.length_take] at h1
      omega
    cases hp : p x with
    | false =>
      show ∃ Nw acc, _
      refine ⟨N3, acc, (fw.trans f2).trans f3, k3, d3, ?_⟩
      rw [take_succ_filter hx, hp, if_neg Bool.false_ne_true, List.append_nil]
      exact racc.mono (f2.sml.trans f3.sml)
    | true =>
      show te σ2 H3 _
      refine he x hm hp σ2 N3 H3 (S2.mono f3.sml) f3.sub _ fun y N4 H4 f4 ry => ?_
      have d4 : H4 Dl = some (.lst acc) := f4.ex _ _ d3
      have k4 : N4 Dl = none := f4.newL k3 d3
      have F := (fw.trans f2).trans (f3.trans f4)
      refine ⟨acc, d4, lt_line hle, N4, acc ++ [y], ⟨fun b o hb q => ?_, fun b q => ?_, F.sml, fun b o q => ?_, F.new, fun b u q n => ?_⟩, k4, upd_same, ?_⟩
      · rw [upd_ne (ne_of_none q hD)]; exact F.big b o hb q
      · by_cases z : b = Dl
        · subst z; rw [upd_same]; exact fun z => nomatch z
        · rw [upd_ne z]; exact F.dom b q
      · rw [upd_ne (ne_of_none q k4)]; exact F.sub b o q
      · rw [upd_ne (ne_of_none q hD)]; exact F.chg b u q n
      · rw [take_succ_filter hx, hp, if_pos rfl, List.map_append]
        exact (racc.mono (f2.sml.trans (f3.sml.trans f4.sml))).append (.cons ry .nil)
  · have ei : i = xs.length := by omega
    subst ei
    rw [List.take_length] at racc
    exact .inl ⟨sv.stop _ H' (fw.sml.trans fw.sub) (by simp), k Dl Nw H' (f1.trans fw) (Fr.fresh (o := .lst []) f1 e hD).1 nD ⟨acc, eD, racc⟩⟩
/-- without tests -/
theorem el_lc0 (xs : List α) (enc : α → D) (f : α → D) (ρ' : α → List Sl) (hs : Src wi ρ (xs.map enc)) (hz : xs.length ≤ 100000) (hts : ∀ j ∈ ts, j ∈ vs)
    (hg : ∀ x, x ∈ xs → Tg g ts (wipeS ρ vs) (enc x) (ρ' x)) (he : ∀ x, x ∈ xs → E te (ρ' x) (f x)) : EL (tLc wi g tYes te vs) ρ (.lst (xs.map f)) := by
  have h := el_lc (te := te) xs enc (fun _ => true) f ρ' hs hz hts hg (fun _ _ => et_yes) (fun x hx _ => he x hx)
  rwa [List.filter_eq_self.mpr (fun _ _ => rfl)] at h
/-- a dict's content, put -/
def putD {κ : Type} [DecidableEq κ] (kvs : List (κ × D)) (k : κ) (d : D) : List (κ × D) :=
  if kvs.any fun kv => decide (kv.1 = k) then kvs.map fun kv => if kv.1 = k then (kv.1, d) else kv else kvs ++ [(k, d)]
def valD {κ : Type} [DecidableEq κ] (kvs : List (κ × D)) (k : κ) : Option D := (kvs.find? fun kv => decide (kv.1 = k)).map (·.2)
end


/-! ### the state of a walk -/
/-- content of an object that may change; .non: a bag, two ints -/
def Co (N H : Hp) (p : Addr) (d : D) : Prop := Cont N H p d ∨ (d = .non ∧ ∃ x y : Int, H p = some (.lst [.int x, .int y]))
theorem Co.some {N H : Hp} {p : Addr} {d : D} (c : Co N H p d) : H p ≠ none := by
  rcases c with c | ⟨_, x, y, h⟩
  · exact c.some
  · exact some_ne h
theorem Co.notup {N H : Hp} {p : Addr} {d : D} {xs : List V} (c : Co N H p d) : H p ≠ .some (.tup xs) := by
  rcases c with c | ⟨_, x, y, h⟩
  · exact c.notup
  · rw [h]; intro z; cases z
theorem Co.nofrz {N H : Hp} {p : Addr} {d : D} {o : Obj} {xs : List V} (c : Co N H p d) : H p ≠ .some (.frz o (.tup xs)) := by
  rcases c with c | ⟨_, x, y, h⟩
  · exact c.nofrz
  · rw [h]; intro z; cases z
theorem Co.nimm {N H : Hp} {p : Addr} {d : D} (c : Co N H p d) : ∃ u, H p = .some u ∧ ¬ Imm u := by
  rcases c with c | ⟨_, x, y, h⟩
  · exact c.nimm
  · exact ⟨_, h, nimm_lst⟩
theorem Co.keep {N H N' H' : Hp} {p : Addr} {d : D} (c : Co N H p d) (e : Ex N N') (h : H' p = H p) : Co N' H' p d := by
  rcases c with c | ⟨q, x, y, hq⟩
  · exact .inl (c.keep e h)
  · exact .inr ⟨q, x, y, h.trans hq⟩
structure Ctx where
  M : List Addr
  N : Hp
  H : Hp
  Ls : List Hp
abbrev Ctx.ext (c : Ctx) (L : Hp) : Ctx := { c with Ls := L :: c.Ls }
structure AtN (c : Ctx) (Ps : List (Addr × D)) (ρ : List Sl) (σ : St) (H N : Hp) : Prop where
  fr : Fr c.M c.N c.H N H
  sg : Sg N σ ρ
  ls : ∀ L ∈ c.Ls, Ex L N
  ps : ∀ p d, (p, d) ∈ Ps → N p = none ∧ Co N H p d ∧ (p ∈ c.M ∨ c.H p = none)
  nd : (Ps.map Prod.fst).Nodup
def At (c : Ctx) (Ps : List (Addr × D)) (ρ : List Sl) (σ : St) (H : Hp) : Prop := ∃ N, AtN c Ps ρ σ H N
section
variable {c : Ctx} {Ps : List (Addr × D)} {ρ ρ' : List Sl} {σ : St} {H N N' H' : Hp}
theorem AtN.at_ (a : AtN c Ps ρ σ H N) : At c Ps ρ σ H := ⟨N, a⟩
/-- a pure step -/
theorem AtN.step (a : AtN c Ps ρ σ H N) (f : Fr [] N H N' H') : AtN c Ps ρ σ H' N' where
  fr := a.fr.trans (f.wider (by simp))
  sg := a.sg.mono f.sml
  ls := fun L h => (a.ls L h).trans f.sml
  ps := fun p d h => by
    obtain ⟨h1, h2, h3⟩ := a.ps p d h
    obtain ⟨u, hu, nu⟩ := h2.nimm
    exact ⟨f.new p u h1 hu nu, h2.keep f.sml ((f.ex _ _ hu).trans hu.symm), h3⟩
  nd := a.nd
theorem AtN.ext (a : AtN c Ps ρ σ H N) {L : Hp} (e : Ex L N) : AtN (c.ext L) Ps ρ σ H N := ⟨a.fr, a.sg, fun L' h => by
  rcases List.mem_cons.mp h with h | h
  · rw [h]; exact e
  · exact a.ls L' h, a.ps, a.nd⟩
theorem AtN.unext {L : Hp} (a : AtN (c.ext L) Ps ρ σ H N) : AtN c Ps ρ σ H N := ⟨a.fr, a.sg, fun L' h => a.ls L' (List.mem_cons_of_mem _ h), a.ps, a.nd⟩
theorem At.unext {L : Hp} (a : At (c.ext L) Ps ρ σ H) : At c Ps ρ σ H := let ⟨N, a⟩ := a; ⟨N, a.unext⟩
theorem AtN.weak (a : AtN c Ps ρ σ H N) (w : Wk ρ ρ') : AtN c Ps ρ' σ H N := ⟨a.fr, a.sg.weak w, a.ls, a.ps, a.nd⟩
theorem At.weak (a : At c Ps ρ σ H) (w : Wk ρ ρ') : At c Ps ρ' σ H := let ⟨N, a⟩ := a; ⟨N, a.weak w⟩
theorem At.dropP {x : Addr × D} (a : At c (x :: Ps) ρ σ H) : At c Ps ρ σ H := let ⟨N, a⟩ := a; ⟨N, a.fr, a.sg, a.ls, fun p d h => a.ps p d (List.mem_cons_of_mem _ h), (List.nodup_cons.mp a.nd).2⟩
theorem At.subP {Ps' : List (Addr × D)} (a : At c Ps ρ σ H) (h : ∀ x ∈ Ps', x ∈ Ps) (hn : (Ps'.map Prod.fst).Nodup) : At c Ps' ρ σ H := let ⟨N, a⟩ := a; ⟨N, a.fr, a.sg, a.ls, fun p d q => a.ps p d (h _ q), hn⟩
theorem At.setD (a : At c Ps ρ σ H) {L : Hp} {v : V} {d : D} (i : Nat) (hL : L ∈ c.Ls) (r : Rp L v d) : At c Ps (ρ.set i (.dat d)) (σ.set i (some v)) H :=
  let ⟨N, a⟩ := a; ⟨N, a.fr, a.sg.setD i (r.mono (a.ls L hL)), a.ls, a.ps, a.nd⟩
theorem At.setV (a : At c Ps ρ σ H) {v : V} (i : Nat) : At c Ps (ρ.set i (.val v)) (σ.set i (some v)) H :=
  let ⟨N, a⟩ := a; ⟨N, a.fr, a.sg.setV i, a.ls, a.ps, a.nd⟩
theorem At.start {M : List Addr} {names : List Str} {vs : List V} {ds : List D} (e : Ex N H) (r : Rps N vs ds) : At ⟨M, N, H, []⟩ [] (ds.map .dat ++ List.replicate (names.length - vs.length) .no) (L2.start names vs) H :=
  ⟨N, Fr.refl e, Sg.start r, by simp, by simp, List.nodup_nil⟩
/-! seeing the objects that may change as data -/
inductive Vw (Ps : List (Addr × D)) : List Sl → List Sl → Prop
  | nil : Vw Ps [] []
  | same {s : Sl} {a b : List Sl} : Vw Ps a b → Vw Ps (s :: a) (s :: b)
  | see {p : Addr} {d : D} {a b : List Sl} : (p, d) ∈ Ps → isNon d = false → Vw Ps a b → Vw Ps (.val (.ref p) :: a) (.dat d :: b)
theorem Vw.len {Ps : List (Addr × D)} : ∀ {a b : List Sl}, Vw Ps a b → a.length = b.length
  | _, _, .nil => rfl
  | _, _, .same w => by simp [Vw.len w]
  | _, _, .see _ _ w => by simp [Vw.len w]
theorem Vw.get {Ps : List (Addr × D)} : ∀ {a b : List Sl} {i : Nat} {s : Sl}, Vw Ps a b → b[i]? = some s → a[i]? = some s ∨ ∃ p d, a[i]? = some (.val (.ref p)) ∧ s = .dat d ∧ (p, d) ∈ Ps ∧ isNon d = false
  | _, _, _, _, .nil, h => by simp at h
  | _, _, 0, s, .same _, e => by simp at e; subst e; exact .inl rfl
  | _, _, 0, s, .see h n _, e => by simp at e; subst e; exact .inr ⟨_, _, rfl, rfl, h, n⟩
  | _, _, i + 1, s, .same w, e => by
    have := Vw.get (i := i) (s := s) w (by simpa using e)
    simpa using this
  | _, _, i + 1, s, .see _ _ w, e => by
    have := Vw.get (i := i) (s := s) w (by simpa using e)
    simpa using this
def inP (Ps : List (Addr × D)) (b : Addr) : Prop := b ∈ Ps.map Prod.fst
open Classical in
noncomputable def addS (Ps : List (Addr × D)) (N H : Hp) : Hp := fun b => if inP Ps b then H b else N b
open Classical in
noncomputable def hideS (Ps : List (Addr × D)) (N : Hp) : Hp := fun b => if inP Ps b then none else N b
theorem inP_of {Ps : List (Addr × D)} {p : Addr} {d : D} (h : (p, d) ∈ Ps) : inP Ps p := List.mem_map.mpr ⟨_, h, rfl⟩
theorem of_inP {Ps : List (Addr × D)} {p : Addr} (h : inP Ps p) : ∃ d, (p, d) ∈ Ps := by
  obtain ⟨⟨a, d⟩, h1, rfl⟩ := List.mem_map.mp h
  exact ⟨d, h1⟩
theorem Co.rp {N H N' : Hp} {p : Addr} {d : D} (k : Co N H p d) (hn : isNon d = false) (e : Ex N N') (h : N' p = H p) : Rp N' (.ref p) d := by
  rcases k with k | ⟨rfl, _⟩
  · cases d with
    | lst ds => obtain ⟨vs, q, r⟩ := k; exact .lst (h.trans q) (r.mono e)
    | dk ds => obtain ⟨vs, q, k, r⟩ := k; exact .dk (h.trans q) k (r.mono e)
    | dt ds => obtain ⟨vs, q, k, r⟩ := k; exact .dt (h.trans q) k (r.mono e)
    | opq F m => simp [isNon] at hn
    | _ => exact k.elim
  · simp [isNon] at hn
theorem AtN.viewed (a : AtN c Ps ρ σ H N) (w : Vw Ps ρ ρ') : Sg (addS Ps N H) σ ρ' ∧ Ex (addS Ps N H) H ∧ Ex N (addS Ps N H) := by
  have e1 : Ex N (addS Ps N H) := fun b o q => by
    unfold addS
    rw [if_neg]
    · exact q
    · intro z
      obtain ⟨d, hd⟩ := of_inP z
      rw [(a.ps b d hd).1] at q
      cases q
  have e2 : Ex (addS Ps N H) H := fun b o q => by
    unfold addS at q
    split at q
    · exact q
    · exact a.fr.sub b o q
  refine ⟨⟨a.sg.len.trans w.len, fun i v h => ?_, fun i d h => ?_, fun i P m h => ?_⟩, e2, e1⟩
  · rcases w.get h with q | ⟨p, d, _, q, _⟩
    · exact a.sg.val i v q
    · cases q
  · rcases w.get h with q | ⟨p, d', h1, q, hp, hn⟩
    · obtain ⟨v, q1, q2⟩ := a.sg.dat i d q
      exact ⟨v, q1, q2.mono e1⟩
    · cases q
      refine ⟨.ref p, a.sg.val i _ h1, (a.ps p d hp).2.1.rp hn e1 ?_⟩
      unfold addS
      rw [if_pos (inP_of hp)]
  · rcases w.get h with q | ⟨p, d, _, q, _⟩
    · obtain ⟨v, q1, q2⟩ := a.sg.prd i P m q
      exact ⟨v, q1, m _ _ _ e1 q2⟩
    · cases q
theorem AtN.unviewed (a : AtN c Ps ρ σ H N) {N2 H2 : Hp} (f : Fr [] (addS Ps N H) H N2 H2) : AtN c Ps ρ σ H2 (hideS Ps N2) ∧ ∀ v d, fz d = true → Rp N2 v d → Rp (hideS Ps N2) v d := by
  have e1 : Ex N (addS Ps N H) := fun b o q => by
    unfold addS
    rw [if_neg]
    · exact q
    · intro z
      obtain ⟨d, hd⟩ := of_inP z
      rw [(a.ps b d hd).1] at q
      cases q
  have e3 : Ex N (hideS Ps N2) := fun b o q => by
    unfold hideS
    rw [if_neg]
    · exact f.sml b o (e1 b o q)
    · intro z
      obtain ⟨d, hd⟩ := of_inP z
      rw [(a.ps b d hd).1] at q
      cases q
  refine ⟨⟨⟨fun b o m h => f.ex b o (a.fr.big b o m h), fun b h => f.dom b (a.fr.dom b h), a.fr.sml.trans e3, fun b o q => ?_, fun b u h1 h2 h3 => ?_, fun b u q n => let ⟨u', q', n'⟩ := a.fr.chg b u q n; f.chg b u' q' n'⟩, a.sg.mono e3, fun L h => (a.ls L h).trans e3, fun p d h => ?_, a.nd⟩, fun v d hf r => ?_⟩
  · unfold hideS at q
    split at q
    · cases q
    · exact f.sub b o q
  · unfold hideS
    split
    · rfl
    · rename_i z
      obtain ⟨u', q', n'⟩ := a.fr.chg b u h2 h3
      refine f.new b u' ?_ q' n'
      unfold addS
      rw [if_neg z]
      exact a.fr.new b u h1 h2 h3
  · obtain ⟨h1, h2, h3⟩ := a.ps p d h
    have hH := h2.some
    refine ⟨?_, h2.keep e3 ?_, h3⟩
    · unfold hideS
      rw [if_pos (inP_of h)]
    · cases q : H p with
      | none => exact absurd q hH
      | some o => exact f.ex _ _ q
  · refine r.monoF (fun b u hu q => ?_) hf
    unfold hideS
    rw [if_neg]
    · exact q
    · intro z
      obtain ⟨d', hd⟩ := of_inP z
      obtain ⟨_, h2, _⟩ := a.ps b d' hd
      have hH := h2.some
      cases q2 : H b with
      | none => exact hH q2
      | some o =>
        have := f.sub _ _ q
        rw [f.ex _ _ q2] at this
        rw [this] at q2
        obtain ⟨xs, rfl | ⟨o2, rfl⟩⟩ := hu
        · exact h2.notup q2
        · exact h2.nofrz q2
/-! the uses of what expressions evaluate to -/
variable {te : TE} {d : D} {tt : TT} {b : Bool}
theorem AtN.e {Q : VK} (a : AtN c Ps ρ σ H N) (h : E te ρ d) (k : ∀ v N' H', AtN c Ps ρ σ H' N' → Rp N' v d → Q v H') : te σ H Q :=
  h σ N H a.sg a.fr.sub Q fun v N' H' f r => k v N' H' (a.step f) r
theorem At.e {Q : VK} (a : At c Ps ρ σ H) (h : E te ρ d) (k : ∀ v L H', Rp L v d → At (c.ext L) Ps ρ σ H' → Q v H') : te σ H Q :=
  let ⟨N, a⟩ := a
  a.e h fun v N' H' a' r => k v N' H' r ⟨N', a'.ext (Ex.refl N')⟩
/-- with the changing objects seen -/
theorem AtN.ev {Q : VK} (a : AtN c Ps ρ σ H N) (w : Vw Ps ρ ρ') (h : E te ρ' d) (hf : fz d = true) (k : ∀ v N' H', AtN c Ps ρ σ H' N' → Rp N' v d → Q v H') : te σ H Q :=
  let ⟨S, e2, e1⟩ := a.viewed w
  h σ _ H S e2 Q fun v N' H' f r => let ⟨a', hr⟩ := a.unviewed f; k v _ H' a' (hr v d hf r)
theorem At.ev {Q : VK} (a : At c Ps ρ σ H) (w : Vw Ps ρ ρ') (h : E te ρ' d) (hf : fz d = true) (k : ∀ v L H', Rp L v d → At (c.ext L) Ps ρ σ H' → Q v H') : te σ H Q :=
  let ⟨N, a⟩ := a
  a.ev w h hf fun v N' H' a' r => k v N' H' r ⟨N', a'.ext (Ex.refl N')⟩
theorem At.et {Q : Bool → Hp → Prop} (a : At c Ps ρ σ H) (w : Vw Ps ρ ρ') (h : ET tt ρ' b) (k : ∀ H', At c Ps ρ σ H' → Q b H') : tt σ H Q :=
  let ⟨N, a⟩ := a
  let ⟨S, e2, e1⟩ := a.viewed w
  h σ _ H S e2 Q fun N' H' f => k H' ⟨_, (a.unviewed f).1⟩
theorem At.et0 {Q : Bool → Hp → Prop} (a : At c Ps ρ σ H) (h : ET tt ρ b) (k : ∀ H', At c Ps ρ σ H' → Q b H') : tt σ H Q :=
  let ⟨N, a⟩ := a
  h σ N H a.sg a.fr.sub Q fun N' H' f => k H' ⟨N', a.step f⟩
theorem At.el {Q : VK} (a : At c Ps ρ σ H) (h : EL te ρ d) (k : ∀ p H', At c ((p, d) :: Ps) ρ σ H' → Q (.ref p) H') : te σ H Q :=
  let ⟨N, a⟩ := a
  h σ N H a.sg a.fr.sub Q fun p N' H' f hp hN ct => k p H' (by
    have a' := a.step f
    refine ⟨N', a'.fr, a'.sg, a'.ls, fun q e hq => ?_, ?_⟩
    · rcases List.mem_cons.mp hq with z | z
      · cases z
        refine ⟨hN, .inl ct, .inr ?_⟩
        cases z : c.H p with
        | none => rfl
        | some o => exact absurd hp (a.fr.dom p (some_ne z))
      · exact a'.ps q e z
    · rw [List.map_cons, List.nodup_cons]
      refine ⟨fun z => ?_, a.nd⟩
      obtain ⟨d', hd⟩ := of_inP z
      exact (a.ps p d' hd).2.1.some hp)
/-- an object ceases to change -/
theorem At.freeze {p : Addr} {i : Nat} (a : At c ((p, d) :: Ps) ρ σ H) (hi : ρ[i]? = some (.val (.ref p))) (hn : isNon d = false) (hM : p ∉ c.M) : At c Ps (ρ.set i (.dat d)) σ H := by
  obtain ⟨N, a⟩ := a
  obtain ⟨h1, h2, h3⟩ := a.ps p d (List.mem_cons_self)
  have hH : c.H p = none := h3.resolve_left hM
  have nodup := List.nodup_cons.mp a.nd
  have e1 : Ex N (addH N H p) := addH_ex h1
  refine ⟨addH N H p, ⟨a.fr.big, a.fr.dom, a.fr.sml.trans e1, addH_sub a.fr.sub, fun b u q1 q2 n => ?_, a.fr.chg⟩, ?_, fun L h => (a.ls L h).trans e1, fun q e hq => ?_, nodup.2⟩
  · rw [addH_ne (ne_of_none q2 hH)]; exact a.fr.new b u q1 q2 n
  · have hr : Rp (addH N H p) (.ref p) d := h2.rp hn e1 addH_same
    have S := a.sg.mono e1
    have hv := a.sg.val i _ hi
    have S2 := S.setD i hr
    have e : σ.set i (some (V.ref p)) = σ := by
      apply List.ext_getElem?
      intro j
      by_cases z : i = j
      · subst z
        rw [List.getElem?_set]
        simp only [if_true]
        rw [hv, if_pos (at_lt hv)]
      · rw [List.getElem?_set_ne z]
    rw [e] at S2
    exact S2
  · obtain ⟨g1, g2, g3⟩ := a.ps q e (List.mem_cons_of_mem _ hq)
    have ne : q ≠ p := fun z => by
      subst z
      exact nodup.1 (inP_of hq)
    refine ⟨by rw [addH_ne ne]; exact g1, g2.keep e1 rfl, g3⟩
/-- the object at p has become o -/
theorem AtN.wrote {p : Addr} {d' : D} {k : Nat} {o : HO} (a : AtN c Ps ρ σ H N) (hk : Ps[k]? = some (p, d)) (hc : Co N (upd H p o) p d') : AtN c (Ps.set k (p, d')) ρ σ (upd H p o) N := by
  have hm : (p, d) ∈ Ps := List.mem_of_getElem? hk
  obtain ⟨h1, h2, h3⟩ := a.ps p d hm
  have hmap : (Ps.set k (p, d')).map Prod.fst = Ps.map Prod.fst := by
    apply List.ext_getElem?
    intro j
    rw [List.map_set]
    by_cases z : k = j
    · subst z
      rw [List.getElem?_set]
      simp only [if_true]
      rw [List.getElem?_map, hk, if_pos (by simpa using at_lt hk)]
      rfl
    · rw [List.getElem?_set_ne z]
  refine ⟨⟨fun b u m q => ?_, fun b q => ?_, a.fr.sml, fun b u q => ?_, a.fr.new, fun b u q n => ?_⟩, a.sg, a.ls, fun q e hq => ?_, by rw [hmap]; exact a.nd⟩
  · have ne : b ≠ p := fun z => by
      subst z
      rcases h3 with z | z
      · exact m z
      · rw [z] at q; cases q
    rw [upd_ne ne]; exact a.fr.big b u m q
  · by_cases z : b = p
    · subst z; rw [upd_same]; exact fun z => nomatch z
    · rw [upd_ne z]; exact a.fr.dom b q
  · rw [upd_ne (ne_of_none q h1)]; exact a.fr.sub b u q
  · by_cases z : b = p
    · subst z; exact hc.nimm
    · rw [upd_ne z]; exact a.fr.chg b u q n
  · by_cases z : q = p
    · subst z
      have : e = d' := by
        obtain ⟨j, hj⟩ := List.mem_iff_getElem?.mp hq
        by_cases y : k = j
        · subst y
          rw [List.getElem?_set] at hj
          simp only [if_true] at hj
          split at hj
          · simp at hj; exact hj.symm
          · cases hj
        · rw [List.getElem?_set_ne y] at hj
          have g1 : (Ps.map Prod.fst)[j]? = some q := by rw [List.getElem?_map, hj]; rfl
          have g2 : (Ps.map Prod.fst)[k]? = some q := by rw [List.getElem?_map, hk]; rfl
          exact absurd (nd_ix a.nd g2 g1) y
      subst this
      exact ⟨h1, hc, h3⟩
    · have hq' : (q, e) ∈ Ps := by
        obtain ⟨j, hj⟩ := List.mem_iff_getElem?.mp hq
        by_cases y : k = j
        · subst y
          rw [List.getElem?_set] at hj
          simp only [if_true] at hj
          split at hj
          · simp at hj; exact absurd hj.1.symm z
          · cases hj
        · rw [List.getElem?_set_ne y] at hj
          exact List.mem_of_getElem? hj
      obtain ⟨g1, g2, g3⟩ := a.ps q e hq'
      exact ⟨g1, g2.keep (Ex.refl N) (upd_ne z), g3⟩
end

/-! ### statements -/
section
variable {K : PySem.W.Frag} {c : Ctx} {Ps : List (Addr × D)} {ρ ρ' ρ1 : List Sl} {σ : St} {H : Hp} {De : Ends} {te td ty tv : TE} {d : D} {tt : TT} {b : Bool} {tz tu tw : TS} {g : TG} {ts : List Nat}
theorem s_asg {i : Nat} (a : At c Ps ρ σ H) (h : E te ρ d) (k : ∀ σ' H', At c Ps (ρ.set i (.dat d)) σ' H' → De.nx σ' H') : tAsg te (gName i) De σ H :=
  a.e h fun v L H' r a' => k _ _ (a'.setD i (List.mem_cons_self) r).unext
theorem s_asgV {i : Nat} (a : At c Ps ρ σ H) (w : Vw Ps ρ ρ') (h : E te ρ' d) (hf : fz d = true) (k : ∀ σ' H', At c Ps (ρ.set i (.dat d)) σ' H' → De.nx σ' H') : tAsg te (gName i) De σ H :=
  a.ev w h hf fun v L H' r a' => k _ _ (a'.setD i (List.mem_cons_self) r).unext
theorem s_asgL {i : Nat} (a : At c Ps ρ σ H) (h : EL te ρ d) (k : ∀ p σ' H', At c ((p, d) :: Ps) (ρ.set i (.val (.ref p))) σ' H' → De.nx σ' H') : tAsg te (gName i) De σ H :=
  a.el h fun p H' a' => k p _ _ (a'.setV i)
theorem s_asgG (a : At c Ps ρ σ H) (h : E te ρ d) (hg : Tg g ts ρ d ρ1) (k : ∀ σ' H', At c Ps ρ1 σ' H' → De.nx σ' H') : tAsg te g De σ H :=
  let ⟨N, a⟩ := a
  a.e h fun v N' H' a' r => hg σ N' H' v a'.sg a'.fr.sub r _ fun σ' S' _ => k σ' H' ⟨N', a'.fr, S', a'.ls, a'.ps, a'.nd⟩
theorem q_asg {i : Nat} (a : At c Ps ρ σ H) (h : E te ρ d) (k : ∀ σ' H', At c Ps (ρ.set i (.dat d)) σ' H' → tz De σ' H') : tSeq (tAsg te (gName i)) tz De σ H := s_asg (De := { De with nx := tz De }) a h k
theorem q_asgV {i : Nat} (a : At c Ps ρ σ H) (w : Vw Ps ρ ρ') (h : E te ρ' d) (hf : fz d = true) (k : ∀ σ' H', At c Ps (ρ.set i (.dat d)) σ' H' → tz De σ' H') : tSeq (tAsg te (gName i)) tz De σ H := s_asgV (De := { De with nx := tz De }) a w h hf k
theorem q_asgL {i : Nat} (a : At c Ps ρ σ H) (h : EL te ρ d) (k : ∀ p σ' H', At c ((p, d) :: Ps) (ρ.set i (.val (.ref p))) σ' H' → tz De σ' H') : tSeq (tAsg te (gName i)) tz De σ H := s_asgL (De := { De with nx := tz De }) a h k
theorem q_asgG (a : At c Ps ρ σ H) (h : E te ρ d) (hg : Tg g ts ρ d ρ1) (k : ∀ σ' H', At c Ps ρ1 σ' H' → tz De σ' H') : tSeq (tAsg te g) tz De σ H := s_asgG (De := { De with nx := tz De }) a h hg k
theorem s_if (a : At c Ps ρ σ H) (h : ET tt ρ b) (h1 : b = true → ∀ H', At c Ps ρ σ H' → tu De σ H') (h2 : b = false → ∀ H', At c Ps ρ σ H' → tw De σ H') : tIfS tt tu tw De σ H :=
  a.et0 h fun H' a' => by
    cases b with
    | true => exact h1 rfl H' a'
    | false => exact h2 rfl H' a'
theorem s_ifV (a : At c Ps ρ σ H) (w : Vw Ps ρ ρ') (h : ET tt ρ' b) (h1 : b = true → ∀ H', At c Ps ρ σ H' → tu De σ H') (h2 : b = false → ∀ H', At c Ps ρ σ H' → tw De σ H') : tIfS tt tu tw De σ H :=
  a.et w h fun H' a' => by
    cases b with
    | true => exact h1 rfl H' a'
    | false => exact h2 rfl H' a'
theorem q_if (a : At c Ps ρ σ H) (h : ET tt ρ b) (h1 : b = true → ∀ H', At c Ps ρ σ H' → tu { De with nx := tz De } σ H') (h2 : b = false → ∀ H', At c Ps ρ σ H' → tw { De with nx := tz De } σ H') : tSeq (tIfS tt tu tw) tz De σ H :=
  s_if (De := { De with nx := tz De }) a h h1 h2
/-- an if whose body leaves; without else -/
theorem q_when (a : At c Ps ρ σ H) (h : ET tt ρ b) (h1 : b = true → ∀ H', At c Ps ρ σ H' → tu { De with nx := tz De } σ H') (h2 : b = false → ∀ H', At c Ps ρ σ H' → tz De σ H') : tSeq (tIfS tt tu tNext) tz De σ H :=
  s_if (De := { De with nx := tz De }) a h h1 h2
theorem q_whenV (a : At c Ps ρ σ H) (w : Vw Ps ρ ρ') (h : ET tt ρ' b) (h1 : b = true → ∀ H', At c Ps ρ σ H' → tu { De with nx := tz De } σ H') (h2 : b = false → ∀ H', At c Ps ρ σ H' → tz De σ H') : tSeq (tIfS tt tu tNext) tz De σ H :=
  s_ifV (De := { De with nx := tz De }) a w h h1 h2
theorem s_when (a : At c Ps ρ σ H) (h : ET tt ρ b) (h1 : b = true → ∀ H', At c Ps ρ σ H' → tu De σ H') (h2 : b = false → ∀ H', At c Ps ρ σ H' → De.nx σ H') : tIfS tt tu tNext De σ H := s_if a h h1 h2
theorem s_whenV (a : At c Ps ρ σ H) (w : Vw Ps ρ ρ') (h : ET tt ρ' b) (h1 : b = true → ∀ H', At c Ps ρ σ H' → tu De σ H') (h2 : b = false → ∀ H', At c Ps ρ σ H' → De.nx σ H') : tIfS tt tu tNext De σ H := s_ifV a w h h1 h2
theorem s_ret (a : At c Ps ρ σ H) (h : E te ρ d) (k : ∀ v N' H', Fr c.M c.N c.H N' H' → Rp N' v d → De.rt v H') : tRet te De σ H :=
  let ⟨N, a⟩ := a
  a.e h fun v N' H' a' r => k v N' H' a'.fr r
theorem s_retV (a : At c Ps ρ σ H) (w : Vw Ps ρ ρ') (h : E te ρ' d) (hf : fz d = true) (k : ∀ v N' H', Fr c.M c.N c.H N' H' → Rp N' v d → De.rt v H') : tRet te De σ H :=
  let ⟨N, a⟩ := a
  a.ev w h hf fun v N' H' a' r => k v N' H' a'.fr r
theorem q_ret (a : At c Ps ρ σ H) (h : E te ρ d) (k : ∀ v N' H', Fr c.M c.N c.H N' H' → Rp N' v d → De.rt v H') : tSeq (tRet te) tz De σ H := s_ret (De := { De with nx := tz De }) a h k
/-! changes -/
theorem s_app {i k : Nat} {p : Addr} {ds : List D} (a : At c Ps ρ σ H) (hi : ρ[i]? = some (.val (.ref p))) (hk : Ps[k]? = some (p, .lst ds)) (w : Vw Ps ρ ρ') (h : E te ρ' d) (hf : fz d = true) (hz : ds.length ≤ 99999)
    (kk : ∀ H', At c (Ps.set k (p, .lst (ds ++ [d]))) ρ σ H' → De.nx σ H') : tDrop (tBM K "list" rAppend (tVar i) (tCons te tNil)) De σ H := by
  obtain ⟨N, a⟩ := a
  have hv := a.sg.val i _ hi
  have hm : (p, D.lst ds) ∈ Ps := List.mem_of_getElem? hk
  refine ⟨_, hv, ?_, ?_⟩
  · obtain ⟨_, h2, _⟩ := a.ps p _ hm
    rcases h2 with ⟨vs, g1, g2⟩ | ⟨z, _⟩
    · exact .inl ⟨rfl, _, SqL.of g1⟩
    · cases z
  · refine a.ev w h hf fun v N' H' a' r => ?_
    obtain ⟨_, h2, _⟩ := a'.ps p _ hm
    rcases h2 with ⟨vs, g1, g2⟩ | ⟨z, _⟩
    · refine ⟨p, vs, v, rfl, rfl, g1, lt_line (by rw [g2.length]; omega), kk _ ⟨N', a'.wrote hk (.inl ⟨_, upd_same, g2.append (.cons r .nil)⟩)⟩⟩
    · cases z
theorem q_app {i k : Nat} {p : Addr} {ds : List D} (a : At c Ps ρ σ H) (hi : ρ[i]? = some (.val (.ref p))) (hk : Ps[k]? = some (p, .lst ds)) (w : Vw Ps ρ ρ') (h : E te ρ' d) (hf : fz d = true) (hz : ds.length ≤ 99999)
    (kk : ∀ H', At c (Ps.set k (p, .lst (ds ++ [d]))) ρ σ H' → tz De σ H') : tSeq (tDrop (tBM K "list" rAppend (tVar i) (tCons te tNil))) tz De σ H := s_app (De := { De with nx := tz De }) a hi hk w h hf hz kk
/-- += of a list -/
def ipExt : TIp := rExt2
theorem s_augL {i k : Nat} {p : Addr} {ds es : List D} (a : At c Ps ρ σ H) (hi : ρ[i]? = some (.val (.ref p))) (hk : Ps[k]? = some (p, .lst ds)) (w : Vw Ps ρ ρ') (h : EL te ρ' (.lst es)) (hf : fzs es = true) (hz : ds.length + es.length ≤ 100000)
    (kk : ∀ σ' H', At c (Ps.set k (p, .lst (ds ++ es))) ρ σ' H' → De.nx σ' H') : tAug i te ipExt De σ H := by
  obtain ⟨N, a⟩ := a
  have hv := a.sg.val i _ hi
  have hm : (p, D.lst ds) ∈ Ps := List.mem_of_getElem? hk
  obtain ⟨S, e2, e1⟩ := a.viewed w
  refine ⟨_, hv, h σ _ H S e2 _ fun q N2 H2 f hq hN2 ct => ?_⟩
  obtain ⟨a', hr⟩ := a.unviewed f
  obtain ⟨g1, g2, g3⟩ := a'.ps p _ hm
  rcases g2 with ⟨vs, g5, g6⟩ | ⟨z, _⟩
  · obtain ⟨ws, q1, q2⟩ := ct
    have q2' : Rps (hideS Ps N2) ws es := q2.monoF (fun b u hu z => by
      unfold hideS
      rw [if_neg]
      · exact z
      · intro y
        obtain ⟨d', hd⟩ := of_inP y
        obtain ⟨_, h2, _⟩ := a'.ps b d' hd
        obtain ⟨xs, rfl | ⟨o2, rfl⟩⟩ := hu
        · exact h2.notup (f.sub _ _ z)
        · exact h2.nofrz (f.sub _ _ z)) hf
    refine ⟨p, q, vs, ws, rfl, rfl, g5, q1, by rw [g6.length, q2'.length]; exact le_line hz, ?_⟩
    have a2 := a'.wrote hk (o := .lst (vs ++ ws)) (d' := .lst (ds ++ es)) (.inl ⟨_, upd_same, g6.append q2'⟩)
    have e : σ.set i (some (V.ref p)) = σ := by
      apply List.ext_getElem?
      intro j
      by_cases z : i = j
      · subst z
        rw [List.getElem?_set]
        simp only [if_true]
        rw [hv, if_pos (at_lt hv)]
      · rw [List.getElem?_set_ne z]
    show De.nx (σ.set i (some (V.ref p))) _
    rw [e]
    exact kk _ _ ⟨_, a2⟩
  · cases z
/-! for -/
theorem s_for {S : Type} (Psf : S → List (Addr × D)) (ρf : S → List Sl) (J : Nat → S → Prop) (s0 : S) {wi : TI} {ds : List D} {tb : TS} (a : At c (Psf s0) (ρf s0) σ H) (w : Vw (Psf s0) (ρf s0) ρ') (hs : Src wi ρ' ds)
    (hv : ρ' = ρf s0 ∨ fzs ds = true) (h0 : J 0 s0) (ρg : S → D → List Sl)
    (hg : ∀ i s d, ds[i]? = some d → J i s → Tg g ts (ρf s) d (ρg s d))
    (step : ∀ L i s d σ' H', ds[i]? = some d → J i s → At (c.ext L) (Psf s) (ρg s d) σ' H' → tb { De with nx := fun σ H => ∃ s', J (i + 1) s' ∧ At (c.ext L) (Psf s') (ρf s') σ H, ct := fun σ H => ∃ s', J (i + 1) s' ∧ At (c.ext L) (Psf s') (ρf s') σ H, bk := De.nx } σ' H')
    (done : ∀ s σ' H', J ds.length s → At c (Psf s) (ρf s) σ' H' → De.nx σ' H') (hnv : ρ' = ρf s0) : tFor wi g tb De σ H := by
  obtain ⟨N, a⟩ := a
  subst hnv
  refine hs σ N H a.sg a.fr.sub _ fun Jt N1 H1 f1 sv => ?_
  have a1 := (a.step f1).ext (Ex.refl N1)
  refine ⟨fun i m σ' H' => m = ds.length - i ∧ i ≤ ds.length ∧ ∃ s, J i s ∧ At (c.ext N1) (Psf s) (ρf s) σ' H', ⟨ds.length, rfl, Nat.zero_le _, s0, h0, N1, a1⟩, ?_⟩
  rintro i m σ' H' ⟨rfl, hi, s, hJ, N2, a2⟩
  have eL : Ex N1 N2 := a2.ls N1 List.mem_cons_self
  by_cases hlt : i < ds.length
  · have hd : ds[i]? = some ds[i] := List.getElem?_eq_getElem hlt
    generalize ds[i] = d at hd
    refine .inr ⟨sv.go i H' (eL.trans a2.fr.sub) hlt, fun σ H => ∃ s', J (i + 1) s' ∧ At (c.ext N1) (Psf s') (ρf s') σ H, fun σ3 H3 ⟨s', q1, q2⟩ => ⟨ds.length - (i + 1), by omega, rfl, hlt, s', q1, q2⟩, fun x H3 y => ?_⟩
    obtain ⟨N3, f3, rx⟩ := sv.yld i d x N2 H' H3 hd eL a2.fr.sub y
    have a3 := a2.step f3
    exact hg i s d hd hJ σ' N3 H3 x a3.sg a3.fr.sub rx _ fun σ4 S4 _ => step N1 i s d σ4 H3 hd hJ ⟨N3, a3.fr, S4, a3.ls, a3.ps, a3.nd⟩
  · have e : i = ds.length := by omega
    subst e
    exact .inl ⟨sv.stop _ H' (eL.trans a2.fr.sub) (Nat.le_refl _), done s σ' H' hJ (At.unext ⟨N2, a2⟩)⟩
end

section
variable {X : Cx}
theorem call_lenU : CallR X (.builtin "len") (rLenU X.K) := call_len
theorem call_intU : CallR X (.type "int") rIntU := call_int1
theorem call_tupU : CallR X (.type "tuple") (rTupU X.K) := call_tuple_of
theorem call_lstU : CallR X (.type "list") (rLstU X.K) := call_list_of
theorem call_maxU (hc : X.calm = true) : CallR X (.builtin "max") rMax2 := call_max2 hc
theorem call_minU (hc : X.calm = true) : CallR X (.builtin "min") rMin2 := call_min2 hc
theorem ip_extU : PIp X .Add ipExt := by
  intro pins s σ H x y v u Q I rx ry h
  exact augR iop_ext I rx ry h
end
/-! the same with K named: in a block the unifier must not meet the block's own context -/
section
variable {X : Cx}
theorem op_addK (K : PySem.W.Frag) (h : X.K = K := by rfl) : OpR X (binaryOp .Add) (uAdd K) := by subst h; exact op_addU
theorem op_eqK (K : PySem.W.Frag) (hu : X.A.units + 64 < cLine) (h : X.K = K := by rfl) : OpR X (compareOp .Eq) (rEqD K) := by subst h; exact op_eqD hu
theorem op_neK (K : PySem.W.Frag) (hu : X.A.units + 64 < cLine) (h : X.K = K := by rfl) : OpR X (compareOp .NotEq) (rNeD K) := by subst h; exact op_neD hu
theorem op_inK (K : PySem.W.Frag) (hu : X.A.units + 65 < cLine) (h : X.K = K := by rfl) : OpR X (compareOp .In) (uIn K) := by subst h; exact op_inU hu
theorem op_ninK (K : PySem.W.Frag) (hu : X.A.units + 65 < cLine) (h : X.K = K := by rfl) : OpR X (compareOp .NotIn) (uNotIn K) := by subst h; exact op_notInU hu
theorem ix_seqK (K : PySem.W.Frag) (h : X.K = K := by rfl) : IxR X (rIx K) := by subst h; exact ix_seq
theorem sl_K (K : PySem.W.Frag) (h : X.K = K := by rfl) : SlR X (uSl K) := by subst h; exact sl_U
theorem call_lenK (K : PySem.W.Frag) (h : X.K = K := by rfl) : CallR X (.builtin "len") (rLenU K) := by subst h; exact call_lenU
theorem call_tupK (K : PySem.W.Frag) (h : X.K = K := by rfl) : CallR X (.type "tuple") (rTupU K) := by subst h; exact call_tupU
theorem call_lstK (K : PySem.W.Frag) (h : X.K = K := by rfl) : CallR X (.type "list") (rLstU K) := by subst h; exact call_lstU
theorem call_sumK (K : PySem.W.Frag) (hc : X.calm = true) (h : X.K = K := by rfl) : CallR X (.builtin "sum") (rSum K) := by subst h; exact cr_sum hc
theorem call_allK (K : PySem.W.Frag) (hc : X.calm = true) (h : X.K = K := by rfl) : CallR X (.builtin "all") (rAll K) := by subst h; exact cr_all hc
theorem call_anyK (K : PySem.W.Frag) (hc : X.calm = true) (h : X.K = K := by rfl) : CallR X (.builtin "any") (rAny K) := by subst h; exact cr_any hc
theorem call_isiK' (K : PySem.W.Frag) (h : X.K = K := by rfl) : CallR X (.builtin "isinstance") (rIsi K) := by subst h; exact call_isi
theorem pi_seqK (K : PySem.W.Frag) {tg l : Expr} {tl : TE} (hl : PE X l tl) (h : X.K = K := by rfl) : PI X tg l (iSeq K tl) := by subst h; exact pi_seq hl
theorem pg_tupK (K : PySem.W.Frag) {es : List Expr} {k : Nat} {t : TGs} {n : Nat} {pos : Pos} (hc : X.calm = true) (hp : PGs X es t) (hn : (assignEach es X.env).length = n := by rfl)
    (hs : (assignEach es X.env).findIdx? (·.1) = none := by rfl) (h : X.K = K := by rfl) : PG X (.Tuple es k pos) (gTup K n t) := by subst h; exact pg_tup hc hp hn hs
def tTru (K : PySem.W.Frag) (te : TE) : TT := fun σ H Q => te σ H fun x H1 => ∃ k, TruV K x H1 k ∧ Q k H1
theorem pt_truK (K : PySem.W.Frag) {a : Expr} {ta : TE} (ha : PE X a ta) (he : ∀ whole, isTrue a X.env whole = (do let v ← whole; standAt a.pos; holding [v] (truthy v))) (h : X.K = K := by rfl) : PT X a (tTru K ta) := by subst h; exact pt_truth ha he
end
theorem et_tru' {K : PySem.W.Frag} {ρ : List Sl} {te : TE} {d : D} (h : E te ρ d) (hk : truOk d = true) : ET (tTru K te) ρ (truD d) := et_tru h hk
theorem units65 {k : Nat} {A : Around} (r : Room k A) : A.units + 65 < cLine := by
  have h := r.un
  omega

/-! name = {..} on one line, the name a local -/
section
variable {X : Cx} {kx vx tg iter : Expr} {ifs : List Expr} {scope : Scope} {own : List (Str × Nat)} {pos spos py : Pos} {i l : Nat} {y : Str} {wi : TI} {g : TG} {tt : TT} {tk tv : TE} {env : Env} {gs : List Comprehension}
abbrev Blks (X : Cx) (scope : Scope) (G : Cx → Prop) : Prop := ∀ (s : Shared) (H : Hp) (C : Addr) (cl : List (Str × Addr)) (fp : List Addr), G (X.blk s H scope (compEnvC scope cl C X.env) fp)
theorem sw_trueD (hk : env.scope.kind = .function) (hy : env.scope.names.lookup y = some .local) (hl : (py.line == pos.line) = true) (ha : (scope.names.any fun (n, k) => n == y && (k == .local || k == .cell)) = false) :
    swapsWith (.DictComp kx vx gs scope pos) (some (.Name y py)) l env = pure true := by
  have k1 : env.kindOf y = some .local := hy
  have k2 : env.blockKind = .function := by unfold Env.blockKind; rw [hk]; rfl
  unfold swapsWith
  simp only [k2, k1, ha, Expr.pos, hl]
  rfl
theorem ps_setDc (hc : X.calm = true) (hN : X.N.Nodup) (hy : X.N[i]? = some y) (hyl : X.env.scope.names.lookup y = some .local) (hsw : swapsWith (.DictComp kx vx [⟨tg, iter, ifs, 0⟩] scope pos) (some (.Name y py)) spos.line X.env = pure true)
    (hi : PI X tg iter wi) (ok : BlkOk X.N X.env.scope scope own) (hg : Blks X scope fun Y => PG Y tg g) (ht : Blks X scope fun Y => PTs Y ifs tt) (hk : Blks X scope fun Y => PE Y kx tk) (he : Blks X scope fun Y => PE Y vx tv)
    (hs : ∀ x, foldedSetIterable iter X.env x = pure x := by intro _; rfl) : PS X (.Assign [.Name y py] (.DictComp kx vx [⟨tg, iter, ifs, 0⟩] scope pos) spos) (tAsg (tDc wi g tt tk tv (own.map (·.2))) (gName i)) := by
  refine ⟨fun pins s σ H De I h => ?_⟩
  rw [exec_Assign_Name_used _ _ _ _ hsw]
  refine wpAny_bind (wpAny_standAt (wpAny_bind ?_))
  show wpAny _ X.A (do let _ ← comprehension (.DictComp kx vx [⟨tg, iter, ifs, 0⟩] scope pos) scope X.env (firstIterPos [⟨tg, iter, ifs, 0⟩] pos) newDict false (eval iter X.env) (some (assign (.Name y py) X.env))) _ _ s
  have h' : tDc wi g tt tk tv (own.map (·.2)) σ H (fun x H1 => gName i x σ H1 De.nx) := h
  refine wpAny_bind (thn (dc_core (Qf := fun _ s' => SP X pins De .next s') hc hN I hi ok hg ht hk he hs h' fun L C s' m H' I' q hn f => ?_) fun _ s' hq => wpAny_pure (wpAny_pure hq))
  show wpAny _ _ (assign (.Name y py) X.env (.ref L)) _ _ _
  refine wpAny_assign_Name (store_ok2 (v := V.ref L) I' hN hy (.inl hyl) rfl (fun s2 I2 w2 => ?_) (.inr hyl))
  obtain ⟨a, sb, ha⟩ := w2
  obtain ⟨g0, g1, g2, g3, g4, g5⟩ := f
  have haC : C ≠ a := by
    rcases ha with z | z
    · rw [z]; exact g1
    · exact fun e => g4 y a z e.symm
  exact ⟨m, hn.sameBut sb haC, fun h3 sb3 => ⟨_, H', I2.turned (t' := s2.toks) (fun b o hb e => (sb3.2 b hb).trans e) g0 g1 g3 g4 g5, q⟩⟩
end

/-! ### pure defs -/
def PureSp (R : List D → D → Prop) : Sp := fun vs H Q _ => ∃ N ds d, Ex N H ∧ Rps N vs ds ∧ R ds d ∧ ∀ v N' H', Fr [] N H N' H' → Rp N' v d → Q v H'
section
variable {ρ : List Sl} {ta : TA} {ds : List D} {d : D} {R : List D → D → Prop} {E0' : XK}
theorem e_fn (h : EA ta ρ ds) (hR : R ds d) : E (tCall (PureSp R) [] E0' ta) ρ d := fun σ N H S e Q k =>
  h σ N H S e _ fun vs N1 H1 f1 rv => ⟨N1, ds, d, f1.sub, by rw [List.append_nil]; exact rv, hR, fun v N2 H2 f2 r => k v N2 H2 (f1.trans f2) r⟩
/-- the reading of a pure def's body -/
def Body (names : List Str) (t : TS) (ds : List D) (d : D) : Prop := ∀ N H σ (Q : VK), At ⟨[], N, H, []⟩ [] (ds.map .dat ++ List.replicate (names.length - ds.length) .no) σ H → (∀ v N' H', Fr [] N H N' H' → Rp N' v d → Q v H') →
  t { nx := fun _ H' => Q .non H', rt := Q } σ H
end
section
variable {P : Program} {w : World} {K : PySem.W.Frag} {mg : Str → Option Value} {base : Heap}
theorem fn_pure {x qual : Str} {st : Stmt} {f : Addr} {fd : FuncData} {N ps : List Str} {k : Nat} {R : List D → D → Prop} (F : Fun K x qual st f fd) (S : FnScope N ps (defScope st)) (len : ∀ ds d, R ds d → ds.length = ps.length)
    (hb : ∀ (cdv : Value) (A : Around) (outer : List Env) (s : Shared) (H : Hp) (E : XK), Room k (A.deeper (envOfC qual (defScope st) s.heap.objs.size f cdv)) →
      ∃ t, PSs (cxOf CX0 P w K mg base N qual (defScope st) f cdv A outer s H E).nox (defBody st) t ∧ ∀ ds d, R ds d → Body N t ds d) : FnOk P w K mg base CX0 (k + 1) f fd ps (PureSp R) := by
  refine F.ok S (fun vs H Q E h => ?_) (fun cdv A outer s H vs Q E hr h => ?_)
  · obtain ⟨N, ds, d, _, r, hR, _⟩ := h
    rw [r.length]; exact len ds d hR
  · obtain ⟨Nn, ds, d, e, r, hR, q⟩ := h
    obtain ⟨t, ht, hq⟩ := hb cdv A outer s H E hr
    refine ⟨t, ht, hq ds d hR Nn H _ Q ?_ q⟩
    have a := At.start (M := []) (names := N) e r
    rw [r.length] at a
    exact a
end

/-! ### dicts -/
section
variable {K : PySem.W.Frag} {ρ : List Sl} {te td ty tx : TE} {d x : D} {kvs : List (Key × D)}
def kD : Key → D
  | .inl i => .int i
  | .inr s => .str s
theorem valV_rel {κ : Type} [DecidableEq κ] {H : Hp} {k : κ} : ∀ {vs : List (κ × V)} {ks : List (κ × D)}, vs.map Prod.fst = ks.map Prod.fst → Rps H (vs.map Prod.snd) (ks.map Prod.snd) →
    (valD ks k = none → valV vs k = none) ∧ (∀ d, valD ks k = some d → ∃ v, valV vs k = some v ∧ Rp H v d)
  | [], [], _, _ => ⟨fun _ => rfl, fun d h => by simp [valD] at h⟩
  | [], _ :: _, h, _ => by simp at h
  | _ :: _, [], h, _ => by simp at h
  | (a, v) :: vs, (b, e) :: ks, h, r => by
    simp only [List.map_cons, List.cons.injEq] at h
    obtain ⟨rfl, h⟩ := h
    obtain ⟨v', r', q0, q1, q2⟩ := Rps.inv_cons r
    simp only [List.map_cons, List.cons.injEq] at q0
    obtain ⟨rfl, rfl⟩ := q0
    obtain ⟨i1, i2⟩ := valV_rel (k := k) h q2
    by_cases z : a = k
    · refine ⟨fun y => ?_, fun d y => ?_⟩
      · simp [valD, List.find?_cons, z] at y
      · simp [valD, List.find?_cons, z] at y
        subst y
        exact ⟨v, by simp [valV, List.find?_cons, z], q1⟩
    · refine ⟨fun y => ?_, fun d y => ?_⟩
      · rw [valV_neg (by exact z)]
        refine i1 ?_
        simpa [valD, List.find?_cons, z] using y
      · rw [valV_neg (by exact z)]
        refine i2 d ?_
        simpa [valD, List.find?_cons, z] using y
theorem Rp.key {H : Hp} {v : V} {k : Key} (r : Rp H v (kD k)) : v = kV k := by
  cases k with
  | inl i => exact r.inv_int
  | inr i => exact r.inv_str
/-- d[k] of a dict with int or text keys -/
theorem e_dget {k : Key} (hd : E td ρ (.dk kvs)) (hk : E ty ρ (kD k)) (hv : valD kvs k = some d) : E (tDGet td ty) ρ d := fun σ N H S e Q q =>
  hd σ N H S e _ fun v N1 H1 f1 r1 => hk σ N1 H1 (S.mono f1.sml) f1.sub _ fun w N2 H2 f2 r2 => by
    obtain ⟨a, vs, rfl, g1, g2, g3⟩ := (r1.mono f2.sml).inv_dk
    obtain ⟨u, hu, ru⟩ := (valV_rel g2 g3).2 d hv
    refine ⟨a, u, rfl, ?_, q u N2 H2 (f1.trans f2) ru⟩
    rw [r2.key, ← hu]
    exact DGet.k (f2.sub _ _ g1)
theorem e_dgetI {i : Int} (hd : E td ρ (.dk kvs)) (hk : E ty ρ (.int i)) (hv : valD kvs (.inl i) = some d) : E (tDGet td ty) ρ d := e_dget (k := .inl i) hd hk hv
/-- d.get(k) -/
theorem e_dget1 {k : Key} (hd : E td ρ (.dk kvs)) (hk : E ty ρ (kD k)) : E (tDGet1 td ty) ρ ((valD kvs k).getD .non) := fun σ N H S e Q q =>
  hd σ N H S e _ fun v N1 H1 f1 r1 => by
    obtain ⟨a, vs, rfl, g1, g2, g3⟩ := r1.inv_dk
    refine ⟨a, rfl, .inl ⟨vs, .inl (f1.sub _ _ g1)⟩, ?_⟩
    refine hk σ N1 H1 (S.mono f1.sml) f1.sub _ fun w N2 H2 f2 r2 => ?_
    refine ⟨valV vs k, ?_, ?_⟩
    · rw [r2.key]
      exact DGet.k (f2.ex _ _ (f1.sub _ _ g1))
    · obtain ⟨i1, i2⟩ := valV_rel (k := k) g2 g3
      refine q _ N2 H2 (f1.trans f2) ?_
      cases z : valD kvs k with
      | none => rw [i1 z]; exact .non
      | some d' =>
        obtain ⟨u, hu, ru⟩ := i2 d' z
        rw [hu]; exact ru.mono f2.sml
/-- d.get(k, x) -/
theorem e_dget2 {k : Key} (hd : E td ρ (.dk kvs)) (hk : E ty ρ (kD k)) (hx : E tx ρ x) : E (tDGet2 td ty tx) ρ ((valD kvs k).getD x) := fun σ N H S e Q q =>
  hd σ N H S e _ fun v N1 H1 f1 r1 => by
    obtain ⟨a, vs, rfl, g1, g2, g3⟩ := r1.inv_dk
    refine ⟨a, rfl, .inl ⟨vs, .inl (f1.sub _ _ g1)⟩, ?_⟩
    refine hk σ N1 H1 (S.mono f1.sml) f1.sub _ fun w N2 H2 f2 r2 => ?_
    refine hx σ N2 H2 ((S.mono f1.sml).mono f2.sml) f2.sub _ fun y N3 H3 f3 r3 => ?_
    refine ⟨valV vs k, ?_, ?_⟩
    · rw [r2.key]
      exact DGet.k (f3.ex _ _ (f2.ex _ _ (f1.sub _ _ g1)))
    · obtain ⟨i1, i2⟩ := valV_rel (k := k) g2 g3
      refine q _ N3 H3 ((f1.trans f2).trans f3) ?_
      cases z : valD kvs k with
      | none => rw [i1 z]; exact r3
      | some d' =>
        obtain ⟨u, hu, ru⟩ := i2 d' z
        rw [hu]; exact (ru.mono f2.sml).mono f3.sml
end
section
variable {ρ : List Sl} {wi : TI} {g : TG} {tt : TT} {te tk tv : TE} {vs ts : List Nat} {α : Type}
theorem put_rel {κ : Type} [DecidableEq κ] {H : Hp} {k : κ} {v : V} {d : D} (rv : Rp H v d) {vs : List (κ × V)} {ks : List (κ × D)} (h : vs.map Prod.fst = ks.map Prod.fst) (r : Rps H (vs.map Prod.snd) (ks.map Prod.snd)) :
    (putK vs k v).map Prod.fst = (putD ks k d).map Prod.fst ∧ Rps H ((putK vs k v).map Prod.snd) ((putD ks k d).map Prod.snd) := by
  have hany : (vs.any fun kv => decide (kv.1 = k)) = ks.any fun kv => decide (kv.1 = k) := by
    have e1 : (vs.any fun kv => decide (kv.1 = k)) = (vs.map Prod.fst).any fun a => decide (a = k) := by rw [List.any_map]; rfl
    have e2 : (ks.any fun kv => decide (kv.1 = k)) = (ks.map Prod.fst).any fun a => decide (a = k) := by rw [List.any_map]; rfl
    rw [e1, e2, h]
  unfold putK putD
  rw [hany]
  split
  · rename_i hc
    clear hany hc
    induction vs generalizing ks with
    | nil => cases ks with
      | nil => exact ⟨rfl, .nil⟩
      | cons a b => simp at h
    | cons p vs ih => cases ks with
      | nil => simp at h
      | cons q ks =>
        obtain ⟨a, v0⟩ := p
        obtain ⟨b, e0⟩ := q
        simp only [List.map_cons, List.cons.injEq] at h
        obtain ⟨rfl, h⟩ := h
        obtain ⟨v', r', q0, q1, q2⟩ := Rps.inv_cons r
        simp only [List.map_cons, List.cons.injEq] at q0
        obtain ⟨rfl, rfl⟩ := q0
        obtain ⟨i1, i2⟩ := ih h q2
        by_cases z : a = k
        · simp only [List.map_cons, z, if_true] at i1 i2 ⊢
          exact ⟨by rw [i1], .cons rv i2⟩
        · simp only [List.map_cons, if_neg z] at i1 i2 ⊢
          exact ⟨by rw [i1], .cons q1 i2⟩
  · rw [List.map_append, List.map_append, List.map_append, List.map_append, h]
    exact ⟨rfl, r.append (.cons rv .nil)⟩
/-- a dict comprehension: the pairs put one by one -/
def putAll (kvs : List (Key × D)) (ps : List (Key × D)) : List (Key × D) := ps.foldl (fun a p => putD a p.1 p.2) kvs
theorem putD_len {κ : Type} [DecidableEq κ] (kvs : List (κ × D)) (k : κ) (d : D) : (putD kvs k d).length ≤ kvs.length + 1 := by
  unfold putD
  split
  · rw [List.length_map]; omega
  · rw [List.length_append]; exact Nat.le_refl _
theorem putAll_len (kvs ps : List (Key × D)) : (putAll kvs ps).length ≤ kvs.length + ps.length := by
  unfold putAll
  induction ps generalizing kvs with
  | nil => simp
  | cons p ps ih =>
    rw [List.foldl_cons]
    have h1 := ih (putD kvs p.1 p.2)
    have h2 := putD_len kvs p.1 p.2
    rw [List.length_cons]; omega
theorem putAll_snoc (kvs ps : List (Key × D)) (p : Key × D) : putAll kvs (ps ++ [p]) = putD (putAll kvs ps) p.1 p.2 := by
  unfold putAll
  rw [List.foldl_append]; rfl
theorem el_dc (xs : List α) (enc : α → D) (fk : α → Key) (fv : α → D) (ρ' : α → List Sl) (hs : Src wi ρ (xs.map enc)) (hz : xs.length ≤ 100000) (hts : ∀ j ∈ ts, j ∈ vs)
    (hg : ∀ x, x ∈ xs → Tg g ts (wipeS ρ vs) (enc x) (ρ' x)) (hk : ∀ x, x ∈ xs → E tk (ρ' x) (kD (fk x))) (hv : ∀ x, x ∈ xs → E tv (ρ' x) (fv x)) :
    EL (tDc wi g tYes tk tv vs) ρ (.dk (putAll [] (xs.map fun x => (fk x, fv x)))) := fun σ N H S e Q k => hs σ N H S e _ fun J N1 H1 f1 sv => fun Dl hD => by
  have n1 : N1 Dl = none := none_of_ex f1.sub hD
  refine ⟨fun i m H' => m = xs.length - i ∧ i ≤ xs.length ∧ ∃ Nw acc, Fr [] N1 H1 Nw H' ∧ Nw Dl = none ∧ H' Dl = some (.dK acc) ∧ acc.map Prod.fst = (putAll [] ((xs.take i).map fun x => (fk x, fv x))).map Prod.fst ∧ Rps Nw (acc.map Prod.snd) ((putAll [] ((xs.take i).map fun x => (fk x, fv x))).map Prod.snd),
    ⟨xs.length, rfl, Nat.zero_le _, N1, [], Fr.laid f1.sub hD, n1, upd_same, rfl, .nil⟩, ?_⟩
  rintro i m H' ⟨rfl, hi, Nw, acc, fw, nD, eD, hacc, racc⟩
  by_cases hlt : i < xs.length
  · have hx : xs[i]? = some xs[i] := List.getElem?_eq_getElem hlt
    generalize xs[i] = x at hx
    have hm : x ∈ xs := List.mem_of_getElem? hx
    refine .inr ⟨sv.go i H' (fw.sml.trans fw.sub) (by simpa using hlt), fun H2 => ∃ Nw acc, Fr [] N1 H1 Nw H2 ∧ Nw Dl = none ∧ H2 Dl = some (.dK acc) ∧ acc.map Prod.fst = (putAll [] ((xs.take (i + 1)).map fun x => (fk x, fv x))).map Prod.fst ∧ Rps Nw (acc.map Prod.snd) ((putAll [] ((xs.take (i + 1)).map fun x => (fk x, fv x))).map Prod.snd),
      fun H2 ⟨Nw, acc, q⟩ => ⟨xs.length - (i + 1), by omega, rfl, hlt, Nw, acc, q⟩, fun v H2 y => ?_⟩
    obtain ⟨N2, f2, rv⟩ := sv.yld i (enc x) v Nw H' H2 (by rw [List.getElem?_map, hx]; rfl) fw.sml fw.sub y
    have d2 : H2 Dl = some (.dK acc) := f2.ex _ _ eD
    have k2 : N2 Dl = none := f2.newK nD eD
    refine hg x hm (L2.wipe σ vs) N2 H2 v (((S.mono (f1.sml.trans (fw.sml.trans f2.sml)))).wipe vs) f2.sub rv _ fun σ2 S2 w2 => ⟨(w2 vs hts).trans (wipe_wipe σ vs), ?_⟩
    show tk σ2 H2 _
    refine hk x hm σ2 N2 H2 S2 f2.sub _ fun yk N3 H3 f3 rk => ?_
    have d3 : H3 Dl = some (.dK acc) := f3.ex _ _ d2
    have k3 : N3 Dl = none := f3.newK k2 d2
    refine hv x hm σ2 N3 H3 (S2.mono f3.sml) f3.sub _ fun yv N4 H4 f4 ry => ?_
    have d4 : H4 Dl = some (.dK acc) := f4.ex _ _ d3
    have k4 : N4 Dl = none := f4.newK k3 d3
    have F := (fw.trans f2).trans (f3.trans f4)
    have hle : acc.length ≤ 100000 := by
      have e1 : acc.length = (acc.map Prod.fst).length := by simp
      rw [e1, hacc, List.length_map]
      have h1 := putAll_len [] ((xs.take i).map fun x => (fk x, fv x))
      rw [List.length_map, List.length_take, List.length_nil] at h1
      omega
    have hp := put_rel (k := fk x) ry hacc (racc.mono (f2.sml.trans (f3.sml.trans f4.sml)))
    refine ⟨acc, fk x, rk.key, d4, lt_line hle, N4, putK acc (fk x) yv, ⟨fun b o hb q => ?_, fun b q => ?_, F.sml, fun b o q => ?_, F.new, fun b u q n => ?_⟩, k4, upd_same, ?_, ?_⟩
    · rw [upd_ne (ne_of_none q hD)]; exact F.big b o hb q
    · by_cases z : b = Dl
      · subst z; rw [upd_same]; exact fun z => nomatch z
      · rw [upd_ne z]; exact F.dom b q
    · rw [upd_ne (ne_of_none q k4)]; exact F.sub b o q
    · rw [upd_ne (ne_of_none q hD)]; exact F.chg b u q n
    · rw [List.take_add_one, hx, List.map_append]
      show _ = List.map Prod.fst (putAll [] (_ ++ [(fk x, fv x)]))
      rw [putAll_snoc]
      exact hp.1
    · rw [List.take_add_one, hx, List.map_append]
      show Rps N4 _ (List.map Prod.snd (putAll [] (_ ++ [(fk x, fv x)])))
      rw [putAll_snoc]
      exact hp.2
  · have ei : i = xs.length := by omega
    subst ei
    rw [List.take_length] at racc hacc
    exact .inl ⟨sv.stop _ H' (fw.sml.trans fw.sub) (by simp), k Dl Nw H' (f1.trans fw) (Fr.fresh (o := .lst []) f1 e hD).1 nD ⟨acc, eD, hacc, racc⟩⟩
end

theorem Vw.refl (Ps : List (Addr × D)) : ∀ ρ : List Sl, Vw Ps ρ ρ
  | [] => .nil
  | _ :: ρ => .same (Vw.refl Ps ρ)
section
variable {K : PySem.W.Frag} {c : Ctx} {Ps : List (Addr × D)} {ρ ρ' ρ1 : List Sl} {σ : St} {H : Hp} {De : Ends} {te td ty tv : TE} {d d1 d2 : D} {tt : TT} {b : Bool} {tz tu tw tb : TS} {g : TG} {ts : List Nat}
theorem q_whenT (a : At c Ps ρ σ H) (h : ET tt ρ b) (hb : b = true) (h1 : ∀ H', At c Ps ρ σ H' → tu { De with nx := tz De } σ H') : tSeq (tIfS tt tu tNext) tz De σ H :=
  q_when a h (fun _ => h1) (fun z => by rw [hb] at z; cases z)
theorem q_whenF (a : At c Ps ρ σ H) (h : ET tt ρ b) (hb : b = false) (h1 : ∀ H', At c Ps ρ σ H' → tz De σ H') : tSeq (tIfS tt tu tNext) tz De σ H :=
  q_when a h (fun z => by rw [hb] at z; cases z) (fun _ => h1)
theorem e_ifT {t : TT} {ta tb : TE} {p : Bool} (h : ET t ρ p) (hp : p = true) (h1 : E ta ρ d) : E (tIf t ta tb) ρ d := e_if h (fun _ => h1) (fun z => by rw [hp] at z; cases z)
theorem e_ifF {t : TT} {ta tb : TE} {p : Bool} (h : ET t ρ p) (hp : p = false) (h1 : E tb ρ d) : E (tIf t ta tb) ρ d := e_if h (fun z => by rw [hp] at z; cases z) (fun _ => h1)
/-! for, over what is pure to reckon -/
theorem s_for' {S : Type} (Psf : S → List (Addr × D)) (ρf : S → List Sl) (J : Nat → S → Prop) (s0 : S) {wi : TI} {ds : List D} (a : At c (Psf s0) (ρf s0) σ H) (hs : Src wi (ρf s0) ds) (h0 : J 0 s0) (ρg : S → D → List Sl)
    (hg : ∀ i s d, ds[i]? = some d → J i s → Tg g ts (ρf s) d (ρg s d))
    (step : ∀ L i s d σ' H', ds[i]? = some d → J i s → At (c.ext L) (Psf s) (ρg s d) σ' H' → tb { De with nx := fun σ H => ∃ s', J (i + 1) s' ∧ At (c.ext L) (Psf s') (ρf s') σ H, ct := fun σ H => ∃ s', J (i + 1) s' ∧ At (c.ext L) (Psf s') (ρf s') σ H, bk := De.nx } σ' H')
    (done : ∀ s σ' H', J ds.length s → At c (Psf s) (ρf s) σ' H' → De.nx σ' H') : tFor wi g tb De σ H :=
  s_for Psf ρf J s0 a (Vw.refl _ _) hs (.inl rfl) h0 ρg hg step done rfl
theorem q_for {S : Type} (Psf : S → List (Addr × D)) (ρf : S → List Sl) (J : Nat → S → Prop) (s0 : S) {wi : TI} {ds : List D} (a : At c (Psf s0) (ρf s0) σ H) (hs : Src wi (ρf s0) ds) (h0 : J 0 s0) (ρg : S → D → List Sl)
    (hg : ∀ i s d, ds[i]? = some d → J i s → Tg g ts (ρf s) d (ρg s d))
    (step : ∀ L i s d σ' H', ds[i]? = some d → J i s → At (c.ext L) (Psf s) (ρg s d) σ' H' → tb { De with nx := fun σ H => ∃ s', J (i + 1) s' ∧ At (c.ext L) (Psf s') (ρf s') σ H, ct := fun σ H => ∃ s', J (i + 1) s' ∧ At (c.ext L) (Psf s') (ρf s') σ H, bk := tz De } σ' H')
    (done : ∀ s σ' H', J ds.length s → At c (Psf s) (ρf s) σ' H' → tz De σ' H') : tSeq (tFor wi g tb) tz De σ H :=
  s_for' (De := { De with nx := tz De }) Psf ρf J s0 a hs h0 ρg hg step done
theorem s_while {S : Type} (Psf : S → List (Addr × D)) (ρf : S → List Sl) (J : Nat → S → Prop) (n0 : Nat) (s0 : S) (a : At c (Psf s0) (ρf s0) σ H) (h0 : J n0 s0)
    (step : ∀ n s, J n s → ∃ b ρ', Vw (Psf s) (ρf s) ρ' ∧ ET tt ρ' b ∧ (b = true → ∀ σ' H', At c (Psf s) (ρf s) σ' H' → tb { De with nx := fun σ H => ∃ n' s', n' < n ∧ J n' s' ∧ At c (Psf s') (ρf s') σ H, ct := fun σ H => ∃ n' s', n' < n ∧ J n' s' ∧ At c (Psf s') (ρf s') σ H, bk := De.nx } σ' H')
      ∧ (b = false → ∀ σ' H', At c (Psf s) (ρf s) σ' H' → De.nx σ' H')) : tWhile tt tb De σ H := by
  refine ⟨fun n σ H => ∃ s, J n s ∧ At c (Psf s) (ρf s) σ H, ⟨n0, s0, h0, a⟩, ?_⟩
  rintro n σ1 H1 ⟨s, hJ, a1⟩
  obtain ⟨b, ρ', w, ht, h1, h2⟩ := step n s hJ
  refine a1.et w ht fun H2 a2 => ?_
  cases b with
  | true => exact ⟨fun σ H => ∃ n' s', n' < n ∧ J n' s' ∧ At c (Psf s') (ρf s') σ H, fun σ3 H3 ⟨n', s', q1, q2, q3⟩ => ⟨n', q1, s', q2, q3⟩, h1 rfl σ1 H2 a2⟩
  | false => exact h2 rfl σ1 H2 a2
theorem q_while {S : Type} (Psf : S → List (Addr × D)) (ρf : S → List Sl) (J : Nat → S → Prop) (n0 : Nat) (s0 : S) (a : At c (Psf s0) (ρf s0) σ H) (h0 : J n0 s0)
    (step : ∀ n s, J n s → ∃ b ρ', Vw (Psf s) (ρf s) ρ' ∧ ET tt ρ' b ∧ (b = true → ∀ σ' H', At c (Psf s) (ρf s) σ' H' → tb { De with nx := fun σ H => ∃ n' s', n' < n ∧ J n' s' ∧ At c (Psf s') (ρf s') σ H, ct := fun σ H => ∃ n' s', n' < n ∧ J n' s' ∧ At c (Psf s') (ρf s') σ H, bk := tz De } σ' H')
      ∧ (b = false → ∀ σ' H', At c (Psf s) (ρf s) σ' H' → tz De σ' H')) : tSeq (tWhile tt tb) tz De σ H := s_while (De := { De with nx := tz De }) Psf ρf J n0 s0 a h0 step
/-! two names at once -/
variable {t1 t2 : TE} {i j : Nat}
theorem q_parEE (a : At c Ps ρ σ H) (h1 : E t1 ρ d1) (h2 : E t2 ρ d2) (k : ∀ σ' H', At c Ps ((ρ.set i (.dat d1)).set j (.dat d2)) σ' H' → tz De σ' H') : tSeq (tPar i j (tCons t1 (tCons t2 tNil))) tz De σ H := by
  show t1 σ H _
  refine a.e h1 fun v L H1 r1 a1 => ?_
  show t2 σ H1 _
  refine a1.e h2 fun w L2 H2 r2 a2 => ⟨v, w, rfl, k _ _ ?_⟩
  have a3 := a2.setD i (List.mem_cons_of_mem _ List.mem_cons_self) r1
  exact (a3.setD j List.mem_cons_self r2).unext.unext
theorem q_parLE (a : At c Ps ρ σ H) (h1 : EL t1 ρ d1) (h2 : E t2 ρ d2) (k : ∀ p σ' H', At c ((p, d1) :: Ps) ((ρ.set i (.val (.ref p))).set j (.dat d2)) σ' H' → tz De σ' H') : tSeq (tPar i j (tCons t1 (tCons t2 tNil))) tz De σ H := by
  show t1 σ H _
  refine a.el h1 fun p H1 a1 => ?_
  show t2 σ H1 _
  refine a1.e h2 fun w L2 H2 r2 a2 => ⟨_, w, rfl, k p _ _ ?_⟩
  exact ((a2.setV i).setD j List.mem_cons_self r2).unext
theorem q_parEL (a : At c Ps ρ σ H) (h1 : E t1 ρ d1) (h2 : EL t2 ρ d2) (k : ∀ p σ' H', At c ((p, d2) :: Ps) ((ρ.set i (.dat d1)).set j (.val (.ref p))) σ' H' → tz De σ' H') : tSeq (tPar i j (tCons t1 (tCons t2 tNil))) tz De σ H := by
  show t1 σ H _
  refine a.e h1 fun v L H1 r1 a1 => ?_
  show t2 σ H1 _
  refine a1.el h2 fun p H2 a2 => ⟨v, _, rfl, k p _ _ ?_⟩
  exact ((a2.setD i List.mem_cons_self r1).setV j).unext
theorem q_parLL (a : At c Ps ρ σ H) (h1 : EL t1 ρ d1) (h2 : EL t2 ρ d2) (k : ∀ p q σ' H', At c ((q, d2) :: (p, d1) :: Ps) ((ρ.set i (.val (.ref p))).set j (.val (.ref q))) σ' H' → tz De σ' H') : tSeq (tPar i j (tCons t1 (tCons t2 tNil))) tz De σ H := by
  show t1 σ H _
  refine a.el h1 fun p H1 a1 => ?_
  show t2 σ H1 _
  refine a1.el h2 fun q H2 a2 => ⟨_, _, rfl, k p q _ _ ?_⟩
  exact (a2.setV i).setV j
/-! d[k] = v -/
theorem s_dput {i k : Nat} {p : Addr} {kvs : List (Key × D)} {key : Key} (a : At c Ps ρ σ H) (hi : ρ[i]? = some (.val (.ref p))) (hk : Ps[k]? = some (p, .dk kvs)) (w : Vw Ps ρ ρ') (hv : E tv ρ' d) (hf : fz d = true) (hy : E ty ρ' (kD key)) (hz : kvs.length ≤ 99999)
    (kk : ∀ H', At c (Ps.set k (p, .dk (putD kvs key d))) ρ σ H' → De.nx σ H') : sDPut (tVar i) ty tv De σ H := by
  obtain ⟨N, a⟩ := a
  have hm : (p, D.dk kvs) ∈ Ps := List.mem_of_getElem? hk
  refine a.ev w hv hf fun v N1 H1 a1 r1 => ?_
  refine ⟨_, a1.sg.val i _ hi, ?_⟩
  have hfk : fz (kD key) = true := by cases key <;> rfl
  refine (a1.ext (Ex.refl N1)).ev w hy hfk fun y N2 H2 a2 r2 => ?_
  obtain ⟨_, h2, _⟩ := a2.ps p _ hm
  rcases h2 with ⟨vs, g1, g2, g3⟩ | ⟨z, _⟩
  · have hl : vs.length ≤ 99999 := by
      have e1 : vs.length = (vs.map Prod.fst).length := by simp
      rw [e1, g2]; simpa using hz
    refine ⟨p, _, rfl, ?_, kk _ ⟨N2, a2.unext.wrote (o := .dK (putK vs key v)) hk (.inl ?_)⟩⟩
    · rw [r2.key]
      exact DPut.k g1 (lt_line (by omega))
    · have hp := put_rel (k := key) (r1.mono (a2.ls N1 List.mem_cons_self)) g2 g3
      exact ⟨_, upd_same, hp.1, hp.2⟩
  · cases z
theorem q_dput {i k : Nat} {p : Addr} {kvs : List (Key × D)} {key : Key} (a : At c Ps ρ σ H) (hi : ρ[i]? = some (.val (.ref p))) (hk : Ps[k]? = some (p, .dk kvs)) (w : Vw Ps ρ ρ') (hv : E tv ρ' d) (hf : fz d = true) (hy : E ty ρ' (kD key)) (hz : kvs.length ≤ 99999)
    (kk : ∀ H', At c (Ps.set k (p, .dk (putD kvs key d))) ρ σ H' → tz De σ H') : tSeq (sDPut (tVar i) ty tv) tz De σ H := s_dput (De := { De with nx := tz De }) a hi hk w hv hf hy hz kk
theorem el_newK : EL tDNewK ρ (.dk []) := fun σ N H S e Q k => fun p hp => k p N _ (Fr.laid e hp) hp (none_of_ex e hp) ⟨[], upd_same, rfl, .nil⟩
theorem el_newT : EL tDNewT ρ (.dt []) := fun σ N H S e Q k => fun p hp => k p N _ (Fr.laid e hp) hp (none_of_ex e hp) ⟨[], upd_same, rfl, .nil⟩
end
/-! lookups behind stores -/
section
variable {κ : Type} [DecidableEq κ]
theorem valD_nil (k : κ) : valD ([] : List (κ × D)) k = none := rfl
theorem valD_cons (p : κ × D) (r : List (κ × D)) (k : κ) : valD (p :: r) k = if p.1 = k then some p.2 else valD r k := by
  unfold valD
  rw [List.find?_cons]
  by_cases h : p.1 = k <;> simp [h]
theorem valD_put (kvs : List (κ × D)) (k j : κ) (d : D) : valD (putD kvs k d) j = if j = k then some d else valD kvs j := by
  unfold putD
  split
  · rename_i h
    obtain ⟨q, hq, hk⟩ := List.any_eq_true.mp h
    have hk : q.1 = k := of_decide_eq_true hk
    clear h
    induction kvs with
    | nil => simp at hq
    | cons p r ih =>
      rw [List.map_cons, valD_cons, valD_cons]
      by_cases hp : p.1 = k
      · rw [if_pos hp]
        by_cases hj : j = k
        · subst hj; simp [hp]
        · have : ¬ p.1 = j := fun z => hj (z.symm.trans hp)
          simp only [if_neg this, if_neg hj]
          by_cases hm : q ∈ r
          · have := ih hm
            rw [this, if_neg hj]
          · have hz : ∀ x ∈ r, ¬ x.1 = k ∨ True := fun _ _ => .inr trivial
            clear ih hz
            induction r with
            | nil => rfl
            | cons x r ih2 =>
              rw [List.map_cons, valD_cons, valD_cons]
              by_cases hx : x.1 = k
              · rw [if_pos hx]
                have hxj : ¬ x.1 = j := fun z => hj (z.symm.trans hx)
                simp only [if_neg hxj]
                exact ih2 (by simp at hq ⊢; rcases hq with h | h | h <;> simp_all) (fun z => hm (List.mem_cons_of_mem _ z))
              · rw [if_neg hx]
                by_cases hxj : x.1 = j
                · simp [hxj]
                · simp only [if_neg hxj]
                  exact ih2 (by simp at hq ⊢; rcases hq with h | h | h <;> simp_all) (fun z => hm (List.mem_cons_of_mem _ z))
      · rw [if_neg hp]
        by_cases hj : p.1 = j
        · have : ¬ j = k := fun z => hp (hj.trans z)
          simp [hj, this]
        · simp only [if_neg hj]
          refine ih ?_
          rcases List.mem_cons.mp hq with z | z
          · subst z; exact absurd hk hp
          · exact z
  · rename_i h
    have hn : ∀ p ∈ kvs, ¬ p.1 = k := fun p hp z => h (List.any_eq_true.mpr ⟨p, hp, decide_eq_true z⟩)
    clear h
    induction kvs with
    | nil =>
      show valD [(k, d)] j = _
      rw [valD_cons]
      by_cases hj : k = j
      · subst hj; simp
      · have : ¬ j = k := fun z => hj z.symm
        simp [hj, this, valD]
    | cons p r ih =>
      rw [List.cons_append, valD_cons, valD_cons, ih fun q hq => hn q (List.mem_cons_of_mem _ hq)]
      have hp := hn p List.mem_cons_self
      by_cases hj : p.1 = j
      · have : ¬ j = k := fun z => hp (hj.trans z)
        simp [hj, this]
      · simp [hj]
end

section
variable {K : PySem.W.Frag} {ρ : List Sl} {ta : TE} {d : D} {b : Bool} {Ty : String}
theorem Rp.ty {N : Hp} {v : V} {d : D} (r : Rp N v d) : TyX K N v (.type (tyD d)) := by
  cases r with
  | non => exact .base .non
  | bl b => exact .base (.bl b)
  | int i => exact .base (.int i)
  | str x => exact .base (.str x)
  | lst h _ => exact .base (.lst h)
  | tup h _ => exact .base (.tup h)
  | ftup q h _ => exact .fTuple h
  | dk h _ _ => exact .base (.dK h)
  | dt h _ _ => exact .base (.dT h)
theorem e_isi (h : E ta ρ d) (hk : kitB (tyD d) Ty = some b) : E (tCB (rIsi K) (tCons ta (tCons (tC (.ty Ty)) tNil))) ρ (.bl b) := fun σ N H S e Q k =>
  h σ N H S e _ fun v N1 H1 f1 r => ⟨v, .ty Ty, .type (tyD d), .type Ty, b, rfl, .ty Ty, (r.mono f1.sub).ty, kit_ty hk, k _ N1 H1 f1 (.bl b)⟩
def isIntD : D → Bool
  | .int _ => true
  | .bl _ => true
  | _ => false
def isBlD : D → Bool
  | .bl _ => true
  | _ => false
def isStrD : D → Bool
  | .str _ => true
  | _ => false
def isTupD : D → Bool
  | .tup _ => true
  | .ftup _ => true
  | _ => false
theorem e_isInt (h : E ta ρ d) : E (tCB (rIsi K) (tCons ta (tCons (tC (.ty "int")) tNil))) ρ (.bl (isIntD d)) := e_isi h (by cases d <;> (simp only [tyD, isIntD]; decide +kernel))
theorem e_isBl (h : E ta ρ d) : E (tCB (rIsi K) (tCons ta (tCons (tC (.ty "bool")) tNil))) ρ (.bl (isBlD d)) := e_isi h (by cases d <;> (simp only [tyD, isBlD]; decide +kernel))
theorem e_isStr (h : E ta ρ d) : E (tCB (rIsi K) (tCons ta (tCons (tC (.ty "str")) tNil))) ρ (.bl (isStrD d)) := e_isi h (by cases d <;> (simp only [tyD, isStrD]; decide +kernel))
theorem e_isTup (h : E ta ρ d) : E (tCB (rIsi K) (tCons ta (tCons (tC (.ty "tuple")) tNil))) ρ (.bl (isTupD d)) := e_isi h (by cases d <;> (simp only [tyD, isTupD]; decide +kernel))
end
theorem Wk.refl : ∀ ρ : List Sl, Wk ρ ρ
  | [] => .nil
  | _ :: ρ => .same (Wk.refl ρ)
section
variable {c : Ctx} {σ : St} {H : Hp} {De : Ends} {g : TG} {ts : List Nat} {tz tb : TS}
/-- for, the items by a list of any type -/
theorem s_forT {S α : Type} (xs : List α) (enc : α → D) (Psf : S → List (Addr × D)) (ρf : S → List Sl) (J : Nat → S → Prop) (s0 : S) {wi : TI} (ρg : S → α → List Sl) (a : At c (Psf s0) (ρf s0) σ H) (hs : Src wi (ρf s0) (xs.map enc)) (h0 : J 0 s0)
    (hg : ∀ (i : Nat) s x, xs[i]? = some x → J i s → Tg g ts (ρf s) (enc x) (ρg s x))
    (step : ∀ L (i : Nat) s x σ' H', xs[i]? = some x → J i s → At (c.ext L) (Psf s) (ρg s x) σ' H' → tb { De with nx := fun σ H => ∃ s', J (i + 1) s' ∧ At (c.ext L) (Psf s') (ρf s') σ H, ct := fun σ H => ∃ s', J (i + 1) s' ∧ At (c.ext L) (Psf s') (ρf s') σ H, bk := De.nx } σ' H')
    (done : ∀ s σ' H', J xs.length s → At c (Psf s) (ρf s) σ' H' → De.nx σ' H') : tFor wi g tb De σ H := by
  obtain ⟨N, a⟩ := a
  refine hs σ N H a.sg a.fr.sub _ fun Jt N1 H1 f1 sv => ?_
  have a1 := (a.step f1).ext (Ex.refl N1)
  refine ⟨fun i m σ' H' => m = xs.length - i ∧ i ≤ xs.length ∧ ∃ s, J i s ∧ At (c.ext N1) (Psf s) (ρf s) σ' H', ⟨xs.length, rfl, Nat.zero_le _, s0, h0, N1, a1⟩, ?_⟩
  rintro i m σ' H' ⟨rfl, hi, s, hJ, N2, a2⟩
  have eL : Ex N1 N2 := a2.ls N1 List.mem_cons_self
  by_cases hlt : i < xs.length
  · have hd : xs[i]? = some xs[i] := List.getElem?_eq_getElem hlt
    generalize xs[i] = x at hd
    refine .inr ⟨sv.go i H' (eL.trans a2.fr.sub) (by simpa using hlt), fun σ H => ∃ s', J (i + 1) s' ∧ At (c.ext N1) (Psf s') (ρf s') σ H, fun σ3 H3 ⟨s', q1, q2⟩ => ⟨xs.length - (i + 1), by omega, rfl, hlt, s', q1, q2⟩, fun v H3 y => ?_⟩
    obtain ⟨N3, f3, rx⟩ := sv.yld i (enc x) v N2 H' H3 (by rw [List.getElem?_map, hd]; rfl) eL a2.fr.sub y
    have a3 := a2.step f3
    exact hg i s x hd hJ σ' N3 H3 v a3.sg a3.fr.sub rx _ fun σ4 S4 _ => step N1 i s x σ4 H3 hd hJ ⟨N3, a3.fr, S4, a3.ls, a3.ps, a3.nd⟩
  · have e : i = xs.length := by omega
    subst e
    exact .inl ⟨sv.stop _ H' (eL.trans a2.fr.sub) (by simp), done s σ' H' hJ (At.unext ⟨N2, a2⟩)⟩
theorem q_forT {S α : Type} (xs : List α) (enc : α → D) (Psf : S → List (Addr × D)) (ρf : S → List Sl) (J : Nat → S → Prop) (s0 : S) {wi : TI} (ρg : S → α → List Sl) (a : At c (Psf s0) (ρf s0) σ H) (hs : Src wi (ρf s0) (xs.map enc)) (h0 : J 0 s0)
    (hg : ∀ (i : Nat) s x, xs[i]? = some x → J i s → Tg g ts (ρf s) (enc x) (ρg s x))
    (step : ∀ L (i : Nat) s x σ' H', xs[i]? = some x → J i s → At (c.ext L) (Psf s) (ρg s x) σ' H' → tb { De with nx := fun σ H => ∃ s', J (i + 1) s' ∧ At (c.ext L) (Psf s') (ρf s') σ H, ct := fun σ H => ∃ s', J (i + 1) s' ∧ At (c.ext L) (Psf s') (ρf s') σ H, bk := tz De } σ' H')
    (done : ∀ s σ' H', J xs.length s → At c (Psf s) (ρf s) σ' H' → tz De σ' H') : tSeq (tFor wi g tb) tz De σ H := s_forT (De := { De with nx := tz De }) xs enc Psf ρf J s0 ρg a hs h0 hg step done
end
section
variable {K : PySem.W.Frag} {c : Ctx} {Ps : List (Addr × D)} {ρ ρ' ρ1 : List Sl} {σ : St} {H : Hp} {De : Ends} {te : TE} {tz : TS}
/-- += of a list that stands -/
theorem s_augE {i k : Nat} {p : Addr} {ds es : List D} (a : At c Ps ρ σ H) (hi : ρ[i]? = some (.val (.ref p))) (hk : Ps[k]? = some (p, .lst ds)) (h : E te ρ (.lst es)) (hz : ds.length + es.length ≤ 100000)
    (kk : ∀ σ' H', At c (Ps.set k (p, .lst (ds ++ es))) ρ σ' H' → De.nx σ' H') : tAug i te ipExt De σ H := by
  obtain ⟨N, a⟩ := a
  have hv := a.sg.val i _ hi
  have hm : (p, D.lst ds) ∈ Ps := List.mem_of_getElem? hk
  refine ⟨_, hv, a.e h fun v N2 H2 a' r => ?_⟩
  obtain ⟨q, ws, rfl, q1, q2⟩ := r.inv_lst
  obtain ⟨g1, g2, g3⟩ := a'.ps p _ hm
  rcases g2 with ⟨vs, g5, g6⟩ | ⟨z, _⟩
  · refine ⟨p, q, vs, ws, rfl, rfl, g5, a'.fr.sub _ _ q1, by rw [g6.length, q2.length]; exact le_line hz, ?_⟩
    have a2 := a'.wrote hk (o := .lst (vs ++ ws)) (d' := .lst (ds ++ es)) (.inl ⟨_, upd_same, g6.append q2⟩)
    have e : σ.set i (some (V.ref p)) = σ := by
      apply List.ext_getElem?
      intro j
      by_cases z : i = j
      · subst z
        rw [List.getElem?_set]
        simp only [if_true]
        rw [hv, if_pos (at_lt hv)]
      · rw [List.getElem?_set_ne z]
    show De.nx (σ.set i (some (V.ref p))) _
    rw [e]
    exact kk _ _ ⟨_, a2⟩
  · cases z
end

theorem SqL.mono {K : PySem.W.Frag} {N N' : Hp} {a : Addr} {xs : List V} (e : Ex N N') (h : SqL K N a xs) : SqL K N' a xs := by
  rcases h with (h | ⟨o, h⟩) | h
  · exact .inl (.inl (e _ _ h))
  · exact .inl (.inr ⟨o, e _ _ h⟩)
  · exact .inr h
def ScrP (K : PySem.W.Frag) (ns : List Int) : Hp → V → Prop := fun N v => ∃ a, v = .ref a ∧ SqL K N a (ns.map V.int)
theorem ScrP.mono (K : PySem.W.Frag) (ns : List Int) : ∀ N N' v, Ex N N' → ScrP K ns N v → ScrP K ns N' v := fun _ _ _ e ⟨a, h, q⟩ => ⟨a, h, SqL.mono e q⟩
abbrev scr (K : PySem.W.Frag) (ns : List Int) : Sl := .prd (ScrP K ns) (ScrP.mono K ns)
section
variable {K : PySem.W.Frag} {ρ : List Sl} {tb : TE} {ns : List Int} {i : Nat} {j n : Int}
theorem e_lenS (h : ρ[i]? = some (scr K ns)) : E (tCB (rLenU K) (tCons (tVar i) tNil)) ρ (.int (ns.length : Int)) := fun σ N H S e Q k => by
  obtain ⟨v, h1, a, rfl, h2⟩ := S.prd i _ _ h
  refine ⟨_, h1, .ref a, ns.length, rfl, .inl ⟨_, SqL.mono e h2, by simp⟩, k _ N H (Fr.refl e) (.int _)⟩
theorem e_ixS (h : ρ[i]? = some (scr K ns)) (hb : E tb ρ (.int j)) (hj : atI ns j = some n) : E (tOp (rIx K) (tVar i) tb) ρ (.int n) := fun σ N H S e Q k => by
  obtain ⟨v, h1, a, rfl, h2⟩ := S.prd i _ _ h
  refine ⟨_, h1, hb σ N H S e _ fun y N1 H1 f1 r1 => .inl ⟨a, _, j, .int n, rfl, r1.inv_int, SqL.mono (e.trans f1.ex) h2, ?_, k _ N1 H1 f1 (.int _)⟩⟩
  unfold atI at hj ⊢
  rw [List.length_map]
  cases q : ixN ns.length j with
  | none => rw [q] at hj; cases hj
  | some m =>
    rw [q] at hj
    show (ns.map V.int)[m]? = _
    rw [List.getElem?_map]
    have : ns[m]? = some n := hj
    rw [this]; rfl
end
/-! ### bags -/
section
variable {c : Ctx} {Ps : List (Addr × D)} {ρ ρ' : List Sl} {σ : St} {H : Hp} {De : Ends} {te : TE} {d : D} {tz : TS}
theorem At.unbag {p : Addr} (a : At c ((p, .non) :: Ps) ρ σ H) : ∃ x y : Int, At c ((p, .lst [.int x, .int y]) :: Ps) ρ σ H := by
  obtain ⟨N, a⟩ := a
  obtain ⟨h1, h2, h3⟩ := a.ps p .non List.mem_cons_self
  rcases h2 with h2 | ⟨_, x, y, h2⟩
  · exact h2.elim
  · refine ⟨x, y, N, a.fr, a.sg, a.ls, fun q e hq => ?_, a.nd⟩
    rcases List.mem_cons.mp hq with z | z
    · cases z
      exact ⟨h1, .inl ⟨[.int x, .int y], h2, .cons (.int x) (.cons (.int y) .nil)⟩, h3⟩
    · exact a.ps q e (List.mem_cons_of_mem _ z)
theorem At.rebag {p : Addr} {x y : Int} (a : At c ((p, .lst [.int x, .int y]) :: Ps) ρ σ H) : At c ((p, .non) :: Ps) ρ σ H := by
  obtain ⟨N, a⟩ := a
  obtain ⟨h1, h2, h3⟩ := a.ps p (.lst [.int x, .int y]) List.mem_cons_self
  rcases h2 with ⟨vs, h2, h4⟩ | ⟨z, _⟩
  · refine ⟨N, a.fr, a.sg, a.ls, fun q e hq => ?_, a.nd⟩
    rcases List.mem_cons.mp hq with z | z
    · cases z
      obtain ⟨v, w, rfl, r1, r2⟩ := h4.two
      rw [r1.inv_int, r2.inv_int] at h2
      exact ⟨h1, .inr ⟨rfl, x, y, h2⟩, h3⟩
    · exact a.ps q e (List.mem_cons_of_mem _ z)
  · cases z
theorem s_setL {i k : Nat} {p : Addr} {ds : List D} {j : Int} {m : Nat} (a : At c Ps ρ σ H) (hi : ρ[i]? = some (.val (.ref p))) (hk : Ps[k]? = some (p, .lst ds)) (w : Vw Ps ρ ρ') (h : E te ρ' d) (hf : fz d = true) (hj : ixN ds.length j = some m)
    (kk : ∀ H', At c (Ps.set k (p, .lst (ds.set m d))) ρ σ H' → De.nx σ H') : tAsg te (gSub (tVar i) (tC (.int j)) rSetL) De σ H := by
  obtain ⟨N, a⟩ := a
  have hm : (p, D.lst ds) ∈ Ps := List.mem_of_getElem? hk
  refine a.ev w h hf fun v N1 H1 a1 r1 => ?_
  obtain ⟨_, h2, _⟩ := a1.ps p _ hm
  rcases h2 with ⟨vs, g1, g2⟩ | ⟨z, _⟩
  · exact ⟨_, a1.sg.val i _ hi, p, vs, j, m, rfl, rfl, g1, by rw [g2.length]; exact hj, kk _ ⟨N1, a1.wrote hk (.inl ⟨_, upd_same, g2.set r1 m⟩)⟩⟩
  · cases z
theorem q_setL {i k : Nat} {p : Addr} {ds : List D} {j : Int} {m : Nat} (a : At c Ps ρ σ H) (hi : ρ[i]? = some (.val (.ref p))) (hk : Ps[k]? = some (p, .lst ds)) (w : Vw Ps ρ ρ') (h : E te ρ' d) (hf : fz d = true) (hj : ixN ds.length j = some m)
    (kk : ∀ H', At c (Ps.set k (p, .lst (ds.set m d))) ρ σ H' → tz De σ H') : tSeq (tAsg te (gSub (tVar i) (tC (.int j)) rSetL)) tz De σ H := s_setL (De := { De with nx := tz De }) a hi hk w h hf hj kk
end
/-! ### expressions that draw -/
def EB (te : TE) (Ps : List (Addr × D)) (ρ : List Sl) (R : D → List (Addr × D) → Prop) : Prop := ∀ c σ H, At c Ps ρ σ H → ∀ Q : VK, (∀ v d Ps' L H', R d Ps' → Rp L v d → At (c.ext L) Ps' ρ σ H' → Q v H') → te σ H Q
def EBA (ta : TA) (Ps : List (Addr × D)) (ρ : List Sl) (R : List D → List (Addr × D) → Prop) : Prop := ∀ c σ H, At c Ps ρ σ H → ∀ Q : List V → Hp → Prop, (∀ vs ds Ps' L H', R ds Ps' → Rps L vs ds → At (c.ext L) Ps' ρ σ H' → Q vs H') → ta σ H Q
def ETB (tt : TT) (Ps : List (Addr × D)) (ρ : List Sl) (R : Bool → List (Addr × D) → Prop) : Prop := ∀ c σ H, At c Ps ρ σ H → ∀ Q : Bool → Hp → Prop, (∀ b Ps' H', R b Ps' → At c Ps' ρ σ H' → Q b H') → tt σ H Q
/-- a def that draws from a bag, its first argument -/
def BagSp (Pre : List D → Prop) (R : List D → D → Prop) : Sp := fun vs H Q _ => ∃ N b ws ds, vs = .ref b :: ws ∧ Ex N H ∧ N b = none ∧ Co N H b .non ∧ Rps N ws ds ∧ Pre ds ∧
  ∀ v d N' H', R ds d → Fr [b] N H N' H' → N' b = none → Co N' H' b .non → Rp N' v d → Q v H'
section
variable {c : Ctx} {Ps Ps1 : List (Addr × D)} {ρ ρ' ρ1 : List Sl} {σ : St} {H : Hp} {De : Ends} {te ta tb : TE} {d : D} {tz tu tw : TS} {tt : TT} {b : Bool} {R : D → List (Addr × D) → Prop} {RA : List D → List (Addr × D) → Prop}
theorem At.ext_mono {L : Hp} (a : At (c.ext L) Ps ρ σ H) : At c Ps ρ σ H := a.unext
theorem eb_e (h : E te ρ d) : EB te Ps ρ (fun x P => x = d ∧ P = Ps) := fun c σ H a Q k => a.e h fun v L H' r a' => k v d Ps L H' ⟨rfl, rfl⟩ r a'
theorem eb_ev (w : Vw Ps ρ ρ') (h : E te ρ' d) (hf : fz d = true) : EB te Ps ρ (fun x P => x = d ∧ P = Ps) := fun c σ H a Q k => a.ev w h hf fun v L H' r a' => k v d Ps L H' ⟨rfl, rfl⟩ r a'
theorem eb_mono {R' : D → List (Addr × D) → Prop} (h : EB te Ps ρ R) (hr : ∀ d P, R d P → R' d P) : EB te Ps ρ R' := fun c σ H a Q k => h c σ H a Q fun v d P L H' r => k v d P L H' (hr d P r)
theorem eba_nil : EBA tNil Ps ρ (fun ds P => ds = [] ∧ P = Ps) := fun c σ H a Q k => by
  obtain ⟨N, a⟩ := a
  exact k [] [] Ps N H ⟨rfl, rfl⟩ .nil ⟨N, a.ext (Ex.refl N)⟩
theorem eba_ea {t : TA} {ds : List D} (h : EA t ρ ds) : EBA t Ps ρ (fun x P => x = ds ∧ P = Ps) := fun c σ H a Q k => by
  obtain ⟨N, a⟩ := a
  exact h σ N H a.sg a.fr.sub Q fun vs N' H' f r => k vs ds Ps N' H' ⟨rfl, rfl⟩ r ⟨N', (a.step f).ext (Ex.refl N')⟩
theorem eba_cons {t : TA} {RA : D → List (Addr × D) → List D → List (Addr × D) → Prop} (h : EB te Ps ρ R) (ht : ∀ d P, R d P → EBA t P ρ (RA d P)) : EBA (tCons te t) Ps ρ (fun ds P => ∃ d r P1, ds = d :: r ∧ R d P1 ∧ RA d P1 r P) := fun c σ H a Q k =>
  h c σ H a _ fun v d P L H1 hR r a1 => ht d P hR _ σ H1 a1 _ fun vs ds P2 L2 H2 hR2 r2 a2 => by
    obtain ⟨N, a2⟩ := a2
    refine k (v :: vs) (d :: ds) P2 N H2 ⟨d, ds, P, rfl, hR, hR2⟩ (.cons (r.mono (a2.ls L (by simp))) (r2.mono (a2.ls L2 (by simp)))) ⟨N, (a2.unext.unext).ext (Ex.refl N)⟩
theorem eb_op {r : R2} {Ra : D → List (Addr × D) → Prop} {Rb : D → List (Addr × D) → D → List (Addr × D) → Prop} (ha : EB ta Ps ρ Ra) (hb : ∀ x P, Ra x P → EB tb P ρ (Rb x P)) (hr : ∀ x P y P2, Ra x P → Rb x P y P2 → ∃ d, R2D r x y d ∧ R d P2) : EB (tOp r ta tb) Ps ρ R := fun c σ H a Q k =>
  ha c σ H a _ fun v x P L H1 hR r1 a1 => hb x P hR _ σ H1 a1 _ fun w y P2 L2 H2 hR2 r2 a2 => by
    obtain ⟨d, hd, hRd⟩ := hr x P y P2 hR hR2
    obtain ⟨N, a2⟩ := a2
    refine hd v w N H2 a2.fr.sub (r1.mono (a2.ls L (by simp))) (r2.mono (a2.ls L2 (by simp))) Q fun u N3 H3 f3 r3 => k u d P2 N3 H3 hRd r3 ⟨N3, (a2.unext.unext.step f3).ext (Ex.refl N3)⟩
/-- the second operand alone draws; of tests also -/
theorem etb_T (h : EB te Ps ρ R) {R' : Bool → List (Addr × D) → Prop} (hr : ∀ d P, R d P → ∃ b, d = .bl b ∧ R' b P) : ETB (tTest te) Ps ρ R' := fun c σ H a Q k => h c σ H a _ fun v d P L H1 hR r a1 => by
  obtain ⟨b, rfl, hb⟩ := hr d P hR
  exact ⟨b, r.inv_bl, k b P H1 hb a1.unext⟩
theorem etb_et (w : Vw Ps ρ ρ') (h : ET tt ρ' b) : ETB tt Ps ρ (fun x P => x = b ∧ P = Ps) := fun c σ H a Q k => a.et w h fun H' a' => k b Ps H' ⟨rfl, rfl⟩ a'
theorem etb_and {t u : TT} {R1 R' : Bool → List (Addr × D) → Prop} {R2 : List (Addr × D) → Bool → List (Addr × D) → Prop} (h1 : ETB t Ps ρ R1) (h2 : ∀ P, R1 true P → ETB u P ρ (R2 P)) (hF : ∀ P, R1 false P → R' false P) (hT : ∀ P b P2, R1 true P → R2 P b P2 → R' b P2) : ETB (tAnd t u) Ps ρ R' := fun c σ H a Q k =>
  h1 c σ H a _ fun b P H1 hR a1 => by
    cases b with
    | true => exact h2 P hR c σ H1 a1 _ fun b2 P2 H2 hR2 a2 => k b2 P2 H2 (hT P b2 P2 hR hR2) a2
    | false => exact k false P H1 (hF P hR) a1
theorem eb_if {t : TT} {p : Bool} (w : Vw Ps ρ ρ') (h : ET t ρ' p) (h1 : p = true → EB ta Ps ρ R) (h2 : p = false → EB tb Ps ρ R) : EB (tIf t ta tb) Ps ρ R := fun c σ H a Q k => a.et w h fun H1 a1 => by
  cases p with
  | true => exact h1 rfl c σ H1 a1 Q k
  | false => exact h2 rfl c σ H1 a1 Q k
/-- a call of a def that draws -/
theorem eb_call {i : Nat} {bg : Addr} {t : TA} {Pre : List D → Prop} {Rf : List D → D → Prop} {EX : XK} (hi : ρ[i]? = some (.val (.ref bg))) (hb : ∀ ds P, RA ds P → (bg, D.non) ∈ P) (h : EBA t Ps ρ RA) (hp : ∀ ds P, RA ds P → Pre ds) :
    EB (tCall (BagSp Pre Rf) [] EX (tCons (tVar i) t)) Ps ρ (fun d P => ∃ ds, RA ds P ∧ Rf ds d) := fun c σ H a Q k => by
  obtain ⟨N, a⟩ := a
  refine ⟨_, a.sg.val i _ hi, h c σ H ⟨N, a⟩ _ fun ws ds P L H1 hR r a1 => ?_⟩
  obtain ⟨N1, a1⟩ := a1
  obtain ⟨g1, g2, g3⟩ := a1.ps bg .non (hb ds P hR)
  rw [List.append_nil]
  refine ⟨N1, bg, ws, ds, rfl, a1.fr.sub, g1, g2, r.mono (a1.ls L List.mem_cons_self), hp ds P hR, fun v d N2 H2 hRf f2 n2 c2 r2 => ?_⟩
  refine k v d P N2 H2 ⟨ds, hR, hRf⟩ r2 ⟨N2, ⟨?_, a1.sg.mono f2.sml, fun L' hL => ?_, fun q e hq => ?_, a1.nd⟩⟩
  · refine ⟨fun x o m h => f2.big x o ?_ (a1.fr.big x o m h), fun x h => f2.dom x (a1.fr.dom x h), a1.fr.sml.trans f2.sml, f2.sub, fun x u h1 h2 n => let ⟨u', q', n'⟩ := a1.fr.chg x u h2 n; f2.new x u' (a1.fr.new x u h1 h2 n) q' n', fun x u q n => let ⟨u', q', n'⟩ := a1.fr.chg x u q n; f2.chg x u' q' n'⟩
    intro z
    have z : x = bg := by simpa using z
    subst z
    rcases g3 with y | y
    · exact m y
    · exact absurd h (by
        show c.H x ≠ _
        have y : c.H x = none := y
        rw [y]; exact fun z => nomatch z)
  · rcases List.mem_cons.mp hL with z | z
    · rw [z]; exact Ex.refl N2
    · exact (a1.ls L' (List.mem_cons_of_mem _ z)).trans f2.sml
  · obtain ⟨y1, y2, y3⟩ := a1.ps q e hq
    by_cases z : q = bg
    · subst z
      have : e = .non := by
        obtain ⟨j, hj⟩ := List.mem_iff_getElem?.mp hq
        obtain ⟨j', hj'⟩ := List.mem_iff_getElem?.mp (hb ds P hR)
        have e1 : (P.map Prod.fst)[j]? = some q := by rw [List.getElem?_map, hj]; rfl
        have e2 : (P.map Prod.fst)[j']? = some q := by rw [List.getElem?_map, hj']; rfl
        have := nd_ix a1.nd e1 e2
        subst this
        rw [hj] at hj'
        cases hj'
        rfl
      subst this
      exact ⟨n2, c2, y3⟩
    · obtain ⟨u, hu, nu⟩ := y2.nimm
      exact ⟨f2.new q u y1 hu nu, y2.keep f2.sml ((f2.big q u (by simpa using z) hu).trans hu.symm), y3⟩
/-! statements -/
theorem s_asgB {i : Nat} (a : At c Ps ρ σ H) (h : EB te Ps ρ R) (k : ∀ d P σ' H', R d P → At c P (ρ.set i (.dat d)) σ' H' → De.nx σ' H') : tAsg te (gName i) De σ H :=
  h c σ H a _ fun v d P L H' hR r a' => k d P _ _ hR (a'.setD i (List.mem_cons_self) r).unext
theorem q_asgB {i : Nat} (a : At c Ps ρ σ H) (h : EB te Ps ρ R) (k : ∀ d P σ' H', R d P → At c P (ρ.set i (.dat d)) σ' H' → tz De σ' H') : tSeq (tAsg te (gName i)) tz De σ H := s_asgB (De := { De with nx := tz De }) a h k
theorem s_ifB {R' : Bool → List (Addr × D) → Prop} (a : At c Ps ρ σ H) (h : ETB tt Ps ρ R') (h1 : ∀ P H', R' true P → At c P ρ σ H' → tu De σ H') (h2 : ∀ P H', R' false P → At c P ρ σ H' → tw De σ H') : tIfS tt tu tw De σ H :=
  h c σ H a _ fun b P H' hR a' => by
    cases b with
    | true => exact h1 P H' hR a'
    | false => exact h2 P H' hR a'
/-- the end of a def that draws -/
theorem s_retB {bg : Addr} {Q : VK} {N0 H0 : Hp} (hD : De.rt = Q) (a : At ⟨[bg], N0, H0, []⟩ Ps ρ σ H) (h : EB te Ps ρ R) (hb : ∀ d P, R d P → (bg, D.non) ∈ P) (k : ∀ v d P N' H', R d P → Fr [bg] N0 H0 N' H' → N' bg = none → Co N' H' bg .non → Rp N' v d → Q v H') : tRet te De σ H :=
  h _ σ H a _ fun v d P L H' hR r a' => by
    obtain ⟨N, a'⟩ := a'
    obtain ⟨g1, g2, _⟩ := a'.ps bg .non (hb d P hR)
    rw [hD]
    exact k v d P N H' hR a'.fr g1 g2 (r.mono (a'.ls L List.mem_cons_self))
end
/-- the reading of a drawing def's body -/
def BodyB (names : List Str) (t : TS) (ds : List D) (Rd : D → Prop) : Prop := ∀ N H σ b (Q : VK), At ⟨[b], N, H, []⟩ [(b, .non)] (.val (.ref b) :: (ds.map .dat ++ List.replicate (names.length - (ds.length + 1)) .no)) σ H →
  (∀ v d N' H', Rd d → Fr [b] N H N' H' → N' b = none → Co N' H' b .non → Rp N' v d → Q v H') → t { nx := fun _ H' => Q .non H', rt := Q } σ H
section
variable {P : Program} {w : World} {K : PySem.W.Frag} {mg : Str → Option Value} {base : Heap}
theorem fn_bag {x qual : Str} {st : Stmt} {f : Addr} {fd : FuncData} {N ps : List Str} {k : Nat} {Pre : List D → Prop} {R : List D → D → Prop} (F : Fun K x qual st f fd) (S : FnScope N ps (defScope st)) (len : ∀ ds, Pre ds → ds.length + 1 = ps.length)
    (hb : ∀ (cdv : Value) (A : Around) (outer : List Env) (s : Shared) (H : Hp) (E : XK), Room k (A.deeper (envOfC qual (defScope st) s.heap.objs.size f cdv)) →
      ∃ t, PSs (cxOf CX0 P w K mg base N qual (defScope st) f cdv A outer s H E).nox (defBody st) t ∧ ∀ ds, Pre ds → BodyB N t ds (R ds)) : FnOk P w K mg base CX0 (k + 1) f fd ps (BagSp Pre R) := by
  refine F.ok S (fun vs H Q E h => ?_) (fun cdv A outer s H vs Q E hr h => ?_)
  · obtain ⟨N, b, ws, ds, rfl, _, _, _, r, hp, _⟩ := h
    rw [List.length_cons, r.length]; exact len ds hp
  · obtain ⟨Nn, b, ws, ds, rfl, e, hn, hc, r, hp, q⟩ := h
    obtain ⟨t, ht, hq⟩ := hb cdv A outer s H E hr
    refine ⟨t, ht, hq ds hp Nn H _ b Q ?_ q⟩
    refine ⟨Nn, Fr.refl e, ?_, by simp, fun p d h => ?_, by simp⟩
    · have hl := r.length
      refine ⟨by simp [L2.start, hl], fun i v h => ?_, fun i d h => ?_, fun i P m h => ?_⟩
      · cases i with
        | zero => simp at h; subst h; rfl
        | succ i =>
          exfalso
          rw [List.getElem?_cons_succ] at h
          by_cases hi : i < ds.length
          · rw [List.getElem?_append_left (by simpa using hi), List.getElem?_map] at h
            cases z : ds[i]? <;> simp [z] at h
          · rw [List.getElem?_append_right (by simp; omega), List.getElem?_replicate] at h
            split at h <;> simp at h
      · cases i with
        | zero => simp at h
        | succ i =>
          rw [List.getElem?_cons_succ] at h
          by_cases hi : i < ds.length
          · rw [List.getElem?_append_left (by simpa using hi), List.getElem?_map] at h
            cases z : ds[i]? with
            | none => rw [z] at h; simp at h
            | some d' =>
              rw [z] at h
              simp at h
              subst h
              obtain ⟨v, h1, h2⟩ := r.get z
              refine ⟨v, ?_, h2⟩
              unfold L2.start
              rw [List.map_cons, List.cons_append, List.getElem?_cons_succ, List.getElem?_append_left (by simp; omega), List.getElem?_map, h1]
              rfl
          · rw [List.getElem?_append_right (by simp; omega), List.getElem?_replicate] at h
            split at h <;> simp at h
      · cases i with
        | zero => simp at h
        | succ i =>
          exfalso
          rw [List.getElem?_cons_succ] at h
          by_cases hi : i < ds.length
          · rw [List.getElem?_append_left (by simpa using hi), List.getElem?_map] at h
            cases z : ds[i]? <;> simp [z] at h
          · rw [List.getElem?_append_right (by simp; omega), List.getElem?_replicate] at h
            split at h <;> simp at h
    · simp at h
      obtain ⟨rfl, rfl⟩ := h
      exact ⟨hn, hc, .inl (by simp)⟩
end

def rTupF (K : PySem.W.Frag) : List V → Hp → VK → Prop := fun xs H Q => ∃ p ys, xs = [.ref p] ∧ SqL K H p ys ∧ ∀ l o, H l = none → o.dict = none → Q (.ref l) (upd H l (.frz o (.tup ys)))
section
variable {X : Cx}
theorem call_tupF (K : PySem.W.Frag) (hK : X.K = K := by rfl) : CallR X (.type "tuple") (rTupF K) := by
  subst hK
  intro pins s σ H xs us Q I r h
  obtain ⟨p, ys, rfl, hq, q⟩ := h
  obtain ⟨u, rfl, rx⟩ := vals1 r
  cases rx
  obtain ⟨its, r2, pl, hz⟩ := I.list hq
  have hlen := r2.length
  refine call_tuple_list pl.isList (fun g kp => ?_) (by simp only [List.size_toArray] <;> omega)
  have I1 : Inv X pins σ H { s with heap := g } := I.kept (t' := s.toks) kp
  have at1 : (g.push { cls := .type "tuple", data := .seq its.toArray }).get? g.objs.size = some { cls := .type "tuple", data := .seq its.toArray } := Heap.get?_push_size _ rfl
  have new : ObjOk X.prog X.w (upd H g.objs.size (.frz { cls := .type "tuple", data := .seq its.toArray } (.tup ys))) (g.push { cls := .type "tuple", data := .seq its.toArray }) g.objs.size (.frz { cls := .type "tuple", data := .seq its.toArray } (.tup ys)) :=
    ⟨at1, hz, its, r2, ⟨_, at1, rfl, _, rfl⟩⟩
  exact ⟨.ref g.objs.size, _, I1.laid (t' := s.toks) (fun b o e => Heap.get?_push_of_some _ e) (Nat.le_refl _) new, rfl, q _ _ (I1.hok.fresh (Nat.le_refl _)) rfl⟩
/-- pairs, read as the library's -/
theorem pairsF {pins : List (Addr × Obj)} {σ : St} {H : Hp} {s : Shared} (I : Inv X pins σ H s) : ∀ {ps : List Addr} {kvs : List (Key × V)}, Paired (fun p kv => SqT X.K H p [kV kv.1, kv.2]) ps kvs →
    ∃ (prs : List (Key × Value)) (us : List (Value × Value)), KV kvs prs ∧ prs.length = ps.length ∧ us.length = ps.length ∧ ∀ (j : Nat) (k v : Value), us[j]? = some (k, v) → ∃ (b : Addr) (q : Key), ps[j]? = some b ∧ prs[j]? = some (q, v) ∧ IsTup s.heap b #[k, v] ∧ keyIs q k = true
  | _, _, .nil => ⟨[], [], .nil, rfl, rfl, fun j k v e => by simp at e⟩
  | _, _, .cons (a := p) (b := kv) h t => by
    obtain ⟨prs, us, r, hl, hl2, hp⟩ := pairsF I t
    obtain ⟨its, rv, ht, _⟩ := I.tuple h
    obtain ⟨u, y, ei, ru, ry⟩ := vals2 rv
    subst ei
    refine ⟨(kv.1, y) :: prs, (u, y) :: us, .cons ⟨rfl, ry⟩ r, by simp [hl], by simp [hl2], fun j k v e => ?_⟩
    cases j with
    | zero =>
      simp at e
      obtain ⟨rfl, rfl⟩ := e
      exact ⟨p, kv.1, rfl, rfl, ht, kV_is (P := X.prog) (w := X.w) ru⟩
    | succ j =>
      obtain ⟨b, q, e1, e2, e3, e4⟩ := hp j k v (by simpa using e)
      exact ⟨b, q, by simpa using e1, by simpa using e2, e3, e4⟩
def rDictF (K : PySem.W.Frag) : List V → Hp → VK → Prop := fun xs H Q => ∃ (a : Addr) (o : Obj) (ps : List Addr) (kvs : List (Key × V)), xs = [.ref a] ∧ o.dict = none ∧ H a = some (.frz o (.tup (ps.map V.ref))) ∧ Paired (fun p kv => SqT K H p [kV kv.1, kv.2]) ps kvs ∧
  ∀ p, H p = none → Q (.ref p) (upd H p (.dK (mergeK [] kvs)))
theorem call_dictF (K : PySem.W.Frag) (hcalm : X.calm = true) (hK : X.K = K := by rfl) : CallR X (.type "dict") (rDictF K) := by
  subst hK
  intro pins s σ H xs us Q I r q
  obtain ⟨a, o, ps, kvs, rfl, hd0, ha, hp, q⟩ := q
  obtain ⟨u, rfl, rx⟩ := vals1 r
  cases rx
  obtain ⟨hobj, hz, its, rv, o', ho', hcls, n, hdat⟩ := I.hok a _ ha
  have eo : o' = o := Option.some.inj (ho'.symm.trans hobj)
  subst eo
  have ei := refs_at rv
  subst ei
  rw [List.length_map] at hz
  obtain ⟨prs, us2, rel, hl, hl2, hpr⟩ := pairsF I hp
  have hps : PairItems s.heap (ps.map Value.ref).toArray (fun j => ps.getD j 0) us2 := by
    refine ⟨by simp [hl2], fun j k v e => ?_⟩
    obtain ⟨b, k2, e1, e2, e3, e4⟩ := hpr j k v e
    have hg : ps.getD j 0 = b := by rw [List.getD_eq_getElem?_getD, e1]; rfl
    dsimp only
    rw [hg]
    exact ⟨by simp [e1], .inl e3⟩
  have P := PairArg.tuple (prog := X.prog) (w := X.w) a (ps.map Value.ref).toArray (fun j => ps.getD j 0) us2
  refine PySem.call_dict_pairs (knd := mixKind X.prog X.w) (kvs := prs) P (I.ok.hd hcalm) ⟨⟨o', n, ho', hcls, hd0, hdat⟩, hps⟩ ⟨by rw [hl, hl2], fun j k v e => ?_⟩ (by rw [hl2]; exact hz) fun h' tk hd' k => ?_
  · obtain ⟨b, k2, e1, e2, e3, e4⟩ := hpr j k v e
    exact ⟨k2, e2, e4⟩
  · have hm : (s.heap.objs.size == sysModules) = false := beq_eq_false_iff_ne.mpr (Nat.ne_of_gt I.big)
    have hlen : (mergeK [] kvs).length ≤ sizeLine := by
      have h0 := length_mergeK kvs []
      have h1 := rel.length
      simp only [List.length_nil] at h0
      omega
    have kk : ∀ b o, s.heap.get? b = some o → h'.get? b = some o := fun b o e => k b o (by simp) e
    exact ⟨.ref s.heap.objs.size, upd H s.heap.objs.size (.dK (mergeK [] kvs)), I.laid (t' := tk) kk (Nat.le_refl _) (show ObjOk X.prog X.w _ _ _ (.dK (mergeK [] kvs)) from ⟨hlen, hm, merged [] prs, KV.merge rel .nil, hd'⟩), rfl, q _ (I.hok.fresh (Nat.le_refl _))⟩
end
section
variable {K : PySem.W.Frag} {ρ : List Sl} {ta : TE} {ds : List D}
theorem e_tupF (h : E ta ρ (.lst ds)) : E (tCB (rTupF K) (tCons ta tNil)) ρ (.ftup ds) := e_call (ea1 h) fun xs N H e r Q k => by
  obtain ⟨v, rfl, h1⟩ := r.one
  obtain ⟨a, ys, rfl, g1, g2⟩ := h1.inv_lst
  exact ⟨a, ys, rfl, SqL.of (e _ _ g1), fun l o hl ho => k _ _ _ (Fr.made e hl) (.ftup ho upd_same (g2.mono (Fr.made (M := []) e hl).sml))⟩
theorem rows_paired {N : Hp} : ∀ {vs : List V} {rows : List (Int × Str)}, Rps N vs (rows.map fun r => .tup [.int r.1, .str r.2]) → ∃ ps : List Addr, vs = ps.map V.ref ∧ Paired (fun p (kv : Key × V) => SqT K N p [kV kv.1, kv.2]) ps (rows.map fun r => ((Sum.inl r.1 : Key), V.str r.2))
  | _, [], h => by
    rw [h.inv_nil]
    exact ⟨[], rfl, .nil⟩
  | _, r :: rows, h => by
    obtain ⟨v, vs, rfl, h1, h2⟩ := Rps.inv_cons h
    obtain ⟨a, xs, rfl, g1, g2⟩ := h1.inv_tup
    obtain ⟨u, w, rfl, q1, q2⟩ := g2.two
    rw [q1.inv_int, q2.inv_str] at g1
    obtain ⟨ps, rfl, hp⟩ := rows_paired h2
    exact ⟨a :: ps, rfl, .cons (SqT.of g1) hp⟩
theorem mergeK_nodup : ∀ (kvs acc : List (Key × V)), ((acc ++ kvs).map Prod.fst).Nodup → mergeK acc kvs = acc ++ kvs
  | [], acc, _ => by simp [mergeK]
  | p :: ps, acc, h => by
    have e : putK acc p.1 p.2 = acc ++ [p] := by
      unfold putK
      rw [if_neg]
      intro z
      obtain ⟨q, hq, hk⟩ := List.any_eq_true.mp z
      have hk : q.1 = p.1 := of_decide_eq_true hk
      rw [List.map_append, List.map_cons, List.nodup_append] at h
      exact h.2.2 q.1 (List.mem_map.mpr ⟨q, hq, rfl⟩) p.1 (by simp) hk
    show mergeK (putK acc p.1 p.2) ps = _
    rw [e, mergeK_nodup ps (acc ++ [p]) (by simpa using h)]
    simp
theorem Paired.monoT {N N' : Hp} (e : Ex N N') {ps : List Addr} {kvs : List (Key × V)} (h : Paired (fun p (kv : Key × V) => SqT K N p [kV kv.1, kv.2]) ps kvs) : Paired (fun p (kv : Key × V) => SqT K N' p [kV kv.1, kv.2]) ps kvs :=
  Paired.mapP h fun a b q => by
    rcases q with (q | ⟨o, q⟩) | q
    · exact .inl (.inl (e _ _ q))
    · exact .inl (.inr ⟨o, e _ _ q⟩)
    · exact .inr q
/-- dict(book[1]) -/
theorem e_dictF {rows : List (Int × Str)} (h : E ta ρ (.ftup (rows.map fun r => .tup [.int r.1, .str r.2]))) (hn : (rows.map fun r => (Sum.inl r.1 : Key)).Nodup) : E (tCB (rDictF K) (tCons ta tNil)) ρ (.dk (rows.map fun r => ((Sum.inl r.1 : Key), D.str r.2))) := e_call (ea1 h) fun xs N H e r Q k => by
  obtain ⟨v, rfl, h1⟩ := r.one
  obtain ⟨a, o, ys, rfl, g0, g1, g2⟩ := h1.inv_ftup
  obtain ⟨ps, rfl, hp⟩ := rows_paired (K := K) g2
  refine ⟨a, o, ps, _, rfl, g0, e _ _ g1, Paired.monoT e hp, fun l hl => ?_⟩
  rw [mergeK_nodup _ [] (by rw [List.nil_append, List.map_map]; exact hn), List.nil_append]
  refine k _ _ _ (Fr.made e hl) (.dk upd_same (by rw [List.map_map, List.map_map]; rfl) ?_)
  rw [List.map_map, List.map_map]
  have := Rps.of_strs (H := upd N l (.dK (rows.map fun r => ((Sum.inl r.1 : Key), V.str r.2)))) (rows.map (·.2))
  rw [List.map_map, List.map_map] at this
  exact this
end

/-! ### the order -/
def ltKey : Key → Key → Bool
  | .inl a, .inl b => decide (a < b)
  | .inr a, .inr b => decide (a.cps.toList < b.cps.toList)
  | .inl _, .inr _ => true
  | .inr _, .inl _ => false
def lexK : List Key → List Key → Bool
  | [], [] => false
  | [], _ :: _ => true
  | _ :: _, [] => false
  | x :: xs, y :: ys => if x = y then lexK xs ys else ltKey x y
def sameKind : Key → Key → Bool
  | .inl _, .inl _ => true
  | .inr _, .inr _ => true
  | _, _ => false
/-- can be compared -/
def cmpOk : List Key → List Key → Bool
  | x :: xs, y :: ys => if x = y then cmpOk xs ys else sameKind x y
  | _, _ => true
theorem str_ext {a b : Str} (h : a.cps.toList = b.cps.toList) : a = b := by
  obtain ⟨a⟩ := a
  obtain ⟨b⟩ := b
  have : a = b := Array.toList_inj.mp h
  rw [this]
theorem ltKey_irrefl (a : Key) : ltKey a a = false := by
  cases a with
  | inl a => simp [ltKey]
  | inr a => simp [ltKey]
theorem ltKey_trans {a b c : Key} (h1 : ltKey a b = true) (h2 : ltKey b c = true) : ltKey a c = true := by
  cases a <;> cases b <;> cases c <;> simp [ltKey] at h1 h2 ⊢
  · omega
  · exact List.lt_trans h1 h2
theorem ltKey_tot {a b : Key} (h : a ≠ b) : ltKey a b = true ∨ ltKey b a = true := by
  cases a with
  | inl a => cases b with
    | inl b =>
      have : a ≠ b := fun z => h (by rw [z])
      simp [ltKey]; omega
    | inr b => simp [ltKey]
  | inr a => cases b with
    | inl b => simp [ltKey]
    | inr b =>
      simp only [ltKey, decide_eq_true_eq]
      by_cases h1 : a.cps.toList < b.cps.toList
      · exact .inl h1
      · by_cases h2 : b.cps.toList < a.cps.toList
        · exact .inr h2
        · exact absurd (str_ext (List.le_antisymm (List.not_lt.mp h2) (List.not_lt.mp h1))) fun z => h (by rw [z])
theorem lexK_irrefl : ∀ a : List Key, lexK a a = false
  | [] => rfl
  | x :: xs => by rw [lexK, if_pos rfl, lexK_irrefl xs]
theorem lexK_trans : ∀ {a b c : List Key}, lexK a b = true → lexK b c = true → lexK a c = true
  | [], [], _, h, _ => by simp [lexK] at h
  | [], _ :: _, [], _, h => by simp [lexK] at h
  | [], _ :: _, _ :: _, _, _ => rfl
  | _ :: _, [], _, h, _ => by simp [lexK] at h
  | _ :: _, _ :: _, [], _, h => by simp [lexK] at h
  | x :: xs, y :: ys, z :: zs, h1, h2 => by
    rw [lexK] at h1 h2 ⊢
    by_cases e1 : x = y
    · subst e1
      rw [if_pos rfl] at h1
      by_cases e2 : x = z
      · subst e2
        rw [if_pos rfl] at h2 ⊢
        exact lexK_trans h1 h2
      · rw [if_neg e2] at h2 ⊢
        exact h2
    · rw [if_neg e1] at h1
      by_cases e2 : y = z
      · subst e2
        rw [if_neg e1]
        exact h1
      · rw [if_neg e2] at h2
        have h3 := ltKey_trans h1 h2
        rw [if_neg]
        · exact h3
        · intro z2
          subst z2
          rw [ltKey_irrefl] at h3
          cases h3
theorem lexK_tot : ∀ {a b : List Key}, a ≠ b → lexK a b = true ∨ lexK b a = true
  | [], [], h => absurd rfl h
  | [], _ :: _, _ => .inl rfl
  | _ :: _, [], _ => .inr rfl
  | x :: xs, y :: ys, h => by
    rw [lexK, lexK]
    by_cases e : x = y
    · subst e
      rw [if_pos rfl, if_pos rfl]
      exact lexK_tot fun z => h (by rw [z])
    · rw [if_neg e, if_neg fun z => e z.symm]
      exact ltKey_tot e
theorem lexK_asym {a b : List Key} (h : lexK a b = true) : lexK b a = false := by
  cases q : lexK b a with
  | false => rfl
  | true =>
    have := lexK_trans h q
    rw [lexK_irrefl] at this
    cases this
theorem lexK_nlt {x y z : List Key} (h1 : lexK y x = false) (h2 : lexK z y = false) : lexK z x = false := by
  cases q : lexK z x with
  | false => rfl
  | true =>
    by_cases e : y = x
    · subst e; rw [h2] at q; cases q
    · rcases lexK_tot e with h | h
      · rw [h1] at h; cases h
      · have := lexK_trans q h
        rw [h2] at this
        cases this
def leK (a b : List Key) : Bool := !lexK b a
def sortK (l : List (List Key)) : List (List Key) := l.mergeSort leK
theorem leK_trans (a b c : List Key) (h1 : leK a b = true) (h2 : leK b c = true) : leK a c = true := by
  unfold leK at *
  simp at *
  exact lexK_nlt h1 h2
theorem leK_total (a b : List Key) : (leK a b || leK b a) = true := by
  unfold leK
  cases q : lexK b a with
  | false => rfl
  | true => rw [lexK_asym q]; rfl
theorem leK_anti (a b : List Key) (h1 : leK a b = true) (h2 : leK b a = true) : a = b := by
  unfold leK at *
  simp at h1 h2
  by_cases e : a = b
  · exact e
  · rcases lexK_tot e with h | h
    · rw [h2] at h; cases h
    · rw [h1] at h; cases h
theorem sortK_perm (l : List (List Key)) : (sortK l).Perm l := List.mergeSort_perm l leK
theorem sortK_sorted (l : List (List Key)) : (sortK l).Pairwise fun a b => leK a b = true := List.pairwise_mergeSort leK_trans leK_total l
theorem sortK_unique {l m : List (List Key)} (hp : m.Perm l) (hs : m.Pairwise fun a b => leK a b = true) : m = sortK l :=
  List.Perm.eq_of_pairwise (le := fun a b => leK a b = true) (fun a b _ _ h1 h2 => leK_anti a b h1 h2) hs (sortK_sorted l) (hp.trans (sortK_perm l).symm)
/-! ### the machine's questions -/
/-- the tuple at v holds these keys -/
def IsKT (h : Heap) (v : Value) (ks : List Key) : Prop := ∃ (a : Addr) (o : Obj) (its : List Value) (n : Nat), v = .ref a ∧ h.get? a = some o ∧ o.cls = .type "tuple" ∧ o.data = .seq its.toArray n ∧ Vals (ks.map kV) its
theorem IsKT.inj {h : Heap} {v : Value} {ks ls : List Key} (x : IsKT h v ks) (y : IsKT h v ls) : ks = ls := by
  obtain ⟨a, o, its, n, rfl, h1, h2, h3, h4⟩ := x
  obtain ⟨a', o', its', n', e, g1, g2, g3, g4⟩ := y
  cases e
  rw [h1] at g1
  cases g1
  rw [h3] at g3
  injection g3 with e1 e2
  have e1 : its = its' := by simpa using e1
  subst e1
  exact kVs_inj (Vals.inj h4 g4)
theorem IsKT.keep {h h' : Heap} {v : Value} {ks : List Key} (x : IsKT h v ks) (k : ∀ b o, h.get? b = some o → o.cls = .type "tuple" → h'.get? b = some o) : IsKT h' v ks := by
  obtain ⟨a, o, its, n, rfl, h1, h2, h3, h4⟩ := x
  exact ⟨a, o, its, n, rfl, k _ _ h1 h2, h2, h3, h4⟩
open Classical in
noncomputable def kOf (h : Heap) (v : Value) : List Key := if e : ∃ ks, IsKT h v ks then e.choose else []
theorem kOf_eq {h : Heap} {v : Value} {ks : List Key} (x : IsKT h v ks) : kOf h v = ks := by
  have e : ∃ ks, IsKT h v ks := ⟨ks, x⟩
  unfold kOf
  rw [dif_pos e]
  exact e.choose_spec.inj x
section
variable {prog : Program} {w : World} {A : Around} {E : Value → Shared → Prop} {s : Shared}
theorem katK (b0 : Bool) : ∀ {ks ls : List Key} {us vs : List Value} (i : Nat) (fin : Bool) (Q : Bool → Shared → Prop), Vals (ks.map kV) us → Vals (ls.map kV) vs → cmpOk ks ls = true → (i = 0 → b0 = true) →
    fin = decide (ks.length < ls.length) → Q (lexK ks ls) s → PySem.W.KatLex prog w A b0 fin Q (us.zip vs) i s
  | [], [], us, vs, i, fin, Q, h1, h2, _, _, hf, q => by
    cases h1
    cases h2
    subst hf
    exact PySem.W.kat_nil q
  | [], y :: ls, us, vs, i, fin, Q, h1, h2, _, _, hf, q => by
    cases h1
    subst hf
    exact PySem.W.kat_nil (by simpa [lexK] using q)
  | x :: ks, [], us, vs, i, fin, Q, h1, h2, _, _, hf, q => by
    cases h2
    subst hf
    rw [List.zip_nil_right]
    exact PySem.W.kat_nil (by simpa [lexK] using q)
  | x :: ks, y :: ls, us, vs, i, fin, Q, h1, h2, hc, hb, hf, q => by
    cases h1 with
    | cons r1 t1 =>
      cases h2 with
      | cons r2 t2 =>
        rename_i u us v vs
        rw [cmpOk] at hc
        rw [lexK] at q
        have hf' : fin = decide (ks.length < ls.length) := by
          rw [hf]
          simp
        cases x with
        | inl a =>
          cases y with
          | inl c =>
            obtain ⟨t, rfl⟩ := r1
            obtain ⟨t', rfl⟩ := r2
            refine PySem.W.kat_cons (SeqAt.EqAt.int_int a t c t' prog w _ _ ?_)
            refine PySem.W.kat_go (fun e => ?_) (fun e => ?_)
            · have ex : a = c := by simpa using e
              subst ex
              rw [if_pos rfl] at hc q
              exact PySem.W.kat_yes (katK b0 (i + 1) fin Q t1 t2 hc (fun z => by omega) hf' q)
            · have ex : ¬ a = c := by simpa using e
              rw [if_neg (fun z => ex (Sum.inl.inj z))] at q
              refine PySem.W.kat_no ?_
              cases h0 : (b0 && i == 0) with
              | true => exact oneLt_int q
              | false => exact PySem.W.kat_one _ _ (PyProof.Rows.lt_int q)
          | inr c =>
            obtain ⟨t, rfl⟩ := r1
            obtain ⟨t', rfl⟩ := r2
            rw [if_neg (fun z => nomatch z)] at hc
            simp [sameKind] at hc
        | inr a =>
          cases y with
          | inl c =>
            rw [if_neg (fun z => nomatch z)] at hc
            simp [sameKind] at hc
          | inr c =>
            obtain ⟨t, rfl⟩ := r1
            obtain ⟨t', rfl⟩ := r2
            refine PySem.W.kat_cons (SeqAt.EqAt.str_str a t c t' prog w _ _ ?_)
            refine PySem.W.kat_go (fun e => ?_) (fun e => ?_)
            · have ex : a = c := by simpa using e
              subst ex
              rw [if_pos rfl] at hc q
              exact PySem.W.kat_yes (katK b0 (i + 1) fin Q t1 t2 hc (fun z => by omega) hf' q)
            · have ex : ¬ a = c := by simpa using e
              rw [if_neg (fun z => ex (Sum.inr.inj z))] at q
              refine PySem.W.kat_no ?_
              cases h0 : (b0 && i == 0) with
              | true => exact oneLt_str q
              | false => exact PySem.W.kat_one _ _ (lt_str q)
/-- the firsts of the tuples are texts -/
def headS : List Key → Bool
  | .inr _ :: _ => true
  | _ => false
theorem firstsK {h : Heap} : ∀ {vs : List Value}, (∀ v ∈ vs, ∃ ks, IsKT h v ks ∧ headS ks = true) → ∃ fs : List Value, PySem.W.KatTups h vs fs ∧ fs.length = vs.length ∧ ∀ f ∈ fs, ∃ x t, f = Value.str x t
  | [], _ => ⟨[], PySem.W.KatTups.nil, rfl, fun _ hm => by simp at hm⟩
  | v :: vs, hp => by
    obtain ⟨fs, h1, h2, h3⟩ := firstsK (vs := vs) fun u hm => hp u (List.mem_cons_of_mem _ hm)
    obtain ⟨ks, ⟨a, o, its, n, rfl, g1, g2, g3, g4⟩, hh⟩ := hp v List.mem_cons_self
    cases ks with
    | nil => simp [headS] at hh
    | cons k ks =>
      cases k with
      | inl i => simp [headS] at hh
      | inr x =>
        cases g4 with
        | cons r t =>
          obtain ⟨tk, rfl⟩ := r
          refine ⟨.str x tk :: fs, PySem.W.KatTups.cons g1 g2 g3 (by simp) h1, by simp [h2], fun f hm => ?_⟩
          rcases List.mem_cons.mp hm with z | z
          · exact ⟨x, tk, z⟩
          · exact h3 f z
theorem sortableK {a : Addr} {vs : List Value} (hK : ∀ v ∈ vs, ∃ ks, IsKT s.heap v ks ∧ headS ks = true) (hc : ∀ v ∈ vs, ∀ u ∈ vs, cmpOk (kOf s.heap v) (kOf s.heap u) = true) (h0 : 0 < vs.length) (ha : ∀ o, s.heap.get? a = some o → o.cls ≠ .type "tuple") :
    SrtO.SortableO prog w A s a vs fun v u => lexK (kOf s.heap v) (kOf s.heap u) := by
  intro h' keep
  have kp : ∀ b o, s.heap.get? b = some o → o.cls = .type "tuple" → h'.get? b = some o := fun b o e c => keep b o (fun z => by subst z; exact ha o e c) e
  have hK' : ∀ v ∈ vs, ∃ ks, IsKT h' v ks ∧ headS ks = true := fun v hm => let ⟨ks, x, y⟩ := hK v hm; ⟨ks, x.keep kp, y⟩
  obtain ⟨fs, h1, h2, h3⟩ := firstsK hK'
  refine ⟨tuples' true, fun Q E hq => ?_, fun p q hm hm' => ?_⟩
  · refine PySem.W.kat_kind (T := .type "str") h1 (by omega) (fun f hm => ?_) (by rfl) ?_
    · obtain ⟨x, t, rfl⟩ := h3 f hm
      exact PySem.W.Looks.now
    · have e : (Value.type "str" != Value.type "tuple") = true := by decide +kernel
      rw [e]
      exact hq
  · obtain ⟨ks, x, _⟩ := hK _ hm
    obtain ⟨ls, y, _⟩ := hK _ hm'
    have hcc := hc _ hm _ hm'
    have e1 := kOf_eq x
    have e2 := kOf_eq y
    rw [e1, e2] at hcc
    show wpAny (model prog w) A (keyLt' (tuples' true) p.1 q.1) (fun r s' => s' = { s with heap := h' } ∧ r = lexK (kOf s.heap p.1) (kOf s.heap q.1)) (fun _ _ => False) { s with heap := h' }
    rw [e1, e2]
    obtain ⟨a1, o1, its1, n1, f1, g1, g2, g3, g4⟩ := x.keep kp
    obtain ⟨a2, o2, its2, n2, f2, k1, k2, k3, k4⟩ := y.keep kp
    rw [f1, f2]
    refine PySem.W.kat_lt g1 g3 k1 k3 ?_
    have l1 := g4.length
    have l2 := k4.length
    rw [List.length_map] at l1 l2
    exact katK true 0 _ _ g4 k4 hcc (fun _ => rfl) (by simp [l1, l2]) ⟨rfl, rfl⟩
end
/-! ### sorted(d), a dict with such keys -/
def rSortedT : List V → Hp → VK → Prop := fun xs H Q => ∃ d kvs, xs = [V.ref d] ∧ H d = some (.dT kvs) ∧ (∀ p ∈ kvs, headS p.1 = true) ∧ (∀ p ∈ kvs, ∀ q ∈ kvs, cmpOk p.1 q.1 = true) ∧
  ∀ p bs, H p = none → Paired (fun (k : List Key) b => H b = some (.tup (k.map kV))) (sortK (kvs.map Prod.fst)) bs → Q (.ref p) (upd H p (.lst (bs.map V.ref)))
theorem paired_get {α β : Type} {F : α → β → Prop} : ∀ {l : List α} {m : List β}, Paired F l m → ∀ b ∈ m, ∃ a ∈ l, F a b
  | _, _, .nil, b, h => by simp at h
  | _, _, .cons r t, b, h => by
    rcases List.mem_cons.mp h with z | z
    · subst z; exact ⟨_, List.mem_cons_self, r⟩
    · obtain ⟨a, h1, h2⟩ := paired_get t b z
      exact ⟨a, List.mem_cons_of_mem _ h1, h2⟩
/-- a list of values that are tracked key tuples, permuted -/
theorem refs_back {H : Hp} : ∀ {out : List Value}, (∀ v ∈ out, ∃ b k, v = Value.ref b ∧ H b = some (.tup (List.map kV k))) → ∃ bs : List Addr, out = bs.map Value.ref ∧ ∀ b ∈ bs, ∃ k, H b = some (.tup (List.map kV k))
  | [], _ => ⟨[], rfl, fun b h => by simp at h⟩
  | v :: out, h => by
    obtain ⟨bs, h1, h2⟩ := refs_back (out := out) fun u hu => h u (List.mem_cons_of_mem _ hu)
    obtain ⟨b, k, rfl, hb⟩ := h v List.mem_cons_self
    exact ⟨b :: bs, by rw [h1]; rfl, fun c hc => by
      rcases List.mem_cons.mp hc with z | z
      · subst z; exact ⟨k, hb⟩
      · exact h2 c z⟩
section
variable {X : Cx}
theorem isKT_of {H : Hp} {h : Heap} {b : Addr} {k : List Key} (ok : HOk X.prog X.w H h) (e : H b = some (.tup (k.map kV))) : IsKT h (.ref b) k := by
  obtain ⟨_, its, r, o, h1, h2, n, h3⟩ := ok b _ e
  exact ⟨b, o, its, n, rfl, h1, h2, h3, r⟩
theorem map_refs {α : Type} (f : Value → α) {l : List Value} {bs : List Addr} (e : l = bs.map Value.ref) : l.map f = bs.map fun b => f (.ref b) := by
  rw [e, List.map_map]; rfl
theorem pairedK {H : Hp} {h : Heap} (kt : ∀ (b : Addr) (k : List Key), H b = some (.tup (k.map kV)) → IsKT h (.ref b) k) : ∀ {cs : List Addr}, (∀ b ∈ cs, ∃ k, H b = some (.tup (List.map kV k))) → Paired (fun (k : List Key) b => H b = some (.tup (k.map kV))) (cs.map fun b => kOf h (.ref b)) cs
  | [], _ => .nil
  | b :: cs, hc => by
    obtain ⟨k, hk⟩ := hc b List.mem_cons_self
    refine .cons ?_ (pairedK kt fun c h => hc c (List.mem_cons_of_mem _ h))
    show H b = some (.tup ((kOf h (.ref b)).map kV))
    rw [kOf_eq (kt b k hk)]
    exact hk
theorem keysK {H : Hp} {h : Heap} (kt : ∀ (b : Addr) (k : List Key), H b = some (.tup (k.map kV)) → IsKT h (.ref b) k) : ∀ {kvs : List (List Key × V)} {bs : List Addr}, IsKeys H kvs bs → kvs.map Prod.fst = bs.map fun b => kOf h (.ref b)
  | _, _, .nil => rfl
  | _, _, .cons e t => by
    rw [List.map_cons, List.map_cons, keysK kt t, kOf_eq (kt _ _ e)]
theorem call_sortedT (hcalm : X.calm = true) : CallR X (.builtin "sorted") rSortedT := by
  intro pins s σ H xs us Q I r q
  obtain ⟨d, kvs, rfl, hd, hh, hcm, q⟩ := q
  obtain ⟨u, rfl, rx⟩ := vals1 r
  cases rx
  obtain ⟨z, hs, ks, pr, o, es, ep, ho, hx, hdt, he, hn⟩ := (show ObjOk X.prog X.w H s.heap d (.dT kvs) from I.hok d _ hd)
  have l1 : es.size = ks.length := size_of_entries he
  have l2 : kvs.length = ks.length := Paired.length pr
  refine Calls.call_function_entry PyProof.Rows.kind_sorted PyProof.Rows.plain_sorted PyProof.Rows.entry_sorted (PyProof.Rows.args_sorted1 _) ?_
  unfold Builtin.«sorted»
  refine wpAny_bind (m := checkCount "sorted" 1 1 _) (wpAny_pure ?_)
  refine wpAny_bind (PySem.W.kdu_collect (A := X.A.in1) (kdl_raw hs hx hdt) (I.ok.hd hcalm) ho (by omega) fun h' tk acc hk it => ?_)
  have ea : acc.toList = (ks.map fun x => x.2.1).map Value.ref := by
    rw [List.map_map]
    have hl : acc.toList.length = ks.length := by rw [Array.length_toList, it.1]; exact l1
    refine List.ext_getElem? fun j => ?_
    rw [List.getElem?_map]
    cases hj : acc.toList[j]? with
    | none =>
      have h1 := List.getElem?_eq_none_iff.mp hj
      rw [List.getElem?_eq_none (by omega)]; rfl
    | some v =>
      obtain ⟨en, hen, hv⟩ := it.2 j v (by rw [← Array.getElem?_toList]; exact hj)
      have qe := entry_at he j
      rw [hen] at qe
      cases hb : ks[j]? with
      | none => rw [hb] at qe; exact nomatch (show some en = none from qe)
      | some b =>
        rw [hb] at qe
        have e2 : en = entryOfKey (tupleKind (mixKind X.prog X.w)) b := Option.some.inj qe
        rw [hv, e2]; rfl
  have hbs := isKeys_of pr
  generalize (ks.map fun x => x.2.1) = bs at ea hbs
  have hbl : kvs.length = bs.length := Paired.length hbs
  have hmem : ∀ v ∈ acc.toList, ∃ b, ∃ p ∈ kvs, v = Value.ref b ∧ H b = some (.tup (p.1.map kV)) := fun v hv => by
    rw [ea] at hv
    obtain ⟨b, hb, rfl⟩ := List.mem_map.mp hv
    obtain ⟨p, hp, e⟩ := paired_get hbs b hb
    exact ⟨b, p, hp, rfl, e⟩
  have I1 : Inv X pins σ H { s with heap := h', toks := tk } := I.kept hk
  have hal : acc.toList.length = kvs.length := by rw [ea, List.length_map, hbl]
  refine wpAny_bind (wpAny_newList ?_ (by rw [hal]; exact z))
  have hoL : (h'.push (seqObj "list" acc.toList.toArray 0)).get? h'.objs.size = some (seqObj "list" acc.toList.toArray 0) := Heap.get?_push_size _ rfl
  have keep1 : ∀ b o, h'.get? b = some o → (h'.push (seqObj "list" acc.toList.toArray 0)).get? b = some o := fun b o e => Heap.get?_push_of_some _ e
  have kt : ∀ b k, H b = some (.tup (List.map kV k)) → IsKT (h'.push (seqObj "list" acc.toList.toArray 0)) (.ref b) k := fun b k e => (isKT_of I1.hok e).keep fun c o e2 _ => keep1 c o e2
  show wpAny _ _ _ _ _ { s with heap := h'.push (seqObj "list" acc.toList.toArray 0), toks := tk }
  let ltv : Value → Value → Bool := fun v u => lexK (kOf (h'.push (seqObj "list" acc.toList.toArray 0)) v) (kOf (h'.push (seqObj "list" acc.toList.toArray 0)) u)
  have O : SrtO.Swo ltv := ⟨fun x y h => lexK_asym h, fun x y z h1 h2 => lexK_nlt h1 h2⟩
  refine wpAny_bind (wpAny_holding (wpAny_call_entry slot_list_sort ⟨_, hoL, rfl⟩ entry_list_sort (SrtO.list_sort_ord (s := { s with heap := h'.push (seqObj "list" acc.toList.toArray 0), toks := tk }) O hoL (by rw [hal]; exact z)
    (fun h2 => sortableK (s := { s with heap := h'.push (seqObj "list" acc.toList.toArray 0), toks := tk }) (fun v hv => ?_) (fun v hv u hu => ?_) (by omega) (fun o' e => ?_)) fun out hs1 hb1 => ⟨_, rfl, ?_⟩) (args_list_sort _)))
  · obtain ⟨b, p, hp, rfl, e⟩ := hmem v hv
    exact ⟨p.1, kt b p.1 e, hh p hp⟩
  · obtain ⟨b, p, hp, rfl, e⟩ := hmem v hv
    obtain ⟨b2, p2, hp2, rfl, e2⟩ := hmem u hu
    rw [kOf_eq (kt b p.1 e), kOf_eq (kt b2 p2.1 e2)]
    exact hcm p hp p2 hp2
  · rw [hoL] at e
    cases e
    intro y
    exact absurd (Value.type.inj y) (by decide)
  · have hperm : out.Perm acc.toList := hb1.perm
    obtain ⟨cs, rfl, hcs⟩ := refs_back (H := H) (out := out) fun v hv => by
      obtain ⟨b, p, _, h1, h2⟩ := hmem v (hperm.mem_iff.mp hv)
      exact ⟨b, p.1, h1, h2⟩
    obtain ⟨e', he'⟩ := PyProof.Rows.sortedHeap_at (vs := acc.toList) (out := (cs.map Value.ref).toArray) hoL
    have hcl : cs.length = kvs.length := by
      have := hperm.length_eq
      rw [List.length_map, hal] at this
      exact this
    -- the keys, in order
    have hkeys := pairedK kt hcs
    have hsorted : (cs.map fun b => kOf (h'.push (seqObj "list" acc.toList.toArray 0)) (.ref b)).Pairwise fun a b => leK a b = true := by
      rw [List.pairwise_map]
      have h1 : (cs.map Value.ref).Pairwise fun x y => ltv y x = false := hs1
      rw [List.pairwise_map] at h1
      exact h1.imp fun {x y} h => by
        have h : lexK (kOf (h'.push (seqObj "list" acc.toList.toArray 0)) (.ref y)) (kOf (h'.push (seqObj "list" acc.toList.toArray 0)) (.ref x)) = false := h
        unfold leK
        rw [h]; rfl
    have hp2 : (cs.map fun b => kOf (h'.push (seqObj "list" acc.toList.toArray 0)) (.ref b)).Perm (kvs.map Prod.fst) := by
      rw [keysK kt hbs]
      have h3 := hperm.map fun v => kOf (h'.push (seqObj "list" acc.toList.toArray 0)) v
      have e3 : acc.toList.map (fun v => kOf (h'.push (seqObj "list" acc.toList.toArray 0)) v) = bs.map fun b => kOf (h'.push (seqObj "list" acc.toList.toArray 0)) (.ref b) := by
        exact map_refs _ ea
      rw [List.map_map] at h3
      rw [e3] at h3
      exact h3
    rw [sortK_unique hp2 hsorted] at hkeys
    refine wpAny_pure ⟨_, rfl, .ref h'.objs.size, upd H h'.objs.size (.lst (cs.map V.ref)), I1.laid (t' := tk) (fun b u e => ?_) (Nat.le_refl _)
      (show ObjOk X.prog X.w _ _ _ (.lst (cs.map V.ref)) from ⟨by rw [List.length_map, hcl]; exact z, cs.map Value.ref, e', vals_refs cs, he'⟩), rfl, q _ cs (I1.hok.fresh (Nat.le_refl _)) hkeys⟩
    have hb : b < h'.objs.size := Heap.lt_size e
    rw [PyProof.Rows.sortedHeap_old (Nat.ne_of_lt hb) (by rw [size_push']; exact Nat.lt_succ_of_lt hb)]
    exact Heap.get?_push_of_some _ e
end
section
variable {ρ : List Sl} {ta : TE} {kvs : List (List Key × D)}
def encK (k : List Key) : D := .tup (k.map kD)
theorem Rp.keyT {N : Hp} {b : Addr} {k : List Key} (e : N b = some (.tup (k.map kV))) : Rp N (.ref b) (encK k) := by
  refine .tup e ?_
  induction k generalizing b with
  | nil => exact .nil
  | cons x k ih =>
    refine .cons ?_ ?_
    · cases x with
      | inl i => exact .int i
      | inr i => exact .str i
    · clear ih e
      induction k with
      | nil => exact .nil
      | cons y k ih =>
        refine .cons ?_ ih
        cases y with
        | inl i => exact .int i
        | inr i => exact .str i
end

section
variable {K : PySem.W.Frag} {ρ ρ' : List Sl} {te ta td ty tv tx : TE} {d x : D} {kvs : List (List Key × D)} {c : Ctx} {Ps : List (Addr × D)} {σ : St} {H : Hp} {De : Ends} {tz : TS}
theorem kD_inv {N : Hp} {v : V} {k : Key} (r : Rp N v (kD k)) : v = kV k := r.key
theorem Rps.keys {N : Hp} : ∀ {k : List Key} {vs : List V}, Rps N vs (k.map kD) → vs = k.map kV
  | [], _, h => h.inv_nil
  | x :: k, _, h => by
    obtain ⟨v, r, rfl, h1, h2⟩ := Rps.inv_cons h
    rw [h1.key, Rps.keys h2]; rfl
theorem Rp.keyInv {N : Hp} {v : V} {k : List Key} (r : Rp N v (encK k)) : ∃ b, v = .ref b ∧ N b = some (.tup (k.map kV)) := by
  obtain ⟨a, xs, rfl, h1, h2⟩ := r.inv_tup
  rw [h2.keys] at h1
  exact ⟨a, rfl, h1⟩
theorem fz_encK (k : List Key) : fz (encK k) = true := by
  show fzs (k.map kD) = true
  induction k with
  | nil => rfl
  | cons x k ih =>
    show (fz (kD x) && fzs (k.map kD)) = true
    rw [ih]
    cases x <;> rfl
theorem el_sortedT (h : E ta ρ (.dt kvs)) (hh : ∀ p ∈ kvs, headS p.1 = true) (hc : ∀ p ∈ kvs, ∀ q ∈ kvs, cmpOk p.1 q.1 = true) : EL (tCB rSortedT (tCons ta tNil)) ρ (.lst ((sortK (kvs.map Prod.fst)).map encK)) := el_call (ea1 h) fun xs N H e r Q k => by
  obtain ⟨v, rfl, h1⟩ := r.one
  obtain ⟨a, vs, rfl, g1, g2, g3⟩ := h1.inv_dt
  have hf : ∀ p ∈ vs, ∃ q ∈ kvs, q.1 = p.1 := fun p hp => by
    have : p.1 ∈ vs.map Prod.fst := List.mem_map.mpr ⟨p, hp, rfl⟩
    rw [g2] at this
    obtain ⟨q, hq, e⟩ := List.mem_map.mp this
    exact ⟨q, hq, e⟩
  refine ⟨a, vs, rfl, e _ _ g1, fun p hp => ?_, fun p hp q hq => ?_, fun p bs hp hbs => ?_⟩
  · obtain ⟨q, hq, e⟩ := hf p hp
    rw [← e]; exact hh q hq
  · obtain ⟨p', hp', e1⟩ := hf p hp
    obtain ⟨q', hq', e2⟩ := hf q hq
    rw [← e1, ← e2]; exact hc p' hp' q' hq'
  · rw [g2] at hbs
    -- the key tuples are known from now on
    have hfr : Fr [] N H (fun b => if b ∈ bs then H b else N b) (upd H p (.lst (bs.map V.ref))) := by
      have hn : ∀ b ∈ bs, b ≠ p := fun b hb z => by
        subst z
        obtain ⟨k0, _, e0⟩ := paired_get hbs b hb
        rw [hp] at e0; cases e0
      refine ⟨fun b o _ q => by rw [upd_ne (ne_of_none q hp)]; exact q, fun b q => ?_, fun b o q => ?_, fun b o q => ?_, fun b u q1 q2 n => ?_, fun b u q n => ⟨u, by rw [upd_ne (ne_of_none q hp)]; exact q, n⟩⟩
      · by_cases z : b = p
        · subst z; exact absurd hp q
        · rw [upd_ne z]; exact q
      · by_cases z : b ∈ bs
        · rw [if_pos z]; exact e b o q
        · rw [if_neg z]; exact q
      · by_cases z : b ∈ bs
        · rw [if_pos z] at q
          rw [upd_ne (hn b z)]; exact q
        · rw [if_neg z] at q
          rw [upd_ne (ne_of_none (e b o q) hp)]; exact e b o q
      · by_cases z : b ∈ bs
        · obtain ⟨k0, _, e0⟩ := paired_get hbs b z
          rw [q2] at e0
          cases e0
          exact absurd ⟨_, .inl rfl⟩ n
        · rw [if_neg z]; exact q1
    refine k p (fun b => if b ∈ bs then H b else N b) _ hfr hp ?_ ⟨bs.map V.ref, upd_same, ?_⟩
    · have hn : p ∉ bs := fun z => by
        obtain ⟨k0, _, e0⟩ := paired_get hbs p z
        rw [hp] at e0; cases e0
      show (if p ∈ bs then H p else N p) = none
      rw [if_neg hn]; exact none_of_ex e hp
    · have hb : Paired (fun (k : List Key) b => (fun b => if b ∈ bs then H b else N b) b = some (.tup (k.map kV))) (sortK (kvs.map Prod.fst)) bs := by
        have aux : ∀ {l : List (List Key)} {m : List Addr}, Paired (fun (k : List Key) b => H b = some (.tup (k.map kV))) l m → (∀ b ∈ m, b ∈ bs) → Paired (fun (k : List Key) b => (fun b => if b ∈ bs then H b else N b) b = some (.tup (k.map kV))) l m := by
          intro l m h
          induction h with
          | nil => intro _; exact .nil
          | cons r t ih =>
            intro hm
            refine .cons ?_ (ih fun b hb => hm b (List.mem_cons_of_mem _ hb))
            show (if _ ∈ bs then H _ else N _) = _
            rw [if_pos (hm _ List.mem_cons_self)]; exact r
        exact aux hbs fun b hb => hb
      clear hbs hfr
      generalize (fun b => if b ∈ bs then H b else N b) = N2 at hb ⊢
      generalize sortK (kvs.map Prod.fst) = l at hb ⊢
      induction hb with
      | nil => exact .nil
      | cons r t ih => exact .cons (Rp.keyT r) ih
theorem valV_relT {κ : Type} [DecidableEq κ] {H : Hp} {k : κ} {vs : List (κ × V)} {ks : List (κ × D)} (h : vs.map Prod.fst = ks.map Prod.fst) (r : Rps H (vs.map Prod.snd) (ks.map Prod.snd)) : ∀ d, valD ks k = some d → ∃ v, valV vs k = some v ∧ Rp H v d := (valV_rel h r).2
/-- d[k] -/
theorem e_dgetT {k : List Key} (hd : E td ρ (.dt kvs)) (hk : E ty ρ (encK k)) (hv : valD kvs k = some d) : E (tDGet td ty) ρ d := fun σ N H S e Q q =>
  hd σ N H S e _ fun v N1 H1 f1 r1 => hk σ N1 H1 (S.mono f1.sml) f1.sub _ fun w N2 H2 f2 r2 => by
    obtain ⟨a, vs, rfl, g1, g2, g3⟩ := (r1.mono f2.sml).inv_dt
    obtain ⟨b, rfl, hb⟩ := r2.keyInv
    obtain ⟨u, hu, ru⟩ := valV_relT g2 g3 d hv
    refine ⟨a, u, rfl, ?_, q u N2 H2 (f1.trans f2) ru⟩
    rw [← hu]
    exact DGet.t (f2.sub _ _ g1) (f2.sub _ _ hb)
/-- k not in d, k in d -/
theorem e_dninT {k : List Key} (hk : E ty ρ (encK k)) (hd : E td ρ (.dt kvs)) : E (tDNotIn ty td) ρ (.bl (!(valD kvs k).isSome)) := fun σ N H S e Q q =>
  hk σ N H S e _ fun w N1 H1 f1 r1 => hd σ N1 H1 (S.mono f1.sml) f1.sub _ fun v N2 H2 f2 r2 => by
    obtain ⟨a, vs, rfl, g1, g2, g3⟩ := r2.inv_dt
    obtain ⟨b, rfl, hb⟩ := (r1.mono f2.sml).keyInv
    refine ⟨a, valV vs k, rfl, DGet.t (f2.sub _ _ g1) (f2.sub _ _ hb), ?_⟩
    obtain ⟨i1, i2⟩ := valV_rel (k := k) g2 g3
    have e1 : (valV vs k).isSome = (valD kvs k).isSome := by
      cases z : valD kvs k with
      | none => rw [i1 z]; rfl
      | some d' =>
        obtain ⟨u, hu, _⟩ := i2 d' z
        rw [hu]; rfl
    rw [e1]
    exact q _ N2 H2 (f1.trans f2) (.bl _)
/-- d[k] = v -/
theorem s_dputT {i j : Nat} {p : Addr} {key : List Key} (a : At c Ps ρ σ H) (hi : ρ[i]? = some (.val (.ref p))) (hk : Ps[j]? = some (p, .dt kvs)) (w : Vw Ps ρ ρ') (hv : E tv ρ' d) (hf : fz d = true) (hy : E ty ρ' (encK key)) (hz : kvs.length ≤ 99999)
    (kk : ∀ H', At c (Ps.set j (p, .dt (putD kvs key d))) ρ σ H' → De.nx σ H') : sDPut (tVar i) ty tv De σ H := by
  obtain ⟨N, a⟩ := a
  have hm : (p, D.dt kvs) ∈ Ps := List.mem_of_getElem? hk
  refine a.ev w hv hf fun v N1 H1 a1 r1 => ?_
  refine ⟨_, a1.sg.val i _ hi, ?_⟩
  refine (a1.ext (Ex.refl N1)).ev w hy (fz_encK key) fun y N2 H2 a2 r2 => ?_
  obtain ⟨_, h2, _⟩ := a2.ps p _ hm
  rcases h2 with ⟨vs, g1, g2, g3⟩ | ⟨z, _⟩
  · have hl : vs.length ≤ 99999 := by
      have e1 : vs.length = (vs.map Prod.fst).length := by simp
      rw [e1, g2]; simpa using hz
    obtain ⟨b, rfl, hb⟩ := r2.keyInv
    refine ⟨p, _, rfl, DPut.t g1 (a2.fr.sub _ _ hb) (lt_line (by omega)), kk _ ⟨N2, a2.unext.wrote (o := .dT (putK vs key v)) hk (.inl ?_)⟩⟩
    have hp := put_rel (k := key) (r1.mono (a2.ls N1 List.mem_cons_self)) g2 g3
    exact ⟨_, upd_same, hp.1, hp.2⟩
  · cases z
theorem q_dputT {i j : Nat} {p : Addr} {key : List Key} (a : At c Ps ρ σ H) (hi : ρ[i]? = some (.val (.ref p))) (hk : Ps[j]? = some (p, .dt kvs)) (w : Vw Ps ρ ρ') (hv : E tv ρ' d) (hf : fz d = true) (hy : E ty ρ' (encK key)) (hz : kvs.length ≤ 99999)
    (kk : ∀ H', At c (Ps.set j (p, .dt (putD kvs key d))) ρ σ H' → tz De σ H') : tSeq (sDPut (tVar i) ty tv) tz De σ H := s_dputT (De := { De with nx := tz De }) a hi hk w hv hf hy hz kk
/-- .. the key drawn, the value plain -/
theorem s_dputB {i j : Nat} {p : Addr} {R : D → List (Addr × D) → Prop} (a : At c Ps ρ σ H) (hi : ρ[i]? = some (.val (.ref p))) (hv : E tv ρ d) (hf : fz d = true) (hy : EB ty Ps ρ R) (hk : ∀ y P, R y P → ∃ key, y = encK key ∧ P[j]? = some (p, .dt kvs)) (hz : kvs.length ≤ 99999)
    (kk : ∀ key P H', R (encK key) P → At c (P.set j (p, .dt (putD kvs key d))) ρ σ H' → De.nx σ H') : sDPut (tVar i) ty tv De σ H := by
  refine a.e hv fun v L H1 r1 a1 => ?_
  obtain ⟨N1, a1⟩ := a1
  refine ⟨_, a1.sg.val i _ hi, ?_⟩
  refine hy _ σ H1 ⟨N1, a1⟩ _ fun y d2 P L2 H2 hR r2 a2 => ?_
  obtain ⟨key, rfl, hk⟩ := hk d2 P hR
  obtain ⟨N2, a2⟩ := a2
  have hm : (p, D.dt kvs) ∈ P := List.mem_of_getElem? hk
  obtain ⟨_, h2, _⟩ := a2.ps p _ hm
  rcases h2 with ⟨vs, g1, g2, g3⟩ | ⟨z, _⟩
  · have hl : vs.length ≤ 99999 := by
      have e1 : vs.length = (vs.map Prod.fst).length := by simp
      rw [e1, g2]; simpa using hz
    obtain ⟨b, rfl, hb⟩ := (r2.mono (a2.ls L2 List.mem_cons_self)).keyInv
    refine ⟨p, _, rfl, DPut.t g1 (a2.fr.sub _ _ hb) (lt_line (by omega)), kk key P _ hR ⟨N2, a2.unext.unext.wrote (o := .dT (putK vs key v)) hk (.inl ?_)⟩⟩
    have hp := put_rel (k := key) (r1.mono (a2.ls L (by simp))) g2 g3
    exact ⟨_, upd_same, hp.1, hp.2⟩
  · cases z
/-! four names at once: two plain, two new lists -/
theorem At.laid {p : Addr} {o : HO} (a : At c Ps ρ σ H) (hp : H p = none) : At c Ps ρ σ (upd H p o) := by
  obtain ⟨N, a⟩ := a
  exact ⟨N, a.step (Fr.laid a.fr.sub hp)⟩
theorem q_par4 {t1 t2 t3 t4 : TE} {i1 i2 i3 i4 : Nat} {d1 d2 d3 d4 : D} (a : At c Ps ρ σ H) (h1 : E t1 ρ d1) (h2 : E t2 ρ d2) (h3 : EL t3 ρ d3) (h4 : EL t4 ρ d4)
    (k : ∀ p q σ' H', At c ((q, d4) :: (p, d3) :: Ps) ((((ρ.set i1 (.dat d1)).set i2 (.dat d2)).set i3 (.val (.ref p))).set i4 (.val (.ref q))) σ' H' → tz De σ' H') :
    tSeq (tAsg (tTup (tCons t1 (tCons t2 (tCons t3 (tCons t4 tNil))))) (gTup K 4 (gCons (gName i1) (gCons (gName i2) (gCons (gName i3) (gCons (gName i4) gNil)))))) tz De σ H := by
  show t1 σ H _
  refine a.e h1 fun v L1 H1 r1 a1 => ?_
  show t2 σ H1 _
  refine a1.e h2 fun w L2 H2 r2 a2 => ?_
  show t3 σ H2 _
  refine a2.el h3 fun p H3 a3 => ?_
  show t4 σ H3 _
  refine a3.el h4 fun q H4 a4 => ?_
  refine ⟨by show 4 ≤ sizeLine; decide, fun b hb => ⟨b, [v, w, .ref p, .ref q], rfl, SqT.of upd_same, rfl, v, _, rfl, w, _, rfl, _, _, rfl, _, _, rfl, rfl, k p q _ _ ?_⟩⟩
  have a5 := a4.laid (o := .tup [v, w, .ref p, .ref q]) hb
  have a6 := a5.setD i1 (by simp) r1
  have a7 := a6.setD i2 (by simp) r2
  exact ((a7.setV i3).setV i4).unext.unext
end

theorem enumNew1 {v : Value} {o : Obj} {H : Heap → Prop} (B : Begins v o H) :
    Meets (Builtin.«enumerate.__new__» ⟨[.type "enumerate", v], []⟩) (fun _ R s => H s.heap ∧
      R (.ok (.ret (.ref (s.heap.push o).objs.size))) { s with heap := (s.heap.push o).push { cls := .type "enumerate", data := .fields #[.none, .bool false, .ref s.heap.objs.size, rawInt 0, .none, .none] } }) :=
  .of_wp fun prog w A R s h => by
    obtain ⟨hp, g, d, tk, os⟩ := s
    obtain ⟨h1, h⟩ := h
    have hsub := sub_enumerate
    have q1 : ∀ {A' : Around} {E : Value → Shared → Prop} {Q : Value → Shared → Prop}, Q (.ref hp.objs.size) ⟨hp.push o, g, d, tk, os⟩ → wpAny (model prog w) A' (pyIter v) Q E ⟨hp, g, d, tk, os⟩ :=
      fun q => B.iter prog w _ _ ⟨hp, g, d, tk, os⟩ _ h1 q
    wp_walk using q1
    refine wpAny_stack_any fun st => wpAny_pure ?_
    split
    · rename_i c _ _ _ _ _
      cases (c == Value.type "enumerate") <;> (wp_walk using q1; exact ⟨_, rfl, h⟩)
    · wp_walk using q1
      exact ⟨_, rfl, h⟩
theorem enum1 {prog : Program} {w : World} {A : Around} {E : Value → Shared → Prop} {s : Shared} {v : Value} {o : Obj} {H : Heap → Prop} {Q : Value → Shared → Prop} (B : Begins v o H) (h1 : H s.heap)
    (h : ∀ h', IsEnum h' (s.heap.objs.size + 1) s.heap.objs.size 0 .none → h'.get? s.heap.objs.size = some o → (∀ b o, s.heap.get? b = some o → h'.get? b = some o) → Q (.ref (s.heap.objs.size + 1)) { s with heap := h' }) :
    wpAny (model prog w) A (call (.type "enumerate") [v]) Q E s := by
  refine callType_new F.called_enumerate (by decide) (F.typeCall_enumerate_1 _) (F.newCall_enumerate_1 _) (fun obj => F.args_object_init_2 obj _) F.entry_enumerate_new (enumNew1 B) ⟨h1, ?_⟩
  have hz : (s.heap.push o).objs.size = s.heap.objs.size + 1 := Heap.size_push ..
  show _ ∧ _
  rw [hz]
  have he : IsEnum ((s.heap.push o).push { cls := .type "enumerate", data := .fields #[.none, .bool false, .ref s.heap.objs.size, rawInt 0, .none, .none] }) (s.heap.objs.size + 1) s.heap.objs.size 0 .none := by
    have := Heap.get?_push_size (s.heap.push o) (o := { cls := .type "enumerate", data := .fields #[.none, .bool false, .ref s.heap.objs.size, rawInt 0, .none, .none] }) rfl
    rw [hz] at this
    exact this
  exact ⟨⟨_, he, rfl⟩, h _ he (Heap.get?_push_of_some _ (Heap.get?_push_size _ B.free)) fun b o x => Heap.get?_push_of_some _ (Heap.get?_push_of_some _ x)⟩
/-- the tuple at a, each item in a new pair -/
def IteT (K : PySem.W.Frag) (a : Addr) : It :=
  ⟨fun i H => ∃ (xs : List V) (x : V), SqT K H a xs ∧ xs[i]? = some x, fun i H v H' => ∃ p x, v = .ref p ∧ H p = none ∧ H' = upd H p (.tup [.int (i : Nat), x]) ∧ ∀ xs, SqT K H a xs → xs[i]? = some x, fun i H => ∃ xs : List V, SqT K H a xs ∧ xs.length ≤ i⟩
theorem turn_enumT {P : Program} {w : World} {K : PySem.W.Frag} {elts : List Expr} {kk : Nat} {tpos : Pos} (a e it : Addr) :
    Turn P w K (.Tuple elts kk tpos) (IteT K a) [e, it] e (fun i h => (∃ old, IsEnum h e it ((i : Nat) : Int) old) ∧ h.IsTupleIter it a i ∧ e ≠ it ∧ a ≠ it ∧ e ≠ a) where
  mem := by simp
  obj := fun i h st b hb => by
    obtain ⟨⟨old, he⟩, ⟨o, ho, hc, hd⟩, _⟩ := st
    have e' : b = e ∨ b = it := by simpa using hb
    rcases e' with z | z
    · rw [z]
      exact ⟨_, he, fun v q => nomatch q⟩
    · rw [z]
      exact ⟨o, ho, fun v q => by rw [hd] at q; cases q⟩
  keep := fun i h h' st k => let ⟨⟨old, he⟩, hi, hne⟩ := st; ⟨⟨old, k e (by simp) _ he⟩, hi.at fun o q => k it (by simp) o q, hne⟩
  item := by
    intro X hP hw hK hc i pins s σ H E I hf st hg
    subst hP hw hK
    obtain ⟨⟨old, he⟩, hit, hne, ha, hea⟩ := st
    obtain ⟨xs, x, hq, hx⟩ := hg
    obtain ⟨its, rv, p, hz⟩ := I.tuple hq
    obtain ⟨u, hu, ru⟩ := rv.get hx
    have hel : e < s.heap.objs.size := Heap.lt_size he
    have hil : it < s.heap.objs.size := by
      obtain ⟨_, q, _⟩ := hit
      exact Heap.lt_size q
    have hu' : its.toArray[i]? = some u := by simpa using hu
    have hlt : i < its.toArray.size := by
      rw [Array.getElem?_eq_some_iff] at hu'
      exact hu'.1
    refine wpAny_pyNext_enum_itemD (Draws.tuple (A := X.A.in1) (I.ok.hd hc) it a ha its.toArray) he ⟨hit, p⟩ hlt hne (by simp [hne, hea]) fun y h' tk hy ho hst' hT hsz hk => ?_
    rw [hu'] at hy
    cases hy
    obtain ⟨hit', _⟩ := hst'
    refine ⟨_, rfl, wpAny_letOwnedTupleGo_enum (s := { s with heap := h', toks := tk + 1 }) ho fun h'' he' sb => ?_⟩
    have hT2 : h''.get? s.heap.objs.size = some { cls := .type "tuple", data := .seq #[.int i tk, u] } := (sb.2 _ (Nat.ne_of_gt hel)).trans hT
    have new : ObjOk X.prog X.w (upd H s.heap.objs.size (.tup [.int (i : Nat), x])) h'' s.heap.objs.size (.tup [.int (i : Nat), x]) :=
      ⟨by show 2 ≤ sizeLine; decide, [.int i tk, u], .cons ⟨_, rfl⟩ (.cons ru .nil), ⟨_, hT2, rfl, _, rfl⟩⟩
    have I1 : Inv X pins σ (upd H s.heap.objs.size (.tup [.int (i : Nat), x])) { s with heap := h'', toks := tk + 1 } :=
      I.turnedNew (t' := tk + 1) (ch := [e, it]) (fun b ob hb q => (sb.2 b (fun z => hb (by simp [z]))).trans (hk b ob (fun z => hb (by simp [z])) (fun z => hb (by simp [z])) q)) hf (Nat.le_refl _) new
    refine ⟨.ref s.heap.objs.size, _, I1, rfl, ⟨_, x, rfl, I.hok.fresh (Nat.le_refl _), rfl, fun ys hy => by rw [I.tuple_inj hy hq]; exact hx⟩, ⟨⟨u, ?_⟩, hit'.at fun o q => (sb.2 it (Ne.symm hne)).trans q, hne, ha, hea⟩, fun b hb => ?_⟩
    · have e1 : ((i + 1 : Nat) : Int) = (i : Int) + 1 := by omega
      rw [e1]
      exact he'
    · have hb' : b < s.heap.objs.size := by
        have e' : b = e ∨ b = it := by simpa using hb
        rcases e' with z | z
        · rw [z]; exact hel
        · rw [z]; exact hil
      rw [upd_ne (Nat.ne_of_lt hb')]
      exact (hf b hb).1
  done := by
    intro X hP hw hK hc i pins s σ H E I hf st hg
    subst hP hw hK
    obtain ⟨⟨old, he⟩, hit, hne, ha, hea⟩ := st
    obtain ⟨xs, hq, hx⟩ := hg
    obtain ⟨its, rv, p, hz⟩ := I.tuple hq
    obtain ⟨f0, f1, f2, f3, f4, f5⟩ := hf it (by simp)
    have hl := rv.length
    have D : Draws X.prog X.w X.A.in1 it [it, a] i (fun _ _ => False) (fun j h => j = i ∧ h.IsTupleIter it a i ∧ h.IsTuple a its.toArray) :=
      ⟨fun _ _ st => let ⟨o, ho, _⟩ := st.2.1; ⟨o, ho⟩, fun _ _ _ st hk => ⟨st.1, st.2.1.at fun o e => hk it (by simp) o e, st.2.2.at fun o e => hk a (by simp) o e⟩,
        fun j s Q E hi st hQ => absurd st.1 (Nat.ne_of_lt hi), fun s Q E st hE => wpAny_nextOf_tuple_end (A := X.A.in1) (I.ok.hd hc) st.2.1 st.2.2 (by simp; omega) hE⟩
    exact wpAny_pyNext_enum_endD D he ⟨rfl, hit, p⟩ fun h' eb => ⟨rfl, I.turned (t' := s.toks) (fun b o hb q => eb b o hb q) f0 f1 f3 f4 f5⟩
  self := fun A i s Q E st h => let ⟨⟨_, he⟩, _⟩ := st; wpAny_pyIter_enum he h
def iEnumT (K : PySem.W.Frag) (ta : TA) : TI := fun σ H R => ta σ H fun vs H1 => ∃ a xs, vs = [.ref a] ∧ SqT K H1 a xs ∧ R (IteT K a) H1
theorem pi_enumT {X : Cx} {e : Expr} {ta : TA} {p pos tpos : Pos} {elts : List Expr} {kk : Nat} (hg : Gl X "enumerate") (hm : X.mg "enumerate" = none) (ha : PA X [e] ta) (hs : starEach [e] X.env = [(false, eval e X.env)] := by rfl) :
    PI X (.Tuple elts kk tpos) (.Call (.Name "enumerate" p) [e] [] pos) (iEnumT X.K ta) := by
  refine ⟨fun pins s σ H R I h => ?_⟩
  refine Call_ (ld_blt I hg hm boot_enumerate (PyProof.Rows.callWith_type1 (thn (ha.run pos pins s σ H _ I h) fun us s1 ⟨vs, H1, I1, r1, q1⟩ => ?_) hs rfl))
  obtain ⟨a, xs, ex, hq, q⟩ := q1
  subst ex
  cases r1 with
  | cons r rr =>
    cases rr
    cases r
    obtain ⟨its, rv, p', hz⟩ := I1.tuple hq
    refine enum1 (begins_tuple a its.toArray) p' fun h' he hit hk => wpAny_pyIter_enum he ?_
    have I2 : Inv X pins σ H1 { s1 with heap := h' } := I1.kept (t' := s1.toks) hk
    have hal : a < s1.heap.objs.size := by
      obtain ⟨_, q, _⟩ := p'
      exact Heap.lt_size q
    refine ⟨s1.heap.objs.size + 1, [s1.heap.objs.size + 1, s1.heap.objs.size], _, _, H1, rfl, I2, turn_enumT a (s1.heap.objs.size + 1) s1.heap.objs.size, ⟨⟨.none, he⟩, ⟨_, hit, rfl, rfl⟩, Nat.succ_ne_self _, Nat.ne_of_lt hal, Nat.ne_of_gt (Nat.lt_succ_of_lt hal)⟩, fun b hb => ?_, q⟩
    have e' : b = s1.heap.objs.size + 1 ∨ b = s1.heap.objs.size := by simpa using hb
    have hle : s1.heap.objs.size ≤ b := by
      rcases e' with z | z
      · subst z; exact Nat.le_add_right _ _
      · subst z; exact Nat.le_refl _
    exact I1.fpOk hle (I1.hok.fresh hle)
section
variable {K : PySem.W.Frag} {ρ : List Sl} {ds : List D}
theorem srv_enumT {L : Hp} {a : Addr} {xs : List V} (h : L a = some (.tup xs)) (r : Rps L xs ds) : Srv (IteT K a) L (enumD ds) where
  go := fun i H e hi => by
    have hi : i < ds.length := by simpa [enumD] using hi
    obtain ⟨v, hv⟩ := r.atN hi
    exact ⟨xs, v, SqT.of (e _ _ h), hv⟩
  stop := fun i H e hi => by
    have hi : ds.length ≤ i := by simpa [enumD] using hi
    exact ⟨xs, SqT.of (e _ _ h), by rw [r.length]; exact hi⟩
  yld := fun i d x N H H' hd eL eN y => by
    obtain ⟨p, x1, rfl, nT, rfl, f1⟩ := y
    unfold enumD at hd
    rw [List.getElem?_mapIdx] at hd
    cases q : ds[i]? with
    | none => rw [q] at hd; cases hd
    | some d1 =>
      rw [q] at hd
      simp at hd
      subst hd
      obtain ⟨v, hv, rv⟩ := r.get q
      have e1 := f1 xs (SqT.of (eN _ _ (eL _ _ h)))
      rw [hv] at e1
      cases e1
      have F := Fr.made (M := []) (o := .tup [.int (i : Nat), x1]) eN nT
      exact ⟨_, F, .tup upd_same (.cons (.int _) (.cons ((rv.mono eL).mono F.sml) .nil))⟩
theorem src_enumT {ta : TA} (h : EA ta ρ [.tup ds]) : Src (iEnumT K ta) ρ (enumD ds) := fun σ N H S e R k => h σ N H S e _ fun vs N1 H1 f r => by
  obtain ⟨v, rfl, h1⟩ := r.one
  obtain ⟨a, xs, rfl, g1, r1⟩ := h1.inv_tup
  exact ⟨a, xs, rfl, SqT.of (f.sub _ _ g1), k _ N1 H1 f (srv_enumT g1 r1)⟩
end
section
variable {c : Ctx} {Ps : List (Addr × D)} {ρ ρ' : List Sl} {σ : St} {H : Hp} {De : Ends} {te : TE} {t : TA} {d : D} {tz : TS} {R : D → List (Addr × D) → Prop} {RA : List D → List (Addr × D) → Prop} {K : PySem.W.Frag}
theorem eba1 (h : EB te Ps ρ R) : EBA (tCons te tNil) Ps ρ (fun ds P => ∃ d, ds = [d] ∧ R d P) := fun c σ H a Q k =>
  h c σ H a _ fun v d P L H1 hR r a1 => k [v] [d] P L H1 ⟨d, rfl, hR⟩ (.cons r .nil) a1
theorem eba_e (h : E te ρ d) (ht : EBA t Ps ρ RA) : EBA (tCons te t) Ps ρ (fun ds P => ∃ r, ds = d :: r ∧ RA r P) := fun c σ H a Q k =>
  a.e h fun v L H1 r a1 => ht _ σ H1 a1 _ fun vs ds P2 L2 H2 hR2 r2 a2 => by
    obtain ⟨N, a2⟩ := a2
    exact k (v :: vs) (d :: ds) P2 N H2 ⟨ds, rfl, hR2⟩ (.cons (r.mono (a2.ls L (by simp))) (r2.mono (a2.ls L2 (by simp)))) ⟨N, (a2.unext.unext).ext (Ex.refl N)⟩
theorem eba_ev (w : Vw Ps ρ ρ') (h : E te ρ' d) (hf : fz d = true) (ht : EBA t Ps ρ RA) : EBA (tCons te t) Ps ρ (fun ds P => ∃ r, ds = d :: r ∧ RA r P) := fun c σ H a Q k =>
  a.ev w h hf fun v L H1 r a1 => ht _ σ H1 a1 _ fun vs ds P2 L2 H2 hR2 r2 a2 => by
    obtain ⟨N, a2⟩ := a2
    exact k (v :: vs) (d :: ds) P2 N H2 ⟨ds, rfl, hR2⟩ (.cons (r.mono (a2.ls L (by simp))) (r2.mono (a2.ls L2 (by simp)))) ⟨N, (a2.unext.unext).ext (Ex.refl N)⟩
theorem eba_mono {RA' : List D → List (Addr × D) → Prop} (h : EBA t Ps ρ RA) (hr : ∀ d P, RA d P → RA' d P) : EBA t Ps ρ RA' := fun c σ H a Q k => h c σ H a Q fun v d P L H' r => k v d P L H' (hr d P r)
/-- a def that draws, its arguments plain -/
theorem eb_callE {i : Nat} {bg : Addr} {ds : List D} {Pre : List D → Prop} {Rf : List D → D → Prop} {EX : XK} (hi : ρ[i]? = some (.val (.ref bg))) (hb : (bg, D.non) ∈ Ps) (h : EA t ρ ds) (hp : Pre ds) :
    EB (tCall (BagSp Pre Rf) [] EX (tCons (tVar i) t)) Ps ρ (fun d P => Rf ds d ∧ P = Ps) :=
  eb_mono (eb_call (RA := fun x P => x = ds ∧ P = Ps) hi (fun _ _ z => by rw [z.2]; exact hb) (eba_ea h) (fun _ _ z => by rw [z.1]; exact hp)) fun d P ⟨x, z, hR⟩ => by
    obtain ⟨rfl, rfl⟩ := z
    exact ⟨hR, rfl⟩
theorem eb_callV {i : Nat} {bg : Addr} {x : D} {Pre : List D → Prop} {Rf : List D → D → Prop} {EX : XK} (hi : ρ[i]? = some (.val (.ref bg))) (hb : (bg, D.non) ∈ Ps) (w : Vw Ps ρ ρ') (h : E te ρ' x) (hf : fz x = true) (hp : Pre [x]) :
    EB (tCall (BagSp Pre Rf) [] EX (tCons (tVar i) (tCons te tNil))) Ps ρ (fun d P => Rf [x] d ∧ P = Ps) :=
  eb_mono (eb_call (RA := fun y P => y = [x] ∧ P = Ps) hi (fun _ _ z => by rw [z.2]; exact hb) (eba_mono (eba1 (eb_ev w h hf)) fun d P ⟨y, z1, z2, z3⟩ => ⟨by rw [z1, z2], z3⟩) (fun _ _ z => by rw [z.1]; exact hp)) fun d P ⟨y, z, hR⟩ => by
    obtain ⟨rfl, rfl⟩ := z
    exact ⟨hR, rfl⟩
theorem eb_tup (h : EBA t Ps ρ RA) (hz : ∀ ds P, RA ds P → ds.length ≤ 100000) : EB (tTup t) Ps ρ (fun d P => ∃ ds, RA ds P ∧ d = .tup ds) := fun c σ H a Q k =>
  h c σ H a _ fun vs ds P L H1 hR r a1 => ⟨by rw [r.length]; exact le_line (hz ds P hR), fun b hb => by
    obtain ⟨N, a1⟩ := a1
    have f := Fr.made (M := []) (o := .tup vs) a1.fr.sub hb
    exact k _ _ P _ _ ⟨ds, hR, rfl⟩ (.tup upd_same ((r.mono (a1.ls L (by simp))).mono f.sml)) ⟨_, (a1.unext.step f).ext (Ex.refl _)⟩⟩
theorem eb_lst (h : EBA t Ps ρ RA) (hz : ∀ ds P, RA ds P → ds.length ≤ 100000) : EB (tLst t) Ps ρ (fun d P => ∃ ds, RA ds P ∧ d = .lst ds) := fun c σ H a Q k =>
  h c σ H a _ fun vs ds P L H1 hR r a1 => ⟨by rw [r.length]; exact le_line (hz ds P hR), fun b hb => by
    obtain ⟨N, a1⟩ := a1
    have f := Fr.made (M := []) (o := .lst vs) a1.fr.sub hb
    exact k _ _ P _ _ ⟨ds, hR, rfl⟩ (.lst upd_same ((r.mono (a1.ls L (by simp))).mono f.sml)) ⟨_, (a1.unext.step f).ext (Ex.refl _)⟩⟩
/-- names.pop(i) -/
theorem eb_popAt {i k : Nat} {p : Addr} {ds : List D} (hi : ρ[i]? = some (.val (.ref p))) (hp : Ps[k]? = some (p, .lst ds)) (ht : EBA t Ps ρ RA)
    (hR : ∀ es P, RA es P → P = Ps ∧ ∃ j : Int, es = [.int j] ∧ 0 ≤ j ∧ j < ds.length) (hl : ds.length ≤ 100000) :
    EB (tBM K "list" rPopAt (tVar i) t) Ps ρ (fun d P => ∃ m, ds[m]? = some d ∧ P = Ps.set k (p, .lst (ds.eraseIdx m))) := fun c σ H a Q kk => by
  obtain ⟨N, a⟩ := a
  have hm : (p, D.lst ds) ∈ Ps := List.mem_of_getElem? hp
  refine ⟨_, a.sg.val i _ hi, ?_, ?_⟩
  · obtain ⟨_, h2, _⟩ := a.ps p _ hm
    rcases h2 with ⟨vs, g1, g2⟩ | ⟨z, _⟩
    · exact .inl ⟨rfl, _, SqL.of g1⟩
    · cases z
  · refine ht c σ H ⟨N, a⟩ _ fun vs es P L H1 hRA r a1 => ?_
    obtain ⟨rfl, j, rfl, j0, j1⟩ := hR es P hRA
    obtain ⟨u, rfl, r1⟩ := r.one
    rw [r1.inv_int]
    obtain ⟨N1, a1⟩ := a1
    obtain ⟨_, h2, _⟩ := a1.ps p _ hm
    rcases h2 with ⟨vs, g1, g2⟩ | ⟨z, _⟩
    · have hlen := g2.length
      obtain ⟨d, hd⟩ : ∃ d, ds[j.toNat]? = some d := ⟨_, List.getElem?_eq_getElem (by omega)⟩
      obtain ⟨y, hy, ry⟩ := g2.get hd
      refine ⟨p, vs, j, j.toNat, y, rfl, rfl, g1, by omega, by omega, seqIndex_of j0 (by omega), hy, ?_⟩
      exact kk y d _ N1 _ ⟨_, hd, rfl⟩ ry ⟨N1, (a1.unext.wrote hp (o := .lst (vs.eraseIdx j.toNat)) (d' := .lst (ds.eraseIdx j.toNat)) (.inl ⟨_, upd_same, g2.eraseIdx _⟩)).ext (Ex.refl N1)⟩
    · cases z
theorem s_appB {i k : Nat} {p : Addr} {ds : List D} (a : At c Ps ρ σ H) (hi : ρ[i]? = some (.val (.ref p))) (hp : (p, D.lst ds) ∈ Ps) (h : EB te Ps ρ R) (hR : ∀ d P, R d P → P[k]? = some (p, .lst ds)) (hz : ds.length ≤ 99999)
    (kk : ∀ d P H', R d P → At c (P.set k (p, .lst (ds ++ [d]))) ρ σ H' → De.nx σ H') : tDrop (tBM K "list" rAppend (tVar i) (tCons te tNil)) De σ H := by
  obtain ⟨N, a⟩ := a
  refine ⟨_, a.sg.val i _ hi, ?_, ?_⟩
  · obtain ⟨_, h2, _⟩ := a.ps p _ hp
    rcases h2 with ⟨vs, g1, g2⟩ | ⟨z, _⟩
    · exact .inl ⟨rfl, _, SqL.of g1⟩
    · cases z
  · refine h c σ H ⟨N, a⟩ _ fun v d P L H1 hRd r a1 => ?_
    have hk := hR d P hRd
    obtain ⟨N1, a1⟩ := a1
    obtain ⟨_, h2, _⟩ := a1.ps p _ (List.mem_of_getElem? hk)
    rcases h2 with ⟨vs, g1, g2⟩ | ⟨z, _⟩
    · refine ⟨p, vs, v, rfl, rfl, g1, lt_line (by rw [g2.length]; omega), kk d P _ hRd ⟨N1, a1.unext.wrote hk (.inl ⟨_, upd_same, g2.append (.cons (r.mono (a1.ls L (by simp))) .nil)⟩)⟩⟩
    · cases z
theorem s_whenB {tt : TT} {tu : TS} {R' : Bool → List (Addr × D) → Prop} (a : At c Ps ρ σ H) (h : ETB tt Ps ρ R') (h1 : ∀ P H', R' true P → At c P ρ σ H' → tu De σ H') (h2 : ∀ P H', R' false P → At c P ρ σ H' → De.nx σ H') : tIfS tt tu tNext De σ H := s_ifB a h h1 h2
end
section
variable {K : PySem.W.Frag} {ρ : List Sl} {ta tb : TE} {ds : List D} {d : D} {i : Int}
theorem r2d_ixL (h : atI ds i = some d) : R2D (rIx K) (.lst ds) (.int i) d := fun x y N H e rx ry Q k => by
  obtain ⟨p, xs, rfl, h1, r1⟩ := rx.inv_lst
  obtain ⟨v, hv, rv⟩ := atI_rel r1 h
  exact .inl ⟨p, xs, i, v, rfl, ry.inv_int, SqL.of (e _ _ h1), hv, k _ N H (Fr.refl e) rv⟩
theorem r2d_ixT (h : atI ds i = some d) : R2D (rIx K) (.tup ds) (.int i) d := fun x y N H e rx ry Q k => by
  obtain ⟨p, xs, rfl, h1, r1⟩ := rx.inv_tup
  obtain ⟨v, hv, rv⟩ := atI_rel r1 h
  exact .inr (.inl ⟨p, xs, i, v, rfl, ry.inv_int, SqT.of (e _ _ h1), hv, k _ N H (Fr.refl e) rv⟩)
end

section
variable {X : Cx}
def tTupF (t : TA) : TE := fun σ H Q => t σ H fun xs H1 => xs.length ≤ sizeLine ∧ ∀ b o, H1 b = none → o.dict = none → Q (.ref b) (upd H1 b (.frz o (.tup xs)))
theorem pe_tupF {es : List Expr} {t : TA} {pos : Pos} {x1 : Nat} (h : PA X es t) : PE X (.Tuple es x1 pos) (tTupF t) := by
  refine ⟨fun pins s σ H Q I hq => ?_⟩
  refine wpAny_Tuple_spliced (thn (h.run pos pins s σ H _ I hq) fun us s1 ⟨xs, H1, I1, r, z, q⟩ => ⟨by rw [← r.length]; exact z, ?_⟩)
  have hf : H1 s1.heap.objs.size = none := I1.hok.fresh (Nat.le_refl _)
  have at1 := Heap.get?_push_size s1.heap (o := { cls := .type "tuple", data := .seq us.toArray }) rfl
  exact ⟨.ref s1.heap.objs.size, _, I1.laid (t' := s1.toks) (o := .frz { cls := .type "tuple", data := .seq us.toArray } (.tup xs)) (fun b u e => Heap.get?_push_of_some _ e) (Nat.le_refl _) ⟨at1, z, us, r, ⟨_, at1, rfl, _, rfl⟩⟩, rfl, q _ _ hf rfl⟩
def rCatF (K : PySem.W.Frag) : R2 := fun x y H Q => ∃ a b xs ys, x = .ref a ∧ y = .ref b ∧ SqT K H a xs ∧ SqT K H b ys ∧ xs.length + ys.length ≤ sizeLine ∧
  (xs = [] → Q (.ref b) H) ∧ (xs ≠ [] → ys = [] → Q (.ref a) H) ∧ (xs ≠ [] → ys ≠ [] → ∀ p o, H p = none → o.dict = none → Q (.ref p) (upd H p (.frz o (.tup (xs ++ ys)))))
theorem op_catF (K : PySem.W.Frag) (hK : X.K = K := by rfl) : OpR X (binaryOp .Add) (rCatF K) := by
  subst hK
  intro pins s σ H x y v u Q I rx ry h
  obtain ⟨a, b, xs, ys, rfl, rfl, ha, hb, hz, q0, q1, q2⟩ := h
  cases rx
  cases ry
  obtain ⟨its, r1, p1, _⟩ := I.tuple ha
  obtain ⟨its2, r2, p2, _⟩ := I.tuple hb
  by_cases hx : xs = []
  · subst hx
    cases r1
    exact cat_tup0 p1 p2 ⟨.ref b, H, I, rfl, q0 rfl⟩
  · refine HT.cat_tup p1 p2 (fun z => hx (r1.nil_iff.mp z)) (fun z => ⟨.ref a, H, I, rfl, q1 hx (r2.nil_iff.mp z)⟩) (fun z => ?_) (by rw [← r1.length, ← r2.length]; exact hz)
    have at1 := Heap.get?_push_size s.heap (o := { cls := .type "tuple", data := .seq (its ++ its2).toArray }) rfl
    refine ⟨.ref s.heap.objs.size, _, I.laid (t' := s.toks) (o := .frz { cls := .type "tuple", data := .seq (its ++ its2).toArray } (.tup (xs ++ ys))) (fun b ob q => Heap.get?_push_of_some _ q) (Nat.le_refl _) ?_, rfl, q2 hx (fun w => z (r2.nil_iff.mpr w)) _ _ (I.hok.fresh (Nat.le_refl _)) rfl⟩
    exact ⟨at1, by rw [List.length_append]; exact hz, _, r1.append r2, ⟨_, at1, rfl, _, rfl⟩⟩
def rSlF (K : PySem.W.Frag) : V → Option Int → Option Int → Hp → VK → Prop := fun x lo hi H Q => ∃ a xs, x = .ref a ∧ SqT K H a xs ∧
  (HT.sIx xs.length 0 lo = 0 ∧ HT.sIx xs.length xs.length hi = xs.length → Q (.ref a) H) ∧ (¬ (HT.sIx xs.length 0 lo = 0 ∧ HT.sIx xs.length xs.length hi = xs.length) → ∀ p o, H p = none → o.dict = none → Q (.ref p) (upd H p (.frz o (.tup (cutV xs lo hi)))))
theorem sl_tupF (K : PySem.W.Frag) (hK : X.K = K := by rfl) : SlR X (rSlF K) := by
  subst hK
  intro pins s σ H x v vl vu lo hi sl Q I rx hs pl pu h
  obtain ⟨a, xs, rfl, hx, q1, q2⟩ := h
  cases rx
  obtain ⟨its, r, ht, hz⟩ := I.tuple hx
  have hlen : its.toArray.size = xs.length := by rw [List.size_toArray]; exact r.length.symm
  refine ⟨"tuple", _, PyProof.Rows.slot_tuple_getitem.lookup, ht.typeIs, ?_⟩
  by_cases hw : HT.sIx xs.length 0 lo = 0 ∧ HT.sIx xs.length xs.length hi = xs.length
  · exact getItem_tuple_whole ht hs pl pu (by rw [hlen]; exact hw) ⟨.ref a, H, I, rfl, q1 hw⟩
  · refine HT.getItem_tuple_cut ht hs pl pu (by rw [hlen]; exact hw) ?_ (by rw [hlen]; exact hz)
    rw [hlen]
    have r2 := (r.drop (HT.sIx xs.length 0 lo)).take (HT.sIx xs.length xs.length hi - HT.sIx xs.length 0 lo)
    have at1 := Heap.get?_push_size s.heap (o := { cls := .type "tuple", data := .seq ((its.drop (HT.sIx xs.length 0 lo)).take (HT.sIx xs.length xs.length hi - HT.sIx xs.length 0 lo)).toArray }) rfl
    refine ⟨.ref s.heap.objs.size, _, I.laid (t' := s.toks) (o := .frz { cls := .type "tuple", data := .seq ((its.drop (HT.sIx xs.length 0 lo)).take (HT.sIx xs.length xs.length hi - HT.sIx xs.length 0 lo)).toArray } (.tup (cutV xs lo hi))) (fun b ob q => Heap.get?_push_of_some _ q) (Nat.le_refl _) ?_, rfl, q2 hw _ _ (I.hok.fresh (Nat.le_refl _)) rfl⟩
    exact ⟨at1, Nat.le_trans (cutV_length xs lo hi) hz, _, r2, ⟨_, at1, rfl, _, rfl⟩⟩
/-- a method of a tuple whose object is known -/
def tBMF (r : V → List V → Hp → VK → Prop) (to : TE) (t : TA) : TE := fun σ H Q => to σ H fun x H1 => (∃ p o ys, x = .ref p ∧ H1 p = some (.frz o (.tup ys)) ∧ o.dict = none) ∧ t σ H1 fun xs H2 => r x xs H2 Q
theorem pe_bmF {o e : Expr} {es : List Expr} {to : TE} {t : TA} {name : Str} {apos cpos : Pos} {id : String} {r : V → List V → Hp → VK → Prop} (pa : PlainAttrs "tuple") (slot : Slot "tuple" name id) (hty : typeOf (.builtin id) = pure (.type "method_descriptor")) (hm : MtR X id r) (ho : PE X o to) (ha : PA X (e :: es) t)
    (hbase : attributeBase o name X.env (eval o X.env) = eval o X.env := by rfl)
    (hfew : ((backTo cpos (starEach (e :: es) X.env)).all (fun x => !x.1) && (backToKw cpos (keywordEach [] X.env)).all (fun x => x.1.isSome)
      && decide ((e :: es).length + ([] : List Keyword).length + (if ([] : List Keyword).isEmpty then 0 else 1) < 30)) = true := by rfl)
    (hline : (apos.endLine == cpos.line) = true := by rfl) (hs : starEach (e :: es) X.env = (false, eval e X.env) :: starEach es X.env := by rfl) (hplain : (backTo cpos (starEach es X.env)).any (·.1) = false := by rfl) :
    PE X (.Call (.Attribute o name apos) (e :: es) [] cpos) (tBMF r to t) := by
  refine ⟨fun pins s σ H Q I h => ?_⟩
  refine wpAny_Call_method_late hbase hfew hline rfl (thn (ho.run pins s σ H _ I h) fun v s1 ⟨x, H1, I1, r1, ty, q1⟩ => ?_)
  obtain ⟨p, ob, ys, rfl, hp, hd⟩ := ty
  cases r1
  obtain ⟨g1, _, its, _, gt⟩ := I1.hok p _ hp
  refine ⟨"tuple", id, pa, slot, hty, gt.typeIs, fun a ea => ?_, ?_⟩
  · cases ea
    exact ⟨ob, g1, hd⟩
  · have hA := ha.run cpos pins s1 σ H1 _ I1 q1
    rw [hs] at hA ⊢
    refine Calls.callWith_builtin (by show (false || (backTo cpos (starEach es X.env)).any (·.1)) = false; rw [hplain] <;> rfl) (Calls.evalArgs_plain ?_)
    exact thn hA fun us s2 ⟨vs, H2, I2, r2, q2⟩ => hm pins s2 σ H2 (.ref p) vs _ us Q I2 rfl r2 q2
end
section
variable {K : PySem.W.Frag} {ρ : List Sl} {te ta tb : TE} {t : TA} {ds es : List D} {d : D} {i : Int} {fl : Bool}
theorem SqF {H : Hp} {a : Addr} {o : Obj} {xs : List V} (h : H a = some (.frz o (.tup xs))) : SqT K H a xs := .inl (.inr ⟨o, h⟩)
theorem Rp.inv_tF {N : Hp} {v : V} (r : Rp N v (tupF fl ds)) : ∃ a xs, v = .ref a ∧ (∀ H, Ex N H → SqT K H a xs) ∧ Rps N xs ds := by
  cases fl with
  | true =>
    obtain ⟨a, o, xs, rfl, _, h1, r1⟩ := Rp.inv_ftup r
    exact ⟨a, xs, rfl, fun H e => SqF (e _ _ h1), r1⟩
  | false =>
    obtain ⟨a, xs, rfl, h1, r1⟩ := Rp.inv_tup r
    exact ⟨a, xs, rfl, fun H e => SqT.of (e _ _ h1), r1⟩
theorem e_tupD (h : EA t ρ ds) (hz : ds.length ≤ 100000 := by first | decide | simp) : E (tTupF t) ρ (.ftup ds) := fun σ N H S e Q k =>
  h σ N H S e _ fun vs N1 H1 f r => ⟨by rw [r.length]; exact le_line hz, fun b o hb ho => k _ _ _ (f.trans (Fr.made f.sub hb)) (.ftup ho upd_same (r.mono (Fr.made (M := []) f.sub hb).sml))⟩
theorem e_addF {f1 f2 : Bool} (h1 : f1 = true) (h2 : f2 = true) (ha : E ta ρ (tupF f1 ds)) (hb : E tb ρ (tupF f2 es)) (hz : ds.length + es.length ≤ 100000) : E (tOp (rCatF K) ta tb) ρ (.ftup (ds ++ es)) := by
  subst h1 h2
  refine e_op ha hb fun x y N H e rx ry Q k => ?_
  obtain ⟨a, xs, rfl, g1, r1⟩ := Rp.inv_tF (K := K) rx
  obtain ⟨b, ys, rfl, g2, r2⟩ := Rp.inv_tF (K := K) ry
  refine ⟨a, b, xs, ys, rfl, rfl, g1 H e, g2 H e, by rw [r1.length, r2.length]; exact le_line hz, fun z => ?_, fun z z2 => ?_, fun z z2 p o hp ho => ?_⟩
  · have : ds = [] := r1.nil_iff.mp z
    subst this
    exact k _ N H (Fr.refl e) ry
  · have : es = [] := r2.nil_iff.mp z2
    subst this
    rw [List.append_nil] at k
    exact k _ N H (Fr.refl e) rx
  · exact k _ _ _ (Fr.made e hp) (.ftup ho upd_same ((r1.append r2).mono (Fr.made (M := []) e hp).sml))
theorem e_slF {tl th : TO} {lo hi : Option Int} (h : E te ρ (.ftup ds)) (hl : EO tl ρ lo) (hh : EO th ρ hi) : E (tSl (rSlF K) te tl th) ρ (.ftup (cutL ds lo hi)) := fun σ N H S e Q k =>
  h σ N H S e _ fun v N1 H1 f1 r1 => hl σ N1 H1 (S.mono f1.sml) f1.sub _ fun N2 H2 f2 => hh σ N2 H2 ((S.mono f1.sml).mono f2.sml) f2.sub _ fun N3 H3 f3 => by
    have r3 := (r1.mono f2.sml).mono f3.sml
    obtain ⟨a, o, xs, rfl, ho, g1, g2⟩ := r3.inv_ftup
    refine ⟨a, xs, rfl, SqF (f3.sub _ _ g1), fun z => ?_, fun z p o hp ho => ?_⟩
    · refine k _ N3 H3 ((f1.trans f2).trans f3) ?_
      have : cutL ds lo hi = ds := by
        unfold cutL
        rw [← g2.length, z.1, z.2, g2.length]
        simp
      rw [this]; exact r3
    · refine k _ _ _ (((f1.trans f2).trans f3).trans (Fr.made f3.sub hp)) (.ftup ho upd_same ?_)
      have : Rps N3 (cutV xs lo hi) (cutL ds lo hi) := by
        unfold cutV cutL
        rw [g2.length]
        exact (g2.drop _).take _
      exact this.mono (Fr.made (M := []) f3.sub hp).sml
theorem e_lenF (h : E ta ρ (.ftup ds)) : E (tCB (rLenU K) (tCons ta tNil)) ρ (.int (ds.length : Int)) := e_call (ea1 h) fun xs N H e r Q k => by
  obtain ⟨v, rfl, h1⟩ := r.one
  obtain ⟨a, o, ys, rfl, _, g1, g2⟩ := h1.inv_ftup
  refine ⟨.ref a, ys.length, rfl, .inr ⟨_, SqF (e _ _ g1), rfl⟩, ?_⟩
  rw [g2.length]
  exact k _ N H (Fr.refl e) (.int _)
theorem e_ixF (ha : E ta ρ (.ftup ds)) (hb : E tb ρ (.int i)) (h : atI ds i = some d) : E (tOp (rIx K) ta tb) ρ d := e_op ha hb fun x y N H e rx ry Q k => by
  obtain ⟨a, o, xs, rfl, _, h1, r1⟩ := rx.inv_ftup
  obtain ⟨v, hv, rv⟩ := atI_rel r1 h
  exact .inr (.inl ⟨a, xs, i, v, rfl, ry.inv_int, SqF (e _ _ h1), hv, k _ N H (Fr.refl e) rv⟩)
theorem e_inF (ha : E ta ρ d) (hb : E tb ρ (.ftup ds)) (fa : flatD d = true) (fd : ds.all flatD = true) : E (tOp (uIn K) ta tb) ρ (.bl (ds.any fun z => eqD z d)) := e_op ha hb fun x y N H e rx ry Q k => by
  obtain ⟨p, o, xs, rfl, _, h1, r1⟩ := ry.inv_ftup
  refine .inr ⟨p, xs, rfl, .inr (SqF (e _ _ h1)), rx.flat fa, r1.flat fd, ?_⟩
  rw [if_neg Bool.false_ne_true, inV_D rx fa r1 fd]
  exact k _ N H (Fr.refl e) (.bl _)
/-- p.index(n) -/
theorem e_indexF {p : List Str} {n : Str} (ha : E ta ρ (.ftup (p.map .str))) (hb : E tb ρ (.str n)) (hn : n ∈ p) : E (tBMF (fun x xs H Q => ∃ p, ∃ ys : List Str, ∃ z j, x = .ref p ∧ xs = [.str z] ∧ SqT K H p (ys.map V.str) ∧ ys[j]? = some z ∧ (∀ m, m < j → ys[m]? ≠ some z) ∧ Q (.int (j : Nat)) H) ta (tCons tb tNil)) ρ (.int ((p.idxOf n : Nat) : Int)) := fun σ N H S e Q k =>
  ha σ N H S e _ fun x N1 H1 f1 r1 => by
    obtain ⟨a, o, xs, rfl, ho, g1, g2⟩ := r1.inv_ftup
    rw [g2.strs] at g1
    refine ⟨⟨a, o, _, rfl, f1.sub _ _ g1, ho⟩, ?_⟩
    refine ea1 hb σ N1 H1 (S.mono f1.sml) f1.sub _ fun ys N2 H2 f2 r2 => ?_
    obtain ⟨y, rfl, ry⟩ := r2.one
    rw [ry.inv_str]
    have hlt := List.idxOf_lt_length_iff.mpr hn
    refine ⟨a, p, n, p.idxOf n, rfl, rfl, SqF (f2.sub _ _ (f2.sml _ _ g1)), ?_, fun m hm z => ?_, k _ N2 H2 (f1.trans f2) (.int _)⟩
    · rw [List.getElem?_eq_getElem hlt, List.getElem_idxOf]
    · have := List.not_of_lt_findIdx (p := (· == n)) (xs := p) (i := m) hm
      rw [List.getElem?_eq_getElem (by omega)] at z
      have e := Option.some.inj z
      simp [e] at this
end

theorem Sg.consP {N : Hp} {σ : St} {ρ : List Sl} {v : V} {P : Hp → V → Prop} {m : ∀ N N' v, Ex N N' → P N v → P N' v} (S : Sg N σ ρ) (h : P N v) : Sg N (some v :: σ) (.prd P m :: ρ) := by
  refine ⟨by simp [S.len], fun i w e => ?_, fun i d e => ?_, fun i P' m' e => ?_⟩
  · cases i with
    | zero => simp at e
    | succ i => exact S.val i w (by simpa using e)
  · cases i with
    | zero => simp at e
    | succ i => exact S.dat i d (by simpa using e)
  · cases i with
    | zero =>
      simp at e
      obtain ⟨rfl, _⟩ := e
      exact ⟨v, rfl, h⟩
    | succ i => exact S.prd i P' m' (by simpa using e)
theorem Sg.startS {K : PySem.W.Frag} {N : Hp} {names : List Str} {a : Addr} {ns : List Int} {vs : List V} {ds : List D} (h : SqL K N a (ns.map V.int)) (r : Rps N vs ds) :
    Sg N (L2.start names (.ref a :: vs)) (scr K ns :: (ds.map .dat ++ List.replicate (names.length - (ds.length + 1)) .no)) := by
  have S := Sg.start (N := N) (names := names.tail) r
  have hl := r.length
  have e1 : L2.start names (.ref a :: vs) = some (.ref a) :: L2.start names.tail vs := by
    unfold L2.start
    simp [Nat.sub_sub, Nat.add_comm]
  have e2 : names.length - (ds.length + 1) = names.tail.length - vs.length := by
    simp [hl]
    omega
  rw [e1, e2]
  exact Sg.consP S ⟨a, rfl, h⟩
/-- a def of the script and a number that makes a bag -/
def NewBag (K : PySem.W.Frag) : Sp := fun vs H Q _ => ∃ (N : Hp) (a : Addr) (ns : List Int) (k : Int), vs = [.ref a, .int k] ∧ Ex N H ∧ SqL K N a (ns.map V.int) ∧ 0 ≤ k ∧ k ≤ 100 ∧ ∀ p N' H', Fr [] N H N' H' → H p = none → N' p = none → Co N' H' p .non → Q (.ref p) H'
/-- the law's own promise -/
def LawSp (K : PySem.W.Frag) : Sp := fun vs H Q _ => ∃ (a : Addr) (ns : List Int), vs = [.ref a] ∧ SqL K H a (ns.map V.int) ∧ ns.length ≤ 63 ∧ ∀ H', Q (.bl true) H'
section
variable {P : Program} {w : World} {K : PySem.W.Frag} {mg : Str → Option Value} {base : Heap}
theorem fn_new {x qual : Str} {st : Stmt} {f : Addr} {fd : FuncData} {N ps : List Str} {k : Nat} (F : Fun K x qual st f fd) (S : FnScope N ps (defScope st)) (len : 2 = ps.length)
    (hb : ∀ (cdv : Value) (A : Around) (outer : List Env) (s : Shared) (H : Hp) (E : XK), Room k (A.deeper (envOfC qual (defScope st) s.heap.objs.size f cdv)) →
      ∃ t, PSs (cxOf CX0 P w K mg base N qual (defScope st) f cdv A outer s H E).nox (defBody st) t ∧ ∀ (ns : List Int) (j : Int), 0 ≤ j → j ≤ 100 → ∀ N0 H σ (Q : VK), At ⟨[], N0, H, []⟩ [] (scr K ns :: .dat (.int j) :: List.replicate (N.length - 2) .no) σ H →
        (∀ p N' H', Fr [] N0 H N' H' → H p = none → N' p = none → Co N' H' p .non → Q (.ref p) H') → t { nx := fun _ H' => Q .non H', rt := Q } σ H) : FnOk P w K mg base CX0 (k + 1) f fd ps (NewBag K) := by
  refine F.ok S (fun vs H Q E h => ?_) (fun cdv A outer s H vs Q E hr h => ?_)
  · obtain ⟨N, a, ns, j, rfl, _⟩ := h
    exact len
  · obtain ⟨Nn, a, ns, j, rfl, e, hs, j0, j1, q⟩ := h
    obtain ⟨t, ht, hq⟩ := hb cdv A outer s H E hr
    refine ⟨t, ht, hq ns j j0 j1 Nn H _ Q ⟨Nn, Fr.refl e, ?_, by simp, by simp, by simp⟩ q⟩
    exact Sg.startS (ds := [.int j]) hs (.cons (.int j) .nil)
theorem fn_law {x qual : Str} {st : Stmt} {f : Addr} {fd : FuncData} {N ps : List Str} {k : Nat} (F : Fun K x qual st f fd) (S : FnScope N ps (defScope st)) (len : 1 = ps.length)
    (hb : ∀ (cdv : Value) (A : Around) (outer : List Env) (s : Shared) (H : Hp) (E : XK), Room k (A.deeper (envOfC qual (defScope st) s.heap.objs.size f cdv)) →
      ∃ t, PSs (cxOf CX0 P w K mg base N qual (defScope st) f cdv A outer s H E).nox (defBody st) t ∧ ∀ (ns : List Int), ns.length ≤ 63 → ∀ N0 H σ (Q : VK), At ⟨[], N0, H, []⟩ [] (scr K ns :: List.replicate (N.length - 1) .no) σ H →
        (∀ H', Q (.bl true) H') → t { nx := fun _ H' => Q .non H', rt := Q } σ H) : FnOk P w K mg base CX0 (k + 1) f fd ps (LawSp K) := by
  refine F.ok S (fun vs H Q E h => ?_) (fun cdv A outer s H vs Q E hr h => ?_)
  · obtain ⟨a, ns, rfl, _⟩ := h
    exact len
  · obtain ⟨a, ns, rfl, hs, hl, q⟩ := h
    obtain ⟨t, ht, hq⟩ := hb cdv A outer s H E hr
    refine ⟨t, ht, hq ns hl H H _ Q ⟨H, Fr.refl (Ex.refl H), ?_, by simp, by simp, by simp⟩ q⟩
    exact Sg.startS (ds := []) hs .nil
end
section
variable {K : PySem.W.Frag} {c : Ctx} {Ps : List (Addr × D)} {ρ : List Sl} {σ : St} {H : Hp} {De : Ends} {te ta tb : TE} {tz : TS} {i j : Nat} {ns : List Int} {k : Int}
/-- bag = _law_bag(script, k) -/
theorem q_asgBag {EX : XK} (a : At c Ps ρ σ H) (hi : ρ[i]? = some (scr K ns)) (h : E ta ρ (.int k)) (k0 : 0 ≤ k) (k1 : k ≤ 100)
    (kk : ∀ p σ' H', At c ((p, .non) :: Ps) (ρ.set j (.val (.ref p))) σ' H' → tz De σ' H') : tSeq (tAsg (tCall (NewBag K) [] EX (tCons (tVar i) (tCons ta tNil))) (gName j)) tz De σ H := by
  obtain ⟨N, a⟩ := a
  obtain ⟨v, h1, b, rfl, h2⟩ := a.sg.prd i _ _ hi
  refine ⟨_, h1, ea1 h σ N H a.sg a.fr.sub _ fun vs N1 H1 f1 r1 => ?_⟩
  obtain ⟨u, rfl, ru⟩ := r1.one
  rw [ru.inv_int]
  have a1 := a.step f1
  refine ⟨N1, b, ns, k, rfl, a1.fr.sub, SqL.mono f1.sml h2, k0, k1, fun p N' H' f hp hN ct => kk p _ _ ?_⟩
  have a' := a1.step f
  refine At.setV (Ps := (p, .non) :: Ps) ⟨N', a'.fr, a'.sg, a'.ls, fun q e hq => ?_, ?_⟩ j
  · rcases List.mem_cons.mp hq with z | z
    · cases z
      refine ⟨hN, ct, .inr ?_⟩
      cases z : c.H p with
      | none => rfl
      | some o => exact absurd hp (a1.fr.dom p (some_ne z))
    · exact a'.ps q e z
  · rw [List.map_cons, List.nodup_cons]
    refine ⟨fun z => ?_, a.nd⟩
    obtain ⟨d', hd⟩ := of_inP z
    exact (a1.ps p d' hd).2.1.some hp
/-- the end of a def that makes a bag -/
theorem s_retBag {t : TA} {x y : Int} {Q : VK} {N0 H0 : Hp} (hD : De.rt = Q) (a : At ⟨[], N0, H0, []⟩ [] ρ σ H) (h : EA t ρ [.int x, .int y]) (k : ∀ p N' H', Fr [] N0 H0 N' H' → H0 p = none → N' p = none → Co N' H' p .non → Q (.ref p) H') : tRet (tLst t) De σ H := by
  obtain ⟨N, a⟩ := a
  refine h σ N H a.sg a.fr.sub _ fun vs N1 H1 f1 r1 => ⟨by rw [r1.length]; exact le_line (by simp), fun p hp => ?_⟩
  obtain ⟨u, v, rfl, ru, rv⟩ := r1.two
  rw [ru.inv_int, rv.inv_int, hD]
  have f := a.fr.trans (f1.wider (by simp))
  have h0 : H0 p = none := by
    cases z : H0 p with
    | none => rfl
    | some o => exact absurd hp (f.dom p (some_ne z))
  exact k p N1 _ (f.trans (Fr.laid f.sub hp)) h0 (none_of_ex f.sub hp) (.inr ⟨rfl, x, y, upd_same⟩)
theorem e_isB {p q : Bool} (ha : E ta ρ (.bl p)) (hb : E tb ρ (.bl q)) : E (tOp rIsB ta tb) ρ (.bl (decide (p = q))) := e_op ha hb fun x y N H e rx ry Q k =>
  ⟨p, q, rx.inv_bl, ry.inv_bl, k _ N H (Fr.refl e) (.bl _)⟩
end


/-- fl: whether the object of the rows is known -/
structure Book where
  fin : Int
  laid : List (Int × Str)
  fl : Bool
inductive Sight where
  | above (t : Int) (n : Str) (m : Int)
  | high (t m : Int)
  | least (t m : Int)
  | most (t m : Int)
  deriving DecidableEq
inductive Fact where
  | laid (t : Int) | took (t : Int) | floor (t : Int)
  | there (a t : Int) | over (a : Int) | under (a : Int) | most (a : Int) | least (a : Int)
  deriving DecidableEq
def encRow (r : Int × Str) : D := .tup [.int r.1, .str r.2]
def encBook (b : Book) : D := .tup [.int b.fin, tupF b.fl (b.laid.map encRow)]
def encSight : Sight → D
  | .above t n m => .tup [.str "above", .int t, .str n, .int m]
  | .high t m => .tup [.str "high", .int t, .int m]
  | .least t m => .tup [.str "least", .int t, .int m]
  | .most t m => .tup [.str "most", .int t, .int m]
def encSights (ss : List Sight) : D := .tup (ss.map encSight)
def encFact : Fact → D
  | .laid t => .tup [.str "laid", .int t]
  | .took t => .tup [.str "took", .int t]
  | .floor t => .tup [.str "floor", .int t]
  | .there a t => .tup [.str "there", .int a, .int t]
  | .over a => .tup [.str "over", .int a]
  | .under a => .tup [.str "under", .int a]
  | .most a => .tup [.str "most", .int a]
  | .least a => .tup [.str "least", .int a]
def encON : Option Str → D
  | none => .non
  | some n => .str n
def encOI : Option Int → D
  | none => .non
  | some n => .int n

def nameOk (n : Str) : Prop := okD (.str n) = true
structure WB (b : Book) : Prop where
  lo : 0 ≤ b.fin
  hi : b.fin ≤ 20
  few : b.laid.length ≤ 10
  inn : ∀ r ∈ b.laid, 0 ≤ r.1 ∧ r.1 ≤ b.fin
  ris : b.laid.Pairwise fun r q => r.1 < q.1
  dif : b.laid.Pairwise fun r q => r.2 ≠ q.2
  nam : ∀ r ∈ b.laid, nameOk r.2
def ownTick (b : Book) (n : Str) : Option Int := ((b.laid.filter fun r => decide (r.2 = n)).map (·.1)).head?
def ownT (b : Book) (n : Str) : Int := (ownTick b n).getD 0
def nameAt (b : Book) (t : Int) : Option Str := (b.laid.find? fun r => decide (r.1 = t)).map (·.2)
def laidAt (b : Book) : List (Option Str) := (List.range (b.fin + 1).toNat).map fun i => nameAt b (i : Nat)
def laidN (b : Book) (t : Int) : Int := if (nameAt b t).isSome then 1 else 0
def Sight.tick : Sight → Int
  | .above t _ _ => t
  | .high t _ => t
  | .least t _ => t
  | .most t _ => t
def Sight.many : Sight → Int
  | .above _ _ m => m
  | .high _ m => m
  | .least _ m => m
  | .most _ m => m
structure WS1 (b : Book) (s : Sight) : Prop where
  lo : 0 ≤ s.tick
  hi : s.tick ≤ b.fin
  mlo : 0 ≤ s.many
  mhi : s.many ≤ 10
  own : ∀ t n m, s = .above t n m → nameOk n ∧ ∃ o, ownTick b n = some o ∧ o ≤ t
structure WS (b : Book) (ss : List Sight) : Prop where
  few : ss.length ≤ 6
  all : ∀ s ∈ ss, WS1 b s
abbrev Con := Int × Int × Int
/-- the fact can be read -/
def FOk (b : Book) (ss : List Sight) : Fact → Prop
  | .laid t => 0 ≤ t ∧ t ≤ b.fin
  | .took t => 0 ≤ t ∧ t ≤ b.fin
  | .floor t => 0 ≤ t ∧ t ≤ b.fin
  | .there a t => ∃ (j : Nat) (u : Int) (n : Str) (m : Int), a = (j : Nat) ∧ ss[j]? = some (.above u n m) ∧ ownT b n + 1 ≤ t ∧ t ≤ u
  | .over a => ∃ (j : Nat) (u : Int) (n : Str) (m : Int), a = (j : Nat) ∧ ss[j]? = some (.above u n m)
  | .under a => ∃ (j : Nat) (u : Int) (n : Str) (m : Int), a = (j : Nat) ∧ ss[j]? = some (.above u n m)
  | .most a => ∃ (j : Nat) (t m : Int), a = (j : Nat) ∧ (ss[j]? = some (.high t m) ∨ ss[j]? = some (.most t m))
  | .least a => ∃ (j : Nat) (t m : Int), a = (j : Nat) ∧ (ss[j]? = some (.high t m) ∨ ss[j]? = some (.least t m))
/-- what a fact says -/
def con (b : Book) (ss : List Sight) : Fact → Con
  | .laid t => (t, t - 1, laidN b t)
  | .took t => (t - 1, t, 1 - laidN b t)
  | .floor t => (-1, t, 0 - laidN b t)
  | .there a t => match ss[a.toNat]? with
    | some (.above _ n _) => (ownT b n, t, 0 - laidN b t)
    | _ => (0, 0, 0)
  | .over a => match ss[a.toNat]? with
    | some (.above u n m) => (u, ownT b n, m)
    | _ => (0, 0, 0)
  | .under a => match ss[a.toNat]? with
    | some (.above u n m) => (ownT b n, u, 0 - m)
    | _ => (0, 0, 0)
  | .most a => match ss[a.toNat]? with
    | some s => (s.tick, -1, s.many)
    | _ => (0, 0, 0)
  | .least a => match ss[a.toNat]? with
    | some s => (-1, s.tick, 0 - s.many)
    | _ => (0, 0, 0)
def factsOfSight (b : Book) (s : Sight) (a : Int) : List Fact := match s with
  | .above u n _ => ((List.range (u - ownT b n).toNat).map fun i => .there a (ownT b n + 1 + (i : Nat))) ++ [.over a, .under a]
  | .high _ _ => [.most a, .least a]
  | .most _ _ => [.most a]
  | .least _ _ => [.least a]
def factsAt (a : Nat) (b : Book) : List Sight → List Fact
  | [] => []
  | s :: ss => factsOfSight b s (a : Nat) ++ factsAt (a + 1) b ss
def factsBook (n : Nat) : List Fact := (List.range n).flatMap fun i => [.laid (i : Nat), .took (i : Nat), .floor (i : Nat)]
def factsOf (b : Book) (ss : List Sight) : List Fact := factsBook (b.fin + 1).toNat ++ factsAt 0 b ss

/-! the reckoning of the greatest heights -/
abbrev OF := Option Fact
def encOF : OF → D
  | none => .non
  | some f => encFact f
def encCon (c : Con) : D := .tup [.int c.1, .int c.2.1, .int c.2.2]
abbrev Say := OF × Con
def encSay (s : Say) : D := .tup [encOF s.1, encCon s.2]
structure BF where
  most : Int → Int
  by_ : Int → Option (OF × Int)
  last : Option Int
def updI {α : Type} (f : Int → α) (x : Int) (y : α) : Int → α := fun z => if z = x then y else f z
def relax (st : BF) (s : Say) : BF :=
  if st.most s.2.2.1 + s.2.2.2 < st.most s.2.1 then { most := updI st.most s.2.1 (st.most s.2.2.1 + s.2.2.2), by_ := updI st.by_ s.2.1 (some (s.1, s.2.2.1)), last := some s.2.1 } else st
def round (says : List Say) (st : BF) : BF := says.foldl relax { st with last := none }
def settleLoop (says : List Say) : Nat → BF → (Int → Int) ⊕ BF
  | 0, st => .inr st
  | n + 1, st => match (round says st).last with
    | none => .inl (round says st).most
    | some _ => settleLoop says n (round says st)
def init0 : BF := ⟨fun x => if x = -1 then 0 else x + 2, fun _ => none, none⟩
def keysM (e : Int) : List Int := (List.range (e + 1).toNat).map (fun i => ((i : Nat) : Int)) ++ [-1]
def mkMost (e : Int) (m : Int → Int) : List (Key × D) := (keysM e).map fun k => (.inl k, .int (m k))
def goBack (by_ : Int → Option (OF × Int)) : Nat → Int → Option Int
  | 0, x => some x
  | n + 1, x => match by_ x with
    | some (_, y) => goBack by_ n y
    | none => none
/-- the way round from here to c -/
inductive CycR (by_ : Int → Option (OF × Int)) (c : Int) : Nat → Int → List OF → List OF → Prop
  | stop {found : List OF} : CycR by_ c 0 c found found
  | go {n : Nat} {x y : Int} {f : OF} {found out : List OF} : x ≠ c → by_ x = some (f, y) → CycR by_ c n y (found ++ [f]) out → CycR by_ c (n + 1) x found out
def Gone (by_ : Int → Option (OF × Int)) (last : Int) (many : Nat) (out : List OF) : Prop :=
  ∃ c f y n, goBack by_ many last = some c ∧ by_ c = some (f, y) ∧ CycR by_ c n y [f] out ∧ n ≤ 1000
def SaysOk (e : Int) (says : List Say) : Prop := ∀ s ∈ says, s.2.1 ∈ keysM e ∧ s.2.2.1 ∈ keysM e

inductive R_own_tick : List D → D → Prop
  | mk (b : Book) (n : Str) (wb : WB b) (hn : nameOk n) : R_own_tick [encBook b, .str n] (encOI (ownTick b n))
inductive R_laid_at : List D → D → Prop
  | mk (b : Book) (wb : WB b) : R_laid_at [encBook b] (.lst ((laidAt b).map encON))
inductive R_laid : List D → D → Prop
  | mk (b : Book) (t : Int) (wb : WB b) (h0 : 0 ≤ t) (h1 : t ≤ b.fin) : R_laid [encBook b, .int t] (.int (laidN b t))
inductive R_read_tick : List D → D → Prop
  | laid (b : Book) (t : Int) (wb : WB b) (h0 : 0 ≤ t) (h1 : t ≤ b.fin) : R_read_tick [encBook b, .str "laid", .int t] (encCon (con b [] (.laid t)))
  | took (b : Book) (t : Int) (wb : WB b) (h0 : 0 ≤ t) (h1 : t ≤ b.fin) : R_read_tick [encBook b, .str "took", .int t] (encCon (con b [] (.took t)))
  | floor (b : Book) (t : Int) (wb : WB b) (h0 : 0 ≤ t) (h1 : t ≤ b.fin) : R_read_tick [encBook b, .str "floor", .int t] (encCon (con b [] (.floor t)))
inductive R_read_fact : List D → D → Prop
  | mk (b : Book) (ss : List Sight) (f : Fact) (wb : WB b) (ws : WS b ss) (hf : FOk b ss f) : R_read_fact [encBook b, encSights ss, encFact f] (encCon (con b ss f))
inductive R_facts_of_sight : List D → D → Prop
  | mk (b : Book) (ss : List Sight) (a : Nat) (s : Sight) (wb : WB b) (ws : WS b ss) (h : ss[a]? = some s) : R_facts_of_sight [encBook b, encSights ss, .int (a : Nat)] (.lst ((factsOfSight b s (a : Nat)).map encFact))
inductive R_facts_of : List D → D → Prop
  | mk (b : Book) (ss : List Sight) (wb : WB b) (ws : WS b ss) : R_facts_of [encBook b, encSights ss] (.lst ((factsOf b ss).map encFact))


def encBy (p : OF × Int) : D := .tup [encOF p.1, .int p.2]
def ByRel (kvs : List (Key × D)) (by_ : Int → Option (OF × Int)) : Prop := ∀ x : Int, valD kvs (.inl x) = (by_ x).map encBy
inductive R_gone_back : List D → D → Prop
  | mk (kvs : List (Key × D)) (by_ : Int → Option (OF × Int)) (last : Int) (many : Int) (out : List OF) (hr : ByRel kvs by_) (h0 : 0 ≤ many) (h1 : many ≤ 1000) (hg : Gone by_ last many.toNat out) :
      R_gone_back [.dk kvs, .int last, .int many] (.tup (out.map encOF))
/-- what settled gives -/
def Settled (e : Int) (says : List Say) : D → Prop := fun d => match settleLoop says (e + 4).toNat init0 with
  | .inl m => d = .tup [.dk (mkMost e m), .non]
  | .inr st => ∃ l out, st.last = some l ∧ Gone st.by_ l (e + 4).toNat out ∧ d = .tup [.non, .tup (out.map encOF)]
inductive R_settled : List D → D → Prop
  | mk (e : Int) (says : List Say) (d : D) (h0 : 0 ≤ e) (h1 : e ≤ 20) (hs : SaysOk e says) (hl : says.length ≤ 2000) (hd : Settled e says d) : R_settled [.int e, .lst (says.map encSay)] d
def saysOf (b : Book) (ss : List Sight) (more : List Con) : List Say := ((factsOf b ss).map fun f => (some f, con b ss f)) ++ more.map fun c => (none, c)
inductive R_solved : List D → D → Prop
  | mk (b : Book) (ss : List Sight) (more : List Con) (d : D) (wb : WB b) (ws : WS b ss) (hm : ∀ c ∈ more, c.1 ∈ keysM b.fin ∧ c.2.1 ∈ keysM b.fin) (hl : more.length ≤ 100) (hd : Settled b.fin (saysOf b ss more) d) :
      R_solved [encBook b, encSights ss, .lst (more.map encCon)] d
/-- the first part of what settled gives: None or heights -/
def canB (b : Book) (ss : List Sight) : Bool := match settleLoop (saysOf b ss []) (b.fin + 4).toNat init0 with
  | .inl _ => true
  | .inr _ => false
inductive R_can_be : List D → D → Prop
  | mk (b : Book) (ss : List Sight) (wb : WB b) (ws : WS b ss) (hd : ∃ d, Settled b.fin (saysOf b ss []) d) : R_can_be [encBook b, encSights ss] (.bl (canB b ss))
inductive R_ring : List D → D → Prop
  | non (b : Book) (ss : List Sight) (m : Int → Int) (wb : WB b) (ws : WS b ss) (hd : settleLoop (saysOf b ss []) (b.fin + 4).toNat init0 = .inl m) : R_ring [encBook b, encSights ss] .non
  | tup (b : Book) (ss : List Sight) (st : BF) (l : Int) (out : List OF) (wb : WB b) (ws : WS b ss) (hd : settleLoop (saysOf b ss []) (b.fin + 4).toNat init0 = .inr st) (hl : st.last = some l) (hg : Gone st.by_ l (b.fin + 4).toNat out) :
      R_ring [encBook b, encSights ss] (.tup (out.map encOF))
def isFrom : D → Int → Int → Bool
  | .int i, lo, hi => decide (lo ≤ i) && decide (i ≤ hi)
  | _, _, _ => false
inductive R_is_from : List D → D → Prop
  | mk (d : D) (lo hi : Int) : R_is_from [d, .int lo, .int hi] (.bl (isFrom d lo hi))
theorem atI_0 {α : Type} (x : α) (l : List α) : atI (x :: l) 0 = some x := atI_nat (j := 0) rfl
theorem atI_1 {α : Type} (x y : α) (l : List α) : atI (x :: y :: l) 1 = some y := atI_nat (j := 1) rfl
theorem atI_2 {α : Type} (x y z : α) (l : List α) : atI (x :: y :: z :: l) 2 = some z := atI_nat (j := 2) rfl
theorem keysM_nodup (e : Int) : (keysM e).Nodup := by
  unfold keysM
  rw [List.nodup_append]
  refine ⟨?_, by simp, fun a ha b hb => ?_⟩
  · rw [List.nodup_iff_pairwise_ne, List.pairwise_map]
    exact List.pairwise_lt_range.imp fun h z => by omega
  · simp at ha hb
    obtain ⟨i, _, rfl⟩ := ha
    omega
theorem mem_keysM {e x : Int} (he : 0 ≤ e) : x ∈ keysM e ↔ -1 ≤ x ∧ x ≤ e := by
  unfold keysM
  rw [List.mem_append, List.mem_map]
  constructor
  · rintro (⟨i, hi, rfl⟩ | h)
    · rw [List.mem_range] at hi; omega
    · simp at h; omega
  · rintro ⟨h1, h2⟩
    by_cases h : x = -1
    · right; simp [h]
    · left; exact ⟨x.toNat, by rw [List.mem_range]; omega, by omega⟩
theorem mkMost_len (e : Int) (m : Int → Int) : (mkMost e m).length = (e + 1).toNat + 1 := by simp [mkMost, keysM]
theorem valD_keys {f : Int → D} {x : Int} : ∀ {ks : List Int}, x ∈ ks → valD (ks.map fun k => ((Sum.inl k : Key), f k)) (.inl x) = some (f x)
  | [], h => by simp at h
  | k :: ks, h => by
    rw [List.map_cons, valD_cons]
    by_cases z : k = x
    · subst z; simp
    · have : ¬ (Sum.inl k : Key) = Sum.inl x := fun y => z (Sum.inl.inj y)
      rw [if_neg this]
      exact valD_keys (by rcases List.mem_cons.mp h with y | y; exact absurd y.symm z; exact y)
theorem valD_most {e x : Int} {m : Int → Int} (h : x ∈ keysM e) : valD (mkMost e m) (.inl x) = some (.int (m x)) := valD_keys h
theorem putD_keys {f : Int → D} {x : Int} {d : D} {ks : List Int} (h : x ∈ ks) : putD (ks.map fun k => ((Sum.inl k : Key), f k)) (.inl x) d = ks.map fun k => ((Sum.inl k : Key), if k = x then d else f k) := by
  unfold putD
  rw [if_pos]
  · rw [List.map_map]
    refine List.map_congr_left fun k _ => ?_
    by_cases z : k = x
    · subst z; simp
    · have : ¬ (Sum.inl k : Key) = Sum.inl x := fun y => z (Sum.inl.inj y)
      simp [this, z]
  · rw [List.any_map, List.any_eq_true]
    exact ⟨x, h, by simp⟩
theorem putD_most {e x y : Int} {m : Int → Int} (h : x ∈ keysM e) : putD (mkMost e m) (.inl x) (.int y) = mkMost e (updI m x y) := by
  unfold mkMost
  rw [putD_keys h]
  refine List.map_congr_left fun k _ => ?_
  unfold updI
  by_cases z : k = x <;> simp [z]
theorem ByRel.nil : ByRel [] fun _ => none := fun _ => rfl
theorem ByRel.put {kvs : List (Key × D)} {by_ : Int → Option (OF × Int)} (h : ByRel kvs by_) (x : Int) (p : OF × Int) : ByRel (putD kvs (.inl x) (encBy p)) (updI by_ x (some p)) := fun y => by
  rw [valD_put, h y]
  unfold updI
  by_cases z : y = x
  · subst z; simp
  · have : ¬ (Sum.inl y : Key) = Sum.inl x := fun q => z (Sum.inl.inj q)
    simp [this, z]
theorem relax_len : ∀ (says : List Say) (st : BF), True := fun _ _ => trivial
theorem encFact_fz (f : Fact) : fz (encFact f) = true := by cases f <;> rfl
theorem encOF_fz (f : OF) : fz (encOF f) = true := by cases f with
  | none => rfl
  | some f => exact encFact_fz f
theorem encBy_fz (p : OF × Int) : fz (encBy p) = true := by
  show (fz (encOF p.1) && (true && true)) = true
  rw [encOF_fz]; rfl
theorem fzs_map {α : Type} (f : α → D) (h : ∀ x, fz (f x) = true) : ∀ l : List α, fzs (l.map f) = true
  | [] => rfl
  | x :: l => by
    show (fz (f x) && fzs (l.map f)) = true
    rw [h x, fzs_map f h l]; rfl
def isFactM (b : Book) (ss : List Sight) : D → Bool
  | .tup (x :: ds) => decide (1 ≤ ds.length) && decide (ds.length ≤ 2) && isStrD x && ds.all (fun d => isFrom d 0 50) && (factsOf b ss).any fun f => eqD (encFact f) (.tup (x :: ds))
  | _ => false
def headNS : List D → Bool
  | x :: _ => !isStrD x
  | [] => false
def pre2 : D → Bool
  | .tup ds => !(decide (2 ≤ (ds.length : Int)) && decide ((ds.length : Int) ≤ 3)) || headNS ds
  | _ => false
def isF : D → Bool
  | .ftup _ => true
  | _ => false
inductive R_is_fact : List D → D → Prop
  | mk (b : Book) (ss : List Sight) (d : D) (wb : WB b) (ws : WS b ss) (ok : okD d = true) (nf : isF d = false) : R_is_fact [encBook b, encSights ss, d] (.bl (isFactM b ss d))
def ringPre (b : Book) (ss : List Sight) : D → Bool
  | .tup ds => !ds.isEmpty && ds.all (isFactM b ss)
  | _ => false
def ringOk (cs : List Con) : Bool := !((cs.zip (cs.drop 1 ++ cs.take 1)).any fun p => !decide (p.1.2.1 = p.2.1)) && decide ((cs.map fun c => c.2.2).sum < 0)
inductive R_is_ring : List D → D → Prop
  | no (b : Book) (ss : List Sight) (d : D) (wb : WB b) (ws : WS b ss) (ok : okD d = true) (h : ringPre b ss d = false) (hl : ∀ ds, d = .tup ds → ds.length ≤ 10000) (nf : isF d = false) (nfs : ∀ ds, d = .tup ds → ∀ x ∈ ds, isF x = false) : R_is_ring [encBook b, encSights ss, d] (.bl false)
  | facts (b : Book) (ss : List Sight) (fs : List Fact) (wb : WB b) (ws : WS b ss) (hn : fs ≠ []) (hf : ∀ f ∈ fs, f ∈ factsOf b ss) (hl : fs.length ≤ 10000) :
      R_is_ring [encBook b, encSights ss, .tup (fs.map encFact)] (.bl (ringOk (fs.map (con b ss))))
theorem WB.rows {b : Book} (w : WB b) : b.laid.length ≤ 100000 := Nat.le_trans w.few (by decide)
theorem laidAt_len (b : Book) : (laidAt b).length = (b.fin + 1).toNat := by simp [laidAt]
theorem laidAt_get {b : Book} {t : Int} (h0 : 0 ≤ t) (h1 : t ≤ b.fin) : ((laidAt b).map encON)[t.toNat]? = some (encON (nameAt b t)) := by
  unfold laidAt
  rw [List.getElem?_map, List.getElem?_map, List.getElem?_range (by omega)]
  simp only [Option.map_some]
  rw [show ((t.toNat : Nat) : Int) = t by omega]
theorem atI_3 {α : Type} (x y z w : α) (l : List α) : atI (x :: y :: z :: w :: l) 3 = some w := atI_nat (j := 3) rfl
theorem atI_int {α : Type} {xs : List α} {t : Int} {v : α} (h0 : 0 ≤ t) (h : xs[t.toNat]? = some v) : atI xs t = some v := by
  have e : t = ((t.toNat : Nat) : Int) := by omega
  rw [e]
  exact atI_nat h
theorem isNon_encON (o : Option Str) : isNon (encON o) = !o.isSome := by cases o <;> rfl
/-- a dict made of pairs with unlike keys -/
theorem putAll_nodup : ∀ (ps acc : List (Key × D)), ((acc ++ ps).map Prod.fst).Nodup → putAll acc ps = acc ++ ps
  | [], acc, _ => by simp [putAll]
  | p :: ps, acc, h => by
    have e : putD acc p.1 p.2 = acc ++ [p] := by
      unfold putD
      rw [if_neg]
      intro z
      obtain ⟨q, hq, hk⟩ := List.any_eq_true.mp z
      have hk : q.1 = p.1 := of_decide_eq_true hk
      rw [List.map_append, List.map_cons, List.nodup_append] at h
      exact h.2.2 q.1 (List.mem_map.mpr ⟨q, hq, rfl⟩) p.1 (by simp) hk
    show putAll (putD acc p.1 p.2) ps = _
    rw [e, putAll_nodup ps (acc ++ [p]) (by simpa using h)]
    simp
theorem pair_nodup {b : Book} (w : WB b) : (b.laid.map fun r => (Sum.inl r.1 : Key)).Nodup := by
  rw [List.nodup_iff_pairwise_ne, List.pairwise_map]
  exact w.ris.imp fun h z => by
    have := Sum.inl.inj z
    omega
theorem valD_map {α : Type} (xs : List α) (fk : α → Int) (fv : α → D) (k : Int) : valD (xs.map fun x => ((Sum.inl (fk x) : Key), fv x)) (.inl k) = (xs.find? fun x => decide (fk x = k)).map fv := by
  unfold valD
  rw [List.find?_map]
  have e : ((fun kv : Key × D => decide (kv.1 = Sum.inl k)) ∘ fun x => ((Sum.inl (fk x) : Key), fv x)) = fun x => decide (fk x = k) := by
    funext x
    by_cases z : fk x = k
    · simp [z]
    · have z2 : ¬ (Sum.inl (fk x) : Key) = Sum.inl k := fun y => z (Sum.inl.inj y)
      simp [z, z2]
  rw [e]
  cases xs.find? fun x => decide (fk x = k) <;> rfl
theorem strNe {x y : Str} (h : decide (x = y) = false) : decide (x = y) = false := h
theorem getS {ss : List Sight} {j : Nat} {s : Sight} (h : ss[j]? = some s) : (ss.map encSight)[j]? = some (encSight s) := by rw [List.getElem?_map, h]; rfl
theorem factsBook_succ (n : Nat) : factsBook (n + 1) = factsBook n ++ [.laid (n : Nat), .took (n : Nat), .floor (n : Nat)] := by
  unfold factsBook
  rw [List.range_succ, List.flatMap_append]
  simp
theorem factsBook_len (n : Nat) : (factsBook n).length = 3 * n := by
  induction n with
  | zero => rfl
  | succ n ih => rw [factsBook_succ, List.length_append, ih]; simp; omega
theorem factsAt_snoc (b : Book) (s : Sight) : ∀ (l : List Sight) (a : Nat), factsAt a b (l ++ [s]) = factsAt a b l ++ factsOfSight b s ((a + l.length : Nat) : Int)
  | [], a => by simp [factsAt]
  | x :: l, a => by
    rw [List.cons_append, factsAt, factsAt, factsAt_snoc b s l (a + 1), List.append_assoc]
    simp only [List.length_cons]
    rw [show a + 1 + l.length = a + (l.length + 1) by omega]
theorem WS1.own' {b : Book} {t : Int} {n : Str} {m : Int} (w : WS1 b (.above t n m)) : nameOk n ∧ ownTick b n = some (ownT b n) ∧ ownT b n ≤ t := by
  obtain ⟨h1, o, h2, h3⟩ := w.own t n m rfl
  unfold ownT
  rw [h2]
  exact ⟨h1, rfl, h3⟩
theorem ownTick_in {b : Book} {n : Str} {o : Int} (h : ownTick b n = some o) : ∃ r ∈ b.laid, r.1 = o ∧ r.2 = n := by
  unfold ownTick at h
  cases q : b.laid.filter (fun r => decide (r.2 = n)) with
  | nil => rw [q] at h; simp at h
  | cons r l =>
    rw [q] at h
    simp at h
    have hm : r ∈ b.laid.filter (fun r => decide (r.2 = n)) := by rw [q]; exact List.mem_cons_self
    obtain ⟨h1, h2⟩ := List.mem_filter.mp hm
    exact ⟨r, h1, h, of_decide_eq_true h2⟩
theorem WS1.own0 {b : Book} {t : Int} {n : Str} {m : Int} (wb : WB b) (w : WS1 b (.above t n m)) : 0 ≤ ownT b n ∧ ownT b n ≤ b.fin := by
  obtain ⟨r, h1, h2, _⟩ := ownTick_in w.own'.2.1
  rw [← h2]
  exact wb.inn r h1
theorem factsOfSight_len {b : Book} {s : Sight} (wb : WB b) (w : WS1 b s) (a : Int) : (factsOfSight b s a).length ≤ 22 := by
  cases s with
  | above t n m =>
    have h1 := w.hi
    have h2 := wb.hi
    have h3 := (WS1.own0 wb w).1
    have h1 : t ≤ b.fin := h1
    simp [factsOfSight]
    omega
  | _ => simp [factsOfSight]
theorem factsAt_len {b : Book} (wb : WB b) : ∀ (ss : List Sight) (a : Nat), (∀ s ∈ ss, WS1 b s) → (factsAt a b ss).length ≤ 22 * ss.length
  | [], a, _ => by simp [factsAt]
  | s :: ss, a, h => by
    rw [factsAt, List.length_append, List.length_cons]
    have h1 := factsOfSight_len wb (h s List.mem_cons_self) (a : Nat)
    have h2 := factsAt_len wb ss (a + 1) fun x hx => h x (List.mem_cons_of_mem _ hx)
    omega
theorem factsBook_ok {b : Book} (wb : WB b) (ss : List Sight) {f : Fact} : ∀ {n : Nat}, (n : Int) ≤ b.fin + 1 → f ∈ factsBook n → FOk b ss f
  | 0, _, h => by simp [factsBook] at h
  | n + 1, hn, h => by
    rw [factsBook_succ, List.mem_append] at h
    rcases h with h | h
    · exact factsBook_ok wb ss (by omega) h
    · simp at h
      rcases h with rfl | rfl | rfl <;> exact ⟨by omega, by omega⟩
theorem factsOfSight_ok {b : Book} {ss : List Sight} {j : Nat} {s : Sight} (hj : ss[j]? = some s) {f : Fact} (h : f ∈ factsOfSight b s (j : Nat)) : FOk b ss f := by
  cases s with
  | above u n m =>
    simp only [factsOfSight, List.mem_append, List.mem_map, List.mem_range] at h
    rcases h with ⟨i, hi, rfl⟩ | h
    · exact ⟨j, u, n, m, rfl, hj, by omega, by omega⟩
    · simp at h
      rcases h with rfl | rfl <;> exact ⟨j, u, n, m, rfl, hj⟩
  | high t m =>
    simp [factsOfSight] at h
    rcases h with rfl | rfl <;> exact ⟨j, t, m, rfl, .inl hj⟩
  | least t m =>
    simp [factsOfSight] at h
    subst h
    exact ⟨j, t, m, rfl, .inr hj⟩
  | most t m =>
    simp [factsOfSight] at h
    subst h
    exact ⟨j, t, m, rfl, .inr hj⟩
theorem mem_factsAt {b : Book} {f : Fact} : ∀ {l : List Sight} {a : Nat}, f ∈ factsAt a b l ↔ ∃ j s, l[j]? = some s ∧ f ∈ factsOfSight b s ((a + j : Nat) : Int)
  | [], a => by simp [factsAt]
  | s :: l, a => by
    rw [factsAt, List.mem_append, mem_factsAt (l := l) (a := a + 1)]
    constructor
    · rintro (h | ⟨j, x, h1, h2⟩)
      · exact ⟨0, s, rfl, by simpa using h⟩
      · exact ⟨j + 1, x, by simpa using h1, by rw [show a + (j + 1) = a + 1 + j by omega]; exact h2⟩
    · rintro ⟨j, x, h1, h2⟩
      cases j with
      | zero =>
        simp at h1
        subst h1
        exact .inl (by simpa using h2)
      | succ j => exact .inr ⟨j, x, by simpa using h1, by rw [show a + 1 + j = a + (j + 1) by omega]; exact h2⟩
theorem factsOf_ok {b : Book} {ss : List Sight} (wb : WB b) {f : Fact} (h : f ∈ factsOf b ss) : FOk b ss f := by
  unfold factsOf at h
  rcases List.mem_append.mp h with h | h
  · have := wb.lo
    exact factsBook_ok wb ss (by omega) h
  · obtain ⟨j, s, h1, h2⟩ := mem_factsAt.mp h
    exact factsOfSight_ok h1 (by simpa using h2)
theorem con_keys {b : Book} {ss : List Sight} (wb : WB b) (ws : WS b ss) {f : Fact} (h : FOk b ss f) : (con b ss f).1 ∈ keysM b.fin ∧ (con b ss f).2.1 ∈ keysM b.fin := by
  have h0 := wb.lo
  rw [mem_keysM h0, mem_keysM h0]
  cases f with
  | laid t => obtain ⟨h1, h2⟩ := h; simp only [con]; omega
  | took t => obtain ⟨h1, h2⟩ := h; simp only [con]; omega
  | floor t => obtain ⟨h1, h2⟩ := h; simp only [con]; omega
  | there a t =>
    obtain ⟨j, u, n, m, rfl, hj, h1, h2⟩ := h
    have w := ws.all _ (List.mem_of_getElem? hj)
    have w0 := WS1.own0 wb w
    have w1 : u ≤ b.fin := w.hi
    simp only [con, Int.toNat_natCast, hj]; omega
  | over a =>
    obtain ⟨j, u, n, m, rfl, hj⟩ := h
    have w := ws.all _ (List.mem_of_getElem? hj)
    have w0 := WS1.own0 wb w
    have w1 : u ≤ b.fin := w.hi
    have w2 : 0 ≤ u := w.lo
    simp only [con, Int.toNat_natCast, hj]; omega
  | under a =>
    obtain ⟨j, u, n, m, rfl, hj⟩ := h
    have w := ws.all _ (List.mem_of_getElem? hj)
    have w0 := WS1.own0 wb w
    have w1 : u ≤ b.fin := w.hi
    have w2 : 0 ≤ u := w.lo
    simp only [con, Int.toNat_natCast, hj]; omega
  | most a =>
    obtain ⟨j, t, m, rfl, hj | hj⟩ := h
    all_goals
      have w := ws.all _ (List.mem_of_getElem? hj)
      have w1 := w.hi
      have w2 := w.lo
      simp only [con, Int.toNat_natCast, hj]; omega
  | least a =>
    obtain ⟨j, t, m, rfl, hj | hj⟩ := h
    all_goals
      have w := ws.all _ (List.mem_of_getElem? hj)
      have w1 := w.hi
      have w2 := w.lo
      simp only [con, Int.toNat_natCast, hj]; omega
theorem saysOf_ok {b : Book} {ss : List Sight} {more : List Con} (wb : WB b) (ws : WS b ss) (hm : ∀ c ∈ more, c.1 ∈ keysM b.fin ∧ c.2.1 ∈ keysM b.fin) : SaysOk b.fin (saysOf b ss more) := by
  intro s hs
  rcases List.mem_append.mp hs with h | h
  · obtain ⟨f, hf, rfl⟩ := List.mem_map.mp h
    exact con_keys wb ws (factsOf_ok wb hf)
  · obtain ⟨c, hc, rfl⟩ := List.mem_map.mp h
    exact hm c hc
theorem isNon_encOI (o : Option Int) : isNon (encOI o) = o.isNone := by cases o <;> rfl
theorem encSay_map (b : Book) (ss : List Sight) (more : List Con) : (saysOf b ss more).map encSay = ((factsOf b ss).map fun f => .tup [encFact f, encCon (con b ss f)]) ++ more.map fun c => .tup [.non, encCon c] := by
  unfold saysOf
  rw [List.map_append, List.map_map, List.map_map]; rfl
theorem most_start (e : Int) (h0 : 0 ≤ e) : putD (putAll [] ((List.range (e + 1).toNat).map fun i => ((Sum.inl (0 + ((i : Nat) : Int)) : Key), D.int (0 + ((i : Nat) : Int) + 2)))) (.inl (-1)) (.int 0) = mkMost e init0.most := by
  have hn : (List.map Prod.fst ((List.range (e + 1).toNat).map fun i => ((Sum.inl (0 + ((i : Nat) : Int)) : Key), D.int (0 + ((i : Nat) : Int) + 2)))).Nodup := by
    rw [List.map_map, List.nodup_iff_pairwise_ne, List.pairwise_map]
    exact List.pairwise_lt_range.imp fun h z => by
      have := Sum.inl.inj z
      omega
  rw [putAll_nodup _ [] (by rw [List.nil_append]; exact hn), List.nil_append]
  unfold putD mkMost keysM
  rw [if_neg]
  · rw [List.map_append, List.map_map]
    congr 1
    refine List.map_congr_left fun i _ => ?_
    have : ¬ ((i : Nat) : Int) = -1 := by omega
    simp [init0, this]
  · intro z
    obtain ⟨p, hp, hk⟩ := List.any_eq_true.mp z
    obtain ⟨i, _, rfl⟩ := List.mem_map.mp hp
    have := Sum.inl.inj (of_decide_eq_true hk)
    omega
theorem foldl_take_succ {says : List Say} {i : Nat} {s : Say} (h : says[i]? = some s) (st : BF) : (says.take (i + 1)).foldl relax st = relax ((says.take i).foldl relax st) s := by
  rw [List.take_add_one, h, List.foldl_append]; rfl
theorem factsOf_len {b : Book} {ss : List Sight} (wb : WB b) (ws : WS b ss) : (factsOf b ss).length ≤ 200 := by
  unfold factsOf
  rw [List.length_append, factsBook_len]
  have h1 := factsAt_len wb ss 0 ws.all
  have h2 := ws.few
  have h3 := wb.hi
  have h4 := wb.lo
  omega
/-! data for ==, plain -/
theorem okD_iff {d : D} : okD d = true ↔ nd d = true ∧ (toPy d).canLay0 = true ∧ (toPy d).depth ≤ 64 := by
  unfold okD SeqAt.shaped
  simp [Bool.and_eq_true, and_assoc]
theorem canLay_all : ∀ ds : List D, PyData.canLayAll0 (toPys ds) = ds.all fun d => (toPy d).canLay0
  | [] => rfl
  | d :: ds => by
    rw [toPys, PyData.canLayAll0, canLay_all ds]; rfl
theorem nds_all : ∀ ds : List D, nds ds = ds.all nd
  | [] => rfl
  | d :: ds => by rw [nds, nds_all ds]; rfl
theorem eqvAll_refl : ∀ ds : List PyData, (∀ d ∈ ds, PyData.eqv d d = true) → PyData.eqvAll ds ds = true
  | [], _ => rfl
  | d :: ds, h => by
    rw [PyData.eqvAll, h d List.mem_cons_self, eqvAll_refl ds fun x hx => h x (List.mem_cons_of_mem _ hx)]; rfl
theorem eqD_fact (f : Fact) : eqD (encFact f) (encFact f) = true := by
  cases f <;> simp [eqD, encFact, toPy, toPys, PyData.eqv, PyData.eqvAll]
theorem eqD_int_iff {i : Int} {d : D} (h : isFrom d 0 50 = true) (e : eqD (.int i) d = true) : d = .int i := by
  cases d with
  | int j => simp [eqD, toPy, PyData.eqv] at e; rw [e]
  | _ => simp [isFrom] at h
theorem eqD_str_iff {i : Str} {d : D} (h : isStrD d = true) (e : eqD (.str i) d = true) : d = .str i := by
  cases d with
  | str j => simp [eqD, toPy, PyData.eqv] at e; rw [e]
  | _ => simp [isStrD] at h
theorem eqD_tup {xs ys : List D} : eqD (.tup xs) (.tup ys) = PyData.eqvAll (toPys xs) (toPys ys) := rfl
theorem eqD2 {a b x y : D} : eqD (.tup [a, b]) (.tup [x, y]) = (eqD a x && eqD b y) := by
  rw [eqD_tup]
  simp [toPys, PyData.eqvAll, eqD]
theorem eqD3 {a b c x y z : D} : eqD (.tup [a, b, c]) (.tup [x, y, z]) = (eqD a x && (eqD b y && eqD c z)) := by
  rw [eqD_tup]
  simp [toPys, PyData.eqvAll, eqD]
theorem eqD23 {a b x y z : D} : eqD (.tup [a, b]) (.tup [x, y, z]) = false := by
  rw [eqD_tup]
  simp [toPys, PyData.eqvAll]
theorem eqD32 {a b c x y : D} : eqD (.tup [a, b, c]) (.tup [x, y]) = false := by
  rw [eqD_tup]
  simp [toPys, PyData.eqvAll]
/-- a fact as data is one -/
theorem isFact_dec {b : Book} {ss : List Sight} {d : D} (h : isFactM b ss d = true) : ∃ f ∈ factsOf b ss, d = encFact f := by
  cases d with
  | tup l =>
    cases l with
    | nil => simp [isFactM] at h
    | cons x ds =>
      simp only [isFactM, Bool.and_eq_true, decide_eq_true_eq] at h
      obtain ⟨⟨⟨⟨h1, h2⟩, h3⟩, h4⟩, h5⟩ := h
      obtain ⟨f, hf, he⟩ := List.any_eq_true.mp h5
      refine ⟨f, hf, ?_⟩
      have h4 := List.all_eq_true.mp h4
      have two : ∀ (s : Str) (i : Int), encFact f = .tup [.str s, .int i] → D.tup (x :: ds) = encFact f := fun s i e => by
        rw [e] at he ⊢
        match ds, h1, h2, h4, he with
        | [y], _, _, h4, he =>
          rw [eqD2, Bool.and_eq_true] at he
          rw [eqD_str_iff h3 he.1, eqD_int_iff (h4 y (by simp)) he.2]
        | [y, z], _, _, _, he => rw [eqD23] at he; cases he
      have three : ∀ (s : Str) (i j : Int), encFact f = .tup [.str s, .int i, .int j] → D.tup (x :: ds) = encFact f := fun s i j e => by
        rw [e] at he ⊢
        match ds, h1, h2, h4, he with
        | [y], _, _, _, he => rw [eqD32] at he; cases he
        | [y, z], _, _, h4, he =>
          rw [eqD3, Bool.and_eq_true, Bool.and_eq_true] at he
          rw [eqD_str_iff h3 he.1, eqD_int_iff (h4 y (by simp)) he.2.1, eqD_int_iff (h4 z (by simp)) he.2.2]
      cases f with
      | there a t => exact three _ _ _ rfl
      | _ => exact two _ _ rfl
  | _ => simp [isFactM] at h
theorem FOk.small {b : Book} {ss : List Sight} {f : Fact} (wb : WB b) (ws : WS b ss) (h : FOk b ss f) : ∃ x ds, encFact f = .tup (x :: ds) ∧ 1 ≤ ds.length ∧ ds.length ≤ 2 ∧ isStrD x = true ∧ ds.all (fun d => isFrom d 0 50) = true := by
  have hb := wb.hi
  have hs := ws.few
  have pl : ∀ {j : Nat} {s : Sight}, ss[j]? = some s → j ≤ 5 := fun h => by have := at_lt h; omega
  cases f with
  | laid t => obtain ⟨h1, h2⟩ := h; exact ⟨_, _, rfl, by simp, by simp, rfl, by simp [isFrom]; omega⟩
  | took t => obtain ⟨h1, h2⟩ := h; exact ⟨_, _, rfl, by simp, by simp, rfl, by simp [isFrom]; omega⟩
  | floor t => obtain ⟨h1, h2⟩ := h; exact ⟨_, _, rfl, by simp, by simp, rfl, by simp [isFrom]; omega⟩
  | there a t =>
    obtain ⟨j, u, n, m, rfl, hj, h1, h2⟩ := h
    have w := ws.all _ (List.mem_of_getElem? hj)
    have w0 := WS1.own0 wb w
    have w1 : u ≤ b.fin := w.hi
    have := pl hj
    exact ⟨_, _, rfl, by simp, by simp, rfl, by simp [isFrom]; omega⟩
  | over a => obtain ⟨j, u, n, m, rfl, hj⟩ := h; have := pl hj; exact ⟨_, _, rfl, by simp, by simp, rfl, by simp [isFrom]; omega⟩
  | under a => obtain ⟨j, u, n, m, rfl, hj⟩ := h; have := pl hj; exact ⟨_, _, rfl, by simp, by simp, rfl, by simp [isFrom]; omega⟩
  | most a => obtain ⟨j, t, m, rfl, hj | hj⟩ := h <;> (have := pl hj; exact ⟨_, _, rfl, by simp, by simp, rfl, by simp [isFrom]; omega⟩)
  | least a => obtain ⟨j, t, m, rfl, hj | hj⟩ := h <;> (have := pl hj; exact ⟨_, _, rfl, by simp, by simp, rfl, by simp [isFrom]; omega⟩)
theorem isFact_enc {b : Book} {ss : List Sight} {f : Fact} (wb : WB b) (ws : WS b ss) (h : f ∈ factsOf b ss) : isFactM b ss (encFact f) = true := by
  obtain ⟨x, ds, e, h1, h2, h3, h4⟩ := FOk.small wb ws (factsOf_ok wb h)
  rw [e]
  simp only [isFactM, Bool.and_eq_true, decide_eq_true_eq]
  exact ⟨⟨⟨⟨h1, h2⟩, h3⟩, h4⟩, List.any_eq_true.mpr ⟨f, h, by rw [← e]; exact eqD_fact f⟩⟩
theorem okD_fact (f : Fact) : okD (encFact f) = true := by
  rw [okD_iff]
  cases f <;> (refine ⟨rfl, ?_, ?_⟩ <;> simp [encFact, toPy, toPys, PyData.canLay0, PyData.canLayAll0, PyData.depth, PyData.depthAll] <;> decide +kernel)
theorem depth_all_le {n : Nat} : ∀ {ds : List D}, (∀ d ∈ ds, (toPy d).depth ≤ n) → PyData.depthAll (toPys ds) ≤ n
  | [], _ => Nat.zero_le _
  | d :: ds, h => by
    have h1 := h d List.mem_cons_self
    have h2 := depth_all_le fun x hx => h x (List.mem_cons_of_mem _ hx)
    rw [toPys, PyData.depthAll]
    omega
theorem okD_lst {ds : List D} {n : Nat} (hn : n ≤ 60) (h : ∀ d ∈ ds, okD d = true ∧ (toPy d).depth ≤ n) : okD (.lst ds) = true ∧ okD (.tup ds) = true := by
  have h2 := depth_all_le (ds := ds) (n := n) fun d hd => (h d hd).2
  refine ⟨okD_iff.mpr ⟨?_, ?_, ?_⟩, okD_iff.mpr ⟨?_, ?_, ?_⟩⟩
  · show nds ds = true
    rw [nds_all, List.all_eq_true]
    exact fun d hd => (okD_iff.mp (h d hd).1).1
  · show PyData.canLayAll0 (toPys ds) = true
    rw [canLay_all, List.all_eq_true]
    exact fun d hd => (okD_iff.mp (h d hd).1).2.1
  · show (PyData.list (toPys ds)).depth ≤ 64
    rw [PyData.depth]
    omega
  · show nds ds = true
    rw [nds_all, List.all_eq_true]
    exact fun d hd => (okD_iff.mp (h d hd).1).1
  · show PyData.canLayAll0 (toPys ds) = true
    rw [canLay_all, List.all_eq_true]
    exact fun d hd => (okD_iff.mp (h d hd).1).2.1
  · show (PyData.tuple (toPys ds)).depth ≤ 64
    rw [PyData.depth]
    omega
theorem depth_fact (f : Fact) : (toPy (encFact f)).depth ≤ 1 := by
  cases f <;> simp [encFact, toPy, toPys, PyData.depth, PyData.depthAll]
theorem depth_mem {d : D} : ∀ {ds : List D}, d ∈ ds → (toPy d).depth ≤ PyData.depthAll (toPys ds)
  | [], h => by simp at h
  | x :: ds, h => by
    rw [toPys, PyData.depthAll]
    rcases List.mem_cons.mp h with h | h
    · subst h; omega
    · have := depth_mem h; omega
theorem cut_1n {α : Type} (xs : List α) : cutL xs (some 1) none = xs.drop 1 := by
  unfold cutL
  rw [show HT.sIx xs.length 0 (some 1) = min 1 xs.length from HT.sIx_nat xs.length 0 1, HT.sIx_none]
  cases xs with
  | nil => rfl
  | cons x r =>
    rw [show min 1 (x :: r).length = 1 by rw [List.length_cons]; omega]
    show (List.take ((x :: r).length - 1) r) = r
    rw [List.length_cons, Nat.add_sub_cancel]
    exact List.take_length
theorem cut_n1 {α : Type} (xs : List α) : cutL xs none (some 1) = xs.take 1 := by
  unfold cutL
  rw [show HT.sIx xs.length xs.length (some 1) = min 1 xs.length from HT.sIx_nat xs.length _ 1, HT.sIx_none]
  cases xs with
  | nil => rfl
  | cons x r =>
    rw [show min 1 (x :: r).length = 1 by rw [List.length_cons]; omega]
    rfl

inductive P_take : List D → Prop
  | mk (n : Int) : 0 < n → n < 1073741824 → P_take [.int n]
inductive R_take : List D → D → Prop
  | mk (n r : Int) : 0 ≤ r → r < n → R_take [.int n] (.int r)
inductive P_of : List D → Prop
  | mk (xs : List D) : xs ≠ [] → xs.length ≤ 100000 → P_of [.lst xs]
inductive R_of : List D → D → Prop
  | mk (xs : List D) (d : D) : d ∈ xs → R_of [.lst xs] d
def poolS : List Str := ["ann", "bo", "cy", "dee", "eli", "fay", "gus", "hal", "ida", "joe"].map Str.ofString
/-- a drawn book -/
structure BookOk (most : Int) (b : Book) : Prop where
  wb : WB b
  fl : b.fl = true
  lt : b.fin < most
  inp : ∀ r ∈ b.laid, r.2 ∈ poolS
inductive P_book : List D → Prop
  | mk (most : Int) : 1 ≤ most → most ≤ 21 → P_book [.int most]
inductive R_book : List D → D → Prop
  | mk (most : Int) (b : Book) : BookOk most b → R_book [.int most] (encBook b)
abbrev Pile := List Str
def encPile (p : Pile) : D := .ftup (p.map .str)
def nextM (p : Pile) (took : Int) (name : Option Str) : Option Pile :=
  if took = 1 ∧ p = [] then none else some (p.take (p.length - took.toNat) ++ name.toList)
def encOP : Option Pile → D
  | none => .non
  | some p => encPile p
inductive L_next : List D → D → Prop
  | mk (p : Pile) (took : Int) (name : Option Str) : took = 0 ∨ took = 1 → p.length ≤ 1000 → (∀ n ∈ p, nameOk n) → L_next [encPile p, .int took, encON name] (encOP (nextM p took name))
/-- the first ticks of a story, and the pile behind each -/
inductive Run (b : Book) : Nat → List Int → List Pile → Prop
  | nil : Run b 0 [] []
  | snoc {n : Nat} {tk : List Int} {ps : List Pile} {k : Int} {q : Pile} : Run b n tk ps → (k = 0 ∨ k = 1) → nextM (ps.getLastD []) k (nameAt b (n : Int)) = some q → Run b (n + 1) (tk ++ [k]) (ps ++ [q])
def isSoM : Sight → Pile → Bool
  | .above _ n m, p => decide (n ∈ p) && decide (((p.idxOf n : Nat) : Int) + 1 + m = p.length)
  | .high _ m, p => decide ((p.length : Int) = m)
  | .least _ m, p => decide (m ≤ (p.length : Int))
  | .most _ m, p => decide ((p.length : Int) ≤ m)
abbrev Sto := List Int × List Pile
def step1 (b : Book) (ss : List Sight) (t : Nat) (f : Sto) (one : Int) : Option Sto := match nextM (f.2.getLastD []) one (nameAt b (t : Int)) with
  | none => none
  | some q => if (ss.filter fun s => decide (s.tick = (t : Int))).all (fun s => isSoM s q) then some (f.1 ++ [one], f.2 ++ [q]) else none
def stepM (b : Book) (ss : List Sight) (t : Nat) (f : Sto) : List Sto := ([0, 1] : List Int).filterMap (step1 b ss t f)
def storiesTo (b : Book) (ss : List Sight) : Nat → List Sto
  | 0 => [([], [])]
  | n + 1 => (storiesTo b ss n).flatMap (stepM b ss n)
def storiesM (b : Book) (ss : List Sight) : List Sto := storiesTo b ss (b.fin + 1).toNat
def encTk (tk : List Int) : D := .tup (tk.map .int)
def encSto (f : Sto) : D := .tup [encTk f.1, .tup (f.2.map encPile)]
inductive L_is_so : List D → D → Prop
  | mk (s : Sight) (p : Pile) : (∀ t n m, s = .above t n m → nameOk n) → (∀ n ∈ p, nameOk n) → L_is_so [encSight s, encPile p] (.bl (isSoM s p))
inductive P_a_story : List D → Prop
  | mk (b : Book) : WB b → b.fl = true → P_a_story [encBook b]
inductive R_a_story : List D → D → Prop
  | mk (b : Book) (tk : List Int) (ps : List Pile) : Run b (b.fin + 1).toNat tk ps → R_a_story [encBook b] (.tup [encTk tk, .lst (ps.map encPile)])
inductive L_stories : List D → D → Prop
  | mk (b : Book) (ss : List Sight) : WB b → b.fl = true → WS b ss → b.fin ≤ 15 → L_stories [encBook b, encSights ss] (.lst ((storiesM b ss).map encSto))
inductive P_sight_of : List D → Prop
  | mk (b : Book) (tk : List Int) (ps : List Pile) : WB b → Run b (b.fin + 1).toNat tk ps → P_sight_of [encBook b, .lst (ps.map encPile)]
inductive R_sight_of : List D → D → Prop
  | mk (b : Book) (ps : List Pile) (s : Sight) : WS1 b s → R_sight_of [encBook b, .lst (ps.map encPile)] (encSight s)
inductive P_sights : List D → Prop
  | mk (b : Book) (most : Int) : WB b → b.fl = true → 0 ≤ most → most ≤ 6 → P_sights [encBook b, .int most]
inductive R_sights : List D → D → Prop
  | mk (b : Book) (most : Int) (ss : List Sight) : WS b ss → (ss.length : Int) ≤ most → R_sights [encBook b, .int most] (encSights ss)
inductive L_laid : List D → D → Prop
  | mk (b : Book) (t : Int) : WB b → L_laid [encBook b, .int t] (.int (laidN b t))
inductive L_own : List D → D → Prop
  | mk (b : Book) (n : Str) (o : Int) : WB b → nameOk n → ownTick b n = some o → L_own [encBook b, .str n] (.int o)
/-- the pile's names: laid at once, at or ahead of the tick -/
theorem nextM_mem {p q : Pile} {k : Int} {nm : Option Str} (h : nextM p k nm = some q) : ∀ n ∈ q, n ∈ p ∨ nm = some n := by
  unfold nextM at h
  split at h
  · cases h
  · cases h
    intro n hn
    rcases List.mem_append.mp hn with z | z
    · exact .inl (List.mem_of_mem_take z)
    · cases nm with
      | none => simp at z
      | some m =>
        simp at z
        exact .inr (by rw [z])
theorem getLastD_snoc {α : Type} (l : List α) (x d : α) : (l ++ [x]).getLastD d = x := by simp
theorem Run.len {b : Book} : ∀ {n : Nat} {tk : List Int} {ps : List Pile}, Run b n tk ps → tk.length = n ∧ ps.length = n
  | _, _, _, .nil => ⟨rfl, rfl⟩
  | _, _, _, .snoc h _ _ => by simp [h.len.1, h.len.2]
theorem Run.last {b : Book} : ∀ {n : Nat} {tk : List Int} {ps : List Pile}, Run b n tk ps → ∀ x ∈ ps.getLastD [], ∃ t : Nat, t < n ∧ nameAt b (t : Int) = some x
  | _, _, _, .nil => fun x h => by simp at h
  | _, _, _, .snoc (n := n) (ps := ps) (q := q) h hk hq => fun x hx => by
    rw [getLastD_snoc] at hx
    rcases nextM_mem hq x hx with z | z
    · obtain ⟨t, ht, e⟩ := h.last x z
      exact ⟨t, by omega, e⟩
    · exact ⟨n, by omega, z⟩
theorem Run.at_ {b : Book} : ∀ {n : Nat} {tk : List Int} {ps : List Pile}, Run b n tk ps → ∀ (i : Nat) (q : Pile), ps[i]? = some q → ∀ x ∈ q, ∃ t : Nat, t ≤ i ∧ nameAt b (t : Int) = some x
  | _, _, _, .nil => fun i q h => by simp at h
  | _, _, _, .snoc (n := n) (ps := ps) (q := q') h hk hq => fun i q hi x hx => by
    by_cases z : i < ps.length
    · rw [List.getElem?_append_left z] at hi
      exact h.at_ i q hi x hx
    · have hl := h.len.2
      have hi' := at_lt hi
      simp at hi'
      have e : i = ps.length := by omega
      subst e
      simp at hi
      subst hi
      have := (Run.snoc h hk hq).last x (by rw [getLastD_snoc]; exact hx)
      obtain ⟨t, ht, e⟩ := this
      exact ⟨t, by omega, e⟩
theorem nextM_len {p q : Pile} {k : Int} {nm : Option Str} (h : nextM p k nm = some q) : q.length ≤ p.length + (if nm.isSome then 1 else 0) := by
  unfold nextM at h
  split at h
  · cases h
  · cases h
    rw [List.length_append, List.length_take]
    cases nm <;> simp <;> omega
/-- how many are laid ahead of a tick -/
def laidTo (b : Book) (n : Nat) : Nat := (b.laid.filter fun r => decide (r.1 < (n : Int))).length
theorem laidTo_le (b : Book) (n : Nat) : laidTo b n ≤ b.laid.length := List.length_filter_le _ _
theorem find_split {b : Book} {t : Int} {x : Str} (h : nameAt b t = some x) : ∃ r ∈ b.laid, r.1 = t ∧ r.2 = x := by
  unfold nameAt at h
  cases z : b.laid.find? (fun r => decide (r.1 = t)) with
  | none => rw [z] at h; cases h
  | some r =>
    rw [z] at h
    have h1 := List.find?_some z
    exact ⟨r, List.mem_of_find?_eq_some z, by simpa using h1, Option.some.inj h⟩
theorem filter_lt_succ (n : Nat) : ∀ (l : List (Int × Str)), (l.filter fun r => decide (r.1 < ((n + 1 : Nat) : Int))).length = (l.filter fun r => decide (r.1 < (n : Int))).length + (l.filter fun r => decide (r.1 = (n : Int))).length
  | [] => rfl
  | r :: l => by
    have ih := filter_lt_succ n l
    by_cases h1 : r.1 < (n : Int)
    · have h2 : r.1 < ((n + 1 : Nat) : Int) := by omega
      have h3 : ¬ r.1 = (n : Int) := by omega
      simp only [List.filter_cons, h1, h2, h3, decide_true, decide_false, if_true, List.length_cons]
      simp only [Bool.false_eq_true, if_false]
      omega
    · by_cases h3 : r.1 = (n : Int)
      · have h2 : r.1 < ((n + 1 : Nat) : Int) := by omega
        simp only [List.filter_cons, h1, h2, h3, decide_true, decide_false, if_true, List.length_cons]
        have h4 : (n : Int) < ((n + 1 : Nat) : Int) := by omega
        have h5 : ¬ (n : Int) < (n : Int) := by omega
        simp only [h4, h5, decide_true, decide_false, Bool.false_eq_true, if_false, if_true, List.length_cons]
        omega
      · have h2 : ¬ r.1 < ((n + 1 : Nat) : Int) := by omega
        simp only [List.filter_cons, h1, h2, h3, decide_false, Bool.false_eq_true, if_false]
        exact ih
theorem laidTo_succ {b : Book} {n : Nat} {x : Str} (h : nameAt b (n : Int) = some x) : laidTo b n + 1 ≤ laidTo b (n + 1) := by
  obtain ⟨r, h1, h2, _⟩ := find_split h
  have e := filter_lt_succ n b.laid
  have : 0 < (b.laid.filter fun r => decide (r.1 = (n : Int))).length := List.length_pos_iff.mpr (by
    intro z
    have : r ∈ b.laid.filter fun r => decide (r.1 = (n : Int)) := List.mem_filter.mpr ⟨h1, by simpa using h2⟩
    rw [z] at this; simp at this)
  unfold laidTo
  omega
theorem laidTo_mono (b : Book) (n : Nat) : laidTo b n ≤ laidTo b (n + 1) := by
  have e := filter_lt_succ n b.laid
  unfold laidTo
  omega
theorem Run.few {b : Book} : ∀ {n : Nat} {tk : List Int} {ps : List Pile}, Run b n tk ps → (ps.getLastD []).length ≤ laidTo b n
  | _, _, _, .nil => by simp
  | _, _, _, .snoc (n := n) (ps := ps) (q := q) h hk hq => by
    rw [getLastD_snoc]
    have h1 := nextM_len hq
    have h2 := h.few
    cases z : nameAt b (n : Int) with
    | none =>
      rw [z] at h1
      have := laidTo_mono b n
      simp only [Option.isSome_none, Option.isSome_some, Bool.false_eq_true, if_false, if_true] at h1
      omega
    | some x =>
      rw [z] at h1
      have := laidTo_succ z
      simp only [Option.isSome_none, Option.isSome_some, Bool.false_eq_true, if_false, if_true] at h1
      omega
theorem Run.fewAt {b : Book} : ∀ {n : Nat} {tk : List Int} {ps : List Pile}, Run b n tk ps → ∀ q ∈ ps, q.length ≤ b.laid.length
  | _, _, _, .nil => fun q h => by simp at h
  | _, _, _, .snoc (n := n) (ps := ps) (q := q') h hk hq => fun q hi => by
    rcases List.mem_append.mp hi with z | z
    · exact h.fewAt q z
    · have := (Run.snoc h hk hq).few
      rw [getLastD_snoc] at this
      have e : q = q' := by simpa using z
      subst e
      exact Nat.le_trans this (laidTo_le _ _)
theorem own_at {b : Book} (wb : WB b) {t : Int} {x : Str} (h : nameAt b t = some x) : ownTick b x = some t := by
  obtain ⟨r, h1, h2, h3⟩ := find_split h
  unfold ownTick
  have hd := wb.dif
  have : ∀ l : List (Int × Str), l.Pairwise (fun r q => r.2 ≠ q.2) → r ∈ l → ((l.filter fun r => decide (r.2 = x)).map (·.1)).head? = some r.1 := by
    intro l
    induction l with
    | nil => intro _ z; simp at z
    | cons y l ih =>
      intro hp hm
      rw [List.pairwise_cons] at hp
      by_cases z : y.2 = x
      · have : y = r := by
          rcases List.mem_cons.mp hm with q | q
          · exact q.symm
          · exact absurd (z.trans h3.symm) (hp.1 r q)
        subst this
        simp [List.filter_cons, z]
      · rcases List.mem_cons.mp hm with q | q
        · subst q; exact absurd h3 z
        · simp only [List.filter_cons, z, decide_false, Bool.false_eq_true, if_false]
          exact ih hp.2 q
  rw [this _ hd h1, h2]
theorem nameAt_ok {b : Book} (wb : WB b) {t : Int} {x : Str} (h : nameAt b t = some x) : nameOk x := by
  obtain ⟨r, h1, _, h3⟩ := find_split h
  rw [← h3]
  exact wb.nam r h1
theorem cut_nI {α : Type} (xs : List α) {j : Int} (h0 : 0 ≤ j) (h1 : j ≤ xs.length) : cutL xs none (some j) = xs.take j.toNat := by
  obtain ⟨n, rfl⟩ : ∃ n : Nat, j = n := ⟨j.toNat, by omega⟩
  unfold cutL
  rw [show HT.sIx xs.length xs.length (some (n : Int)) = min n xs.length from HT.sIx_nat xs.length _ n, HT.sIx_none, Nat.min_eq_left (by omega), List.drop_zero, Nat.sub_zero, Int.toNat_natCast]
theorem okD_names {p : List Str} (h : ∀ n ∈ p, nameOk n) : okD (.tup (p.map .str)) = true ∧ okD (.lst (p.map .str)) = true := by
  have := okD_lst (ds := p.map D.str) (n := 1) (by decide) fun d hd => by
    obtain ⟨x, hx, rfl⟩ := List.mem_map.mp hd
    exact ⟨h x hx, by show (PyData.str x).depth ≤ 1; simp [PyData.depth]⟩
  exact ⟨this.2, this.1⟩
theorem okPile {p : Pile} (h : ∀ n ∈ p, nameOk n) : okD (encPile p) = true := (okD_names h).1
theorem eqD_nilF (ds : List D) : eqD (.ftup ds) (.tup []) = ds.isEmpty := by
  cases ds <;> rfl
theorem eqD_nilF2 (ds : List D) : eqD (.ftup ds) (.ftup []) = ds.isEmpty := by
  cases ds <;> rfl
theorem eqD_nilT (ds : List D) : eqD (.tup ds) (.tup []) = ds.isEmpty := by
  cases ds <;> rfl
theorem eqD_nilL (ds : List D) : eqD (.lst ds) (.lst []) = ds.isEmpty := by
  cases ds <;> rfl
section
variable {K : PySem.W.Frag} {ρ : List Sl} {ta tb : TE} {ds : List D}
theorem e_eqT0 (ha : E ta ρ (.tup ds)) (hb : E tb ρ (.tup [])) (ok : okD (.tup ds) = true) : E (tOp (rEqD K) ta tb) ρ (.bl ds.isEmpty) := e_is (e_eq ha hb ok rfl) (by rw [eqD_nilT])
theorem e_neT0 (ha : E ta ρ (.tup ds)) (hb : E tb ρ (.tup [])) (ok : okD (.tup ds) = true) : E (tOp (rNeD K) ta tb) ρ (.bl (!ds.isEmpty)) := e_is (e_ne ha hb ok rfl) (by rw [eqD_nilT])
theorem e_eqF0 (ha : E ta ρ (.ftup ds)) (hb : E tb ρ (.ftup [])) (ok : okD (.ftup ds) = true) : E (tOp (rEqD K) ta tb) ρ (.bl ds.isEmpty) := e_is (e_eq ha hb ok rfl) (by rw [eqD_nilF2])
theorem e_neF0 (ha : E ta ρ (.ftup ds)) (hb : E tb ρ (.ftup [])) (ok : okD (.ftup ds) = true) : E (tOp (rNeD K) ta tb) ρ (.bl (!ds.isEmpty)) := e_is (e_ne ha hb ok rfl) (by rw [eqD_nilF2])
theorem e_eqL0 (ha : E ta ρ (.lst ds)) (hb : E tb ρ (.lst [])) (ok : okD (.lst ds) = true) : E (tOp (rEqD K) ta tb) ρ (.bl ds.isEmpty) := e_is (e_eq ha hb ok rfl) (by rw [eqD_nilL])
theorem e_neL0 (ha : E ta ρ (.lst ds)) (hb : E tb ρ (.lst [])) (ok : okD (.lst ds) = true) : E (tOp (rNeD K) ta tb) ρ (.bl (!ds.isEmpty)) := e_is (e_ne ha hb ok rfl) (by rw [eqD_nilL])
end
/-- the drawn names and rows as they stand ahead of a tick -/
structure BookInv (i : Nat) (s : List Str × List (Int × Str)) : Prop where
  perm : (s.1 ++ s.2.map (·.2)).Perm poolS
  ris : s.2.Pairwise fun r q => r.1 < q.1
  inn : ∀ r ∈ s.2, 0 ≤ r.1 ∧ r.1 < (i : Int)
theorem BookInv.nil : BookInv 0 (poolS, []) := ⟨by simp, .nil, by simp⟩
theorem pool_ok : ∀ x ∈ poolS, nameOk x := List.all_eq_true.mp (show (poolS.all fun x => okD (.str x)) = true by decide +kernel)
theorem pool_nodup : poolS.Nodup := by decide +kernel
theorem BookInv.nok {i : Nat} {s : List Str × List (Int × Str)} (h : BookInv i s) : ∀ n ∈ s.1, nameOk n := fun n hn => pool_ok n (h.perm.subset (List.mem_append_left _ hn))
theorem BookInv.len {i : Nat} {s : List Str × List (Int × Str)} (h : BookInv i s) : s.1.length + s.2.length = 10 := by
  have := h.perm.length_eq
  rw [List.length_append, List.length_map] at this
  exact this
theorem BookInv.same {i : Nat} {s : List Str × List (Int × Str)} (h : BookInv i s) : BookInv (i + 1) s := ⟨h.perm, h.ris, fun r hr => by have := h.inn r hr; omega⟩
theorem perm_erase {α : Type} {x : α} : ∀ {l : List α} {m : Nat}, l[m]? = some x → (x :: l.eraseIdx m).Perm l
  | [], m, h => by simp at h
  | y :: l, 0, h => by
    simp at h
    subst h
    exact .refl _
  | y :: l, m + 1, h => by
    simp at h
    exact (List.Perm.swap _ _ _).trans ((perm_erase h).cons y)
theorem BookInv.more {i m : Nat} {ns : List Str} {rows : List (Int × Str)} {x : Str} (h : BookInv i (ns, rows)) (hx : ns[m]? = some x) : BookInv (i + 1) (ns.eraseIdx m, rows ++ [((i : Int), x)]) := by
  refine ⟨?_, ?_, fun r hr => ?_⟩
  · refine List.Perm.trans ?_ h.perm
    have h1 := perm_erase hx
    show (ns.eraseIdx m ++ (rows ++ [((i : Int), x)]).map (·.2)).Perm (ns ++ rows.map (·.2))
    rw [List.map_append, List.map_singleton, ← List.append_assoc]
    refine List.Perm.trans ?_ (h1.append_right _)
    show (ns.eraseIdx m ++ rows.map (·.2) ++ [x]).Perm (x :: (ns.eraseIdx m ++ rows.map (·.2)))
    exact List.perm_append_singleton _ _
  · refine List.pairwise_append.mpr ⟨h.ris, by simp, fun r hr q hq => ?_⟩
    have e : q = ((i : Int), x) := by simpa using hq
    subst e
    exact (h.inn r hr).2
  · rcases List.mem_append.mp hr with z | z
    · have := h.inn r z
      omega
    · have e : r = ((i : Int), x) := by simpa using z
      subst e
      constructor <;> omega
theorem BookInv.done {i : Nat} {s : List Str × List (Int × Str)} {e most : Int} (h : BookInv i s) (hi : (i : Int) = e + 1) (e0 : 0 ≤ e) (e1 : e < most) (m2 : most ≤ 21) : BookOk most ⟨e, s.2, true⟩ := by
  have hl := h.len
  have hnd : (s.1 ++ s.2.map (·.2)).Nodup := h.perm.nodup_iff.mpr pool_nodup
  refine ⟨⟨e0, by show e ≤ 20; omega, by show s.2.length ≤ 10; omega, fun r hr => ?_, h.ris, ?_, fun r hr => ?_⟩, rfl, e1, fun r hr => ?_⟩
  · have := h.inn r hr
    show 0 ≤ r.1 ∧ r.1 ≤ e
    omega
  · have h2 := (List.nodup_append.mp hnd).2.1
    exact List.pairwise_map.mp h2
  · exact pool_ok _ (h.perm.subset (List.mem_append_right _ (List.mem_map.mpr ⟨r, hr, rfl⟩)))
  · exact h.perm.subset (List.mem_append_right _ (List.mem_map.mpr ⟨r, hr, rfl⟩))
theorem map_eraseIdx' {α β : Type} (f : α → β) : ∀ (l : List α) (m : Nat), (l.map f).eraseIdx m = (l.eraseIdx m).map f
  | [], _ => rfl
  | _ :: _, 0 => rfl
  | x :: l, m + 1 => by
    show f x :: (l.map f).eraseIdx m = f x :: (l.eraseIdx m).map f
    rw [map_eraseIdx' f l m]
def tableD (b : Book) : List (Key × D) := b.laid.map fun r => ((Sum.inl r.1 : Key), D.str r.2)
theorem valD_table (b : Book) (t : Int) : (valD (tableD b) (.inl t)).getD .non = encON (nameAt b t) := by
  unfold tableD
  rw [valD_map b.laid (fun r => r.1) (fun r => D.str r.2)]
  unfold nameAt
  cases b.laid.find? (fun r => decide (r.1 = t)) <;> rfl
theorem laid_ftup {b : Book} (h : b.fl = true) : tupF b.fl (b.laid.map encRow) = .ftup (b.laid.map fun r => .tup [.int r.1, .str r.2]) := by
  rw [h]; rfl
theorem map_isEmpty {α β : Type} (f : α → β) (l : List α) : (l.map f).isEmpty = l.isEmpty := by cases l <;> rfl
theorem Run.nok {b : Book} (wb : WB b) {n : Nat} {tk : List Int} {ps : List Pile} (h : Run b n tk ps) : ∀ x ∈ ps.getLastD [], nameOk x := fun x hx => by
  obtain ⟨t, _, e⟩ := h.last x hx
  exact nameAt_ok wb e
theorem Run.len10 {b : Book} (wb : WB b) {n : Nat} {tk : List Int} {ps : List Pile} (h : Run b n tk ps) : (ps.getLastD []).length ≤ 10 := Nat.le_trans h.few (Nat.le_trans (laidTo_le _ _) wb.few)
theorem fz_pile (p : Pile) : fz (encPile p) = true := fzs_map D.str (fun _ => rfl) p
theorem fz_OP (p : Option Pile) : fz (encOP p) = true := by
  cases p with
  | none => rfl
  | some p => exact fz_pile p
theorem nextM_some {p : Pile} {k : Int} {nm : Option Str} (h : ¬ (k = 1 ∧ p = [])) : ∃ q, nextM p k nm = some q := by
  unfold nextM
  rw [if_neg h]
  exact ⟨_, rfl⟩
theorem laidN_len {b : Book} (wb : WB b) (t : Int) : ((b.laid.filter fun r => decide (r.1 = t)).length : Int) = laidN b t := by
  unfold laidN nameAt
  have hr := wb.ris
  generalize b.laid = l at hr
  induction l with
  | nil => rfl
  | cons r l ih =>
    rw [List.pairwise_cons] at hr
    by_cases z : r.1 = t
    · have hz : l.filter (fun r => decide (r.1 = t)) = [] := by
        rw [List.filter_eq_nil_iff]
        intro q hq
        have := hr.1 q hq
        simp
        omega
      simp [List.filter_cons, z, hz]
    · simp only [List.filter_cons, z, decide_false, Bool.false_eq_true, if_false, List.find?_cons]
      exact ih hr.2
section
variable {K : PySem.W.Frag} {ρ : List Sl} {ta tb : TE}
theorem any_eqS (p : List Str) (n : Str) : ((p.map D.str).any fun z => eqD z (.str n)) = decide (n ∈ p) := by
  induction p with
  | nil => rfl
  | cons x p ih =>
    rw [List.map_cons, List.any_cons, ih]
    have e : eqD (.str x) (.str n) = decide (x = n) := by
      show (x == n) = _
      rw [Bool.beq_eq_decide_eq]
    rw [e]
    by_cases z : x = n
    · simp [z]
    · have z2 : ¬ n = x := fun y => z y.symm
      simp [z, z2]
end
/-! drawing pairs of names -/
section
variable {c : Ctx} {Ps : List (Addr × D)} {ρ ρ' : List Sl} {σ : St} {H : Hp} {De : Ends} {t1 t2 : TE} {tz : TS} {R1 : D → List (Addr × D) → Prop} {R2 : D → List (Addr × D) → D → List (Addr × D) → Prop} {i j : Nat}
theorem q_parBB (a : At c Ps ρ σ H) (h1 : EB t1 Ps ρ R1) (h2 : ∀ d P, R1 d P → EB t2 P ρ (R2 d P)) (k : ∀ d P e P2 σ' H', R1 d P → R2 d P e P2 → At c P2 ((ρ.set i (.dat d)).set j (.dat e)) σ' H' → tz De σ' H') : tSeq (tPar i j (tCons t1 (tCons t2 tNil))) tz De σ H := by
  show t1 σ H _
  refine h1 _ σ H a _ fun v d P L H1 hR1 r1 a1 => ?_
  show t2 σ H1 _
  refine h2 d P hR1 _ σ H1 a1 _ fun w e P2 L2 H2 hR2 r2 a2 => ⟨v, w, rfl, k d P e P2 _ _ hR1 hR2 ?_⟩
  have a3 := a2.setD i (List.mem_cons_of_mem _ List.mem_cons_self) r1
  exact (a3.setD j List.mem_cons_self r2).unext.unext
end
section
variable {c : Ctx} {Ps : List (Addr × D)} {ρ ρ' : List Sl} {σ : St} {H : Hp} {De : Ends} {t1 t2 : TE} {ta : TA} {g : TG} {tb : TS} {tz : TS} {d2 : D} {R1 : D → List (Addr × D) → Prop} {RA : List D → List (Addr × D) → Prop} {i j : Nat}
theorem q_parBL (a : At c Ps ρ σ H) (h1 : EB t1 Ps ρ R1) (h2 : EL t2 ρ d2) (k : ∀ d P p σ' H', R1 d P → At c ((p, d2) :: P) ((ρ.set i (.dat d)).set j (.val (.ref p))) σ' H' → tz De σ' H') : tSeq (tPar i j (tCons t1 (tCons t2 tNil))) tz De σ H := by
  show t1 σ H _
  refine h1 _ σ H a _ fun v d P L H1 hR1 r1 a1 => ?_
  show t2 σ H1 _
  refine a1.el h2 fun p H2 a2 => ⟨v, _, rfl, k d P p _ _ hR1 ?_⟩
  exact ((a2.setD i (List.mem_cons_self) r1).setV j).unext
/-- a loop over a range whose end is drawn -/
theorem s_rngB (a : At c Ps ρ σ H) (h : EBA ta Ps ρ RA) (hR : ∀ ds P, RA ds P → ∃ n : Int, ds = [.int n] ∧ -(2 ^ 62) ≤ n ∧ n < 2 ^ 62)
    (k : ∀ (n : Int) P H', RA [.int n] P → At c P ρ σ H' → tFor (iRng1 (tCons (tC (.int n)) tNil)) g tb De σ H') : tFor (iRng1 ta) g tb De σ H := by
  refine h _ σ H a _ fun vs ds P L H1 hRA r a1 => ?_
  obtain ⟨n, rfl, n0, n1⟩ := hR ds P hRA
  obtain ⟨v, rfl, r1⟩ := r.one
  rw [r1.inv_int]
  obtain ⟨n', e, _, _, q⟩ := k n P H1 hRA a1.unext
  cases e
  exact ⟨n, rfl, n0, n1, q⟩
theorem q_rngB (a : At c Ps ρ σ H) (h : EBA ta Ps ρ RA) (hR : ∀ ds P, RA ds P → ∃ n : Int, ds = [.int n] ∧ -(2 ^ 62) ≤ n ∧ n < 2 ^ 62)
    (k : ∀ (n : Int) P H', RA [.int n] P → At c P ρ σ H' → tSeq (tFor (iRng1 (tCons (tC (.int n)) tNil)) g tb) tz De σ H') : tSeq (tFor (iRng1 ta) g tb) tz De σ H := s_rngB (De := { De with nx := tz De }) a h hR k
end
/-! sights as keys -/
def sightK : Sight → List Key
  | .above t n m => [.inr (Str.ofString "above"), .inl t, .inr n, .inl m]
  | .high t m => [.inr (Str.ofString "high"), .inl t, .inl m]
  | .least t m => [.inr (Str.ofString "least"), .inl t, .inl m]
  | .most t m => [.inr (Str.ofString "most"), .inl t, .inl m]
theorem encK_sight (s : Sight) : encK (sightK s) = encSight s := by cases s <;> rfl
theorem kD_inj {a b : Key} (h : kD a = kD b) : a = b := by
  cases a <;> cases b <;> simp [kD] at h <;> rw [h]
theorem encK_inj {a b : List Key} (h : encK a = encK b) : a = b := by
  have h : a.map kD = b.map kD := D.tup.inj h
  exact (List.map_inj_right fun _ _ => kD_inj).mp h
theorem encK_sight_inj {k : List Key} {s : Sight} (h : encK k = encSight s) : k = sightK s := encK_inj (h.trans (encK_sight s).symm)
theorem headS_sight (s : Sight) : headS (sightK s) = true := by cases s <;> rfl
theorem cmpOk_sight (s u : Sight) : cmpOk (sightK s) (sightK u) = true := by
  cases s <;> cases u <;> simp [sightK, cmpOk, sameKind] <;> (left; decide +kernel)
/-- the sorted keys are sights again -/
theorem sights_sorted {P : Sight → Prop} {ks : List (List Key)} (h : ∀ k ∈ ks, ∃ s, P s ∧ k = sightK s) : ∃ ss : List Sight, (sortK ks).map encK = ss.map encSight ∧ (∀ s ∈ ss, P s) ∧ ss.length = ks.length := by
  have hp := sortK_perm ks
  have h2 : ∀ k ∈ sortK ks, ∃ s, P s ∧ k = sightK s := fun k hk => h k (hp.subset hk)
  have hl := hp.length_eq
  generalize sortK ks = l at h2 hl
  rw [← hl]
  clear hl hp h
  induction l with
  | nil => exact ⟨[], rfl, by simp, rfl⟩
  | cons k l ih =>
    obtain ⟨ss, e, hP, hl⟩ := ih fun k hk => h2 k (List.mem_cons_of_mem _ hk)
    obtain ⟨s, hs, rfl⟩ := h2 k List.mem_cons_self
    refine ⟨s :: ss, ?_, ?_, by simp [hl]⟩
    · rw [List.map_cons, List.map_cons, e, encK_sight]
    · intro u hu
      rcases List.mem_cons.mp hu with z | z
      · rw [z]; exact hs
      · exact hP u z
/-- dicts of sights -/
def SightKeys (P : Sight → Prop) (kvs : List (List Key × D)) : Prop := ∀ p ∈ kvs, ∃ s, P s ∧ p.1 = sightK s
theorem putD_keysIn {κ : Type} [DecidableEq κ] {kvs : List (κ × D)} {k : κ} {d : D} : ∀ p ∈ putD kvs k d, p.1 = k ∨ ∃ q ∈ kvs, q.1 = p.1 := by
  intro p hp
  unfold putD at hp
  split at hp
  · obtain ⟨q, hq, rfl⟩ := List.mem_map.mp hp
    by_cases z : q.1 = k
    · left
      simp [z]
    · right
      exact ⟨q, hq, by simp [z]⟩
  · rcases List.mem_append.mp hp with z | z
    · exact .inr ⟨p, z, rfl⟩
    · left
      have : p = (k, d) := by simpa using z
      rw [this]
theorem SightKeys.put {P : Sight → Prop} {kvs : List (List Key × D)} {s : Sight} {d : D} (h : SightKeys P kvs) (hs : P s) : SightKeys P (putD kvs (sightK s) d) := fun p hp => by
  rcases putD_keysIn p hp with z | ⟨q, hq, z⟩
  · exact ⟨s, hs, z⟩
  · obtain ⟨u, hu, e⟩ := h q hq
    exact ⟨u, hu, by rw [← z, e]⟩
theorem SightKeys.heads {P : Sight → Prop} {kvs : List (List Key × D)} (h : SightKeys P kvs) : ∀ p ∈ kvs, headS p.1 = true := fun p hp => by
  obtain ⟨s, _, e⟩ := h p hp
  rw [e]; exact headS_sight s
theorem SightKeys.cmps {P : Sight → Prop} {kvs : List (List Key × D)} (h : SightKeys P kvs) : ∀ p ∈ kvs, ∀ q ∈ kvs, cmpOk p.1 q.1 = true := fun p hp q hq => by
  obtain ⟨s, _, e⟩ := h p hp
  obtain ⟨u, _, e2⟩ := h q hq
  rw [e, e2]; exact cmpOk_sight s u
theorem SightKeys.sorted {P : Sight → Prop} {kvs : List (List Key × D)} (h : SightKeys P kvs) : ∃ ss : List Sight, (sortK (kvs.map Prod.fst)).map encK = ss.map encSight ∧ (∀ s ∈ ss, P s) ∧ ss.length = kvs.length := by
  obtain ⟨ss, h1, h2, h3⟩ := sights_sorted (P := P) (ks := kvs.map Prod.fst) fun k hk => by
    obtain ⟨p, hp, rfl⟩ := List.mem_map.mp hk
    exact h p hp
  exact ⟨ss, h1, h2, by rw [h3, List.length_map]⟩
theorem encRow_inj {a b : Int × Str} (h : encRow a = encRow b) : a = b := by
  obtain ⟨a1, a2⟩ := a
  obtain ⟨b1, b2⟩ := b
  simp [encRow] at h
  rw [h.1, h.2]
theorem encBook_inj {a b : Book} (h : encBook a = encBook b) : a = b := by
  obtain ⟨f, l, x⟩ := a
  obtain ⟨g, m, y⟩ := b
  simp [encBook] at h
  obtain ⟨rfl, h⟩ := h
  have e : l.map encRow = m.map encRow ∧ x = y := by
    cases x <;> cases y <;> simp [tupF] at h
    · exact ⟨by simpa using h, rfl⟩
    · exact ⟨by simpa using h, rfl⟩
  have e1 := (List.map_inj_right fun _ _ => encRow_inj).mp e.1
  rw [e1, e.2]
theorem R_a_story.inv {b : Book} {d : D} (h : R_a_story [encBook b] d) : ∃ tk ps, Run b (b.fin + 1).toNat tk ps ∧ d = .tup [encTk tk, .lst (ps.map encPile)] := by
  generalize hx : [encBook b] = ds at h
  cases h with
  | mk b' tk ps hr =>
    have e := encBook_inj (List.cons.inj hx).1
    subst e
    exact ⟨tk, ps, hr, rfl⟩
theorem R_sight_of.inv {b : Book} {x d : D} (h : R_sight_of [encBook b, x] d) : ∃ s, WS1 b s ∧ d = encSight s := by
  generalize hx : [encBook b, x] = ds at h
  cases h with
  | mk b' ps s hs =>
    have e := encBook_inj (List.cons.inj hx).1
    subst e
    exact ⟨s, hs, rfl⟩
theorem R_book.inv {most : Int} {d : D} (h : R_book [.int most] d) : ∃ b, BookOk most b ∧ d = encBook b := by
  cases h with
  | mk _ b hb => exact ⟨b, hb, rfl⟩
theorem R_sights.inv {b : Book} {most : Int} {d : D} (h : R_sights [encBook b, .int most] d) : ∃ ss, WS b ss ∧ (ss.length : Int) ≤ most ∧ d = encSights ss := by
  generalize hx : [encBook b, D.int most] = ds at h
  cases h with
  | mk b' m ss hw hl =>
    have e := encBook_inj (List.cons.inj hx).1
    have e2 : D.int most = D.int m := (List.cons.inj (List.cons.inj hx).2).1
    cases e2
    subst e
    exact ⟨ss, hw, hl, rfl⟩
theorem step1_run {b : Book} {ss : List Sight} {n : Nat} {f g : Sto} {k : Int} (hk : k = 0 ∨ k = 1) (hf : Run b n f.1 f.2) (h : step1 b ss n f k = some g) : Run b (n + 1) g.1 g.2 := by
  unfold step1 at h
  cases hq : nextM (f.2.getLastD []) k (nameAt b (n : Int)) with
  | none => rw [hq] at h; cases h
  | some q =>
    rw [hq] at h
    simp only at h
    split at h
    · cases h
      exact Run.snoc hf hk hq
    · cases h
theorem storiesTo_run {b : Book} {ss : List Sight} : ∀ (n : Nat) (f : Sto), f ∈ storiesTo b ss n → Run b n f.1 f.2
  | 0, f, h => by
    have : f = ([], []) := by simpa [storiesTo] using h
    subst this
    exact .nil
  | n + 1, f, h => by
    obtain ⟨g, hg, h⟩ := List.mem_flatMap.mp h
    obtain ⟨k, hk, h⟩ := List.mem_filterMap.mp h
    exact step1_run (by simpa using hk) (storiesTo_run n g hg) h
theorem stepM_len (b : Book) (ss : List Sight) (n : Nat) (f : Sto) : (stepM b ss n f).length ≤ 2 := List.length_filterMap_le _ _
theorem flatMap_len {α β : Type} {f : α → List β} (h : ∀ x, (f x).length ≤ 2) : ∀ l : List α, (l.flatMap f).length ≤ 2 * l.length
  | [] => by simp
  | x :: l => by
    rw [List.flatMap_cons, List.length_append, List.length_cons]
    have := flatMap_len h l
    have := h x
    omega
theorem storiesTo_len (b : Book) (ss : List Sight) : ∀ n : Nat, (storiesTo b ss n).length ≤ 2 ^ n
  | 0 => by simp [storiesTo]
  | n + 1 => by
    have h1 := flatMap_len (stepM_len b ss n) (storiesTo b ss n)
    have h2 := storiesTo_len b ss n
    show ((storiesTo b ss n).flatMap (stepM b ss n)).length ≤ _
    rw [Nat.pow_succ]
    omega
theorem storiesTo_len16 (b : Book) (ss : List Sight) {n : Nat} (hn : n ≤ 15) : (storiesTo b ss n).length ≤ 32768 := Nat.le_trans (storiesTo_len b ss n) (Nat.le_trans (Nat.pow_le_pow_right (by decide) hn) (by decide))
theorem okD_fact3 (w : Str) (hw : okD (.str w) = true) (t m : Int) : okD (.tup [.str w, .int t, .int m]) = true := (okD_lst (ds := [.str w, .int t, .int m]) (n := 1) (by decide) fun d hd => by
  simp only [List.mem_cons, List.not_mem_nil, or_false] at hd
  rcases hd with rfl | rfl | rfl
  · exact ⟨hw, by simp [toPy, PyData.depth]⟩
  · exact ⟨rfl, by simp [toPy, PyData.depth]⟩
  · exact ⟨rfl, by simp [toPy, PyData.depth]⟩).2
theorem okD_sight {b : Book} {s : Sight} (h : WS1 b s) : okD (encSight s) = true ∧ (toPy (encSight s)).depth ≤ 2 := by
  cases s with
  | above t n m =>
    have hn := (h.own t n m rfl).1
    have := okD_lst (ds := [.str (Str.ofString "above"), .int t, .str n, .int m]) (n := 1) (by decide) fun d hd => by
      simp only [List.mem_cons, List.not_mem_nil, or_false] at hd
      rcases hd with rfl | rfl | rfl | rfl
      · exact ⟨by decide +kernel, by simp [toPy, PyData.depth]⟩
      · exact ⟨rfl, by simp [toPy, PyData.depth]⟩
      · exact ⟨hn, by simp [toPy, PyData.depth]⟩
      · exact ⟨rfl, by simp [toPy, PyData.depth]⟩
    exact ⟨this.2, by simp [encSight, toPy, toPys, PyData.depth, PyData.depthAll]⟩
  | high t m => exact ⟨okD_fact3 _ (by decide +kernel) t m, by simp [encSight, toPy, toPys, PyData.depth, PyData.depthAll]⟩
  | least t m => exact ⟨okD_fact3 _ (by decide +kernel) t m, by simp [encSight, toPy, toPys, PyData.depth, PyData.depthAll]⟩
  | most t m => exact ⟨okD_fact3 _ (by decide +kernel) t m, by simp [encSight, toPy, toPys, PyData.depth, PyData.depthAll]⟩
theorem okD_sightsL {b : Book} {ss : List Sight} (h : ∀ s ∈ ss, WS1 b s) : okD (.lst (ss.map encSight)) = true := (okD_lst (n := 2) (by decide) fun d hd => by
  obtain ⟨s, hs, rfl⟩ := List.mem_map.mp hd
  exact okD_sight (h s hs)).1
theorem okD_piles {ps : List Pile} (h : ∀ q ∈ ps, ∀ x ∈ q, nameOk x) : okD (.tup (ps.map encPile)) = true := (okD_lst (n := 2) (by decide) fun d hd => by
  obtain ⟨q, hq, rfl⟩ := List.mem_map.mp hd
  refine ⟨okPile (h q hq), ?_⟩
  have : (toPy (encPile q)).depth = PyData.depthAll (toPys (q.map D.str)) + 1 := by
    show (PyData.tuple (toPys (q.map D.str))).depth = _
    rw [PyData.depth]
  rw [this]
  have := depth_all_le (ds := q.map D.str) (n := 1) fun d hd => by
    obtain ⟨x, _, rfl⟩ := List.mem_map.mp hd
    simp [toPy, PyData.depth]
  omega).2
theorem Run.okPs {b : Book} (wb : WB b) {n : Nat} {tk : List Int} {ps : List Pile} (h : Run b n tk ps) : ∀ q ∈ ps, ∀ x ∈ q, nameOk x := fun q hq x hx => by
  obtain ⟨i, hi⟩ := List.mem_iff_getElem?.mp hq
  obtain ⟨t, _, e⟩ := h.at_ i q hi x hx
  exact nameAt_ok wb e
theorem atI_last {α : Type} {l : List α} (d : α) (h : l ≠ []) : atI l (-1) = some (l.getLastD d) := by
  have hp := List.length_pos_iff.mpr h
  have e : ixN l.length (-1) = some (l.length - 1) := by
    unfold ixN
    rw [if_neg (by omega), if_pos (by omega)]
    congr 1
    omega
  unfold atI
  rw [e]
  show l[l.length - 1]? = _
  rw [← List.getLast?_eq_getElem?]
  cases l with
  | nil => exact absurd rfl h
  | cons x l => rfl
section
variable {K : PySem.W.Frag} {ρ : List Sl} {ta : TE} {s : Sight}
theorem e_sTick (h : E ta ρ (encSight s)) : E (tOp (rIx K) ta (tC (.int 1))) ρ (.int s.tick) := by
  cases s <;> exact e_ixT h e_int (atI_1 _ _ _)
end
/-! the law's own facts -/
def factK : Fact → List Key
  | .laid t => [.inr (Str.ofString "laid"), .inl t]
  | .took t => [.inr (Str.ofString "took"), .inl t]
  | .floor t => [.inr (Str.ofString "floor"), .inl t]
  | .there a t => [.inr (Str.ofString "there"), .inl a, .inl t]
  | .over a => [.inr (Str.ofString "over"), .inl a]
  | .under a => [.inr (Str.ofString "under"), .inl a]
  | .most a => [.inr (Str.ofString "most"), .inl a]
  | .least a => [.inr (Str.ofString "least"), .inl a]
theorem encK_fact (f : Fact) : encK (factK f) = encFact f := by cases f <;> rfl
theorem encFact_inj {f g : Fact} (h : encFact f = encFact g) : f = g := by
  cases f <;> cases g <;> simp [encFact] at h <;> first
    | (rw [h]; done)
    | (obtain ⟨h1, h2⟩ := h; rw [h1, h2]; done)
    | exact absurd h (by decide +kernel)
    | exact absurd h.1 (by decide +kernel)
theorem factK_inj {f g : Fact} (h : factK f = factK g) : f = g := encFact_inj (by rw [← encK_fact, ← encK_fact, h])
def lawSight (b : Book) (s : Sight) (a : Int) : List Fact := match s with
  | .above u n _ => [.over a, .under a] ++ (List.range (u - ownT b n).toNat).map fun i => .there a (ownT b n + 1 + (i : Nat))
  | .high _ _ => [.most a, .least a]
  | .most _ _ => [.most a]
  | .least _ _ => [.least a]
def lawAt (a : Nat) (b : Book) : List Sight → List Fact
  | [] => []
  | s :: ss => lawSight b s (a : Nat) ++ lawAt (a + 1) b ss
def lawFacts (b : Book) (ss : List Sight) : List Fact := factsBook (b.fin + 1).toNat ++ lawAt 0 b ss
def foldK (b : Book) (ss : List Sight) (kv : List (List Key × D)) (fs : List Fact) : List (List Key × D) := fs.foldl (fun kv f => putD kv (factK f) (encCon (con b ss f))) kv
theorem foldK_app (b : Book) (ss : List Sight) (kv : List (List Key × D)) (fs gs : List Fact) : foldK b ss kv (fs ++ gs) = foldK b ss (foldK b ss kv fs) gs := List.foldl_append
theorem foldK_len (b : Book) (ss : List Sight) : ∀ (fs : List Fact) (kv : List (List Key × D)), (foldK b ss kv fs).length ≤ kv.length + fs.length
  | [], kv => Nat.le_refl _
  | f :: fs, kv => by
    have h1 := foldK_len b ss fs (putD kv (factK f) (encCon (con b ss f)))
    have h2 := putD_len kv (factK f) (encCon (con b ss f))
    show (foldK b ss (putD kv (factK f) (encCon (con b ss f))) fs).length ≤ _
    rw [List.length_cons]
    omega
theorem lawAt_snoc (b : Book) (s : Sight) : ∀ (a : Nat) (ss : List Sight), lawAt a b (ss ++ [s]) = lawAt a b ss ++ lawSight b s ((a + ss.length : Nat) : Int)
  | a, [] => by simp [lawAt]
  | a, u :: ss => by
    rw [List.cons_append, lawAt, lawAt, lawAt_snoc b s (a + 1) ss, List.append_assoc, List.length_cons]
    have e : a + 1 + ss.length = a + (ss.length + 1) := by omega
    rw [e]
theorem lawSight_len {b : Book} {s : Sight} (wb : WB b) (ws : WS1 b s) (a : Int) : (lawSight b s a).length ≤ 30 := by
  cases s with
  | above u n m =>
    have h1 := ws.hi
    have h2 := wb.hi
    obtain ⟨_, o, ho, _⟩ := ws.own u n m rfl
    obtain ⟨r, hr, hr1, _⟩ := ownTick_in ho
    have h3 := (wb.inn r hr).1
    have h4 : ownT b n = o := by unfold ownT; rw [ho]; rfl
    simp [lawSight, Sight.tick] at h1 ⊢
    omega
  | high _ _ => simp [lawSight]
  | most _ _ => simp [lawSight]
  | least _ _ => simp [lawSight]
theorem lawAt_len {b : Book} (wb : WB b) : ∀ (ss : List Sight) (a : Nat), (∀ s ∈ ss, WS1 b s) → (lawAt a b ss).length ≤ 30 * ss.length
  | [], _, _ => by simp [lawAt]
  | s :: ss, a, h => by
    have h1 := lawAt_len wb ss (a + 1) fun u hu => h u (List.mem_cons_of_mem _ hu)
    have h2 := lawSight_len wb (h s List.mem_cons_self) (a : Nat)
    rw [lawAt, List.length_append, List.length_cons]
    omega
inductive L_facts : List D → D → Prop
  | mk (b : Book) (ss : List Sight) : WB b → WS b ss → L_facts [encBook b, encSights ss] (.dt (foldK b ss [] (lawFacts b ss)))
def encIx (p : Nat × Sight) : D := .tup [.int (p.1 : Nat), encSight p.2]
theorem enum_sights (ss : List Sight) : enumD (ss.map encSight) = (ss.mapIdx Prod.mk).map encIx := by
  unfold enumD
  apply List.ext_getElem?
  intro i
  rw [List.getElem?_mapIdx, List.getElem?_map, List.getElem?_map, List.getElem?_mapIdx]
  cases ss[i]? <;> rfl
theorem con_over {b : Book} {ss : List Sight} {i : Nat} {u m : Int} {n : Str} (h : ss[i]? = some (.above u n m)) : con b ss (.over (i : Int)) = (u, ownT b n, m) := by
  simp [con, h]
theorem con_under {b : Book} {ss : List Sight} {i : Nat} {u m : Int} {n : Str} (h : ss[i]? = some (.above u n m)) : con b ss (.under (i : Int)) = (ownT b n, u, 0 - m) := by
  simp [con, h]
theorem con_there {b : Book} {ss : List Sight} {i : Nat} {u m t : Int} {n : Str} (h : ss[i]? = some (.above u n m)) : con b ss (.there (i : Int) t) = (ownT b n, t, 0 - laidN b t) := by
  simp [con, h]
theorem con_most {b : Book} {ss : List Sight} {i : Nat} {s : Sight} (h : ss[i]? = some s) : con b ss (.most (i : Int)) = (s.tick, -1, s.many) := by
  simp [con, h]
theorem con_least {b : Book} {ss : List Sight} {i : Nat} {s : Sight} (h : ss[i]? = some s) : con b ss (.least (i : Int)) = (-1, s.tick, 0 - s.many) := by
  simp [con, h]
theorem fz_con (c : Con) : fz (encCon c) = true := rfl
inductive L_is_ring : List D → D → Prop
  | facts (b : Book) (ss : List Sight) (fs : List Fact) (kvs : List (List Key × D)) (hn : fs ≠ []) (hv : ∀ f ∈ fs, valD kvs (factK f) = some (encCon (con b ss f))) (hl : fs.length ≤ 10000) : L_is_ring [.dt kvs, .tup (fs.map encFact)] (.bl (ringOk (fs.map (con b ss))))
theorem encFact_shape (f : Fact) : ∃ (w : Str) (ns : List Int), encFact f = .tup (.str w :: ns.map .int) ∧ 1 ≤ ns.length ∧ ns.length ≤ 2 := by
  cases f with
  | there a t => exact ⟨_, [a, t], rfl, by simp, by simp⟩
  | laid a => exact ⟨_, [a], rfl, by simp, by simp⟩
  | took a => exact ⟨_, [a], rfl, by simp, by simp⟩
  | floor a => exact ⟨_, [a], rfl, by simp, by simp⟩
  | over a => exact ⟨_, [a], rfl, by simp, by simp⟩
  | under a => exact ⟨_, [a], rfl, by simp, by simp⟩
  | most a => exact ⟨_, [a], rfl, by simp, by simp⟩
  | least a => exact ⟨_, [a], rfl, by simp, by simp⟩
theorem okD_facts (fs : List Fact) : okD (.tup (fs.map encFact)) = true := (okD_lst (n := 1) (by decide) fun d hd => by
  obtain ⟨f, _, rfl⟩ := List.mem_map.mp hd
  exact ⟨okD_fact f, depth_fact f⟩).2
theorem okD_ints (ns : List Int) : okD (.lst (ns.map .int)) = true := (okD_lst (n := 1) (by decide) fun d hd => by
  obtain ⟨f, _, rfl⟩ := List.mem_map.mp hd
  exact ⟨rfl, by simp [toPy, PyData.depth]⟩).1
/-- what the ring of facts that can't all be is to be -/
def RingOut (b : Book) (ss : List Sight) : Prop := match settleLoop (saysOf b ss []) (b.fin + 4).toNat init0 with
  | .inl _ => True
  | .inr st => ∃ l fs, st.last = some l ∧ Gone st.by_ l (b.fin + 4).toNat (fs.map some) ∧ fs ≠ [] ∧ fs.length ≤ 10000 ∧ (∀ f ∈ fs, f ∈ factsOf b ss) ∧ ringOk (fs.map (con b ss)) = true
inductive L_right : List D → D → Prop
  | mk (b : Book) (ss : List Sight) (can : Bool) : WB b → WS b ss → canB b ss = can → RingOut b ss → L_right [encBook b, encSights ss, .bl can] (.bl true)
theorem settled_ex {b : Book} {ss : List Sight} (h : RingOut b ss) : ∃ d, Settled b.fin (saysOf b ss []) d := by
  unfold RingOut at h
  unfold Settled
  cases hq : settleLoop (saysOf b ss []) (b.fin + 4).toNat init0 with
  | inl m => exact ⟨_, rfl⟩
  | inr st =>
    rw [hq] at h
    obtain ⟨l, fs, h1, h2, _⟩ := h
    exact ⟨_, l, _, h1, h2, rfl⟩
theorem encOF_map (fs : List Fact) : (fs.map some).map encOF = fs.map encFact := by
  rw [List.map_map]; rfl
theorem ring_dat {b : Book} {ss : List Sight} (wb : WB b) (ws : WS b ss) (h : RingOut b ss) : (canB b ss = true ∧ R_ring [encBook b, encSights ss] .non) ∨
    (canB b ss = false ∧ ∃ fs : List Fact, R_ring [encBook b, encSights ss] (.tup (fs.map encFact)) ∧ fs ≠ [] ∧ fs.length ≤ 10000 ∧ (∀ f ∈ fs, f ∈ factsOf b ss) ∧ ringOk (fs.map (con b ss)) = true) := by
  unfold RingOut at h
  unfold canB
  cases hq : settleLoop (saysOf b ss []) (b.fin + 4).toNat init0 with
  | inl m => exact .inl ⟨rfl, .non b ss m wb ws hq⟩
  | inr st =>
    rw [hq] at h
    obtain ⟨l, fs, h1, h2, h3, h4, h5, h6⟩ := h
    have := R_ring.tup b ss st l (fs.map some) wb ws hq h1 h2
    rw [encOF_map] at this
    exact .inr ⟨rfl, fs, this, h3, h4, h5, h6⟩
theorem valD_foldK {b : Book} {ss : List Sight} {f : Fact} : ∀ (fs : List Fact) (kv : List (List Key × D)), (f ∈ fs ∨ valD kv (factK f) = some (encCon (con b ss f))) → valD (foldK b ss kv fs) (factK f) = some (encCon (con b ss f))
  | [], kv, h => by
    rcases h with h | h
    · simp at h
    · exact h
  | g :: fs, kv, h => by
    refine valD_foldK fs _ ?_
    rw [valD_put]
    by_cases z : f = g
    · subst z
      exact .inr (by simp)
    · have hk : ¬ factK f = factK g := fun y => z (factK_inj y)
      rw [if_neg hk]
      rcases h with h | h
      · rcases List.mem_cons.mp h with y | y
        · exact absurd y z
        · exact .inl y
      · exact .inr h
theorem lawSight_mem {b : Book} {s : Sight} {a : Int} {f : Fact} (h : f ∈ factsOfSight b s a) : f ∈ lawSight b s a := by
  cases s with
  | above u n m =>
    simp only [factsOfSight, lawSight] at h ⊢
    rcases List.mem_append.mp h with z | z
    · exact List.mem_append_right _ z
    · exact List.mem_append_left _ z
  | high _ _ => exact h
  | most _ _ => exact h
  | least _ _ => exact h
theorem lawAt_mem {b : Book} {f : Fact} : ∀ (ss : List Sight) (a : Nat), f ∈ factsAt a b ss → f ∈ lawAt a b ss
  | [], _, h => by simp [factsAt] at h
  | s :: ss, a, h => by
    rw [factsAt] at h
    rw [lawAt]
    rcases List.mem_append.mp h with z | z
    · exact List.mem_append_left _ (lawSight_mem z)
    · exact List.mem_append_right _ (lawAt_mem ss (a + 1) z)
theorem lawFacts_val {b : Book} {ss : List Sight} {f : Fact} (h : f ∈ factsOf b ss) : valD (foldK b ss [] (lawFacts b ss)) (factK f) = some (encCon (con b ss f)) := by
  refine valD_foldK _ _ (.inl ?_)
  unfold factsOf at h
  unfold lawFacts
  rcases List.mem_append.mp h with z | z
  · exact List.mem_append_left _ z
  · exact List.mem_append_right _ (lawAt_mem ss 0 z)
theorem okD_sto {b : Book} (wb : WB b) {n : Nat} {f : Sto} (h : Run b n f.1 f.2) : okD (encSto f) = true ∧ (toPy (encSto f)).depth ≤ 5 := by
  have h1 := okD_lst (ds := f.1.map D.int) (n := 1) (by decide) fun d hd => by
    obtain ⟨x, _, rfl⟩ := List.mem_map.mp hd
    exact ⟨rfl, by simp [toPy, PyData.depth]⟩
  have h2 := okD_piles (h.okPs wb)
  have d1 : (toPy (encTk f.1)).depth ≤ 2 := by
    show (PyData.tuple (toPys (f.1.map D.int))).depth ≤ 2
    rw [PyData.depth]
    have := depth_all_le (ds := f.1.map D.int) (n := 1) fun d hd => by
      obtain ⟨x, _, rfl⟩ := List.mem_map.mp hd
      simp [toPy, PyData.depth]
    omega
  have d2 : (toPy (.tup (f.2.map encPile))).depth ≤ 4 := by
    show (PyData.tuple (toPys (f.2.map encPile))).depth ≤ 4
    rw [PyData.depth]
    have := depth_all_le (ds := f.2.map encPile) (n := 3) fun d hd => by
      obtain ⟨q, _, rfl⟩ := List.mem_map.mp hd
      show (PyData.tuple (toPys (q.map D.str))).depth ≤ 3
      rw [PyData.depth]
      have := depth_all_le (ds := q.map D.str) (n := 1) fun d hd => by
        obtain ⟨x, _, rfl⟩ := List.mem_map.mp hd
        simp [toPy, PyData.depth]
      omega
    omega
  refine ⟨(okD_lst (ds := [encTk f.1, .tup (f.2.map encPile)]) (n := 4) (by decide) fun d hd => ?_).2, ?_⟩
  · simp only [List.mem_cons, List.not_mem_nil, or_false] at hd
    rcases hd with rfl | rfl
    · exact ⟨h1.2, by omega⟩
    · exact ⟨h2, d2⟩
  · show (PyData.tuple (toPys [encTk f.1, .tup (f.2.map encPile)])).depth ≤ 5
    rw [PyData.depth]
    have := depth_all_le (ds := [encTk f.1, .tup (f.2.map encPile)]) (n := 4) fun d hd => by
      simp only [List.mem_cons, List.not_mem_nil, or_false] at hd
      rcases hd with rfl | rfl
      · omega
      · exact d2
    omega
theorem okD_stories {b : Book} (wb : WB b) (ss : List Sight) : okD (.lst ((storiesM b ss).map encSto)) = true := (okD_lst (n := 5) (by decide) fun d hd => by
  obtain ⟨f, hf, rfl⟩ := List.mem_map.mp hd
  exact okD_sto wb (storiesTo_run _ f hf)).1
theorem cut_In {α : Type} (xs : List α) {j : Int} (h0 : 0 ≤ j) (h1 : j ≤ xs.length) : cutL xs (some j) none = xs.drop j.toNat := by
  obtain ⟨n, rfl⟩ : ∃ n : Nat, j = n := ⟨j.toNat, by omega⟩
  unfold cutL
  rw [show HT.sIx xs.length 0 (some (n : Int)) = min n xs.length from HT.sIx_nat xs.length 0 n, HT.sIx_none, Nat.min_eq_left (by omega), Int.toNat_natCast]
  refine List.take_of_length_le ?_
  rw [List.length_drop]
  exact Nat.le_refl _
theorem cut_out (ss : List Sight) {i : Nat} (h : i < ss.length) : cutL (ss.map encSight) none (some (0 + (i : Int))) ++ cutL (ss.map encSight) (some (0 + (i : Int) + 1)) none = (ss.eraseIdx i).map encSight := by
  have hl : (ss.map encSight).length = ss.length := List.length_map _
  rw [cut_nI _ (by omega) (by rw [hl]; omega), cut_In _ (by omega) (by rw [hl]; omega), ← List.map_take, ← List.map_drop, ← List.map_append, List.eraseIdx_eq_take_drop_succ]
  congr 3
  · omega
  · omega
section
variable {c : Ctx} {Ps : List (Addr × D)} {ρ : List Sl} {σ : St} {H : Hp} {De : Ends} {tt : TT} {tu tz : TS} {b : Bool}
theorem q_joinI {S : Type} (ρf : S → List Sl) (a : At c Ps ρ σ H) (h : ET tt ρ b) (h1 : b = true → (∀ s σ' H', At c Ps (ρf s) σ' H' → tz De σ' H') → ∀ H', At c Ps ρ σ H' → tu { De with nx := tz De } σ H')
    (h2 : b = false → (∀ s σ' H', At c Ps (ρf s) σ' H' → tz De σ' H') → ∀ H', At c Ps ρ σ H' → tz De σ H') (k : ∀ s σ' H', At c Ps (ρf s) σ' H' → tz De σ' H') : tSeq (tIfS tt tu tNext) tz De σ H :=
  q_when a h (fun hb H' a' => h1 hb k H' a') (fun hb H' a' => h2 hb k H' a')
end

/-- a say holds -/
abbrev Sat (m : Int → Int) (s : Say) : Prop := m s.2.1 ≤ m s.2.2.1 + s.2.2.2
structure BInv (says : List Say) (k : Nat) (done : List Say) (st : BF) (r : Int → Nat) : Prop where
  le : ∀ x, r x ≤ k
  pos : ∀ x, 1 ≤ r x → ∃ o y, st.by_ x = some (o, y)
  edge : ∀ x o y, st.by_ x = some (o, y) → ∃ s ∈ says, s.1 = o ∧ s.2.1 = x ∧ s.2.2.1 = y ∧ st.most y + s.2.2.2 ≤ st.most x
  tim : ∀ x o y, st.by_ x = some (o, y) → r x ≤ r y + 1
  sat1 : ∀ s ∈ done, r s.2.2.1 < k → Sat st.most s
  sat0 : ∀ s ∈ says, r s.2.2.1 + 1 < k → Sat st.most s
  last : ∀ l, st.last = some l → r l = k
theorem updI_same {α : Type} (f : Int → α) (x : Int) (y : α) : updI f x y x = y := by simp [updI]
theorem updI_ne {α : Type} (f : Int → α) {x z : Int} (y : α) (h : z ≠ x) : updI f x y z = f z := by simp [updI, h]
theorem BInv.step {says done : List Say} {k : Nat} {st : BF} {r : Int → Nat} (h : BInv says k done st r) {s : Say} (hs : s ∈ says) (hk : 1 ≤ k) : ∃ r', BInv says k (done ++ [s]) (relax st s) r' := by
  unfold relax
  by_cases hlt : st.most s.2.2.1 + s.2.2.2 < st.most s.2.1
  · rw [if_pos hlt]
    refine ⟨updI r s.2.1 k, ?_, ?_, ?_, ?_, ?_, ?_, ?_⟩
    · intro x
      by_cases z : x = s.2.1
      · subst z; rw [updI_same]; exact Nat.le_refl _
      · rw [updI_ne _ _ z]; exact h.le x
    · intro x hx
      dsimp only
      by_cases z : x = s.2.1
      · subst z; rw [updI_same]; exact ⟨_, _, rfl⟩
      · rw [updI_ne _ _ z] at hx ⊢
        exact h.pos x hx
    · intro x o y hy
      dsimp only at hy ⊢
      by_cases z : x = s.2.1
      · subst z
        rw [updI_same] at hy
        cases hy
        refine ⟨s, hs, rfl, rfl, rfl, ?_⟩
        rw [updI_same]
        by_cases z2 : s.2.2.1 = s.2.1
        · rw [z2, updI_same]
          rw [z2] at hlt
          omega
        · rw [updI_ne _ _ z2]; exact Int.le_refl _
      · rw [updI_ne _ _ z] at hy
        obtain ⟨t, ht, e1, e2, e3, e4⟩ := h.edge x o y hy
        refine ⟨t, ht, e1, e2, e3, ?_⟩
        rw [updI_ne _ _ z]
        by_cases z2 : y = s.2.1
        · subst z2
          rw [updI_same]
          omega
        · rw [updI_ne _ _ z2]; exact e4
    · intro x o y hy
      dsimp only at hy
      by_cases z : x = s.2.1
      · subst z
        rw [updI_same] at hy
        cases hy
        rw [updI_same]
        by_cases z2 : s.2.2.1 = s.2.1
        · rw [z2, updI_same]; omega
        · rw [updI_ne _ _ z2]
          by_cases z3 : r s.2.2.1 + 1 < k
          · have := h.sat0 s hs z3
            unfold Sat at this
            omega
          · omega
      · rw [updI_ne _ _ z] at hy ⊢
        have := h.tim x o y hy
        by_cases z2 : y = s.2.1
        · subst z2
          rw [updI_same]
          have := h.le x
          omega
        · rw [updI_ne _ _ z2]; exact this
    · intro t ht hr
      dsimp only
      unfold Sat
      by_cases z2 : t.2.2.1 = s.2.1
      · rw [z2, updI_same] at hr
        omega
      · rw [updI_ne _ _ z2] at hr ⊢
        rcases List.mem_append.mp ht with y | y
        · have := h.sat1 t y hr
          unfold Sat at this
          by_cases z : t.2.1 = s.2.1
          · rw [z] at this ⊢
            rw [updI_same]
            omega
          · rw [updI_ne _ _ z]; exact this
        · have e : t = s := by simpa using y
          subst e
          rw [updI_same]
          exact Int.le_refl _
    · intro t ht hr
      dsimp only
      unfold Sat
      by_cases z2 : t.2.2.1 = s.2.1
      · rw [z2, updI_same] at hr
        omega
      · rw [updI_ne _ _ z2] at hr ⊢
        have := h.sat0 t ht hr
        unfold Sat at this
        by_cases z : t.2.1 = s.2.1
        · rw [z] at this ⊢
          rw [updI_same]
          omega
        · rw [updI_ne _ _ z]; exact this
    · intro l hl
      dsimp only at hl
      cases hl
      rw [updI_same]
  · rw [if_neg hlt]
    refine ⟨r, h.le, h.pos, h.edge, h.tim, fun t ht hr => ?_, h.sat0, h.last⟩
    rcases List.mem_append.mp ht with y | y
    · exact h.sat1 t y hr
    · have e : t = s := by simpa using y
      subst e
      unfold Sat
      omega
theorem BInv.fold {says : List Say} {k : Nat} (hk : 1 ≤ k) : ∀ (rest done : List Say) (st : BF) (r : Int → Nat), (∀ s ∈ rest, s ∈ says) → BInv says k done st r → ∃ r', BInv says k (done ++ rest) (rest.foldl relax st) r'
  | [], done, st, r, _, h => ⟨r, by rw [List.append_nil]; exact h⟩
  | s :: rest, done, st, r, hs, h => by
    obtain ⟨r1, h1⟩ := h.step (hs s List.mem_cons_self) hk
    obtain ⟨r2, h2⟩ := BInv.fold hk rest (done ++ [s]) (relax st s) r1 (fun t ht => hs t (List.mem_cons_of_mem _ ht)) h1
    exact ⟨r2, by rw [List.append_assoc] at h2; exact h2⟩
theorem BInv.round {says : List Say} {k : Nat} {st : BF} {r : Int → Nat} (h : BInv says k says st r) : ∃ r', BInv says (k + 1) says (T.round says st) r' := by
  have h0 : BInv says (k + 1) [] { st with last := none } r := ⟨fun x => Nat.le_succ_of_le (h.le x), h.pos, h.edge, h.tim, fun s hs => by simp at hs, fun s hs hr => h.sat1 s hs (by omega), fun l hl => by simp at hl⟩
  obtain ⟨r', h1⟩ := BInv.fold (says := says) (k := k + 1) (by omega) says [] _ r (fun s hs => hs) h0
  exact ⟨r', h1⟩
theorem BInv.start (says : List Say) : BInv says 0 says init0 fun _ => 0 := ⟨fun _ => Nat.le_refl _, fun x hx => by omega, fun x o y hy => by simp [init0] at hy, fun x o y hy => by simp [init0] at hy, fun s hs hr => by omega, fun s hs hr => by omega, fun l hl => by simp [init0] at hl⟩
theorem settle_inr {says : List Say} : ∀ (n k : Nat) (st st' : BF) (r : Int → Nat), BInv says k says st r → settleLoop says n st = .inr st' → (∃ r', BInv says (k + n) says st' r') ∧ (n = 0 ∨ ∃ l, st'.last = some l)
  | 0, k, st, st', r, h, e => by
    have e : Sum.inr st = (Sum.inr st' : (Int → Int) ⊕ BF) := e
    cases e
    exact ⟨⟨r, h⟩, .inl rfl⟩
  | n + 1, k, st, st', r, h, e => by
    obtain ⟨r1, h1⟩ := h.round
    rw [settleLoop] at e
    cases hl : (T.round says st).last with
    | none => rw [hl] at e; simp at e
    | some l =>
      rw [hl] at e
      obtain ⟨⟨r2, h2⟩, h3⟩ := settle_inr n (k + 1) _ st' r1 h1 e
      refine ⟨⟨r2, by rw [show k + (n + 1) = k + 1 + n by omega]; exact h2⟩, .inr ?_⟩
      rcases h3 with h3 | h3
      · subst h3
        have e : Sum.inr (T.round says st) = (Sum.inr st' : (Int → Int) ⊕ BF) := e
        cases e
        exact ⟨l, hl⟩
      · exact h3
/-! what a settled state is -/
theorem relax_last {st : BF} {s : Say} (h : (relax st s).last = none) : relax st s = st ∧ Sat st.most s := by
  unfold relax at h ⊢
  unfold Sat
  split at h
  · simp at h
  · rename_i hlt
    rw [if_neg hlt]
    exact ⟨rfl, by omega⟩
theorem relax_keeps {st : BF} {s : Say} (h : st.last ≠ none) : (relax st s).last ≠ none := by
  unfold relax
  split
  · simp
  · exact h
theorem fold_keeps : ∀ (l : List Say) (st : BF), st.last ≠ none → (l.foldl relax st).last ≠ none
  | [], _, h => h
  | s :: l, st, h => fold_keeps l _ (relax_keeps h)
theorem fold_last : ∀ (l : List Say) (st : BF), (l.foldl relax st).last = none → (l.foldl relax st).most = st.most ∧ ∀ s ∈ l, Sat st.most s
  | [], _, _ => ⟨rfl, by simp⟩
  | s :: l, st, h => by
    have h1 : (relax st s).last = none := by
      cases hq : (relax st s).last with
      | none => rfl
      | some x => exact absurd h (fold_keeps l _ (by rw [hq]; simp))
    obtain ⟨e, hs⟩ := relax_last h1
    have h : (l.foldl relax (relax st s)).last = none := h
    show (l.foldl relax (relax st s)).most = _ ∧ _
    rw [e] at h ⊢
    obtain ⟨h2, h3⟩ := fold_last l st h
    refine ⟨h2, fun t ht => ?_⟩
    rcases List.mem_cons.mp ht with z | z
    · rw [z]; exact hs
    · exact h3 t z
theorem settle_inl {says : List Say} : ∀ (n : Nat) (st : BF) (m : Int → Int), settleLoop says n st = .inl m → ∀ s ∈ says, Sat m s
  | 0, st, m, e => by
    have e : Sum.inr st = (Sum.inl m : (Int → Int) ⊕ BF) := e
    cases e
  | n + 1, st, m, e => by
    rw [settleLoop] at e
    cases hl : (T.round says st).last with
    | none =>
      rw [hl] at e
      have e : (T.round says st).most = m := Sum.inl.inj e
      obtain ⟨h1, h2⟩ := fold_last says { st with last := none } hl
      intro s hs
      have : (T.round says st).most = st.most := h1
      rw [← e, this]
      exact h2 s hs
    | some l =>
      rw [hl] at e
      exact settle_inl n _ m e
/-! ways in the graph of what lowered what -/
inductive Pth (by_ : Int → Option (OF × Int)) (says : List Say) : Int → Int → List Say → Prop
  | nil (x : Int) : Pth by_ says x x []
  | cons {s : Say} {z : Int} {l : List Say} : s ∈ says → by_ s.2.1 = some (s.1, s.2.2.1) → Pth by_ says s.2.2.1 z l → Pth by_ says s.2.1 z (s :: l)
def gaps (l : List Say) : Int := (l.map fun s => s.2.2.2).sum
theorem gaps_cons (s : Say) (l : List Say) : gaps (s :: l) = s.2.2.2 + gaps l := by simp [gaps]
theorem Pth.sum {by_ : Int → Option (OF × Int)} {says : List Say} {m : Int → Int} {x z : Int} {l : List Say} (p : Pth by_ says x z l) : (∀ s ∈ l, m s.2.2.1 + s.2.2.2 ≤ m s.2.1) → m z + gaps l ≤ m x ∧ ((∃ s ∈ l, m s.2.2.1 + s.2.2.2 < m s.2.1) → m z + gaps l < m x) := by
  induction p with
  | nil x => intro _; exact ⟨by simp [gaps], fun ⟨s, hs, _⟩ => by simp at hs⟩
  | @cons s z l h1 h2 h3 ih =>
    intro h
    have hs := h s List.mem_cons_self
    obtain ⟨i1, i2⟩ := ih fun t ht => h t (List.mem_cons_of_mem _ ht)
    rw [gaps_cons]
    refine ⟨by omega, fun ⟨t, ht, hlt⟩ => ?_⟩
    rcases List.mem_cons.mp ht with y | y
    · subst y; omega
    · have := i2 ⟨t, y, hlt⟩
      omega
theorem Pth.low {by_ : Int → Option (OF × Int)} {says : List Say} {m : Int → Int} {x z : Int} {l : List Say} (p : Pth by_ says x z l) : (∀ s ∈ l, Sat m s) → m x ≤ m z + gaps l := by
  induction p with
  | nil x => intro _; simp [gaps]
  | @cons s z l h1 h2 h3 ih =>
    intro h
    have hs := h s List.mem_cons_self
    unfold Sat at hs
    have := ih fun t ht => h t (List.mem_cons_of_mem _ ht)
    rw [gaps_cons]
    omega
theorem Pth.mem {by_ : Int → Option (OF × Int)} {says : List Say} {x z : Int} {l : List Say} (p : Pth by_ says x z l) : ∀ s ∈ l, s ∈ says ∧ by_ s.2.1 = some (s.1, s.2.2.1) := by
  induction p with
  | nil x => intro s hs; simp at hs
  | cons h1 h2 h3 ih =>
    intro t ht
    rcases List.mem_cons.mp ht with y | y
    · subst y; exact ⟨h1, h2⟩
    · exact ih t y
theorem Pth.other {by_ by' : Int → Option (OF × Int)} {says : List Say} {x z : Int} {l : List Say} (p : Pth by_ says x z l) : (∀ s ∈ l, by' s.2.1 = some (s.1, s.2.2.1)) → Pth by' says x z l := by
  induction p with
  | nil x => intro _; exact .nil x
  | cons h1 h2 h3 ih => intro h; exact .cons h1 (h _ List.mem_cons_self) (ih fun t ht => h t (List.mem_cons_of_mem _ ht))
/-- every ring's sum is below nought; every edge is held -/
structure Neg (says : List Say) (st : BF) : Prop where
  edge : ∀ s ∈ says, st.by_ s.2.1 = some (s.1, s.2.2.1) → st.most s.2.2.1 + s.2.2.2 ≤ st.most s.2.1
  ring : ∀ x l, Pth st.by_ says x x l → l ≠ [] → gaps l < 0
theorem Neg.step {says : List Say} {st : BF} (hf : ∀ s ∈ says, ∀ t ∈ says, s.1 = t.1 → s = t) (h : Neg says st) {s : Say} (hs : s ∈ says) : Neg says (relax st s) := by
  unfold relax
  by_cases hlt : st.most s.2.2.1 + s.2.2.2 < st.most s.2.1
  · rw [if_pos hlt]
    have hold : ∀ t ∈ says, updI st.by_ s.2.1 (some (s.1, s.2.2.1)) t.2.1 = some (t.1, t.2.2.1) → (t = s ∨ (t.2.1 ≠ s.2.1 ∧ st.by_ t.2.1 = some (t.1, t.2.2.1))) := fun t ht e => by
      by_cases z : t.2.1 = s.2.1
      · rw [z, updI_same] at e
        have e2 := Option.some.inj e
        exact .inl (hf t ht s hs (Prod.mk.inj e2).1.symm)
      · rw [updI_ne _ _ z] at e
        exact .inr ⟨z, e⟩
    refine ⟨fun t ht e => ?_, fun x l p hl => ?_⟩
    · dsimp only at e ⊢
      rcases hold t ht e with z | ⟨z, e2⟩
      · subst z
        rw [updI_same]
        by_cases z2 : t.2.2.1 = t.2.1
        · rw [z2, updI_same]
          rw [z2] at hlt
          omega
        · rw [updI_ne _ _ z2]; exact Int.le_refl _
      · have := h.edge t ht e2
        rw [updI_ne _ _ z]
        by_cases z2 : t.2.2.1 = s.2.1
        · rw [z2] at this ⊢
          rw [updI_same]
          omega
        · rw [updI_ne _ _ z2]; exact this
    · dsimp only at p
      have hm := p.mem
      by_cases hin : s ∈ l
      · have := (p.sum (m := st.most) fun t ht => by
          rcases hold t (hm t ht).1 (hm t ht).2 with z | ⟨_, e2⟩
          · subst z; omega
          · exact h.edge t (hm t ht).1 e2).2 ⟨s, hin, hlt⟩
        omega
      · refine h.ring x l (p.other fun t ht => ?_) hl
        rcases hold t (hm t ht).1 (hm t ht).2 with z | ⟨_, e2⟩
        · subst z; exact absurd ht hin
        · exact e2
  · rw [if_neg hlt]
    exact h
theorem Neg.fold {says : List Say} (hf : ∀ s ∈ says, ∀ t ∈ says, s.1 = t.1 → s = t) : ∀ (rest : List Say) (st : BF), (∀ s ∈ rest, s ∈ says) → Neg says st → Neg says (rest.foldl relax st)
  | [], _, _, h => h
  | s :: rest, st, hs, h => Neg.fold hf rest _ (fun t ht => hs t (List.mem_cons_of_mem _ ht)) (h.step hf (hs s List.mem_cons_self))
theorem Neg.loop {says : List Say} (hf : ∀ s ∈ says, ∀ t ∈ says, s.1 = t.1 → s = t) : ∀ (n : Nat) (st st' : BF), Neg says st → settleLoop says n st = .inr st' → Neg says st'
  | 0, st, st', h, e => by
    have e : Sum.inr st = (Sum.inr st' : (Int → Int) ⊕ BF) := e
    cases e
    exact h
  | n + 1, st, st', h, e => by
    have h1 : Neg says (T.round says st) := Neg.fold hf says _ (fun s hs => hs) ⟨h.edge, h.ring⟩
    rw [settleLoop] at e
    cases hl : (T.round says st).last with
    | none => rw [hl] at e; simp at e
    | some l =>
      rw [hl] at e
      exact Neg.loop hf n _ st' h1 e
theorem Neg.start (says : List Say) : Neg says init0 := ⟨fun s hs e => by simp [init0] at e, fun x l p hl => by
  cases p with
  | nil => exact absurd rfl hl
  | cons h1 h2 h3 => simp [init0] at h2⟩
/-! walking back -/
def itN (f : Int → Int) : Nat → Int → Int
  | 0, x => x
  | n + 1, x => itN f n (f x)
theorem itN_add (f : Int → Int) : ∀ (a b : Nat) (x : Int), itN f (a + b) x = itN f b (itN f a x)
  | 0, b, x => by rw [Nat.zero_add]; rfl
  | a + 1, b, x => by
    rw [show a + 1 + b = (a + b) + 1 by omega]
    exact itN_add f a b (f x)
def nxB (by_ : Int → Option (OF × Int)) (x : Int) : Int := match by_ x with
  | some (_, y) => y
  | none => x
theorem pigeon : ∀ (l m : List Int), l.Nodup → (∀ x ∈ l, x ∈ m) → l.length ≤ m.length
  | [], _, _, _ => Nat.zero_le _
  | x :: l, m, hn, hs => by
    have hx := hs x List.mem_cons_self
    have hn' := List.nodup_cons.mp hn
    have h1 := pigeon l (m.erase x) hn'.2 fun y hy => by
      have hne : y ≠ x := fun z => hn'.1 (z ▸ hy)
      exact (List.mem_erase_of_ne hne).mpr (hs y (List.mem_cons_of_mem _ hy))
    have h2 := List.length_erase_of_mem hx
    have h3 := List.length_pos_of_mem hx
    rw [List.length_cons]
    omega
theorem goBack_it {by_ : Int → Option (OF × Int)} : ∀ (n : Nat) (x : Int), (∀ j, j < n → ∃ o y, by_ (itN (nxB by_) j x) = some (o, y)) → goBack by_ n x = some (itN (nxB by_) n x)
  | 0, _, _ => rfl
  | n + 1, x, h => by
    obtain ⟨o, y, e⟩ := h 0 (by omega)
    have e : by_ x = some (o, y) := e
    have ey : nxB by_ x = y := by unfold nxB; rw [e]
    show (match by_ x with | some (_, y) => goBack by_ n y | none => none) = some (itN (nxB by_) n (nxB by_ x))
    rw [e, ey]
    refine goBack_it n y fun j hj => ?_
    obtain ⟨o2, y2, e2⟩ := h (j + 1) (by omega)
    have e2 : by_ (itN (nxB by_) j (nxB by_ x)) = some (o2, y2) := e2
    rw [ey] at e2
    exact ⟨o2, y2, e2⟩
theorem round_way {by_ : Int → Option (OF × Int)} {says : List Say} {c : Int} (hedge : ∀ x o y, by_ x = some (o, y) → ∃ s ∈ says, s.1 = o ∧ s.2.1 = x ∧ s.2.2.1 = y) :
    ∀ (d : Nat) (x : Int) (found : List OF), itN (nxB by_) d x = c → (∀ q, ∃ o y, by_ (itN (nxB by_) q x) = some (o, y)) → ∃ n l, n ≤ d ∧ l.length = n ∧ Pth by_ says x c l ∧ CycR by_ c n x found (found ++ l.map (·.1))
  | 0, x, found, e, h => by
    have e : x = c := e
    subst e
    exact ⟨0, [], Nat.le_refl _, rfl, .nil x, by rw [List.map_nil, List.append_nil]; exact .stop⟩
  | d + 1, x, found, e, h => by
    by_cases z : x = c
    · subst z
      exact ⟨0, [], Nat.zero_le _, rfl, .nil x, by rw [List.map_nil, List.append_nil]; exact .stop⟩
    · obtain ⟨o, y, e0⟩ := h 0
      have e0 : by_ x = some (o, y) := e0
      have ey : nxB by_ x = y := by unfold nxB; rw [e0]
      have e : itN (nxB by_) d (nxB by_ x) = c := e
      rw [ey] at e
      obtain ⟨s, hs, h1, h2, h3⟩ := hedge x o y e0
      obtain ⟨n, l, hn, hl, hp, hc⟩ := round_way hedge d y (found ++ [o]) e fun q => by
        obtain ⟨o2, y2, e2⟩ := h (q + 1)
        have e2 : by_ (itN (nxB by_) q (nxB by_ x)) = some (o2, y2) := e2
        rw [ey] at e2
        exact ⟨o2, y2, e2⟩
      refine ⟨n + 1, s :: l, by omega, by simp [hl], ?_, ?_⟩
      · subst h2 h3
        exact .cons hs (by rw [e0, h1]) hp
      · rw [List.map_cons, h1]
        rw [List.append_assoc] at hc
        exact .go z e0 hc
theorem keysM_len (e : Int) : (keysM e).length = (e + 1).toNat + 1 := by simp [keysM]
/-- not settled: the way back is there, and a ring -/
theorem gone_total {e : Int} {says : List Say} (he : 0 ≤ e) (he2 : e ≤ 900) (hk : SaysOk e says) {st : BF} (h : settleLoop says (e + 4).toNat init0 = .inr st) :
    ∃ l ls c, st.last = some l ∧ ls ≠ [] ∧ Pth st.by_ says c c ls ∧ Gone st.by_ l (e + 4).toNat (ls.map (·.1)) ∧ ls.length ≤ 1001 := by
  obtain ⟨⟨r, hI⟩, hlast⟩ := settle_inr (e + 4).toNat 0 init0 st _ (BInv.start says) h
  rw [Nat.zero_add] at hI
  rcases hlast with hlast | ⟨l, hl⟩
  · omega
  have hr := hI.last l hl
  have hgood : ∀ j, j + 1 ≤ (e + 4).toNat → (e + 4).toNat ≤ r (itN (nxB st.by_) j l) + j := by
    intro j
    induction j with
    | zero =>
      intro _
      show (e + 4).toNat ≤ r l + 0
      omega
    | succ j ih =>
      intro hj
      have h1 := ih (by omega)
      obtain ⟨o, y, e0⟩ := hI.pos (itN (nxB st.by_) j l) (by omega)
      have h2 := hI.tim _ o y e0
      have e1 : itN (nxB st.by_) (j + 1) l = y := by
        rw [itN_add]
        show nxB st.by_ (itN (nxB st.by_) j l) = y
        unfold nxB
        unfold nxB at e0
        rw [e0]
      rw [e1]
      omega
  have hdef : ∀ j, j + 1 ≤ (e + 4).toNat → ∃ o y, st.by_ (itN (nxB st.by_) j l) = some (o, y) := fun j hj => hI.pos _ (by have := hgood j hj; omega)
  have hkey : ∀ j, j + 1 ≤ (e + 4).toNat → itN (nxB st.by_) j l ∈ keysM e := fun j hj => by
    obtain ⟨o, y, e0⟩ := hdef j hj
    obtain ⟨s, hs, _, h2, _⟩ := hI.edge _ o y e0
    rw [← h2]
    exact (hk s hs).1
  have hrep : ∃ i j, i < j ∧ j ≤ (e + 2).toNat ∧ itN (nxB st.by_) i l = itN (nxB st.by_) j l := by
    apply Classical.byContradiction
    intro hno
    have hn : ((List.range ((e + 2).toNat + 1)).map fun j => itN (nxB st.by_) j l).Nodup := by
      refine List.pairwise_map.mpr (List.Pairwise.imp_of_mem (fun {a b} ha hb hab => ?_) List.pairwise_lt_range)
      intro z
      rw [List.mem_range] at hb
      exact hno ⟨a, b, hab, by omega, z⟩
    have := pigeon _ (keysM e) hn fun x hx => by
      obtain ⟨j, hj, rfl⟩ := List.mem_map.mp hx
      rw [List.mem_range] at hj
      exact hkey j (by omega)
    rw [List.length_map, List.length_range, keysM_len] at this
    omega
  obtain ⟨i, j, hij, hj, heq⟩ := hrep
  have hper : itN (nxB st.by_) (j - i) (itN (nxB st.by_) i l) = itN (nxB st.by_) i l := by
    rw [← itN_add, show i + (j - i) = j by omega, heq]
  have hall : ∀ q, ∃ o y, st.by_ (itN (nxB st.by_) q (itN (nxB st.by_) i l)) = some (o, y) := by
    intro q
    induction q using Nat.strongRecOn with
    | _ q ih =>
      by_cases hq : q < j - i
      · rw [← itN_add]
        exact hdef (i + q) (by omega)
      · rw [show q = (j - i) + (q - (j - i)) by omega, itN_add, hper]
        exact ih (q - (j - i)) (by omega)
  have hcl : itN (nxB st.by_) (e + 4).toNat l = itN (nxB st.by_) ((e + 4).toNat - i) (itN (nxB st.by_) i l) := by
    rw [← itN_add, show i + ((e + 4).toNat - i) = (e + 4).toNat by omega]
  have hback := goBack_it (by_ := st.by_) (e + 4).toNat l fun k hk2 => hdef k (by omega)
  rw [hcl] at hback
  generalize ha : itN (nxB st.by_) i l = a at hper hall hback
  generalize hcc : itN (nxB st.by_) ((e + 4).toNat - i) a = c at hback
  have hcp : itN (nxB st.by_) (j - i) c = c := by
    rw [← hcc, ← itN_add, Nat.add_comm, itN_add, hper]
  have hcq : ∀ q, ∃ o y, st.by_ (itN (nxB st.by_) q c) = some (o, y) := fun q => by
    rw [← hcc, ← itN_add]
    exact hall _
  obtain ⟨o, y, e0⟩ := hcq 0
  have e0 : st.by_ c = some (o, y) := e0
  have ey : nxB st.by_ c = y := by unfold nxB; rw [e0]
  have hround : itN (nxB st.by_) (j - i - 1) y = c := by
    rw [show j - i = (j - i - 1) + 1 by omega] at hcp
    have hcp : itN (nxB st.by_) (j - i - 1) (nxB st.by_ c) = c := hcp
    rw [ey] at hcp
    exact hcp
  have hedge : ∀ x o y, st.by_ x = some (o, y) → ∃ s ∈ says, s.1 = o ∧ s.2.1 = x ∧ s.2.2.1 = y := fun x o y e => by
    obtain ⟨s, hs, h1, h2, h3, _⟩ := hI.edge x o y e
    exact ⟨s, hs, h1, h2, h3⟩
  obtain ⟨n, ls, hn, hln, hp, hc⟩ := round_way (c := c) hedge (j - i - 1) y [o] hround fun q => by
    obtain ⟨o2, y2, e2⟩ := hcq (q + 1)
    have e2 : st.by_ (itN (nxB st.by_) q (nxB st.by_ c)) = some (o2, y2) := e2
    rw [ey] at e2
    exact ⟨o2, y2, e2⟩
  obtain ⟨s, hs, h1, h2, h3⟩ := hedge c o y e0
  refine ⟨l, s :: ls, c, hl, by simp, ?_, ⟨c, o, y, n, hback, e0, ?_, by omega⟩, by rw [List.length_cons]; omega⟩
  · have hp2 : Pth st.by_ says s.2.2.1 c ls := by rw [h3]; exact hp
    have := Pth.cons hs (by rw [h2, e0, h1, h3]) hp2
    rw [h2] at this
    exact this
  · rw [List.map_cons, h1]
    exact hc
/-! facts -/
theorem says_eq (b : Book) (ss : List Sight) : saysOf b ss [] = (factsOf b ss).map fun f => ((some f, con b ss f) : Say) := by simp [saysOf]
theorem says_fun (b : Book) (ss : List Sight) : ∀ s ∈ saysOf b ss [], ∀ t ∈ saysOf b ss [], s.1 = t.1 → s = t := fun s hs t ht e => by
  rw [says_eq] at hs ht
  obtain ⟨f, _, rfl⟩ := List.mem_map.mp hs
  obtain ⟨g, _, rfl⟩ := List.mem_map.mp ht
  have e : f = g := Option.some.inj e
  rw [e]
theorem says_facts {b : Book} {ss : List Sight} : ∀ {ls : List Say}, (∀ s ∈ ls, s ∈ saysOf b ss []) → ∃ fs : List Fact, ls = fs.map (fun f => ((some f, con b ss f) : Say)) ∧ ∀ f ∈ fs, f ∈ factsOf b ss
  | [], _ => ⟨[], rfl, by simp⟩
  | s :: ls, h => by
    obtain ⟨fs, e, hf⟩ := says_facts fun t ht => h t (List.mem_cons_of_mem _ ht)
    have hs := h s List.mem_cons_self
    rw [says_eq] at hs
    obtain ⟨f, hf2, rfl⟩ := List.mem_map.mp hs
    refine ⟨f :: fs, by rw [List.map_cons, e], fun g hg => ?_⟩
    rcases List.mem_cons.mp hg with z | z
    · rw [z]; exact hf2
    · exact hf g z
theorem Pth.nil_eq {by_ : Int → Option (OF × Int)} {says : List Say} {x z : Int} {l : List Say} (p : Pth by_ says x z l) : l = [] → x = z := by
  induction p with
  | nil x => intro _; rfl
  | cons _ _ _ _ => intro h; exact nomatch h
theorem Pth.head {by_ : Int → Option (OF × Int)} {says : List Say} {x z : Int} {l : List Say} (p : Pth by_ says x z l) : ∀ s r, l = s :: r → s.2.1 = x := by
  induction p with
  | nil x => intro s r h; exact nomatch h
  | cons _ _ _ _ => intro t r e; cases e; rfl
theorem chain_any {by_ : Int → Option (OF × Int)} {says : List Say} {x z : Int} {l : List Say} (p : Pth by_ says x z l) : ∀ w : Con, w.1 = z → ((l.map (·.2)).zip ((l.map (·.2)).drop 1 ++ [w])).any (fun p => !decide (p.1.2.1 = p.2.1)) = false ∧ (∀ s r, l = s :: r → s.2.1 = x) := by
  induction p with
  | nil x => intro w _; exact ⟨rfl, fun s r h => nomatch h⟩
  | @cons s z l h1 h2 h3 ih =>
    intro w hw
    obtain ⟨i1, i2⟩ := ih w hw
    refine ⟨?_, fun t r e => by cases e; rfl⟩
    cases l with
    | nil =>
      have := h3.nil_eq rfl
      simp [hw, this]
    | cons t r =>
      have e := i2 t r rfl
      simp only [List.map_cons, List.drop_succ_cons, List.drop_zero, List.cons_append, List.zip_cons_cons, List.any_cons] at i1 ⊢
      rw [i1]
      simp [e]
theorem ring_ok {by_ : Int → Option (OF × Int)} {says : List Say} {c : Int} {l : List Say} (p : Pth by_ says c c l) (hl : l ≠ []) (hg : gaps l < 0) : ringOk (l.map (·.2)) = true := by
  cases l with
  | nil => exact absurd rfl hl
  | cons s r =>
    have hx := (chain_any p s.2 ?_)
    · unfold ringOk
      rw [Bool.and_eq_true]
      refine ⟨?_, ?_⟩
      · have e : ((s :: r).map (fun t : Say => t.2)).drop 1 ++ ((s :: r).map (fun t : Say => t.2)).take 1 = ((s :: r).map (fun t : Say => t.2)).drop 1 ++ [s.2] := by simp
        rw [e, hx.1]; rfl
      · have e : (((s :: r).map (fun t : Say => t.2)).map fun c => c.2.2) = (s :: r).map fun t => t.2.2.2 := by rw [List.map_map]; rfl
        rw [e]
        exact decide_eq_true hg
    · exact p.head s r rfl
theorem ring_out {b : Book} {ss : List Sight} (wb : WB b) (ws : WS b ss) : RingOut b ss := by
  unfold RingOut
  cases hq : settleLoop (saysOf b ss []) (b.fin + 4).toNat init0 with
  | inl m => trivial
  | inr st =>
    have h20 := wb.hi
    obtain ⟨l, ls, c, h1, h2, h3, h4, h5⟩ := gone_total wb.lo (by omega) (saysOf_ok wb ws (by simp)) hq
    have hneg := (Neg.loop (says_fun b ss) _ _ _ (Neg.start _) hq).ring c ls h3 h2
    have hro := ring_ok h3 h2 hneg
    obtain ⟨fs, e, hf⟩ := says_facts (b := b) (ss := ss) fun s hs => (h3.mem s hs).1
    subst e
    refine ⟨l, fs, h1, ?_, fun z => h2 (by rw [z]; rfl), ?_, hf, ?_⟩
    · rw [List.map_map] at h4
      exact h4
    · rw [List.length_map] at h5
      omega
    · rw [List.map_map] at hro
      exact hro
/-- heights that hold all facts: it settles -/
theorem can_of_heights {b : Book} {ss : List Sight} (wb : WB b) (ws : WS b ss) (h : Int → Int) (hh : ∀ f ∈ factsOf b ss, h (con b ss f).1 ≤ h (con b ss f).2.1 + (con b ss f).2.2) : canB b ss = true := by
  unfold canB
  cases hq : settleLoop (saysOf b ss []) (b.fin + 4).toNat init0 with
  | inl m => rfl
  | inr st =>
    have h20 := wb.hi
    obtain ⟨l, ls, c, h1, h2, h3, h4, h5⟩ := gone_total wb.lo (by omega) (saysOf_ok wb ws (by simp)) hq
    have hneg := (Neg.loop (says_fun b ss) _ _ _ (Neg.start _) hq).ring c ls h3 h2
    have := h3.low (m := h) fun s hs => by
      have := (h3.mem s hs).1
      rw [says_eq] at this
      obtain ⟨f, hf, rfl⟩ := List.mem_map.mp this
      exact hh f hf
    omega
theorem heights_of_can {b : Book} {ss : List Sight} (h : canB b ss = true) : ∃ m : Int → Int, ∀ f ∈ factsOf b ss, m (con b ss f).1 ≤ m (con b ss f).2.1 + (con b ss f).2.2 := by
  unfold canB at h
  cases hq : settleLoop (saysOf b ss []) (b.fin + 4).toNat init0 with
  | inl m =>
    refine ⟨m, fun f hf => ?_⟩
    have := settle_inl _ _ m hq (some f, con b ss f) (by rw [says_eq]; exact List.mem_map.mpr ⟨f, hf, rfl⟩)
    exact this
  | inr st => rw [hq] at h; simp at h

theorem mem_stories {b : Book} {ss : List Sight} {n : Nat} {tk : List Int} {ps : List Pile} (h : Run b n tk ps) : (∀ s ∈ ss, ∀ t : Nat, s.tick = (t : Int) → t < n → ∃ q, ps[t]? = some q ∧ isSoM s q = true) → (tk, ps) ∈ storiesTo b ss n := by
  induction h with
  | nil => intro _; simp [storiesTo]
  | @snoc n tk ps k q h hk hq ih =>
    intro hs
    have hl := h.len.2
    have h1 := ih fun s hs1 t ht hn => by
      obtain ⟨q', h1, h2⟩ := hs s hs1 t ht (by omega)
      rw [List.getElem?_append_left (by omega)] at h1
      exact ⟨q', h1, h2⟩
    refine List.mem_flatMap.mpr ⟨(tk, ps), h1, List.mem_filterMap.mpr ⟨k, by rcases hk with z | z <;> simp [z], ?_⟩⟩
    unfold step1
    rw [hq]
    show (if _ then _ else _) = _
    rw [if_pos]
    rw [List.all_eq_true]
    intro s hs1
    obtain ⟨hs2, hs3⟩ := List.mem_filter.mp hs1
    obtain ⟨q', h2, h3⟩ := hs s hs2 n (of_decide_eq_true hs3) (by omega)
    rw [List.getElem?_append_right (by omega), hl, Nat.sub_self] at h2
    cases h2
    exact h3
theorem stories_sat {b : Book} {ss : List Sight} : ∀ (n : Nat) (f : Sto), f ∈ storiesTo b ss n → ∀ s ∈ ss, ∀ t : Nat, s.tick = (t : Int) → t < n → ∃ q, f.2[t]? = some q ∧ isSoM s q = true
  | 0, f, _, s, _, t, _, ht => by omega
  | n + 1, f, h, s, hs, t, ht, hn => by
    obtain ⟨g, hg, h⟩ := List.mem_flatMap.mp h
    obtain ⟨k, hk, h⟩ := List.mem_filterMap.mp h
    have hr := storiesTo_run n g hg
    have hl := hr.len.2
    unfold step1 at h
    cases hq : nextM (g.2.getLastD []) k (nameAt b (n : Int)) with
    | none => rw [hq] at h; cases h
    | some q =>
      rw [hq] at h
      simp only at h
      split at h
      · rename_i hall
        cases h
        by_cases z : t < n
        · obtain ⟨q', h1, h2⟩ := stories_sat n g hg s hs t ht z
          exact ⟨q', by rw [List.getElem?_append_left (by omega)]; exact h1, h2⟩
        · have e : t = n := by omega
          subst e
          refine ⟨q, by rw [List.getElem?_append_right (by omega), hl, Nat.sub_self]; rfl, ?_⟩
          rw [List.all_eq_true] at hall
          exact hall s (List.mem_filter.mpr ⟨hs, by simpa using ht⟩)
      · cases h
theorem stories_ne {b : Book} {ss : List Sight} : storiesM b ss ≠ [] ↔ ∃ tk ps, Run b (b.fin + 1).toNat tk ps ∧ ∀ s ∈ ss, ∀ t : Nat, s.tick = (t : Int) → t < (b.fin + 1).toNat → ∃ q, ps[t]? = some q ∧ isSoM s q = true := by
  constructor
  · intro h
    cases hq : storiesM b ss with
    | nil => exact absurd hq h
    | cons f r =>
      have hf : f ∈ storiesTo b ss (b.fin + 1).toNat := by
        show f ∈ storiesM b ss
        rw [hq]; exact List.mem_cons_self
      exact ⟨f.1, f.2, storiesTo_run _ f hf, fun s hs t ht hn => stories_sat _ f hf s hs t ht hn⟩
  · rintro ⟨tk, ps, h1, h2⟩ z
    have := mem_stories h1 h2
    have this : (tk, ps) ∈ storiesM b ss := this
    rw [z] at this
    simp at this
theorem stories_fewer {b : Book} {ss ss' : List Sight} (h : storiesM b ss ≠ []) (hs : ∀ s ∈ ss', s ∈ ss) : storiesM b ss' ≠ [] := by
  obtain ⟨tk, ps, h1, h2⟩ := stories_ne.mp h
  exact stories_ne.mpr ⟨tk, ps, h1, fun s hs' => h2 s (hs s hs')⟩
theorem story_in {b : Book} {ss : List Sight} {tk : List Int} {ps : List Pile} (h : Run b (b.fin + 1).toNat tk ps) (hs : ∀ s ∈ ss, ∃ q, ps[s.tick.toNat]? = some q ∧ isSoM s q = true ∧ 0 ≤ s.tick) : storiesM b ss ≠ [] :=
  stories_ne.mpr ⟨tk, ps, h, fun s hs' t ht _ => by
    obtain ⟨q, h1, h2, _⟩ := hs s hs'
    rw [ht, Int.toNat_natCast] at h1
    exact ⟨q, h1, h2⟩⟩
/-! piles by place: the pile ahead of tick t -/
def pil (ps : List Pile) : Nat → Pile
  | 0 => []
  | t + 1 => (ps[t]?).getD []
theorem pil_snoc {ps : List Pile} {q : Pile} {t : Nat} (h : t ≤ ps.length) : pil (ps ++ [q]) t = pil ps t := by
  cases t with
  | zero => rfl
  | succ t => show ((ps ++ [q])[t]?).getD [] = _; rw [List.getElem?_append_left (by omega)]; rfl
theorem pil_last (ps : List Pile) : pil ps ps.length = ps.getLastD [] := by
  cases hq : ps.length with
  | zero =>
    have : ps = [] := List.length_eq_zero_iff.mp hq
    subst this; rfl
  | succ n =>
    show (ps[n]?).getD [] = _
    rw [List.getLastD_eq_getLast?, List.getLast?_eq_getElem?, hq]
    rfl
theorem Run.sty {b : Book} {n : Nat} {tk : List Int} {ps : List Pile} (h : Run b n tk ps) : ∀ t, t < n → ∃ k : Int, (k = 0 ∨ k = 1) ∧ nextM (pil ps t) k (nameAt b (t : Int)) = some (pil ps (t + 1)) := by
  induction h with
  | nil => intro t ht; omega
  | @snoc n tk ps k q h hk hq ih =>
    intro t ht
    have hl := h.len.2
    by_cases z : t < n
    · rw [pil_snoc (by omega), pil_snoc (by omega)]
      exact ih t z
    · have e : t = n := by omega
      subst e
      refine ⟨k, hk, ?_⟩
      rw [pil_snoc (by omega)]
      have e1 : pil ps t = ps.getLastD [] := by rw [← hl]; exact pil_last ps
      have e2 : pil (ps ++ [q]) (t + 1) = q := by
        show ((ps ++ [q])[t]?).getD [] = q
        rw [List.getElem?_append_right (by omega), hl, Nat.sub_self]; rfl
      rw [e1, e2]
      exact hq
theorem nextM_inv {p q : Pile} {k : Int} {nm : Option Str} (hk : k = 0 ∨ k = 1) (h : nextM p k nm = some q) : ∃ j : Nat, (j : Int) = p.length - k ∧ j ≤ p.length ∧ q = p.take j ++ nm.toList := by
  unfold nextM at h
  split at h
  · cases h
  · rename_i hn
    cases h
    refine ⟨p.length - k.toNat, ?_, by omega, rfl⟩
    rcases hk with z | z
    · subst z; simp
    · subst z
      have : p ≠ [] := fun z => hn ⟨rfl, z⟩
      have := List.length_pos_iff.mpr this
      omega
theorem laidN_list (b : Book) (t : Int) : ((nameAt b t).toList.length : Int) = laidN b t := by
  unfold laidN
  cases nameAt b t <;> rfl
/-- the height behind tick x, -1 for nought -/
def hgt (ps : List Pile) (x : Int) : Int := ((pil ps (x + 1).toNat).length : Nat)
theorem hgt_nat (ps : List Pile) (t : Nat) : hgt ps (t : Int) = ((pil ps (t + 1)).length : Nat) := by
  unfold hgt
  rw [show ((t : Int) + 1).toNat = t + 1 by omega]
theorem hgt_ahead (ps : List Pile) (t : Nat) : hgt ps ((t : Int) - 1) = ((pil ps t).length : Nat) := by
  unfold hgt
  rw [show ((t : Int) - 1 + 1).toNat = t by omega]
theorem hgt_none (ps : List Pile) : hgt ps (-1) = 0 := rfl
theorem Run.names {b : Book} {n : Nat} {tk : List Int} {ps : List Pile} (h : Run b n tk ps) (t : Nat) (x : Str) (hx : x ∈ pil ps t) : ∃ t' : Nat, t' < t ∧ nameAt b (t' : Int) = some x := by
  cases t with
  | zero => simp [pil] at hx
  | succ t =>
    have hx : x ∈ (ps[t]?).getD [] := hx
    cases hq : ps[t]? with
    | none => rw [hq] at hx; simp at hx
    | some q =>
      rw [hq] at hx
      obtain ⟨t', h1, h2⟩ := h.at_ t q hq x hx
      exact ⟨t', by omega, h2⟩
/-- the pile as a plate is laid on it -/
theorem Run.base {b : Book} (wb : WB b) {n : Nat} {tk : List Int} {ps : List Pile} (h : Run b n tk ps) {o : Nat} {x : Str} (ho : nameAt b (o : Int) = some x) (hn : o < n) : ∃ base : Pile, pil ps (o + 1) = base ++ [x] ∧ x ∉ base := by
  obtain ⟨k, hk, e⟩ := h.sty o hn
  obtain ⟨j, _, _, e2⟩ := nextM_inv hk e
  rw [ho] at e2
  refine ⟨(pil ps o).take j, e2, fun hx => ?_⟩
  obtain ⟨t', h1, h2⟩ := h.names o x (List.mem_of_mem_take hx)
  have e3 := own_at wb h2
  have e4 := own_at wb ho
  rw [e3] at e4
  have := Option.some.inj e4
  omega
theorem own_nat {b : Book} (wb : WB b) {x : Str} {o : Int} (h : ownTick b x = some o) : ∃ on : Nat, o = (on : Int) ∧ nameAt b (on : Int) = some x ∧ (on : Int) ≤ b.fin := by
  obtain ⟨r, hr, h1, h2⟩ := ownTick_in h
  have h3 := wb.inn r hr
  refine ⟨o.toNat, by omega, ?_, by omega⟩
  rw [show ((o.toNat : Nat) : Int) = o by omega]
  unfold nameAt
  have hris := wb.ris
  generalize b.laid = l at hr hris
  induction l with
  | nil => simp at hr
  | cons y l ih =>
    rw [List.pairwise_cons] at hris
    rw [List.find?_cons]
    by_cases z : y.1 = o
    · have : y = r := by
        rcases List.mem_cons.mp hr with q | q
        · exact q.symm
        · have := hris.1 r q
          omega
      subst this
      simp [z, h2]
    · rcases List.mem_cons.mp hr with q | q
      · subst q; exact absurd h1 z
      · simp only [z, decide_false]
        exact ih q hris.2
theorem take_pre {p q : Pile} {j : Nat} (h : p <+: q) (hj : p.length ≤ j) : p <+: q.take j := by
  obtain ⟨r, rfl⟩ := h
  rw [List.take_append, List.take_of_length_le hj]
  exact ⟨_, rfl⟩
/-- while a plate is in the pile, what lay under it lies there -/
theorem Run.stays {b : Book} (wb : WB b) {n : Nat} {tk : List Int} {ps : List Pile} (h : Run b n tk ps) {o : Nat} {x : Str} (ho : nameAt b (o : Int) = some x) : ∀ d : Nat, o + d < n → x ∈ pil ps (o + d + 1) →
    pil ps (o + 1) <+: pil ps (o + d + 1) ∧ (0 < d → ((pil ps (o + 1)).length : Int) + laidN b ((o + d : Nat) : Int) ≤ ((pil ps (o + d + 1)).length : Nat) ∧ x ∈ pil ps (o + d))
  | 0, hd, hx => ⟨⟨[], by simp⟩, fun z => by omega⟩
  | d + 1, hd, hx => by
    obtain ⟨k, hk, e⟩ := h.sty (o + (d + 1)) hd
    obtain ⟨j, _, hj, e2⟩ := nextM_inv hk e
    have hx2 : x ∈ (pil ps (o + (d + 1))).take j := by
      rw [e2] at hx
      rcases List.mem_append.mp hx with z | z
      · exact z
      · exfalso
        cases hnm : nameAt b ((o + (d + 1) : Nat) : Int) with
        | none => rw [hnm] at z; simp at z
        | some y =>
          rw [hnm] at z
          have : x = y := by simpa using z
          subst this
          have e3 := own_at wb hnm
          have e4 := own_at wb ho
          rw [e3] at e4
          have := Option.some.inj e4
          omega
    have hx3 : x ∈ pil ps (o + d + 1) := List.mem_of_mem_take hx2
    obtain ⟨i1, _⟩ := Run.stays wb h ho d (by omega) hx3
    obtain ⟨base, hb, hnb⟩ := h.base wb ho (by omega)
    have hjl : (pil ps (o + 1)).length ≤ j := by
      apply Classical.byContradiction
      intro hlt
      obtain ⟨r, er⟩ := i1
      have er : pil ps (o + 1) ++ r = pil ps (o + (d + 1)) := er
      rw [← er, hb] at hx2
      rw [hb, List.length_append, List.length_singleton] at hlt
      rw [List.append_assoc, List.take_append_of_le_length (by omega)] at hx2
      exact hnb (List.mem_of_mem_take hx2)
    have hpre : pil ps (o + 1) <+: (pil ps (o + (d + 1))).take j := take_pre i1 hjl
    have hll := laidN_list b ((o + (d + 1) : Nat) : Int)
    refine ⟨?_, fun _ => ⟨?_, hx3⟩⟩
    · show pil ps (o + 1) <+: pil ps (o + (d + 1) + 1)
      rw [e2]
      exact hpre.trans ⟨_, rfl⟩
    · show _ ≤ (((pil ps (o + (d + 1) + 1)).length : Nat) : Int)
      rw [e2, List.length_append, List.length_take, Nat.min_eq_left hj]
      omega
theorem Run.down {b : Book} (wb : WB b) {n : Nat} {tk : List Int} {ps : List Pile} (h : Run b n tk ps) {o : Nat} {x : Str} (ho : nameAt b (o : Int) = some x) : ∀ d : Nat, o + d < n → x ∈ pil ps (o + d + 1) → ∀ d', d' ≤ d → x ∈ pil ps (o + d' + 1)
  | 0, hd, hx, d', hd' => by
    have : d' = 0 := by omega
    subst this; exact hx
  | d + 1, hd, hx, d', hd' => by
    by_cases z : d' = d + 1
    · subst z; exact hx
    · have := ((Run.stays wb h ho (d + 1) hd hx).2 (by omega)).2
      exact Run.down wb h ho d (by omega) this d' (by omega)
theorem idx_base {base r : Pile} {x : Str} (h : x ∉ base) : (base ++ [x] ++ r).idxOf x = base.length := by
  rw [List.append_assoc, List.idxOf_append, if_neg h]
  simp
/-- a story's heights hold all facts -/
theorem story_facts {b : Book} {ss : List Sight} (wb : WB b) (ws : WS b ss) {tk : List Int} {ps : List Pile} (h : Run b (b.fin + 1).toNat tk ps) (hs : ∀ s ∈ ss, ∀ t : Nat, s.tick = (t : Int) → t < (b.fin + 1).toNat → ∃ q, ps[t]? = some q ∧ isSoM s q = true) :
    ∀ f ∈ factsOf b ss, hgt ps (con b ss f).1 ≤ hgt ps (con b ss f).2.1 + (con b ss f).2.2 := by
  have hfin := wb.lo
  have hstep : ∀ t : Nat, t < (b.fin + 1).toNat → ∃ k : Int, (k = 0 ∨ k = 1) ∧ hgt ps (t : Int) = hgt ps ((t : Int) - 1) - k + laidN b (t : Int) ∧ 0 ≤ hgt ps ((t : Int) - 1) - k := fun t ht => by
    obtain ⟨k, hk, e⟩ := h.sty t ht
    obtain ⟨j, h1, h2, e2⟩ := nextM_inv hk e
    refine ⟨k, hk, ?_, ?_⟩
    · rw [hgt_nat, hgt_ahead, e2, List.length_append, List.length_take, Nat.min_eq_left h2, ← laidN_list]
      omega
    · rw [hgt_ahead]
      omega
  have habove : ∀ (i : Nat) (u : Int) (x : Str) (m : Int), ss[i]? = some (.above u x m) → ∃ (o d : Nat), ownT b x = (o : Int) ∧ nameAt b (o : Int) = some x ∧ u = ((o + d : Nat) : Int) ∧ o + d < (b.fin + 1).toNat ∧ x ∈ pil ps (o + d + 1) ∧ hgt ps u = hgt ps (o : Int) + m := fun i u x m hi => by
    have hmem := List.mem_of_getElem? hi
    have w1 := ws.all _ hmem
    obtain ⟨_, o, ho, hou⟩ := w1.own u x m rfl
    obtain ⟨on, rfl, hnm, _⟩ := own_nat wb ho
    have hu0 : 0 ≤ u := w1.lo
    have hu1 : u ≤ b.fin := w1.hi
    obtain ⟨q, hq, hso⟩ := hs _ hmem u.toNat (by show u = _; omega) (by omega)
    have hso : (decide (x ∈ q) && decide (((q.idxOf x : Nat) : Int) + 1 + m = q.length)) = true := hso
    rw [Bool.and_eq_true] at hso
    have hxq := of_decide_eq_true hso.1
    have hix := of_decide_eq_true hso.2
    have eu : u.toNat = on + (u.toNat - on) := by omega
    have hpq : pil ps (on + (u.toNat - on) + 1) = q := by
      show (ps[on + (u.toNat - on)]?).getD [] = q
      rw [← eu, hq]; rfl
    refine ⟨on, u.toNat - on, by unfold ownT; rw [ho]; rfl, hnm, by omega, by omega, by rw [hpq]; exact hxq, ?_⟩
    obtain ⟨⟨r, er⟩, _⟩ := Run.stays wb h hnm (u.toNat - on) (by omega) (by rw [hpq]; exact hxq)
    obtain ⟨base, hb, hnb⟩ := h.base wb hnm (by omega)
    rw [hpq, hb] at er
    have hidx : q.idxOf x = base.length := by rw [← er]; exact idx_base hnb
    rw [hidx] at hix
    have e1 : hgt ps u = (q.length : Nat) := by
      rw [show u = ((u.toNat : Nat) : Int) by omega, hgt_nat, show u.toNat + 1 = on + (u.toNat - on) + 1 by omega, hpq]
    rw [e1, hgt_nat, hb, List.length_append, List.length_singleton]
    omega
  intro f hf
  have hok := factsOf_ok wb hf
  cases f with
  | laid t =>
    obtain ⟨k, hk, e1, e2⟩ := hstep t.toNat (by have := hok.1; have := hok.2; omega)
    rw [show ((t.toNat : Nat) : Int) = t by have := hok.1; omega] at e1 e2
    show hgt ps t ≤ hgt ps (t - 1) + laidN b t
    omega
  | took t =>
    obtain ⟨k, hk, e1, e2⟩ := hstep t.toNat (by have := hok.1; have := hok.2; omega)
    rw [show ((t.toNat : Nat) : Int) = t by have := hok.1; omega] at e1 e2
    show hgt ps (t - 1) ≤ hgt ps t + (1 - laidN b t)
    omega
  | floor t =>
    obtain ⟨k, hk, e1, e2⟩ := hstep t.toNat (by have := hok.1; have := hok.2; omega)
    rw [show ((t.toNat : Nat) : Int) = t by have := hok.1; omega] at e1 e2
    show hgt ps (-1) ≤ hgt ps t + (0 - laidN b t)
    rw [hgt_none]
    omega
  | there a t =>
    obtain ⟨j, u, x, m, rfl, hj, h1, h2⟩ := hok
    rw [con_there hj]
    obtain ⟨o, d, e1, e2, e3, e4, e5, _⟩ := habove j u x m hj
    rw [e1] at h1 ⊢
    have hd : t = ((o + (t.toNat - o) : Nat) : Int) := by omega
    have hmem := Run.down wb h e2 d e4 e5 (t.toNat - o) (by omega)
    have := ((Run.stays wb h e2 (t.toNat - o) (by omega) hmem).2 (by omega)).1
    rw [← hd] at this
    show hgt ps (o : Int) ≤ hgt ps t + (0 - laidN b t)
    rw [hgt_nat]
    have e6 : hgt ps t = ((pil ps (o + (t.toNat - o) + 1)).length : Nat) := by
      have := hgt_nat ps (o + (t.toNat - o))
      rw [← hd] at this
      exact this
    rw [e6]
    omega
  | over a =>
    obtain ⟨j, u, x, m, rfl, hj⟩ := hok
    rw [con_over hj]
    obtain ⟨o, d, e1, _, _, _, _, e6⟩ := habove j u x m hj
    show hgt ps u ≤ hgt ps (ownT b x) + m
    rw [e1, e6]
    omega
  | under a =>
    obtain ⟨j, u, x, m, rfl, hj⟩ := hok
    rw [con_under hj]
    obtain ⟨o, d, e1, _, _, _, _, e6⟩ := habove j u x m hj
    show hgt ps (ownT b x) ≤ hgt ps u + (0 - m)
    rw [e1, e6]
    omega
  | most a =>
    obtain ⟨j, t, m, rfl, hj⟩ := hok
    have hlen : ∀ s, ss[j]? = some s → s.tick = t → ∃ q : Pile, isSoM s q = true ∧ hgt ps t = (q.length : Nat) := fun s hj ht => by
      have hmem := List.mem_of_getElem? hj
      have w1 := ws.all _ hmem
      have hu0 := w1.lo
      have hu1 := w1.hi
      obtain ⟨q, hq, hso⟩ := hs _ hmem t.toNat (by omega) (by omega)
      refine ⟨q, hso, ?_⟩
      rw [show t = ((t.toNat : Nat) : Int) by omega, hgt_nat]
      show (((ps[t.toNat]?).getD []).length : Int) = _
      rw [hq]; rfl
    rcases hj with hj | hj
    · rw [con_most hj]
      obtain ⟨q, hso, e⟩ := hlen _ hj rfl
      have hso : decide ((q.length : Int) = m) = true := hso
      have := of_decide_eq_true hso
      show hgt ps t ≤ hgt ps (-1) + m
      rw [hgt_none]; omega
    · rw [con_most hj]
      obtain ⟨q, hso, e⟩ := hlen _ hj rfl
      have hso : decide ((q.length : Int) ≤ m) = true := hso
      have := of_decide_eq_true hso
      show hgt ps t ≤ hgt ps (-1) + m
      rw [hgt_none]; omega
  | least a =>
    obtain ⟨j, t, m, rfl, hj⟩ := hok
    have hlen : ∀ s, ss[j]? = some s → s.tick = t → ∃ q : Pile, isSoM s q = true ∧ hgt ps t = (q.length : Nat) := fun s hj ht => by
      have hmem := List.mem_of_getElem? hj
      have w1 := ws.all _ hmem
      have hu0 := w1.lo
      have hu1 := w1.hi
      obtain ⟨q, hq, hso⟩ := hs _ hmem t.toNat (by omega) (by omega)
      refine ⟨q, hso, ?_⟩
      rw [show t = ((t.toNat : Nat) : Int) by omega, hgt_nat]
      show (((ps[t.toNat]?).getD []).length : Int) = _
      rw [hq]; rfl
    rcases hj with hj | hj
    · rw [con_least hj]
      obtain ⟨q, hso, e⟩ := hlen _ hj rfl
      have hso : decide ((q.length : Int) = m) = true := hso
      have := of_decide_eq_true hso
      show hgt ps (-1) ≤ hgt ps t + (0 - m)
      rw [hgt_none]; omega
    · rw [con_least hj]
      obtain ⟨q, hso, e⟩ := hlen _ hj rfl
      have hso : decide (m ≤ (q.length : Int)) = true := hso
      have := of_decide_eq_true hso
      show hgt ps (-1) ≤ hgt ps t + (0 - m)
      rw [hgt_none]; omega
/-! facts are there -/
theorem book_facts {b : Book} {ss : List Sight} {t : Int} (h0 : 0 ≤ t) (h1 : t ≤ b.fin) : Fact.laid t ∈ factsOf b ss ∧ Fact.took t ∈ factsOf b ss ∧ Fact.floor t ∈ factsOf b ss := by
  have : ∀ f : Fact, f ∈ ([.laid ((t.toNat : Nat) : Int), .took ((t.toNat : Nat) : Int), .floor ((t.toNat : Nat) : Int)] : List Fact) → f ∈ factsOf b ss := fun f hf =>
    List.mem_append_left _ (List.mem_flatMap.mpr ⟨t.toNat, by rw [List.mem_range]; omega, hf⟩)
  rw [show ((t.toNat : Nat) : Int) = t by omega] at this
  exact ⟨this _ (by simp), this _ (by simp), this _ (by simp)⟩
theorem sight_facts {b : Book} {ss : List Sight} {j : Nat} {s : Sight} (hj : ss[j]? = some s) {f : Fact} (h : f ∈ factsOfSight b s (j : Nat)) : f ∈ factsOf b ss :=
  List.mem_append_right _ (mem_factsAt.mpr ⟨j, s, hj, by rw [Nat.zero_add]; exact h⟩)
/-- heights that hold all facts are a story's -/
theorem story_of_heights {b : Book} {ss : List Sight} (wb : WB b) (m : Int → Int) (h0 : m (-1) = 0) (hf : ∀ f ∈ factsOf b ss, m (con b ss f).1 ≤ m (con b ss f).2.1 + (con b ss f).2.2) :
    ∀ n : Nat, n ≤ (b.fin + 1).toNat → ∃ tk ps, Run b n tk ps ∧ ∀ t : Nat, t ≤ n → ((pil ps t).length : Int) = m ((t : Int) - 1)
  | 0, _ => ⟨[], [], .nil, fun t ht => by
    have : t = 0 := by omega
    subst this
    show ((0 : Nat) : Int) = m (-1)
    rw [h0]; rfl⟩
  | n + 1, hn => by
    obtain ⟨tk, ps, hr, hl⟩ := story_of_heights wb m h0 hf n (by omega)
    have hfin := wb.lo
    obtain ⟨f1, f2, f3⟩ := book_facts (b := b) (ss := ss) (t := (n : Int)) (by omega) (by omega)
    have c1 : m (n : Int) ≤ m ((n : Int) - 1) + laidN b (n : Int) := hf _ f1
    have c2 : m ((n : Int) - 1) ≤ m (n : Int) + (1 - laidN b (n : Int)) := hf _ f2
    have c3 : m (-1) ≤ m (n : Int) + (0 - laidN b (n : Int)) := hf _ f3
    have hlast := hl n (Nat.le_refl _)
    have hlen := hr.len.2
    have hpl : pil ps n = ps.getLastD [] := by rw [← hlen]; exact pil_last ps
    rw [hpl] at hlast
    have hk : m ((n : Int) - 1) + laidN b (n : Int) - m (n : Int) = 0 ∨ m ((n : Int) - 1) + laidN b (n : Int) - m (n : Int) = 1 := by omega
    generalize hkk : m ((n : Int) - 1) + laidN b (n : Int) - m (n : Int) = k at hk
    obtain ⟨q, hq⟩ := nextM_some (p := ps.getLastD []) (k := k) (nm := nameAt b (n : Int)) (fun ⟨z1, z2⟩ => by
      rw [z2] at hlast
      have hlast : (0 : Int) = m ((n : Int) - 1) := hlast
      omega)
    obtain ⟨j, j1, j2, eq⟩ := nextM_inv hk hq
    have hll := laidN_list b (n : Int)
    refine ⟨tk ++ [k], ps ++ [q], .snoc hr hk hq, fun t ht => ?_⟩
    by_cases z : t ≤ n
    · rw [pil_snoc (by omega)]
      exact hl t z
    · have e : t = n + 1 := by omega
      subst e
      have e2 : pil (ps ++ [q]) (n + 1) = q := by
        show ((ps ++ [q])[n]?).getD [] = q
        rw [List.getElem?_append_right (by omega), hlen, Nat.sub_self]; rfl
      rw [e2, eq, List.length_append, List.length_take, Nat.min_eq_left j2, show (((n + 1 : Nat) : Int) - 1) = (n : Int) by omega]
      omega
theorem story_sights {b : Book} {ss : List Sight} (wb : WB b) (ws : WS b ss) (m : Int → Int) (h0 : m (-1) = 0) (hf : ∀ f ∈ factsOf b ss, m (con b ss f).1 ≤ m (con b ss f).2.1 + (con b ss f).2.2)
    {tk : List Int} {ps : List Pile} (h : Run b (b.fin + 1).toNat tk ps) (hl : ∀ t : Nat, t ≤ (b.fin + 1).toNat → ((pil ps t).length : Int) = m ((t : Int) - 1)) :
    ∀ s ∈ ss, ∀ t : Nat, s.tick = (t : Int) → t < (b.fin + 1).toNat → ∃ q, ps[t]? = some q ∧ isSoM s q = true := by
  intro s hs t ht hn
  have hfin := wb.lo
  have hlen := h.len.2
  obtain ⟨j, hj⟩ := List.mem_iff_getElem?.mp hs
  obtain ⟨q, hq⟩ : ∃ q, ps[t]? = some q := ⟨_, List.getElem?_eq_getElem (by omega)⟩
  have hpq : pil ps (t + 1) = q := by
    show (ps[t]?).getD [] = q
    rw [hq]; rfl
  have hql : (q.length : Int) = m (t : Int) := by
    have := hl (t + 1) (by omega)
    rw [hpq] at this
    rw [this]
    congr 1
    omega
  refine ⟨q, hq, ?_⟩
  cases s with
  | high u k =>
    have ht : u = (t : Int) := ht
    subst ht
    have c1 := hf _ (sight_facts hj (f := .most (j : Int)) (by simp [factsOfSight]))
    have c2 := hf _ (sight_facts hj (f := .least (j : Int)) (by simp [factsOfSight]))
    rw [con_most hj] at c1
    rw [con_least hj] at c2
    have c1 : m (t : Int) ≤ m (-1) + k := c1
    have c2 : m (-1) ≤ m (t : Int) + (0 - k) := c2
    exact decide_eq_true (by omega)
  | least u k =>
    have ht : u = (t : Int) := ht
    subst ht
    have c2 := hf _ (sight_facts hj (f := .least (j : Int)) (by simp [factsOfSight]))
    rw [con_least hj] at c2
    have c2 : m (-1) ≤ m (t : Int) + (0 - k) := c2
    exact decide_eq_true (by omega)
  | most u k =>
    have ht : u = (t : Int) := ht
    subst ht
    have c1 := hf _ (sight_facts hj (f := .most (j : Int)) (by simp [factsOfSight]))
    rw [con_most hj] at c1
    have c1 : m (t : Int) ≤ m (-1) + k := c1
    exact decide_eq_true (by omega)
  | above u x k =>
    have ht : u = (t : Int) := ht
    subst ht
    have w1 := ws.all _ hs
    obtain ⟨_, o', ho, hou⟩ := w1.own _ x k rfl
    obtain ⟨o, rfl, hnm, hofin⟩ := own_nat wb ho
    have hot : ownT b x = (o : Int) := by unfold ownT; rw [ho]; rfl
    have c1 := hf _ (sight_facts hj (f := .over (j : Int)) (by simp [factsOfSight]))
    have c2 := hf _ (sight_facts hj (f := .under (j : Int)) (by simp [factsOfSight]))
    rw [con_over hj, hot] at c1
    rw [con_under hj, hot] at c2
    have c1 : m (t : Int) ≤ m (o : Int) + k := c1
    have c2 : m (o : Int) ≤ m (t : Int) + (0 - k) := c2
    have hto : o ≤ t := by omega
    have hol : ((pil ps (o + 1)).length : Int) = m (o : Int) := by
      rw [hl (o + 1) (by omega)]
      congr 1
      omega
    have hpre : ∀ d : Nat, o + d ≤ t → pil ps (o + 1) <+: pil ps (o + d + 1) := by
      intro d
      induction d with
      | zero => intro _; exact ⟨[], by simp⟩
      | succ d ih =>
        intro hd
        have i1 := ih (by omega)
        obtain ⟨kk, hk, e⟩ := h.sty (o + (d + 1)) (by omega)
        obtain ⟨jj, j1, j2, e2⟩ := nextM_inv hk e
        have c3 := hf _ (sight_facts hj (f := .there (j : Int) ((o + (d + 1) : Nat) : Int)) (by
          simp only [factsOfSight, List.mem_append, List.mem_map, List.mem_range]
          left
          refine ⟨d, ?_, ?_⟩
          · rw [hot]; omega
          · rw [hot]; congr 1; omega))
        rw [con_there hj, hot] at c3
        have c3 : m (o : Int) ≤ m ((o + (d + 1) : Nat) : Int) + (0 - laidN b ((o + (d + 1) : Nat) : Int)) := c3
        have hll := laidN_list b ((o + (d + 1) : Nat) : Int)
        have l1 := hl (o + (d + 1) + 1) (by omega)
        rw [e2, List.length_append, List.length_take, Nat.min_eq_left j2, show (((o + (d + 1) + 1 : Nat) : Int) - 1) = ((o + (d + 1) : Nat) : Int) by omega] at l1
        show pil ps (o + 1) <+: pil ps (o + (d + 1) + 1)
        rw [e2]
        exact (take_pre i1 (by omega)).trans ⟨_, rfl⟩
    obtain ⟨base, hb, hnb⟩ := h.base wb hnm (by omega)
    have := hpre (t - o) (by omega)
    rw [show o + (t - o) + 1 = t + 1 by omega, hpq, hb] at this
    obtain ⟨r, er⟩ := this
    have hidx : q.idxOf x = base.length := by rw [← er]; exact idx_base hnb
    have hmem : x ∈ q := by rw [← er]; simp
    rw [hb, List.length_append, List.length_singleton] at hol
    show (decide (x ∈ q) && decide (((q.idxOf x : Nat) : Int) + 1 + k = q.length)) = true
    rw [Bool.and_eq_true]
    exact ⟨decide_eq_true hmem, decide_eq_true (by rw [hidx]; omega)⟩
theorem can_iff {b : Book} {ss : List Sight} (wb : WB b) (ws : WS b ss) : canB b ss = !(storiesM b ss).isEmpty := by
  by_cases hne : storiesM b ss = []
  · rw [hne]
    cases hc : canB b ss with
    | false => rfl
    | true =>
      exfalso
      obtain ⟨m, hm⟩ := heights_of_can hc
      have h0 : (fun x => m x - m (-1)) (-1) = 0 := by show m (-1) - m (-1) = 0; omega
      have hm2 : ∀ f ∈ factsOf b ss, (fun x => m x - m (-1)) (con b ss f).1 ≤ (fun x => m x - m (-1)) (con b ss f).2.1 + (con b ss f).2.2 := fun f hf => by
        have := hm f hf
        show m _ - m (-1) ≤ m _ - m (-1) + _
        omega
      obtain ⟨tk, ps, h1, h2⟩ := story_of_heights (ss := ss) wb (fun x => m x - m (-1)) h0 hm2 (b.fin + 1).toNat (Nat.le_refl _)
      exact stories_ne.mpr ⟨tk, ps, h1, story_sights wb ws (fun x => m x - m (-1)) h0 hm2 h1 h2⟩ hne
  · obtain ⟨tk, ps, h1, h2⟩ := stories_ne.mp hne
    rw [can_of_heights wb ws (hgt ps) (story_facts wb ws h1 h2)]
    cases hq : storiesM b ss with
    | nil => exact absurd hq hne
    | cons _ _ => rfl

section
variable {prog : Program} {w : World} {A : Around} {E : Value → Shared → Prop} {s : Shared}
theorem places_rev (n : Nat) : Builtin.Slice.slicePlaces ((n : Int) - 1) (-1) (-1) = n := by
  unfold Builtin.Slice.slicePlaces
  rw [if_neg (by decide)]
  by_cases h : (n : Int) - 1 > -1
  · rw [if_pos h, show (- -1 : Int) = 1 by decide, Int.ediv_one]
    omega
  · rw [if_neg h]
    omega
theorem fm_congr {α β : Type} {f g : α → Option β} : ∀ l : List α, (∀ k ∈ l, f k = g k) → l.filterMap f = l.filterMap g
  | [], _ => rfl
  | x :: l, h => by
    rw [List.filterMap_cons, List.filterMap_cons, h x List.mem_cons_self, fm_congr l fun k hk => h k (List.mem_cons_of_mem _ hk)]
theorem pick_rev (xs : Array Value) : ((List.range xs.size).filterMap fun (k : Nat) => xs[((xs.size : Int) - 1 + (k : Int) * (-1)).toNat]?) = xs.toList.reverse := by
  have e : ((List.range xs.size).filterMap fun (k : Nat) => xs[((xs.size : Int) - 1 + (k : Int) * (-1)).toNat]?) = ((List.range xs.size).map fun k => xs.size - 1 - k).filterMap fun i => xs[i]? := by
    rw [List.filterMap_map]
    refine fm_congr _ fun k hk => ?_
    have := List.mem_range.mp hk
    show xs[((xs.size : Int) - 1 + (k : Int) * (-1)).toNat]? = xs[xs.size - 1 - k]?
    rw [show ((xs.size : Int) - 1 + (k : Int) * (-1)).toNat = xs.size - 1 - k by omega]
  rw [e, PySem.W.krv_range, List.filterMap_reverse, PySem.W.krv_all]
theorem getItem_revT {t sl : Addr} {items : Array Value} {vs : Value} {Q : Value → Shared → Prop} (ht : IsTup s.heap t items) (hs : s.heap.IsSliceOf sl .none .none vs) (ps : IsPart vs (some (-1)))
    (h : Q (.ref s.heap.objs.size) { s with heap := s.heap.push { cls := .type "tuple", data := .seq items.toList.reverse.toArray } }) (hsz : items.size ≤ sizeLine) : wpAny (model prog w) A (getItem (.ref t) (.ref sl)) Q E s := by
  have htake : sizeOk (.seq items.toList.reverse.toArray) := by
    show items.toList.reverse.toArray.size ≤ sizeLine
    rw [List.size_toArray, List.length_reverse, Array.length_toList]
    exact hsz
  obtain ⟨os, hos, hcs, hds⟩ := id hs
  have hTs : s.TypeIs (.ref sl) "slice" := ⟨os, hos, hcs⟩
  unfold getItem
  try with_reducible refine wpAny_holding ?_
  first | refine wpAny_bind (wpAny_pure ?_) | skip
  refine wpAny_bind (wpAny_sequenceKey ht.typeIs (by decide) ?_)
  refine wpAny_bind (wpAny_callSpecial?_slot (name := Str.ofString "__getitem__") ht.typeIs PyProof.Rows.slot_tuple_getitem
    (wpAny_call_entry PyProof.Rows.slot_tuple_getitem ht.typeIs entry_tuple_getitem ?_ (args_tuple_getitem _ _)))
  show wpAny _ _ (Builtin.Tuple.tupleItemsOf (.ref t) >>= _) _ _ s
  refine wpAny_bind (tupleItemsOf_ ht ?_)
  refine wpAny_bind (wpAny_typeOf hTs ?_)
  rw [if_pos (by decide)]
  refine wpAny_bind ?_
  · unfold Builtin.Slice.sliceApplied Builtin.Slice.sliceFields
    refine wpAny_bind (wpAny_bind (wpAny_field hos hds (x := .none) rfl (wpAny_bind (wpAny_field hos hds (x := .none) rfl (wpAny_bind (wpAny_field hos hds (x := vs) rfl (wpAny_pure ?_)))))))
    refine wpAny_bind (HT.slicePart_ ps ?_)
    show wpAny _ _ (if ((-1 : Int) == 0) = true then _ else _) _ _ s
    rw [if_neg (by decide)]
    refine wpAny_bind (slicePart_none (wpAny_bind (slicePart_none (wpAny_bind (wpAny_pure ?_)))))
    refine wpAny_pure ?_
    have hno : ¬ ((((items.size : Int) - 1) == 0 && (-1 : Int) == 1 && Builtin.Slice.slicePlaces ((items.size : Int) - 1) (-1) (-1) == items.size) = true) := by
      rw [Bool.and_eq_true, Bool.and_eq_true]
      intro q
      exact absurd q.1.2 (by decide)
    show wpAny _ _ (if (((items.size : Int) - 1) == 0 && (-1 : Int) == 1 && Builtin.Slice.slicePlaces ((items.size : Int) - 1) (-1) (-1) == items.size) = true then _ else _) _ _ s
    rw [if_neg hno]
    show wpAny _ _ (Builtin.Tuple.tupleExact ((List.range (Builtin.Slice.slicePlaces ((items.size : Int) - 1) (-1) (-1))).filterMap fun (k : Nat) => items[((items.size : Int) - 1 + (k : Int) * (-1)).toNat]?).toArray >>= _) _ _ s
    rw [places_rev, pick_rev]
    first
      | exact wpAny_bind (m := Builtin.Tuple.tupleExact _) (wpAny_newObj_type (wpAny_pure ⟨_, rfl, wpAny_pure h⟩) htake)
      | exact wpAny_bind (m := Builtin.Tuple.tupleExact _) (wpAny_newObj_type (wpAny_bind (wpAny_pure (wpAny_pure ⟨_, rfl, wpAny_pure h⟩))) htake)
      | exact wpAny_bind (wpAny_bind (m := Builtin.Tuple.tupleExact _) (wpAny_newObj_type (wpAny_pure (wpAny_pure ⟨_, rfl, wpAny_pure h⟩)) htake))
end
section
variable {X : Cx}
def tRevT (K : PySem.W.Frag) (te : TE) : TE := fun σ H Q => te σ H fun x H1 => ∃ a xs, x = .ref a ∧ SqT K H1 a xs ∧ ∀ p, H1 p = none → Q (.ref p) (upd H1 p (.tup xs.reverse))
theorem pe_revT (K : PySem.W.Frag) {e : Expr} {te : TE} {k : Nat} {p1 p2 p3 pos : Pos} (he : PE X e te) (hK : X.K = K := by rfl) : PE X (.Subscript e (.Slice none none (some (.UnaryOp .USub (.Constant (.int 1) k p1) p2)) p3) pos) (tRevT K te) := by
  subst hK
  refine ⟨fun pins s σ H Q I h => ?_⟩
  refine Subscript_ (thn (he.run pins s σ H _ I h) fun v s1 ⟨x, H1, I1, r1, q1⟩ => ?_)
  obtain ⟨a, xs, ex, hx, q⟩ := q1
  subst ex
  cases r1
  have hst : PO X (some (.UnaryOp .USub (.Constant (.int 1) k p1) p2)) (tPart (tUn (rU fun i => .int (-i)) (tC (.int 1)))) := po_some (pe_un un_neg pe_int)
  refine wpAny_Slice (thn (po_none.run pins s1 σ H1 (fun o H2 => o = none ∧ H2 = H1) I1 ⟨rfl, rfl⟩) fun vl s2 ⟨l, H2, I2, pl, el, e2⟩ => ?_)
  subst el e2
  refine thn (po_none.run pins s2 σ H2 (fun o H3 => o = none ∧ H3 = H2) I2 ⟨rfl, rfl⟩) fun vu s3 ⟨u, H3, I3, pu, eu, e3⟩ => ?_
  subst eu e3
  refine thn (hst.run pins s3 σ H3 (fun o H4 => o = some (-1) ∧ H4 = H3) I3 ⟨1, rfl, -1, rfl, rfl, rfl⟩) fun vs s4 ⟨o, H4, I4, ps, eo, e4⟩ => ?_
  subst eo e4
  have I5 : Inv X pins σ H4 { s4 with heap := s4.heap.push { cls := .type "slice", data := .fields #[vl, vu, vs] } } := I4.kept (t' := s4.toks) fun b ob q => Heap.get?_push_of_some _ q
  obtain ⟨its, r, ht, hz⟩ := I5.tuple hx
  have hlen := r.length
  cases pl
  cases pu
  show wpAny (model X.prog X.w) X.A (subscriptTail e (.Slice none none (some (.UnaryOp .USub (.Constant (.int 1) k p1) p2)) p3) (.ref a) (.ref s4.heap.objs.size)) (EP X pins σ Q) X.xe { s4 with heap := s4.heap.push { cls := .type "slice", data := .fields #[.none, .none, vs] } }
  refine tail_any (ops := [.ref a, .ref s4.heap.objs.size]) ht.typeIs (PyProof.Rows.slot_tuple_getitem.lookup) ?_ (by with_unfolding_all rfl)
  refine getItem_revT ht (Heap.IsSliceOf.new _ .none .none vs) ps ?_ (by rw [List.size_toArray]; omega)
  refine ⟨.ref _, _, I5.laid (t' := s4.toks) (o := .tup xs.reverse) (fun b ob q => Heap.get?_push_of_some _ q) (Nat.le_refl _) ?_, rfl, q _ (I5.hok.fresh (Nat.le_refl _))⟩
  exact ⟨by rw [List.length_reverse]; exact hz, _, r.reverse, IsTup.new _ _⟩
end
section
variable {K : PySem.W.Frag} {ρ : List Sl} {te : TE} {ds : List D}
theorem e_revT (h : E te ρ (.tup ds)) : E (tRevT K te) ρ (.tup ds.reverse) := fun σ N H S e Q k =>
  h σ N H S e _ fun v N1 H1 f r => by
    obtain ⟨a, xs, rfl, h1, r1⟩ := r.inv_tup
    refine ⟨a, xs, rfl, SqT.of (f.sub _ _ h1), fun p hp => ?_⟩
    exact k _ _ _ (f.trans (Fr.made f.sub hp)) (.tup upd_same (r1.reverse.mono (Fr.made (M := []) f.sub hp).sml))
end
section
variable {K : PySem.W.Frag} {c : Ctx} {Ps : List (Addr × D)} {ρ ρ' : List Sl} {σ : St} {H : Hp} {De : Ends} {te t1 t2 : TE} {wi : TI} {g : TG} {ts vs : List Nat} {d : D} {tz : TS}
/-- a new object is seen as it stands, and stays so -/
theorem At.out {p : Addr} (a : At c ((p, d) :: Ps) ρ σ H) (hn : isNon d = false) (hH : c.H p = none) : ∃ L, Rp L (.ref p) d ∧ At (c.ext L) Ps ρ σ H := by
  obtain ⟨N, a⟩ := a
  obtain ⟨h1, h2, h3⟩ := a.ps p d (List.mem_cons_self)
  have nodup := List.nodup_cons.mp a.nd
  have ct : Cont N H p d := by
    rcases h2 with h2 | ⟨z, _⟩
    · exact h2
    · subst z; exact absurd hn (by decide)
  have hN0 : c.N p = none := by
    cases z : c.N p with
    | none => rfl
    | some o =>
      have := a.fr.sml p o z
      rw [h1] at this
      cases this
  refine ⟨addH N H p, ct.rp hn h1, addH N H p, ?_, a.sg.mono (addH_ex h1), fun L hL => ?_, fun q e hq => ?_, nodup.2⟩
  · exact a.fr.add hH h1
  · rcases List.mem_cons.mp hL with z | z
    · rw [z]; exact Ex.refl _
    · exact (a.ls L z).trans (addH_ex h1)
  · obtain ⟨y1, y2, y3⟩ := a.ps q e (List.mem_cons_of_mem _ hq)
    have hqp : q ≠ p := fun z => nodup.1 (by
      rw [← z]
      exact List.mem_map.mpr ⟨(q, e), hq, rfl⟩)
    exact ⟨by rw [addH_ne hqp]; exact y1, y2.keep (addH_ex h1) rfl, y3⟩
/-- [.. for .. in range(..)], the items drawn -/
theorem eb_lc {α : Type} {Rel : D → Prop} (xs : List α) (enc : α → D) (ρf : α → List Sl) (hs : Src wi ρ (xs.map enc)) (hz : xs.length ≤ 99999) (hts : ∀ j ∈ ts, j ∈ vs)
    (hg : ∀ x, x ∈ xs → Tg g ts (wipeS ρ vs) (enc x) (ρf x)) (he : ∀ x, x ∈ xs → ∀ Dl ds, EB te ((Dl, .lst ds) :: Ps) (ρf x) (fun d P => Rel d ∧ P = (Dl, .lst ds) :: Ps)) :
    EB (tLc wi g tYes te vs) Ps ρ (fun d P => (∃ ds, d = .lst ds ∧ ds.length = xs.length ∧ ∀ x ∈ ds, Rel x) ∧ P = Ps) := fun c σ H a Q k => by
  obtain ⟨N, a⟩ := a
  refine hs σ N H a.sg a.fr.sub _ fun J N1 H1 f1 sv => fun Dl hD => ?_
  have a1 := (a.step f1).ext (Ex.refl N1)
  have hM : c.H Dl = none := by
    cases q : c.H Dl with
    | none => rfl
    | some o => exact absurd hD (a1.fr.dom Dl (some_ne q))
  have hst : At (c.ext N1) ((Dl, .lst []) :: Ps) ρ σ (upd H1 Dl (.lst [])) := by
    have h := At.el (te := tLst tNil) (d := .lst []) (Q := fun v H' => ∃ p, v = .ref p ∧ At (c.ext N1) ((p, .lst []) :: Ps) ρ σ H') ⟨N1, a1⟩ (el_lst ea_nil) fun p H' a' => ⟨p, rfl, a'⟩
    obtain ⟨_, h⟩ := h
    obtain ⟨p, e, h⟩ := h Dl hD
    cases e
    exact h
  refine ⟨fun i m H' => m = xs.length - i ∧ i ≤ xs.length ∧ ∃ ds, ds.length = i ∧ (∀ x ∈ ds, Rel x) ∧ At (c.ext N1) ((Dl, .lst ds) :: Ps) ρ σ H', ⟨xs.length, rfl, Nat.zero_le _, [], rfl, by simp, hst⟩, ?_⟩
  rintro i m H' ⟨rfl, hi, ds, hl, hR, N2, a2⟩
  have eL : Ex N1 N2 := a2.ls N1 List.mem_cons_self
  by_cases hlt : i < xs.length
  · have hx : xs[i]? = some xs[i] := List.getElem?_eq_getElem hlt
    generalize xs[i] = x at hx
    have hm : x ∈ xs := List.mem_of_getElem? hx
    refine .inr ⟨sv.go i H' (eL.trans a2.fr.sub) (by simpa using hlt), fun H2 => ∃ ds, ds.length = i + 1 ∧ (∀ x ∈ ds, Rel x) ∧ At (c.ext N1) ((Dl, .lst ds) :: Ps) ρ σ H2,
      fun H2 ⟨ds, q⟩ => ⟨xs.length - (i + 1), by omega, rfl, hlt, ds, q⟩, fun v H2 y => ?_⟩
    obtain ⟨N3, f3, rx⟩ := sv.yld i (enc x) v N2 H' H2 (by rw [List.getElem?_map, hx]; rfl) eL a2.fr.sub y
    have a3 := (a2.step f3).ext (Ex.refl N3)
    refine hg x hm (L2.wipe σ vs) N3 H2 v (a3.sg.wipe vs) a3.fr.sub rx _ fun σ2 S2 w2 => ⟨(w2 vs hts).trans (wipe_wipe σ vs), ?_⟩
    show te σ2 H2 _
    refine he x hm Dl ds _ σ2 H2 ⟨N3, a3.fr, S2, a3.ls, a3.ps, a3.nd⟩ _ fun y d P L H4 hRd r a4 => ?_
    obtain ⟨hRd, rfl⟩ := hRd
    obtain ⟨N4, a4⟩ := a4
    obtain ⟨_, h2, _⟩ := a4.ps Dl (.lst ds) List.mem_cons_self
    rcases h2 with ⟨acc, g1, g2⟩ | ⟨z, _⟩
    · have hacc := g2.length
      refine ⟨acc, g1, lt_line (by omega), ds ++ [d], by simp [hl], fun z hz2 => ?_, N4, ?_⟩
      · rcases List.mem_append.mp hz2 with q | q
        · exact hR z q
        · have : z = d := by simpa using q
          rw [this]; exact hRd
      · have e3 : Ex N3 N4 := a4.ls N3 (by simp)
        have a5 : AtN (c.ext N1) ((Dl, .lst ds) :: Ps) ρ σ H4 N4 := ⟨a4.fr, (a3.sg).mono e3, fun L' hL' => a4.ls L' (by
          rcases List.mem_cons.mp hL' with z | z
          · rw [z]; simp
          · simp [z]), a4.ps, a4.nd⟩
        exact a5.wrote (k := 0) rfl (.inl ⟨_, upd_same, g2.append (.cons (r.mono (a4.ls L (by simp))) .nil)⟩)
    · cases z
  · have ei : i = xs.length := by omega
    subst ei
    refine .inl ⟨sv.stop _ H' (eL.trans a2.fr.sub) (by simp), ?_⟩
    obtain ⟨L, r, a6⟩ := At.out (c := c.ext N1) ⟨N2, a2⟩ rfl hM
    exact k _ _ _ L _ ⟨⟨ds, rfl, hl, hR⟩, rfl⟩ r (by
      obtain ⟨N6, a6⟩ := a6
      exact ⟨N6, a6.fr, a6.sg, fun L' hL' => a6.ls L' (by
        rcases List.mem_cons.mp hL' with z | z
        · rw [z]; simp
        · simp [z]), a6.ps, a6.nd⟩)
/-- a new list, what changes seen -/
theorem At.elV {Q : VK} {es : List D} (a : At c Ps ρ σ H) (w : Vw Ps ρ ρ') (h : EL te ρ' (.lst es)) (hf : fzs es = true) (k : ∀ p H', At c ((p, .lst es) :: Ps) ρ σ H' → Q (.ref p) H') : te σ H Q := by
  obtain ⟨N, a⟩ := a
  obtain ⟨S, e2, e1⟩ := a.viewed w
  refine h σ _ H S e2 _ fun q N2 H2 f hq hN2 ct => k q H2 ?_
  obtain ⟨a', hr⟩ := a.unviewed f
  obtain ⟨ws, q1, q2⟩ := ct
  have q2' : Rps (hideS Ps N2) ws es := q2.monoF (fun b u hu z => by
    unfold hideS
    rw [if_neg]
    · exact z
    · intro y
      obtain ⟨d', hd⟩ := of_inP y
      obtain ⟨_, h2, _⟩ := a'.ps b d' hd
      obtain ⟨xs, rfl | ⟨o2, rfl⟩⟩ := hu
      · exact h2.notup (f.sub _ _ z)
      · exact h2.nofrz (f.sub _ _ z)) hf
  have hNq : hideS Ps N2 q = none := by
    unfold hideS
    split
    · rfl
    · exact hN2
  refine ⟨_, a'.fr, a'.sg, a'.ls, fun b e hb => ?_, ?_⟩
  · rcases List.mem_cons.mp hb with z | z
    · cases z
      refine ⟨hNq, .inl ⟨ws, q1, q2'⟩, .inr ?_⟩
      cases z : c.H q with
      | none => rfl
      | some o => exact absurd hq (a.fr.dom q (some_ne z))
    · exact a'.ps b e z
  · rw [List.map_cons, List.nodup_cons]
    refine ⟨fun z => ?_, a.nd⟩
    obtain ⟨d', hd⟩ := of_inP z
    exact (a.ps q d' hd).2.1.some hq
theorem q_asgLV {i : Nat} {es : List D} (a : At c Ps ρ σ H) (w : Vw Ps ρ ρ') (h : EL te ρ' (.lst es)) (hf : fzs es = true) (k : ∀ p σ' H', At c ((p, .lst es) :: Ps) (ρ.set i (.val (.ref p))) σ' H' → tz De σ' H') : tSeq (tAsg te (gName i)) tz De σ H :=
  a.elV w h hf fun p H' a' => k p _ _ (a'.setV i)
/-- a[x], a[y] = two values -/
theorem q_setL2 {i j l k : Nat} {p : Addr} {ds : List D} {x y : Int} {mx my : Nat} {d1 d2 : D} (a : At c Ps ρ σ H) (hi : ρ[i]? = some (.val (.ref p))) (hk : Ps[k]? = some (p, .lst ds)) (w : Vw Ps ρ ρ') (h : E te ρ' (.tup [d1, d2])) (hf : fz (.tup [d1, d2]) = true)
    (hx : ρ[j]? = some (.dat (.int x))) (hy : ρ[l]? = some (.dat (.int y))) (ix : ixN ds.length x = some mx) (iy : ixN ds.length y = some my) (kk : ∀ H', At c (Ps.set k (p, .lst ((ds.set mx d1).set my d2))) ρ σ H' → tz De σ H') :
    tSeq (tAsg te (gTup K 2 (gCons (gSub (tVar i) (tVar j) rSetL) (gCons (gSub (tVar i) (tVar l) rSetL) gNil)))) tz De σ H := by
  obtain ⟨N, a⟩ := a
  refine a.ev w h hf fun v N1 H1 a1 r1 => ?_
  obtain ⟨b, xs, rfl, g1, g2⟩ := r1.inv_tup
  obtain ⟨u, u2, rfl, ru, ru2⟩ := g2.two
  obtain ⟨vx, sx, rx⟩ := a1.sg.dat j _ hx
  obtain ⟨vy, sy, ry⟩ := a1.sg.dat l _ hy
  rw [rx.inv_int] at sx
  rw [ry.inv_int] at sy
  have hm : (p, D.lst ds) ∈ Ps := List.mem_of_getElem? hk
  obtain ⟨_, h2, _⟩ := a1.ps p _ hm
  rcases h2 with ⟨ws, q1, q2⟩ | ⟨z, _⟩
  · have a2 := a1.wrote hk (o := .lst (ws.set mx u)) (d' := .lst (ds.set mx d1)) (.inl ⟨_, upd_same, q2.set ru mx⟩)
    have hlt : k < Ps.length := at_lt hk
    have hk2 : (Ps.set k (p, D.lst (ds.set mx d1)))[k]? = some (p, .lst (ds.set mx d1)) := by
      rw [List.getElem?_set]
      simp [hlt]
    have a3 := a2.wrote hk2 (o := .lst ((ws.set mx u).set my u2)) (d' := .lst ((ds.set mx d1).set my d2)) (.inl ⟨_, upd_same, (q2.set ru mx).set ru2 my⟩)
    rw [List.set_set] at a3
    refine ⟨b, [u, u2], rfl, SqT.of (a1.fr.sub _ _ g1), rfl, u, _, rfl, ⟨_, a1.sg.val i _ hi, _, sx, p, ws, x, mx, rfl, rfl, q1, by rw [q2.length]; exact ix, ?_⟩⟩
    refine ⟨u2, _, rfl, ⟨_, a1.sg.val i _ hi, _, sy, p, ws.set mx u, y, my, rfl, rfl, upd_same, by rw [List.length_set, q2.length]; exact iy, rfl, kk _ ⟨N1, a3⟩⟩⟩
  · cases z
/-- a new list of what is drawn -/
theorem q_lstB {i : Nat} {t : TA} {RA : List D → List (Addr × D) → Prop} (a : At c Ps ρ σ H) (h : EBA t Ps ρ RA) (hz : ∀ ds P, RA ds P → ds.length ≤ 100000) (k : ∀ ds P p σ' H', RA ds P → At c ((p, .lst ds) :: P) (ρ.set i (.val (.ref p))) σ' H' → tz De σ' H') : tSeq (tAsg (tLst t) (gName i)) tz De σ H := by
  refine h _ σ H a _ fun vs ds P L H1 hR r a1 => ⟨by rw [r.length]; exact le_line (hz ds P hR), fun p hp => k ds P p _ _ hR ?_⟩
  obtain ⟨N, a1⟩ := a1
  have f := Fr.laid (M := []) (o := .lst vs) a1.fr.sub hp
  have a2 := a1.step f
  have a3 := a2.unext
  refine At.setV (Ps := (p, .lst ds) :: P) ⟨N, a3.fr, a3.sg, a3.ls, fun b e hb => ?_, ?_⟩ i
  · rcases List.mem_cons.mp hb with z | z
    · cases z
      refine ⟨none_of_ex a1.fr.sub hp, .inl ⟨vs, upd_same, r.mono (a1.ls L (by simp))⟩, .inr ?_⟩
      cases z : c.H p with
      | none => rfl
      | some o => exact absurd hp (a1.fr.dom p (some_ne z))
    · exact a2.ps b e z
  · rw [List.map_cons, List.nodup_cons]
    refine ⟨fun z => ?_, a1.nd⟩
    obtain ⟨d', hd⟩ := of_inP z
    exact (a1.ps p d' hd).2.1.some hp
theorem At.notbag {p bg : Addr} {d : D} (a : At c ((p, d) :: Ps) ρ σ H) (hb : bg ∈ Ps.map Prod.fst) : p ≠ bg := fun z => by
  obtain ⟨N, a⟩ := a
  have := (List.nodup_cons.mp a.nd).1
  rw [← z] at hb
  exact this hb
end
section
variable {K : PySem.W.Frag} {c : Ctx} {Ps : List (Addr × D)} {ρ : List Sl} {σ : St} {H : Hp} {De : Ends} {t1 t2 t3 : TE} {d1 d2 d3 : D} {i j l : Nat} {tz : TS} {ds es : List D}
theorem q_par3E (a : At c Ps ρ σ H) (h1 : E t1 ρ d1) (h2 : E t2 ρ d2) (h3 : E t3 ρ d3) (k : ∀ σ' H', At c Ps (((ρ.set i (.dat d1)).set j (.dat d2)).set l (.dat d3)) σ' H' → tz De σ' H') : tSeq (tPar3 i j l (tCons t1 (tCons t2 (tCons t3 tNil)))) tz De σ H := by
  show t1 σ H _
  refine a.e h1 fun v L H1 r1 a1 => ?_
  show t2 σ H1 _
  refine a1.e h2 fun w L2 H2 r2 a2 => ?_
  show t3 σ H2 _
  refine a2.e h3 fun u L3 H3 r3 a3 => ⟨v, w, u, rfl, k _ _ ?_⟩
  have a4 := a3.setD i (by simp) r1
  have a5 := a4.setD j (by simp) r2
  exact (a5.setD l (by simp) r3).unext.unext.unext
theorem r2d_addL (hz : ds.length + es.length ≤ 100000) : R2D (uAdd K) (.lst ds) (.lst es) (.lst (ds ++ es)) := fun x y N H e rx ry Q k => by
  obtain ⟨p, xs, rfl, h1, r1⟩ := rx.inv_lst
  obtain ⟨q, ys, rfl, h2, r2⟩ := ry.inv_lst
  refine .inr (.inr ⟨p, q, xs, ys, rfl, rfl, e _ _ h1, e _ _ h2, by rw [r1.length, r2.length]; exact le_line hz, fun o ho => ?_⟩)
  have f := Fr.made (M := []) (o := .lst (xs ++ ys)) e ho
  exact k _ _ _ f (.lst upd_same ((r1.append r2).mono f.sml))
end
section
variable {K : PySem.W.Frag} {c : Ctx} {Ps : List (Addr × D)} {ρ : List Sl} {σ : St} {H : Hp} {De : Ends} {te : TE} {g : TG} {ts : List Nat} {tb tz : TS} {R : D → List (Addr × D) → Prop}
/-- for x in a list that is drawn; nothing is carried -/
theorem s_forB (a : At c Ps ρ σ H) (h : EB te Ps ρ R) (hl : ∀ d P, R d P → ∃ ds, d = .lst ds ∧ P = Ps) (ρg : D → List Sl) (hg : ∀ x, Tg g ts ρ x (ρg x))
    (step : ∀ L ds x σ' H', R (.lst ds) Ps → x ∈ ds → At (c.ext L) Ps (ρg x) σ' H' → tb { De with nx := fun σ H => At (c.ext L) Ps ρ σ H, ct := fun σ H => At (c.ext L) Ps ρ σ H, bk := De.nx } σ' H')
    (done : ∀ σ' H', At c Ps ρ σ' H' → De.nx σ' H') : tFor (iSeq K te) g tb De σ H := by
  refine h _ σ H a _ fun v d P L H1 hR r a1 => ?_
  obtain ⟨xs, rfl, rfl⟩ := hl d P hR
  obtain ⟨p, ys, rfl, h1, r1⟩ := r.inv_lst
  obtain ⟨N1, a1⟩ := a1
  have sv := srv_list (K := K) h1 r1
  refine .inl ⟨p, rfl, ⟨ys, SqL.of (a1.fr.sub _ _ (a1.ls L List.mem_cons_self _ _ h1))⟩, ?_⟩
  refine ⟨fun i m σ' H' => m = xs.length - i ∧ i ≤ xs.length ∧ At (c.ext L) P ρ σ' H', ⟨xs.length, rfl, Nat.zero_le _, N1, a1⟩, ?_⟩
  rintro i m σ' H' ⟨rfl, hi, N2, a2⟩
  have eL : Ex L N2 := a2.ls L List.mem_cons_self
  by_cases hlt : i < xs.length
  · have hd : xs[i]? = some xs[i] := List.getElem?_eq_getElem hlt
    generalize xs[i] = x at hd
    refine .inr ⟨sv.go i H' (eL.trans a2.fr.sub) hlt, fun σ H => At (c.ext L) P ρ σ H, fun σ3 H3 q1 => ⟨xs.length - (i + 1), by omega, rfl, hlt, q1⟩, fun v H3 y => ?_⟩
    obtain ⟨N3, f3, rx⟩ := sv.yld i x v N2 H' H3 hd eL a2.fr.sub y
    have a3 := a2.step f3
    exact hg x σ' N3 H3 v a3.sg a3.fr.sub rx _ fun σ4 S4 _ => step L xs x σ4 H3 hR (List.mem_of_getElem? hd) ⟨N3, a3.fr, S4, a3.ls, a3.ps, a3.nd⟩
  · have e : i = xs.length := by omega
    subst e
    exact .inl ⟨sv.stop _ H' (eL.trans a2.fr.sub) (Nat.le_refl _), done σ' H' (At.unext ⟨N2, a2⟩)⟩
end

/-- three lists, the items in new triples -/
def Itz3 (K : PySem.W.Frag) (a b c : Addr) : It :=
  ⟨fun i H => ∃ (xs ys zs : List V) (x y z : V), SqL K H a xs ∧ SqL K H b ys ∧ SqL K H c zs ∧ xs[i]? = some x ∧ ys[i]? = some y ∧ zs[i]? = some z,
    fun i H v H' => ∃ T x y z, v = .ref T ∧ H T = none ∧ H' = upd H T (.tup [x, y, z]) ∧ (∀ xs, SqL K H a xs → xs[i]? = some x) ∧ (∀ ys, SqL K H b ys → ys[i]? = some y) ∧ ∀ zs, SqL K H c zs → zs[i]? = some z,
    fun i H => ∃ xs ys zs : List V, SqL K H a xs ∧ SqL K H b ys ∧ SqL K H c zs ∧ (xs.length ≤ i ∨ ys.length ≤ i ∨ zs.length ≤ i)⟩
theorem draws_at {prog : Program} {w : World} {A : Around} (hh : A.handled = none) (it l : Addr) (hne : l ≠ it) (items : Array Value) (i : Nat) :
    ∃ n P St, Draws prog w A it [it, l] n P St ∧ (∀ h : Heap, h.IsListIter it l i → h.IsList l items → St i h) ∧ i ≤ n ∧ (items.size ≤ i → i = n) := by
  by_cases hi : i < items.size
  · exact ⟨_, _, _, Draws.list hh it l hne items, fun h a b => ⟨a, b⟩, Nat.le_of_lt hi, fun z => absurd hi (Nat.not_lt.mpr z)⟩
  · refine ⟨i, fun _ _ => False, fun j h => j = i ∧ h.IsListIter it l i ∧ h.IsList l items, ⟨fun _ _ st => let ⟨o, ho, _⟩ := st.2.1; ⟨o, ho⟩, fun _ _ _ st hk => ⟨st.1, st.2.1.at fun o e => hk it (by simp) o e, st.2.2.at fun o e => hk l (by simp) o e⟩,
      fun j s Q E hj st hQ => absurd st.1 (Nat.ne_of_lt hj), fun s Q E st hE => wpAny_nextOf_list_end hh st.2.1 st.2.2 (by simp; omega) hE⟩, fun h a b => ⟨rfl, a, b⟩, Nat.le_refl _, fun _ => rfl⟩
theorem turn_zip3 {P : Program} {w : World} {K : PySem.W.Frag} {elts : List Expr} {kk : Nat} {tpos : Pos} {a b c z TI TO i1 i2 i3 : Addr} (D : ZipSep3 z TI TO i1 i2 i3 [i1, a] [i2, b] [i3, c]) (n1 : a ≠ i1) (n2 : b ≠ i2) (n3 : c ≠ i3) :
    Turn P w K (.Tuple elts kk tpos) (Itz3 K a b c) [z, TI, TO, i1, i2, i3] z (fun i h => IsZip h z TI TO .none ∧ IsTupOf3 h TI (.ref i1) (.ref i2) (.ref i3) ∧ (∃ x y u, IsTupOf3 h TO x y u) ∧ h.IsListIter i1 a i ∧ h.IsListIter i2 b i ∧ h.IsListIter i3 c i) where
  mem := by simp
  obj := fun i h st c hc => by
    obtain ⟨hz, hTI, ⟨x, y, u, hTO⟩, ⟨o1, e1, _, d1⟩, ⟨o2, e2, _, d2⟩, ⟨o3, e3, _, d3⟩⟩ := st
    have e' : c = z ∨ c = TI ∨ c = TO ∨ c = i1 ∨ c = i2 ∨ c = i3 := by simpa using hc
    rcases e' with q | q | q | q | q | q
    · rw [q]; exact ⟨_, hz, fun v q => nomatch q⟩
    · rw [q]; exact ⟨_, hTI, fun v q => nomatch q⟩
    · rw [q]; exact ⟨_, hTO, fun v q => nomatch q⟩
    · rw [q]; exact ⟨o1, e1, fun v q => by rw [d1] at q; cases q⟩
    · rw [q]; exact ⟨o2, e2, fun v q => by rw [d2] at q; cases q⟩
    · rw [q]; exact ⟨o3, e3, fun v q => by rw [d3] at q; cases q⟩
  keep := fun i h h' st k => by
    obtain ⟨hz, hTI, ⟨x, y, u, hTO⟩, h1, h2, h3⟩ := st
    exact ⟨k z (by simp) _ hz, k TI (by simp) _ hTI, ⟨x, y, u, k TO (by simp) _ hTO⟩, h1.at fun o q => k i1 (by simp) o q, h2.at fun o q => k i2 (by simp) o q, h3.at fun o q => k i3 (by simp) o q⟩
  item := by
    intro X hP hw hK hc i pins s σ H E I hf st hg
    subst hP hw hK
    obtain ⟨hz, hTI, ⟨x0, y0, u0, hTO⟩, h1, h2, h3⟩ := st
    obtain ⟨xs, ys, zs, x, y, w1, hqx, hqy, hqz, hx, hy, hw1⟩ := hg
    obtain ⟨its, rv, p, _⟩ := I.list hqx
    obtain ⟨its2, rv2, p2, _⟩ := I.list hqy
    obtain ⟨its3, rv3, p3, _⟩ := I.list hqz
    obtain ⟨u, hu, ru⟩ := rv.get hx
    obtain ⟨u2, hu2, ru2⟩ := rv2.get hy
    obtain ⟨u3, hu3, ru3⟩ := rv3.get hw1
    have hzl : z < s.heap.objs.size := Heap.lt_size hz
    refine wpAny_pyNext_zipD3_item D (Draws.list (prog := X.prog) (w := X.w) (A := X.A.in1) (I.ok.hd hc) i1 a n1 its.toArray) (Draws.list (prog := X.prog) (w := X.w) (A := X.A.in1) (I.ok.hd hc) i2 b n2 its2.toArray) (Draws.list (prog := X.prog) (w := X.w) (A := X.A.in1) (I.ok.hd hc) i3 c n3 its3.toArray) hz hTI hTO ⟨h1, p.isList⟩ ⟨h2, p2.isList⟩ ⟨h3, p3.isList⟩
      (by have := at_lt hu; simpa using this) (by have := at_lt hu2; simpa using this) (by have := at_lt hu3; simpa using this) fun x1 x2 x3 h' tk e1 e2 e3 z' TO' h1' h2' h3' hT hsz hk => ?_
    have e1 : x1 = u := by
      have : its[i]? = some x1 := by simpa using e1
      rw [hu] at this; exact (Option.some.inj this).symm
    have e2 : x2 = u2 := by
      have : its2[i]? = some x2 := by simpa using e2
      rw [hu2] at this; exact (Option.some.inj this).symm
    have e3 : x3 = u3 := by
      have : its3[i]? = some x3 := by simpa using e3
      rw [hu3] at this; exact (Option.some.inj this).symm
    subst e1 e2 e3
    refine ⟨_, rfl, wpAny_letOwnedTupleGo_zip (s := { s with heap := h', toks := tk }) z' fun h'' z'' sb => ?_⟩
    have hT2 : h''.get? s.heap.objs.size = some { cls := .type "tuple", data := .seq #[x1, x2, x3] } := (sb.2 _ (Nat.ne_of_gt hzl)).trans hT
    have new : ObjOk X.prog X.w (upd H s.heap.objs.size (.tup [x, y, w1])) h'' s.heap.objs.size (.tup [x, y, w1]) :=
      ⟨by show 3 ≤ sizeLine; decide, [x1, x2, x3], .cons ru (.cons ru2 (.cons ru3 .nil)), ⟨_, hT2, rfl, _, rfl⟩⟩
    have I1 : Inv X pins σ (upd H s.heap.objs.size (.tup [x, y, w1])) { s with heap := h'', toks := tk } :=
      I.turnedNew (t' := tk) (ch := [z, TI, TO, i1, i2, i3]) (fun c o hb q => (sb.2 c (fun q' => hb (by simp [q']))).trans (hk c o (fun q' => hb (by simp [q'])) (fun q' => hb (by simp [q'])) (fun q' => hb (by simp [q'])) (fun q' => hb (by simp [q'])) (fun q' => hb (by simp [q'])) q)) hf (Nat.le_refl _) new
    have i1z : i1 ≠ z := fun e => D.zf1 (by rw [← e]; exact D.mem1)
    have i2z : i2 ≠ z := fun e => D.zf2 (by rw [← e]; exact D.mem2)
    have i3z : i3 ≠ z := fun e => D.zf3 (by rw [← e]; exact D.mem3)
    refine ⟨.ref s.heap.objs.size, _, I1, rfl, ⟨_, x, y, w1, rfl, I.hok.fresh (Nat.le_refl _), rfl, fun l hl => by rw [I.list_inj hl hqx]; exact hx, fun l hl => by rw [I.list_inj hl hqy]; exact hy, fun l hl => by rw [I.list_inj hl hqz]; exact hw1⟩, ⟨z'', ?_, ⟨x1, x2, x3, ?_⟩, ?_, ?_, ?_⟩, fun d hcm => ?_⟩
    · exact (sb.2 _ D.TIz).trans (hk _ _ D.TIz D.TITO D.TIi1 D.TIi2 D.TIi3 hTI)
    · exact (sb.2 _ D.TOz).trans TO'
    · exact h1'.1.at fun o q => (sb.2 _ i1z).trans q
    · exact h2'.1.at fun o q => (sb.2 _ i2z).trans q
    · exact h3'.1.at fun o q => (sb.2 _ i3z).trans q
    · have hlt : d < s.heap.objs.size := by
        have e' : d = z ∨ d = TI ∨ d = TO ∨ d = i1 ∨ d = i2 ∨ d = i3 := by simpa using hcm
        rcases e' with q | q | q | q | q | q
        · rw [q]; exact hzl
        · rw [q]; exact Heap.lt_size hTI
        · rw [q]; exact Heap.lt_size hTO
        · rw [q]; obtain ⟨_, e1, _⟩ := h1; exact Heap.lt_size e1
        · rw [q]; obtain ⟨_, e2, _⟩ := h2; exact Heap.lt_size e2
        · rw [q]; obtain ⟨_, e3, _⟩ := h3; exact Heap.lt_size e3
      rw [upd_ne (Nat.ne_of_lt hlt)]
      exact (hf d hcm).1
  done := by
    intro X hP hw hK hc i pins s σ H E I hf st hg
    subst hP hw hK
    obtain ⟨hz, hTI, ⟨x0, y0, u0, hTO⟩, h1, h2, h3⟩ := st
    obtain ⟨xs, ys, zs, hqx, hqy, hqz, hend⟩ := hg
    obtain ⟨its, rv, p, _⟩ := I.list hqx
    obtain ⟨its2, rv2, p2, _⟩ := I.list hqy
    obtain ⟨its3, rv3, p3, _⟩ := I.list hqz
    have l1 := rv.length
    have l2 := rv2.length
    have l3 := rv3.length
    obtain ⟨m1, P1, S1, D1, g1, b1, c1⟩ := draws_at (prog := X.prog) (w := X.w) (A := X.A.in1) (I.ok.hd hc) i1 a n1 its.toArray i
    obtain ⟨m2, P2, S2, D2, g2, b2, c2⟩ := draws_at (prog := X.prog) (w := X.w) (A := X.A.in1) (I.ok.hd hc) i2 b n2 its2.toArray i
    obtain ⟨m3, P3, S3, D3, g3, b3, c3⟩ := draws_at (prog := X.prog) (w := X.w) (A := X.A.in1) (I.ok.hd hc) i3 c n3 its3.toArray i
    refine wpAny_pyNext_zipD3_end D D1 D2 D3 hz hTI hTO (g1 _ h1 p.isList) (g2 _ h2 p2.isList) (g3 _ h3 p3.isList) b1 b2 b3 ?_ fun h' tk hk => ⟨rfl, I.turnedL (t' := tk) (ch := [z, TI, TO, i1, i2, i3]) (fun c o hb q =>
      hk c o (fun q' => hb (by simp [q'])) (fun q' => hb (by simp [q'])) (fun q' => hb (by simp [q'])) (fun q' => hb (by simp [q'])) (fun q' => hb (by simp [q'])) q) hf⟩
    rcases hend with q | q | q
    · exact .inl (c1 (by simp; omega))
    · exact .inr (.inl (c2 (by simp; omega)))
    · exact .inr (.inr (c3 (by simp; omega)))
  self := fun A i s Q E st h => wpAny_pyIter_zip st.1 h
def iZip3 (K : PySem.W.Frag) (ta : TA) : TI := fun σ H R => ta σ H fun vs H1 => ∃ a b c xs ys zs, vs = [.ref a, .ref b, .ref c] ∧ SqL K H1 a xs ∧ SqL K H1 b ys ∧ SqL K H1 c zs ∧ R (Itz3 K a b c) H1
theorem pi_zip3 {X : Cx} {e e2 e3 : Expr} {ta : TA} {p pos tpos : Pos} {elts : List Expr} {kk : Nat} (hg : Gl X "zip") (hm : X.mg "zip" = none) (ha : PA X [e, e2, e3] ta)
    (hs : starEach [e, e2, e3] X.env = (false, eval e X.env) :: starEach [e2, e3] X.env := by rfl) (hpl : (backTo pos (starEach [e2, e3] X.env)).any (·.1) = false := by rfl) :
    PI X (.Tuple elts kk tpos) (.Call (.Name "zip" p) [e, e2, e3] [] pos) (iZip3 X.K ta) := by
  refine ⟨fun pins s σ H R I h => ?_⟩
  refine Call_ (ld_blt I hg hm PyProof.Rows.boot_zip (PyProof.Rows.callWith_type1 (thn (ha.run pos pins s σ H _ I h) fun us s1 ⟨vs, H1, I1, r1, q1⟩ => ?_) hs hpl))
  obtain ⟨a, b, c, xs, ys, zs, ex, hqx, hqy, hqz, q⟩ := q1
  subst ex
  cases r1 with
  | cons r rr =>
    cases rr with
    | cons r' rr =>
      cases rr with
      | cons r'' rr =>
      cases rr
      cases r
      cases r'
      cases r''
      obtain ⟨its, rv, p1, _⟩ := I1.list hqx
      obtain ⟨its2, rv2, p2, _⟩ := I1.list hqy
      obtain ⟨its3, rv3, p3, _⟩ := I1.list hqz
      have q1 := p1.lt
      have q2 := p2.lt
      have q3 := p3.lt
      refine zip_begins3 (begins_list a its.toArray) (begins_list b its2.toArray) (begins_list c its3.toArray) p1.isList p2.isList p3.isList fun h' hz hTI hTO h1 h2 h3 hsz hk => wpAny_pyIter_zip hz ?_
      have I2 : Inv X pins σ H1 { s1 with heap := h' } := I1.kept (t' := s1.toks) hk
      refine ⟨s1.heap.objs.size + 5, [s1.heap.objs.size + 5, s1.heap.objs.size + 3, s1.heap.objs.size + 4, s1.heap.objs.size, s1.heap.objs.size + 1, s1.heap.objs.size + 2], _, _, H1, rfl, I2,
        turn_zip3 (zip_sep3 (N := s1.heap.objs.size) (fun d hd => by rw [List.mem_singleton.mp hd]; exact q1) (fun d hd => by rw [List.mem_singleton.mp hd]; exact q2) (fun d hd => by rw [List.mem_singleton.mp hd]; exact q3)) (Nat.ne_of_lt q1) (Nat.ne_of_lt (Nat.lt_succ_of_lt q2)) (Nat.ne_of_lt (Nat.lt_succ_of_lt (Nat.lt_succ_of_lt q3))),
        ⟨hz, hTI, ⟨_, _, _, hTO⟩, ⟨_, h1, rfl, rfl⟩, ⟨_, h2, rfl, rfl⟩, ⟨_, h3, rfl, rfl⟩⟩, fun d hcm => ?_, q⟩
      have e' : d = s1.heap.objs.size + 5 ∨ d = s1.heap.objs.size + 3 ∨ d = s1.heap.objs.size + 4 ∨ d = s1.heap.objs.size ∨ d = s1.heap.objs.size + 1 ∨ d = s1.heap.objs.size + 2 := by simpa using hcm
      have hle : s1.heap.objs.size ≤ d := by
        rcases e' with z | z | z | z | z | z
        · rw [z]; exact Nat.le_add_right _ _
        · rw [z]; exact Nat.le_add_right _ _
        · rw [z]; exact Nat.le_add_right _ _
        · rw [z]; exact Nat.le_refl _
        · rw [z]; exact Nat.le_add_right _ _
        · rw [z]; exact Nat.le_add_right _ _
      exact I1.fpOk hle (I1.hok.fresh hle)
section
variable {K : PySem.W.Frag} {ρ : List Sl} {ds es fs : List D}
def zip3D (ds es fs : List D) : List D := (ds.zip (es.zip fs)).map fun p => .tup [p.1, p.2.1, p.2.2]
theorem zip3D_len : (zip3D ds es fs).length = min ds.length (min es.length fs.length) := by simp [zip3D]
theorem zip3D_get {i : Nat} {d : D} (h : (zip3D ds es fs)[i]? = some d) : ∃ a b c, ds[i]? = some a ∧ es[i]? = some b ∧ fs[i]? = some c ∧ d = .tup [a, b, c] := by
  unfold zip3D at h
  rw [List.getElem?_map] at h
  cases q : (ds.zip (es.zip fs))[i]? with
  | none => rw [q] at h; cases h
  | some p =>
    rw [q] at h
    obtain ⟨a, b, c⟩ := p
    rw [List.getElem?_zip_eq_some, List.getElem?_zip_eq_some] at q
    exact ⟨a, b, c, q.1, q.2.1, q.2.2, (Option.some.inj h).symm⟩
theorem srv_zip3 {L : Hp} {a b c : Addr} {xs ys zs : List V} (ha : L a = some (.lst xs)) (ra : Rps L xs ds) (hb : L b = some (.lst ys)) (rb : Rps L ys es) (hc : L c = some (.lst zs)) (rc : Rps L zs fs) : Srv (Itz3 K a b c) L (zip3D ds es fs) where
  go := fun i H e hi => by
    rw [zip3D_len] at hi
    obtain ⟨v, hv⟩ := ra.atN (i := i) (by omega)
    obtain ⟨v2, hv2⟩ := rb.atN (i := i) (by omega)
    obtain ⟨v3, hv3⟩ := rc.atN (i := i) (by omega)
    exact ⟨xs, ys, zs, v, v2, v3, SqL.of (e _ _ ha), SqL.of (e _ _ hb), SqL.of (e _ _ hc), hv, hv2, hv3⟩
  stop := fun i H e hi => by
    rw [zip3D_len] at hi
    refine ⟨xs, ys, zs, SqL.of (e _ _ ha), SqL.of (e _ _ hb), SqL.of (e _ _ hc), ?_⟩
    rw [ra.length, rb.length, rc.length]
    omega
  yld := fun i d x N H H' hd eL eN y => by
    obtain ⟨p, x1, y1, z1, rfl, nT, rfl, f1, f2, f3⟩ := y
    obtain ⟨d1, d2, d3, h1, h2, h3, rfl⟩ := zip3D_get hd
    obtain ⟨v, hv, rv⟩ := ra.get h1
    obtain ⟨v2, hv2, rv2⟩ := rb.get h2
    obtain ⟨v3, hv3, rv3⟩ := rc.get h3
    have e1 := f1 xs (SqL.of (eN _ _ (eL _ _ ha)))
    have e2 := f2 ys (SqL.of (eN _ _ (eL _ _ hb)))
    have e3 := f3 zs (SqL.of (eN _ _ (eL _ _ hc)))
    rw [hv] at e1
    rw [hv2] at e2
    rw [hv3] at e3
    cases e1
    cases e2
    cases e3
    have F := Fr.made (M := []) (o := .tup [x1, y1, z1]) eN nT
    exact ⟨_, F, .tup upd_same (.cons ((rv.mono eL).mono F.sml) (.cons ((rv2.mono eL).mono F.sml) (.cons ((rv3.mono eL).mono F.sml) .nil)))⟩
theorem Rps.three {N : Hp} {xs : List V} {d e f : D} (r : Rps N xs [d, e, f]) : ∃ v w u, xs = [v, w, u] ∧ Rp N v d ∧ Rp N w e ∧ Rp N u f := by
  obtain ⟨v, r1, rfl, h1, r1⟩ := r.inv_cons
  obtain ⟨w, r2, rfl, h2, r2⟩ := r1.inv_cons
  obtain ⟨u, r3, rfl, h3, r3⟩ := r2.inv_cons
  rw [r3.inv_nil]
  exact ⟨v, w, u, rfl, h1, h2, h3⟩
theorem src_zip3 {ta : TA} (h : EA ta ρ [.lst ds, .lst es, .lst fs]) : Src (iZip3 K ta) ρ (zip3D ds es fs) := fun σ N H S e R k => h σ N H S e _ fun vs N1 H1 f r => by
  obtain ⟨v, w, u, rfl, h1, h2, h3⟩ := r.three
  obtain ⟨a, xs, rfl, g1, r1⟩ := h1.inv_lst
  obtain ⟨b, ys, rfl, g2, r2⟩ := h2.inv_lst
  obtain ⟨c, zs, rfl, g3, r3⟩ := h3.inv_lst
  exact ⟨a, b, c, xs, ys, zs, rfl, SqL.of (f.sub _ _ g1), SqL.of (f.sub _ _ g2), SqL.of (f.sub _ _ g3), k _ N1 H1 f (srv_zip3 g1 r1 g2 r2 g3 r3)⟩
end

abbrev IsZq (h : Heap) (z TI TO : Addr) (q : Value) (f : Bool) : Prop :=
  h.get? z = some { cls := .type "zip", dict := none, data := .fields #[q, .bool f, .bool false, .ref TI, .ref TO], slots := #[] }
def IsZ (h : Heap) (z TI TO : Addr) : Prop := ∃ q f, (q = .none ∨ ∃ T : Addr, q = rawInt T) ∧ IsZq h z TI TO q f
section
variable {prog : Program} {w : World} {A : Around} {E : Value → Shared → Prop} {s : Shared}
theorem alive_any {a : Addr} {Q : Option Obj → Shared → Prop} (h : Q (s.heap.get? a) s) : wpAny (model prog w) A (loadIfAlive a) Q E s := fun _ _ _ => h
theorem owned_any {z TI TO : Addr} {q : Value} {f : Bool} {Q : Bool → Shared → Prop} (hq : q = .none ∨ ∃ T : Addr, q = rawInt T) (hz : IsZq s.heap z TI TO q f) (h1 : Q true s)
    (h2 : ∀ h', IsZ h' z TI TO → Heap.SameBut z s.heap h' → Q false { s with heap := h' }) : wpAny (model prog w) A (Builtin.SmallTypes.ownedTupleIsFree (.ref z)) Q E s := by
  unfold Builtin.SmallTypes.ownedTupleIsFree
  rcases hq with rfl | ⟨T, rfl⟩
  · exact wpAny_bind (wpAny_field hz rfl (x := .none) rfl (wpAny_pure h1))
  · refine wpAny_bind (wpAny_field hz rfl (x := rawInt T) rfl ?_)
    show wpAny _ _ (loadIfAlive ((T : Int).toNat) >>= _) _ _ _
    rw [Int.toNat_natCast]
    refine wpAny_bind (alive_any ?_)
    cases hT : s.heap.get? T with
    | none =>
      simp only [Option.isNone_none, if_true]
      exact wpAny_pure h1
    | some oT =>
      simp only [Option.isNone_some, Bool.false_eq_true, if_false]
      refine wpAny_bind (wpAny_field hz rfl (x := .bool f) rfl ?_)
      cases f with
      | true =>
        rw [if_neg (show ¬ ((Value.bool true != Value.bool true) = true) from Bool.false_ne_true)]
        exact wpAny_pure (h2 s.heap ⟨_, _, .inr ⟨T, rfl⟩, hz⟩ (Heap.SameBut.refl _ _))
      | false =>
        rw [if_pos (show (Value.bool false != Value.bool true) = true from rfl)]
        exact wpAny_bind (wpAny_setField_rec hz (by simp) fun h₁ hz₁ hs₁ => wpAny_pure (h2 h₁ ⟨_, _, .inr ⟨T, rfl⟩, hz₁⟩ hs₁))
theorem zipN_next_item {z TI TO i1 i2 l1 l2 : Addr} {k1 k2 : Nat} {xs ys : Array Value} {x y a b : Value} {Q : Value → Shared → Prop} (D : ZipApart z TI TO i1 i2 l1 l2)
    (hZ : IsZ s.heap z TI TO) (hTI : IsPair s.heap TI (.ref i1) (.ref i2)) (hTO : IsPair s.heap TO a b)
    (h1 : s.heap.IsListIter i1 l1 k1) (h2 : s.heap.IsListIter i2 l2 k2) (hl1 : s.heap.IsList l1 xs) (hl2 : s.heap.IsList l2 ys) (hx : xs[k1]? = some x) (hy : ys[k2]? = some y)
    (hQ : ∀ h', IsZ h' z TI TO → (∃ a b, IsPair h' TO a b) → h'.IsListIter i1 l1 (k1 + 1) → h'.IsListIter i2 l2 (k2 + 1) → IsPair h' s.heap.objs.size x y → h'.objs.size = s.heap.objs.size + 1 →
      (∀ c o, c ≠ z → c ≠ TO → c ≠ i1 → c ≠ i2 → s.heap.get? c = some o → h'.get? c = some o) → Q (.ref s.heap.objs.size) { s with heap := h' }) :
    wpAny (model prog w) A (Builtin.«zip.__next__» ⟨[.ref z], []⟩) (fun fin s' => ∃ v, fin = .done (.ret v) ∧ Q v s') E s := by
  obtain ⟨q, f, hq, hz⟩ := hZ
  show wpAny _ _ (field (.ref z) 2 >>= _) _ _ _
  refine wpAny_bind (wpAny_field hz rfl (x := .bool false) rfl ?_)
  show wpAny _ _ (field (.ref z) 3 >>= _) _ _ _
  refine wpAny_bind (wpAny_field hz rfl (x := .ref TI) rfl ?_)
  refine wpAny_bind (wpAny_seqItems hTI rfl ?_)
  show wpAny _ _ (Builtin.SmallTypes.ownedTupleIsFree (.ref z) >>= _) _ _ _
  refine wpAny_bind (owned_any hq hz ?_ fun h₁ hz₁ hs₁ => ?_)
  · simp only [if_true]
    refine wpAny_bind (wpAny_rule ?_)
    refine wpAny_bind (wpAny_field hz rfl (x := .ref TO) rfl ?_)
    refine wpAny_bind (wpAny_setField_rec hz (by simp) fun h₁ hz₁ hs₁ => ?_)
    replace hz₁ : IsZq h₁ z TI TO .ellipsis f := hz₁
    refine wpAny_bind ?_
    simp only [List.zipIdx_cons, List.zipIdx_nil, List.forIn_cons, List.forIn_nil]
    refine wpAny_bind (wpAny_bind (wpAny_onRaise ?_))
    show wpAny _ _ (Builtin.SmallTypes.nextOf (.ref i1) >>= _) _ _ _
    refine wpAny_bind (wpAny_nextOf_list_item (h1.extBut hs₁.extBut D.i1z) (hl1.extBut hs₁.extBut D.l1z) hx fun h₂ h1₂ hs₂ => wpAny_pure ?_)
    have hTO₂ : IsPair h₂ TO a b := hs₂.extBut _ _ D.TOi1 (hs₁.extBut _ _ D.TOz hTO)
    refine wpAny_bind (wpAny_seqItems hTO₂ rfl ?_)
    refine wpAny_bind (wpAny_updateSeq_pair hTO₂ fun h₃ hTO₃ hs₃ => ?_)
    replace hTO₃ : IsPair h₃ TO x b := hTO₃
    refine wpAny_bind (wpAny_letGo (wpAny_pure ?_))
    refine wpAny_bind (wpAny_bind (wpAny_onRaise ?_))
    show wpAny _ _ (Builtin.SmallTypes.nextOf (.ref i2) >>= _) _ _ _
    refine wpAny_bind (wpAny_nextOf_list_item (((h2.extBut hs₁.extBut D.i2z).extBut hs₂.extBut D.i12.symm).extBut hs₃.extBut D.TOi2.symm)
      (((hl2.extBut hs₁.extBut D.l2z).extBut hs₂.extBut D.l2i1).extBut hs₃.extBut D.l2TO) hy fun h₄ h2₄ hs₄ => wpAny_pure ?_)
    have hTO₄ : IsPair h₄ TO x b := hs₄.extBut _ _ D.TOi2 hTO₃
    refine wpAny_bind (wpAny_seqItems hTO₄ rfl ?_)
    refine wpAny_bind (wpAny_updateSeq_pair hTO₄ fun h₅ hTO₅ hs₅ => ?_)
    replace hTO₅ : IsPair h₅ TO x y := hTO₅
    refine wpAny_bind (wpAny_letGo (wpAny_pure (wpAny_pure ?_)))
    refine wpAny_bind (wpAny_seqItems hTO₅ rfl ?_)
    refine wpAny_bind (wpAny_newTuple ?_)
    have hsz : h₅.objs.size = s.heap.objs.size := by rw [hs₅.1, hs₄.1, hs₃.1, hs₂.1, hs₁.1]
    have hz₅ : IsZq h₅ z TI TO .ellipsis f := hs₅.extBut _ _ D.TOz.symm (hs₄.extBut _ _ D.i2z.symm (hs₃.extBut _ _ D.TOz.symm (hs₂.extBut _ _ D.i1z.symm hz₁)))
    have hk₅ : ∀ c o, c ≠ z → c ≠ TO → c ≠ i1 → c ≠ i2 → s.heap.get? c = some o → h₅.get? c = some o := fun c o c1 c2 c3 c4 e =>
      hs₅.extBut _ _ c2 (hs₄.extBut _ _ c4 (hs₃.extBut _ _ c2 (hs₂.extBut _ _ c3 (hs₁.extBut _ _ c1 e))))
    have h1₅ : h₅.IsListIter i1 l1 (k1 + 1) := ((h1₂.extBut hs₃.extBut D.TOi1.symm).extBut hs₄.extBut D.i12).extBut hs₅.extBut D.TOi1.symm
    have h2₅ : h₅.IsListIter i2 l2 (k2 + 1) := h2₄.extBut hs₅.extBut D.TOi2.symm
    have hzlt : z < h₅.objs.size := Heap.lt_size hz₅
    show wpAny _ _ (Builtin.SmallTypes.ownedTupleHandOut (.ref z) (.ref h₅.objs.size) >>= _) _ _ _
    refine wpAny_bind ?_
    unfold Builtin.SmallTypes.ownedTupleHandOut
    have hz₆ : IsZq (h₅.push { cls := .type "tuple", data := .seq #[x, y] }) z TI TO .ellipsis f := Heap.get?_push_of_some _ hz₅
    refine wpAny_bind (wpAny_setField_rec hz₆ (by simp) fun h₇ hz₇ hs₇ => ?_)
    replace hz₇ : IsZq h₇ z TI TO (rawInt h₅.objs.size) f := hz₇
    refine wpAny_setField_rec hz₇ (by simp) fun h₈ hz₈ hs₈ => ?_
    replace hz₈ : IsZq h₈ z TI TO (rawInt h₅.objs.size) false := hz₈
    have up : ∀ c o, c ≠ z → h₅.get? c = some o → h₈.get? c = some o := fun c o c1 e => hs₈.extBut _ _ c1 (hs₇.extBut _ _ c1 (Heap.get?_push_of_some _ e))
    have hT₈ : IsPair h₈ h₅.objs.size x y := hs₈.extBut _ _ (Nat.ne_of_gt hzlt) (hs₇.extBut _ _ (Nat.ne_of_gt hzlt) (Heap.get?_push_size _ rfl))
    have hz8 : h₈.objs.size = h₅.objs.size + 1 := by rw [hs₈.1, hs₇.1, Heap.size_push]
    rw [hsz] at hz₈ hT₈ hz8
    refine wpAny_pure ⟨_, rfl, ?_⟩
    show Q (.ref h₅.objs.size) _
    rw [hsz]
    exact hQ h₈ ⟨_, _, .inr ⟨_, rfl⟩, hz₈⟩ ⟨_, _, up _ _ D.TOz hTO₅⟩ (h1₅.at fun o e => up _ o D.i1z e) (h2₅.at fun o e => up _ o D.i2z e) hT₈ hz8 fun c o c1 c2 c3 c4 e => up c o c1 (hk₅ c o c1 c2 c3 c4 e)
  · simp only [Bool.false_eq_true, if_false]
    refine wpAny_bind ?_
    rw [← Array.forIn_toList]
    simp only [List.forIn_cons, List.forIn_nil]
    refine wpAny_bind (wpAny_bind (wpAny_holding ?_))
    show wpAny _ _ (Builtin.SmallTypes.nextOf (.ref i1) >>= _) _ _ _
    refine wpAny_bind (wpAny_nextOf_list_item (s := { s with heap := h₁ }) (h1.extBut hs₁.extBut D.i1z) (hl1.extBut hs₁.extBut D.l1z) hx fun h₂ h1₂ hs₂ => wpAny_pure ?_)
    refine wpAny_pure ?_
    refine wpAny_bind (wpAny_bind (wpAny_holding ?_))
    show wpAny _ _ (Builtin.SmallTypes.nextOf (.ref i2) >>= _) _ _ _
    refine wpAny_bind (wpAny_nextOf_list_item (s := { s with heap := h₂ }) ((h2.extBut hs₁.extBut D.i2z).extBut hs₂.extBut D.i12.symm) ((hl2.extBut hs₁.extBut D.l2z).extBut hs₂.extBut D.l2i1) hy fun h₃ h2₃ hs₃ => wpAny_pure ?_)
    refine wpAny_pure (wpAny_pure ?_)
    show wpAny _ _ (newTuple [x, y] >>= _) _ _ _
    refine wpAny_bind (wpAny_newTuple ?_)
    have hsz : h₃.objs.size = s.heap.objs.size := by rw [hs₃.1, hs₂.1, hs₁.1]
    obtain ⟨q1, f1, hq1, hz₁⟩ := hz₁
    have hz₃ : IsZq h₃ z TI TO q1 f1 := hs₃.extBut _ _ D.i2z.symm (hs₂.extBut _ _ D.i1z.symm hz₁)
    have hTO₃ : IsPair h₃ TO a b := hs₃.extBut _ _ D.TOi2 (hs₂.extBut _ _ D.TOi1 (hs₁.extBut _ _ D.TOz hTO))
    have hk : ∀ c o, c ≠ z → c ≠ i1 → c ≠ i2 → s.heap.get? c = some o → h₃.get? c = some o := fun c o c1 c2 c3 e => hs₃.extBut _ _ c3 (hs₂.extBut _ _ c2 (hs₁.extBut _ _ c1 e))
    have h1₃ : h₃.IsListIter i1 l1 (k1 + 1) := h1₂.extBut hs₃.extBut D.i12
    refine wpAny_pure ⟨_, rfl, ?_⟩
    show Q (.ref h₃.objs.size) _
    have hp : IsPair (h₃.push { cls := .type "tuple", data := .seq #[x, y] }) h₃.objs.size x y := Heap.get?_push_size _ rfl
    have hz4 : (h₃.push { cls := .type "tuple", data := .seq #[x, y] }).objs.size = h₃.objs.size + 1 := Heap.size_push ..
    rw [hsz] at hp hz4 ⊢
    exact hQ _ ⟨q1, f1, hq1, Heap.get?_push_of_some _ hz₃⟩ ⟨_, _, Heap.get?_push_of_some _ hTO₃⟩ (h1₃.at fun o e => Heap.get?_push_of_some _ e) (h2₃.at fun o e => Heap.get?_push_of_some _ e) hp hz4 fun c o c1 _ c2 c3 e => Heap.get?_push_of_some _ (hk c o c1 c2 c3 e)
theorem zipN_next_end {z TI TO i1 i2 l1 l2 : Addr} {k1 k2 : Nat} {xs ys : Array Value} {a b : Value} {Q : Fin → Shared → Prop} (hh : A.handled = none) (D : ZipApart z TI TO i1 i2 l1 l2)
    (hZ : IsZ s.heap z TI TO) (hTI : IsPair s.heap TI (.ref i1) (.ref i2)) (hTO : IsPair s.heap TO a b)
    (h1 : s.heap.IsListIter i1 l1 k1) (h2 : s.heap.IsListIter i2 l2 k2) (hl1 : s.heap.IsList l1 xs) (hl2 : s.heap.IsList l2 ys) (hend : xs[k1]? = none ∨ ys[k2]? = none)
    (hE : ∀ h' e, (∀ c o, c ≠ z → c ≠ TO → c ≠ i1 → c ≠ i2 → s.heap.get? c = some o → h'.get? c = some o) → (∃ o, h'.get? e = some o ∧ o.cls = .type "StopIteration") → E (.ref e) { s with heap := h' }) :
    wpAny (model prog w) A (Builtin.«zip.__next__» ⟨[.ref z], []⟩) Q E s := by
  obtain ⟨q, f, hq, hz⟩ := hZ
  show wpAny _ _ (field (.ref z) 2 >>= _) _ _ _
  refine wpAny_bind (wpAny_field hz rfl (x := .bool false) rfl ?_)
  show wpAny _ _ (field (.ref z) 3 >>= _) _ _ _
  refine wpAny_bind (wpAny_field hz rfl (x := .ref TI) rfl ?_)
  refine wpAny_bind (wpAny_seqItems hTI rfl ?_)
  show wpAny _ _ (Builtin.SmallTypes.ownedTupleIsFree (.ref z) >>= _) _ _ _
  refine wpAny_bind (owned_any hq hz ?_ fun h₁ hz₁ hs₁ => ?_)
  · simp only [if_true]
    refine wpAny_bind (wpAny_rule ?_)
    refine wpAny_bind (wpAny_field hz rfl (x := .ref TO) rfl ?_)
    refine wpAny_bind (wpAny_setField_rec hz (by simp) fun h₁ hz₁ hs₁ => ?_)
    replace hz₁ : IsZq h₁ z TI TO .ellipsis f := hz₁
    refine wpAny_bind ?_
    simp only [List.zipIdx_cons, List.zipIdx_nil, List.forIn_cons, List.forIn_nil]
    refine wpAny_bind (wpAny_bind (wpAny_onRaise ?_))
    show wpAny _ _ (Builtin.SmallTypes.nextOf (.ref i1) >>= _) _ _ _
    cases hx : xs[k1]? with
    | none =>
      refine wpAny_bind (wpAny_nextOf_list_end hh (h1.extBut hs₁.extBut D.i1z) (hl1.extBut hs₁.extBut D.l1z) hx fun h₂ e hs₂ he => ?_)
      obtain ⟨oe, hoe, hce⟩ := he
      have hz₂ : IsZq h₂ z TI TO .ellipsis f := hs₂ _ _ D.i1z.symm hz₁
      have hez : e ≠ z := fun x => by subst x; rw [hz₂] at hoe; cases hoe; simp at hce
      refine wpAny_setField_rec hz₂ (by simp) fun h₃ _ hs₃ => hE h₃ e (fun c o c1 _ c3 _ x => hs₃.extBut _ _ c1 (hs₂ _ _ c3 (hs₁.extBut _ _ c1 x))) ⟨oe, hs₃.extBut _ _ hez hoe, hce⟩
    | some x =>
      have hy : ys[k2]? = none := by rcases hend with h | h; rw [hx] at h; cases h; exact h
      refine wpAny_bind (wpAny_nextOf_list_item (h1.extBut hs₁.extBut D.i1z) (hl1.extBut hs₁.extBut D.l1z) hx fun h₂ h1₂ hs₂ => wpAny_pure ?_)
      have hTO₂ : IsPair h₂ TO a b := hs₂.extBut _ _ D.TOi1 (hs₁.extBut _ _ D.TOz hTO)
      refine wpAny_bind (wpAny_seqItems hTO₂ rfl ?_)
      refine wpAny_bind (wpAny_updateSeq_pair hTO₂ fun h₃ hTO₃ hs₃ => ?_)
      refine wpAny_bind (wpAny_letGo (wpAny_pure ?_))
      refine wpAny_bind (wpAny_bind (wpAny_onRaise ?_))
      show wpAny _ _ (Builtin.SmallTypes.nextOf (.ref i2) >>= _) _ _ _
      refine wpAny_bind (wpAny_nextOf_list_end hh (((h2.extBut hs₁.extBut D.i2z).extBut hs₂.extBut D.i12.symm).extBut hs₃.extBut D.TOi2.symm)
        (((hl2.extBut hs₁.extBut D.l2z).extBut hs₂.extBut D.l2i1).extBut hs₃.extBut D.l2TO) hy fun h₄ e hs₄ he => ?_)
      obtain ⟨oe, hoe, hce⟩ := he
      have hz₄ : IsZq h₄ z TI TO .ellipsis f := hs₄ _ _ D.i2z.symm (hs₃.extBut _ _ D.TOz.symm (hs₂.extBut _ _ D.i1z.symm hz₁))
      have hez : e ≠ z := fun x => by subst x; rw [hz₄] at hoe; cases hoe; simp at hce
      refine wpAny_setField_rec hz₄ (by simp) fun h₅ _ hs₅ => hE h₅ e (fun c o c1 c2 c3 c4 x => hs₅.extBut _ _ c1 (hs₄ _ _ c4 (hs₃.extBut _ _ c2 (hs₂.extBut _ _ c3 (hs₁.extBut _ _ c1 x))))) ⟨oe, hs₅.extBut _ _ hez hoe, hce⟩
  · simp only [Bool.false_eq_true, if_false]
    refine wpAny_bind ?_
    rw [← Array.forIn_toList]
    simp only [List.forIn_cons, List.forIn_nil]
    refine wpAny_bind (wpAny_bind (wpAny_holding ?_))
    show wpAny _ _ (Builtin.SmallTypes.nextOf (.ref i1) >>= _) _ _ _
    cases hx : xs[k1]? with
    | none =>
      refine wpAny_bind (wpAny_nextOf_list_end (s := { s with heap := h₁ }) hh (h1.extBut hs₁.extBut D.i1z) (hl1.extBut hs₁.extBut D.l1z) hx fun h₂ e hs₂ he => ?_)
      exact hE h₂ e (fun c o c1 _ c2 _ x => hs₂ _ _ c2 (hs₁.extBut _ _ c1 x)) he
    | some x =>
      have hy : ys[k2]? = none := by rcases hend with h | h; rw [hx] at h; cases h; exact h
      refine wpAny_bind (wpAny_nextOf_list_item (s := { s with heap := h₁ }) (h1.extBut hs₁.extBut D.i1z) (hl1.extBut hs₁.extBut D.l1z) hx fun h₂ h1₂ hs₂ => wpAny_pure ?_)
      refine wpAny_pure ?_
      refine wpAny_bind (wpAny_bind (wpAny_holding ?_))
      show wpAny _ _ (Builtin.SmallTypes.nextOf (.ref i2) >>= _) _ _ _
      refine wpAny_bind (wpAny_nextOf_list_end (s := { s with heap := h₂ }) hh ((h2.extBut hs₁.extBut D.i2z).extBut hs₂.extBut D.i12.symm) ((hl2.extBut hs₁.extBut D.l2z).extBut hs₂.extBut D.l2i1) hy fun h₃ e hs₃ he => ?_)
      exact hE h₃ e (fun c o c1 _ c2 c3 x => hs₃ _ _ c3 (hs₂.extBut _ _ c2 (hs₁.extBut _ _ c1 x))) he
theorem next_zipN_item {z TI TO i1 i2 l1 l2 : Addr} {k1 k2 : Nat} {xs ys : Array Value} {x y a b : Value} {Q : Option Value → Shared → Prop} (D : ZipApart z TI TO i1 i2 l1 l2)
    (hZ : IsZ s.heap z TI TO) (hTI : IsPair s.heap TI (.ref i1) (.ref i2)) (hTO : IsPair s.heap TO a b)
    (h1 : s.heap.IsListIter i1 l1 k1) (h2 : s.heap.IsListIter i2 l2 k2) (hl1 : s.heap.IsList l1 xs) (hl2 : s.heap.IsList l2 ys) (hx : xs[k1]? = some x) (hy : ys[k2]? = some y)
    (hQ : ∀ h', IsZ h' z TI TO → (∃ a b, IsPair h' TO a b) → h'.IsListIter i1 l1 (k1 + 1) → h'.IsListIter i2 l2 (k2 + 1) → IsPair h' s.heap.objs.size x y → h'.objs.size = s.heap.objs.size + 1 →
      (∀ c o, c ≠ z → c ≠ TO → c ≠ i1 → c ≠ i2 → s.heap.get? c = some o → h'.get? c = some o) → Q (some (.ref s.heap.objs.size)) { s with heap := h' }) :
    wpAny (model prog w) A (pyNext (.ref z)) Q E s := by
  have hT : s.TypeIs (.ref z) "zip" := let ⟨_, _, _, h⟩ := hZ; ⟨_, h, rfl⟩
  unfold pyNext
  exact wpAny_bind (wpAny_attempt (wpAny_callSpecial?_slot (name := Str.ofString "__next__") hT F.slot_zip_next
    (wpAny_call_entry F.slot_zip_next hT F.entry_zip_next
      (zipN_next_item D hZ hTI hTO h1 h2 hl1 hl2 hx hy fun h' a1 a2 a3 a4 a5 a6 a7 => wpAny_pure (hQ h' a1 a2 a3 a4 a5 a6 a7)) (F.args_zip_next_1 _))))
theorem next_zipN_end {z TI TO i1 i2 l1 l2 : Addr} {k1 k2 : Nat} {xs ys : Array Value} {a b : Value} {Q : Option Value → Shared → Prop} (hh : A.handled = none) (D : ZipApart z TI TO i1 i2 l1 l2)
    (hZ : IsZ s.heap z TI TO) (hTI : IsPair s.heap TI (.ref i1) (.ref i2)) (hTO : IsPair s.heap TO a b)
    (h1 : s.heap.IsListIter i1 l1 k1) (h2 : s.heap.IsListIter i2 l2 k2) (hl1 : s.heap.IsList l1 xs) (hl2 : s.heap.IsList l2 ys) (hend : xs[k1]? = none ∨ ys[k2]? = none)
    (hQ : ∀ h', (∀ c o, c ≠ z → c ≠ TO → c ≠ i1 → c ≠ i2 → s.heap.get? c = some o → h'.get? c = some o) → Q none { s with heap := h' }) : wpAny (model prog w) A (pyNext (.ref z)) Q E s := by
  have hT : s.TypeIs (.ref z) "zip" := let ⟨_, _, _, h⟩ := hZ; ⟨_, h, rfl⟩
  unfold pyNext
  refine wpAny_bind (wpAny_attempt (wpAny_callSpecial?_slot (name := Str.ofString "__next__") hT F.slot_zip_next
    (wpAny_call_entry F.slot_zip_next hT F.entry_zip_next (zipN_next_end hh D hZ hTI hTO h1 h2 hl1 hl2 hend fun h' e hk he => ?_) (F.args_zip_next_1 _))))
  obtain ⟨o, ho, hc⟩ := he
  refine wpAny_bind (wpAny_isInstance (T := "StopIteration") (b := true) ⟨o, ho, hc⟩ isSubtype_stop ?_)
  exact wpAny_pure (hQ _ hk)
theorem iter_zipN {z TI TO : Addr} {Q : Value → Shared → Prop} (hZ : IsZ s.heap z TI TO) (h : Q (.ref z) s) : wpAny (model prog w) A (pyIter (.ref z)) Q E s := by
  have hT : s.TypeIs (.ref z) "zip" := let ⟨_, _, _, h⟩ := hZ; ⟨_, h, rfl⟩
  refine wpAny_pyIter_slot hT F.slot_zip_iter (wpAny_call_entry F.slot_zip_iter hT F.entry_zip_iter ?_ (F.args_zip_iter_1 _))
  show wpAny _ _ (ret (.ref z)) _ _ s
  exact wpAny_pure ⟨_, rfl, "zip", _, hT, F.slot_zip_next.lookup, h⟩
end
theorem turn_zipN {P : Program} {w : World} {K : PySem.W.Frag} {nm : Str} {tpos : Pos} {a b z TI TO i1 i2 : Addr} (D : ZipApart z TI TO i1 i2 a b) :
    Turn P w K (.Name nm tpos) (Itz K a b) [z, TI, TO, i1, i2] z (fun i h => IsZ h z TI TO ∧ IsPair h TI (.ref i1) (.ref i2) ∧ (∃ x y, IsPair h TO x y) ∧ h.IsListIter i1 a i ∧ h.IsListIter i2 b i) where
  mem := by simp
  obj := fun i h st c hc => by
    obtain ⟨⟨q, f, _, hz⟩, hTI, ⟨x, y, hTO⟩, ⟨o1, e1, _, d1⟩, ⟨o2, e2, _, d2⟩⟩ := st
    have e' : c = z ∨ c = TI ∨ c = TO ∨ c = i1 ∨ c = i2 := by simpa using hc
    rcases e' with q | q | q | q | q
    · rw [q]; exact ⟨_, hz, fun v q => nomatch q⟩
    · rw [q]; exact ⟨_, hTI, fun v q => nomatch q⟩
    · rw [q]; exact ⟨_, hTO, fun v q => nomatch q⟩
    · rw [q]; exact ⟨o1, e1, fun v q => by rw [d1] at q; cases q⟩
    · rw [q]; exact ⟨o2, e2, fun v q => by rw [d2] at q; cases q⟩
  keep := fun i h h' st k => by
    obtain ⟨⟨q, f, hq, hz⟩, hTI, ⟨x, y, hTO⟩, h1, h2⟩ := st
    exact ⟨⟨q, f, hq, k z (by simp) _ hz⟩, k TI (by simp) _ hTI, ⟨x, y, k TO (by simp) _ hTO⟩, h1.at fun o q => k i1 (by simp) o q, h2.at fun o q => k i2 (by simp) o q⟩
  item := by
    intro X hP hw hK hc i pins s σ H E I hf st hg
    subst hP hw hK
    obtain ⟨hz, hTI, ⟨x0, y0, hTO⟩, h1, h2⟩ := st
    obtain ⟨xs, ys, x, y, hqx, hqy, hx, hy⟩ := hg
    obtain ⟨its, rv, p, _⟩ := I.list hqx
    obtain ⟨its2, rv2, p2, _⟩ := I.list hqy
    obtain ⟨u, hu, ru⟩ := rv.get hx
    obtain ⟨u2, hu2, ru2⟩ := rv2.get hy
    have hzl : z < s.heap.objs.size := let ⟨_, _, _, h⟩ := hz; Heap.lt_size h
    refine next_zipN_item D hz hTI hTO h1 h2 p.isList p2.isList (x := u) (y := u2) (by simpa using hu) (by simpa using hu2) fun h' z' TO' h1' h2' hT hsz hk => ?_
    refine ⟨_, rfl, wpAny_pure ?_⟩
    have new : ObjOk X.prog X.w (upd H s.heap.objs.size (.tup [x, y])) h' s.heap.objs.size (.tup [x, y]) :=
      ⟨by show 2 ≤ sizeLine; decide, [u, u2], .cons ru (.cons ru2 .nil), ⟨_, hT, rfl, _, rfl⟩⟩
    have I1 : Inv X pins σ (upd H s.heap.objs.size (.tup [x, y])) { s with heap := h' } :=
      I.turnedNew (t' := s.toks) (ch := [z, TI, TO, i1, i2]) (fun c o hb q => hk c o (fun q' => hb (by simp [q'])) (fun q' => hb (by simp [q'])) (fun q' => hb (by simp [q'])) (fun q' => hb (by simp [q'])) q) hf (Nat.le_refl _) new
    refine ⟨.ref s.heap.objs.size, _, I1, rfl, ⟨_, x, y, rfl, I.hok.fresh (Nat.le_refl _), rfl, fun l hl => by rw [I.list_inj hl hqx]; exact hx, fun l hl => by rw [I.list_inj hl hqy]; exact hy⟩, ⟨z', ?_, TO', h1', h2'⟩, fun c hcm => ?_⟩
    · exact hk _ _ D.TIz D.TITO D.TIi1 D.TIi2 hTI
    · have hlt : c < s.heap.objs.size := by
        have e' : c = z ∨ c = TI ∨ c = TO ∨ c = i1 ∨ c = i2 := by simpa using hcm
        rcases e' with q | q | q | q | q
        · rw [q]; exact hzl
        · rw [q]; exact Heap.lt_size hTI
        · rw [q]; exact Heap.lt_size hTO
        · rw [q]; obtain ⟨_, e1, _⟩ := h1; exact Heap.lt_size e1
        · rw [q]; obtain ⟨_, e2, _⟩ := h2; exact Heap.lt_size e2
      rw [upd_ne (Nat.ne_of_lt hlt)]
      exact (hf c hcm).1
  done := by
    intro X hP hw hK hc i pins s σ H E I hf st hg
    subst hP hw hK
    obtain ⟨hz, hTI, ⟨x0, y0, hTO⟩, h1, h2⟩ := st
    obtain ⟨xs, ys, hqx, hqy, hend⟩ := hg
    obtain ⟨its, rv, p, _⟩ := I.list hqx
    obtain ⟨its2, rv2, p2, _⟩ := I.list hqy
    have l1 := rv.length
    have l2 := rv2.length
    have he : its.toArray[i]? = none ∨ its2.toArray[i]? = none := by
      rcases hend with q | q
      · exact .inl (by simp; omega)
      · exact .inr (by simp; omega)
    exact next_zipN_end (I.ok.hd hc) D hz hTI hTO h1 h2 p.isList p2.isList he fun h' hk => ⟨rfl, I.turnedL (t' := s.toks) (ch := [z, TI, TO, i1, i2]) (fun c o hb q =>
      hk c o (fun q' => hb (by simp [q'])) (fun q' => hb (by simp [q'])) (fun q' => hb (by simp [q'])) (fun q' => hb (by simp [q'])) q) hf⟩
  self := fun A i s Q E st h => iter_zipN st.1 h
def iZipN (K : PySem.W.Frag) (ta : TA) : TI := fun σ H R => ta σ H fun vs H1 => ∃ a b xs ys, vs = [.ref a, .ref b] ∧ SqL K H1 a xs ∧ SqL K H1 b ys ∧ R (Itz K a b) H1
theorem pi_zipN {X : Cx} {e e2 : Expr} {ta : TA} {p pos tpos : Pos} {nm : Str} (hg : Gl X "zip") (hm : X.mg "zip" = none) (ha : PA X [e, e2] ta)
    (hs : starEach [e, e2] X.env = (false, eval e X.env) :: starEach [e2] X.env := by rfl) (hpl : (backTo pos (starEach [e2] X.env)).any (·.1) = false := by rfl) :
    PI X (.Name nm tpos) (.Call (.Name "zip" p) [e, e2] [] pos) (iZipN X.K ta) := by
  refine ⟨fun pins s σ H R I h => ?_⟩
  refine Call_ (ld_blt I hg hm PyProof.Rows.boot_zip (PyProof.Rows.callWith_type1 (thn (ha.run pos pins s σ H _ I h) fun us s1 ⟨vs, H1, I1, r1, q1⟩ => ?_) hs hpl))
  obtain ⟨a, b, xs, ys, ex, hqx, hqy, q⟩ := q1
  subst ex
  cases r1 with
  | cons r rr =>
    cases rr with
    | cons r' rr =>
      cases rr
      cases r
      cases r'
      have fresh5 : ∀ c, c ∈ [s1.heap.objs.size + 4, s1.heap.objs.size + 2, s1.heap.objs.size + 3, s1.heap.objs.size, s1.heap.objs.size + 1] → FpOk X pins H1 c := fun c hcm => by
        have e' : c = s1.heap.objs.size + 4 ∨ c = s1.heap.objs.size + 2 ∨ c = s1.heap.objs.size + 3 ∨ c = s1.heap.objs.size ∨ c = s1.heap.objs.size + 1 := by simpa using hcm
        have hle : s1.heap.objs.size ≤ c := by
          rcases e' with z | z | z | z | z
          · rw [z]; exact Nat.le_add_right _ _
          · rw [z]; exact Nat.le_add_right _ _
          · rw [z]; exact Nat.le_add_right _ _
          · rw [z]; exact Nat.le_refl _
          · rw [z]; exact Nat.le_add_right _ _
        exact I1.fpOk hle (I1.hok.fresh hle)
      obtain ⟨its, rv, p1, _⟩ := I1.list hqx
      obtain ⟨its2, rv2, p2, _⟩ := I1.list hqy
      refine call_zip_2 p1.isList p2.isList fun h' hz hTI hTO h1 h2 hsz hk => wpAny_pyIter_zip hz ?_
      have I2 : Inv X pins σ H1 { s1 with heap := h' } := I1.kept (t' := s1.toks) hk
      exact ⟨s1.heap.objs.size + 4, [s1.heap.objs.size + 4, s1.heap.objs.size + 2, s1.heap.objs.size + 3, s1.heap.objs.size, s1.heap.objs.size + 1], _, _, H1, rfl, I2, turn_zipN (PySem.W.ktu_apart s1.heap.objs.size a b p1.lt p2.lt), ⟨⟨_, _, .inl rfl, hz⟩, hTI, ⟨_, _, hTO⟩, h1, h2⟩, fresh5, q⟩
section
variable {K : PySem.W.Frag} {ρ : List Sl} {ds es : List D}
theorem src_zipN {ta : TA} (h : EA ta ρ [.lst ds, .lst es]) : Src (iZipN K ta) ρ (zipD ds es) := fun σ N H S e R k => h σ N H S e _ fun vs N1 H1 f r => by
  obtain ⟨v, w, rfl, h1, h2⟩ := r.two
  obtain ⟨a, xs, rfl, g1, r1⟩ := h1.inv_lst
  obtain ⟨b, ys, rfl, g2, r2⟩ := h2.inv_lst
  exact ⟨a, b, xs, ys, rfl, SqL.of (f.sub _ _ g1), SqL.of (f.sub _ _ g2), k _ N1 H1 f (srv_zipL g1 r1 g2 r2)⟩
end

theorem lt_ints (i j : Int) : PySem.W.dataLt (.int i) (.int j) = decide (i < j) := by
  unfold PySem.W.dataLt
  simp [PySem.W.keyToks, PyProof.Rows.lexLt]
  rfl
theorem maxD_pair (i j : Int) : PySem.W.maxD (.int i) [.int j] = .int (max i j) := by
  show (if PySem.W.dataLt (.int i) (.int j) = true then _ else _) = _
  rw [lt_ints]
  by_cases h : i < j
  · rw [if_pos (by simpa using h)]; congr 1; omega
  · rw [if_neg (by simpa using h)]; congr 1; omega
theorem minD_pair (i j : Int) : PySem.W.minD (.int i) [.int j] = .int (min i j) := by
  show (if PySem.W.dataLt (.int j) (.int i) = true then _ else _) = _
  rw [lt_ints]
  by_cases h : j < i
  · rw [if_pos (by simpa using h)]; congr 1; omega
  · rw [if_neg (by simpa using h)]; congr 1; omega
theorem alike_pair (i j : Int) : PySem.W.AlikeAll [.int i, .int j] := ⟨fun x hx y hy => by
  simp at hx hy
  rcases hx with rfl | rfl <;> rcases hy with rfl | rfl <;> rfl, fun x hx => by
  simp at hx
  rcases hx with rfl | rfl <;> exact fun z => nomatch z⟩
def rMaxP (K : PySem.W.Frag) : List V → Hp → VK → Prop := fun xs H Q => ∃ a i j, xs = [.ref a] ∧ SqT K H a [.int i, .int j] ∧ Q (.int (max i j)) H
def rMinP (K : PySem.W.Frag) : List V → Hp → VK → Prop := fun xs H Q => ∃ a i j, xs = [.ref a] ∧ SqT K H a [.int i, .int j] ∧ Q (.int (min i j)) H
section
variable {X : Cx}
theorem call_maxP (K : PySem.W.Frag) (hc : X.calm = true) (hu : X.A.units + 64 < cLine) (hK : X.K = K := by rfl) : CallR X (.builtin "max") (rMaxP K) := by
  subst hK
  intro pins s σ H vs us Q I r h
  obtain ⟨a, i, j, rfl, hs, q⟩ := h
  obtain ⟨its, rv, hl, _⟩ := I.tuple hs
  rw [Vals.ref1 r]
  cases rv with
  | cons r1 rr =>
  cases rr with
  | cons r2 rr =>
  cases rr
  obtain ⟨k1, rfl⟩ := r1
  obtain ⟨k2, rfl⟩ := r2
  refine PySem.W.max_tuple_data (I.ok.hd hc) hl (.cons (.int _ _) (.cons (.int _ _) .nil)) (alike_pair i j) (by show X.A.units + 1 + 0 < cLine; omega) fun m v h' tk bs hv rd hk => ?_
  rw [maxD_pair] at rd
  cases rd
  exact ⟨.int _, H, I.kept hk, ⟨_, rfl⟩, q⟩
theorem call_minP (K : PySem.W.Frag) (hc : X.calm = true) (hu : X.A.units + 64 < cLine) (hK : X.K = K := by rfl) : CallR X (.builtin "min") (rMinP K) := by
  subst hK
  intro pins s σ H vs us Q I r h
  obtain ⟨a, i, j, rfl, hs, q⟩ := h
  obtain ⟨its, rv, hl, _⟩ := I.tuple hs
  rw [Vals.ref1 r]
  cases rv with
  | cons r1 rr =>
  cases rr with
  | cons r2 rr =>
  cases rr
  obtain ⟨k1, rfl⟩ := r1
  obtain ⟨k2, rfl⟩ := r2
  refine PySem.W.min_tuple_data (I.ok.hd hc) hl (.cons (.int _ _) (.cons (.int _ _) .nil)) (alike_pair i j) (by show X.A.units + 1 + 0 < cLine; omega) fun m v h' tk bs hv rd hk => ?_
  rw [minD_pair] at rd
  cases rd
  exact ⟨.int _, H, I.kept hk, ⟨_, rfl⟩, q⟩
theorem call_maxK (K : PySem.W.Frag) (hc : X.calm = true) (hK : X.K = K := by rfl) : CallR X (.builtin "max") (rMax K) := by subst hK; exact cr_max hc
theorem call_minK (K : PySem.W.Frag) (hc : X.calm = true) (hK : X.K = K := by rfl) : CallR X (.builtin "min") (rMin K) := by subst hK; exact cr_min hc
end
section
variable {K : PySem.W.Frag} {ρ : List Sl} {ta tb : TE} {d : D}
theorem e_maxP {i j : Int} (h : E ta ρ (.tup [.int i, .int j])) : E (tCB (rMaxP K) (tCons ta tNil)) ρ (.int (max i j)) := e_call (ea1 h) fun xs N H e r Q k => by
  obtain ⟨v, rfl, h1⟩ := r.one
  obtain ⟨a, ys, rfl, g, rr⟩ := h1.inv_tup
  have e1 : ys = [.int i, .int j] := Rps.ints (ns := [i, j]) rr
  subst e1
  exact ⟨a, i, j, rfl, SqT.of (e _ _ g), k _ N H (Fr.refl e) (.int _)⟩
theorem e_minP {i j : Int} (h : E ta ρ (.tup [.int i, .int j])) : E (tCB (rMinP K) (tCons ta tNil)) ρ (.int (min i j)) := e_call (ea1 h) fun xs N H e r Q k => by
  obtain ⟨v, rfl, h1⟩ := r.one
  obtain ⟨a, ys, rfl, g, rr⟩ := h1.inv_tup
  have e1 : ys = [.int i, .int j] := Rps.ints (ns := [i, j]) rr
  subst e1
  exact ⟨a, i, j, rfl, SqT.of (e _ _ g), k _ N H (Fr.refl e) (.int _)⟩
theorem e_maxL {ns : List Int} {m : Int} (h : E ta ρ (.lst (ns.map .int))) (hm : m ∈ ns) (ht : ∀ y ∈ ns, y ≤ m) : E (tCB (rMax K) (tCons ta tNil)) ρ (.int m) := e_call (ea1 h) fun xs N H e r Q k => by
  obtain ⟨v, rfl, h1⟩ := r.one
  obtain ⟨a, ys, rfl, g, rr⟩ := h1.inv_lst
  have e1 := rr.ints
  subst e1
  refine ⟨a, ns, rfl, SqL.of (e _ _ g), List.length_pos_of_mem hm, fun m' h1 h2 => ?_⟩
  have : m' = m := Int.le_antisymm (ht _ h1) (h2 _ hm)
  subst this
  exact k _ N H (Fr.refl e) (.int _)
theorem e_minL {ns : List Int} {m : Int} (h : E ta ρ (.lst (ns.map .int))) (hm : m ∈ ns) (ht : ∀ y ∈ ns, m ≤ y) : E (tCB (rMin K) (tCons ta tNil)) ρ (.int m) := e_call (ea1 h) fun xs N H e r Q k => by
  obtain ⟨v, rfl, h1⟩ := r.one
  obtain ⟨a, ys, rfl, g, rr⟩ := h1.inv_lst
  have e1 := rr.ints
  subst e1
  refine ⟨a, ns, rfl, SqL.of (e _ _ g), List.length_pos_of_mem hm, fun m' h1 h2 => ?_⟩
  have : m' = m := Int.le_antisymm (h2 _ hm) (ht _ h1)
  subst this
  exact k _ N H (Fr.refl e) (.int _)
mutual
/-- what is plain is == to itself -/
def plainD : D → Bool
  | .int _ => true
  | .str _ => true
  | .bl _ => true
  | .non => true
  | .lst ds => plainsD ds
  | .tup ds => plainsD ds
  | .ftup ds => plainsD ds
  | .dk _ => false
  | .dt _ => false
  | .opq _ _ => false
def plainsD : List D → Bool
  | [] => true
  | d :: ds => plainD d && plainsD ds
end
mutual
theorem eqD_refl : ∀ {d : D}, plainD d = true → PyData.eqv (toPy d) (toPy d) = true
  | .int _, _ => by simp [toPy, PyData.eqv]
  | .str _, _ => by simp [toPy, PyData.eqv]
  | .bl _, _ => by simp [toPy, PyData.eqv]
  | .non, _ => by simp [toPy, PyData.eqv]
  | .lst ds, h => by
    simp only [toPy, PyData.eqv]
    exact eqDs_refl h
  | .tup ds, h => by
    simp only [toPy, PyData.eqv]
    exact eqDs_refl h
  | .ftup ds, h => by
    simp only [toPy, PyData.eqv]
    exact eqDs_refl h
  | .dk _, h => nomatch h
  | .dt _, h => nomatch h
  | .opq _ _, h => nomatch h
theorem eqDs_refl : ∀ {ds : List D}, plainsD ds = true → PyData.eqvAll (toPys ds) (toPys ds) = true
  | [], _ => rfl
  | d :: ds, h => by
    have h : (plainD d && plainsD ds) = true := h
    rw [Bool.and_eq_true] at h
    simp only [toPys, PyData.eqvAll, eqD_refl h.1, eqDs_refl h.2, Bool.and_self]
end
theorem plains_map {α : Type} (f : α → D) (h : ∀ x, plainD (f x) = true) : ∀ l : List α, plainsD (l.map f) = true
  | [] => rfl
  | x :: l => by
    show (plainD (f x) && plainsD (l.map f)) = true
    rw [h x, plains_map f h l]; rfl
theorem e_neR (ha : E ta ρ d) (hb : E tb ρ d) (ok : okD d = true) (hp : plainD d = true) : E (tOp (rNeD K) ta tb) ρ (.bl false) := e_is (e_ne ha hb ok ok) (by rw [show eqD d d = true from eqD_refl hp]; rfl)
theorem e_eqR (ha : E ta ρ d) (hb : E tb ρ d) (ok : okD d = true) (hp : plainD d = true) : E (tOp (rEqD K) ta tb) ρ (.bl true) := e_is (e_eq ha hb ok ok) (by rw [show eqD d d = true from eqD_refl hp])
end

def heightsL (b : Book) (m : Int → Int) : List Int := (List.range (b.fin + 1).toNat).map fun i => m ((i : Nat) : Int)
def takenL (b : Book) (m : Int → Int) : List Int := (List.range (b.fin + 1).toNat).map fun i => m (((i : Nat) : Int) - 1) + laidN b ((i : Nat) : Int) - m ((i : Nat) : Int)
structure Feas (b : Book) (ss : List Sight) (m : Int → Int) : Prop where
  z : m (-1) = 0
  f : ∀ f ∈ factsOf b ss, m (con b ss f).1 ≤ m (con b ss f).2.1 + (con b ss f).2.2
structure Great (b : Book) (ss : List Sight) (m : Int → Int) : Prop where
  feas : Feas b ss m
  top : ∀ h, Feas b ss h → ∀ t : Int, 0 ≤ t → t ≤ b.fin → h t ≤ m t
structure Least (b : Book) (ss : List Sight) (m : Int → Int) : Prop where
  feas : Feas b ss m
  low : ∀ h, Feas b ss h → ∀ t : Int, 0 ≤ t → t ≤ b.fin → m t ≤ h t
/-- a story of the sights -/
def StorySat (b : Book) (ss : List Sight) (tk : List Int) (ps : List Pile) : Prop := Run b (b.fin + 1).toNat tk ps ∧ ∀ s ∈ ss, ∀ t : Nat, s.tick = (t : Int) → t < (b.fin + 1).toNat → ∃ q, ps[t]? = some q ∧ isSoM s q = true
theorem laidN_01 (b : Book) (t : Int) : 0 ≤ laidN b t ∧ laidN b t ≤ 1 := by
  unfold laidN
  split <;> omega
theorem Feas.nn {b : Book} {ss : List Sight} {m : Int → Int} (h : Feas b ss m) {t : Int} (h0 : 0 ≤ t) (h1 : t ≤ b.fin) : 0 ≤ m t := by
  have c3 : m (-1) ≤ m t + (0 - laidN b t) := h.f _ (book_facts h0 h1).2.2
  have := (laidN_01 b t).1
  have := h.z
  omega
theorem Feas.up {b : Book} {ss : List Sight} {m : Int → Int} (h : Feas b ss m) : ∀ t : Nat, (t : Int) ≤ b.fin → m (t : Int) ≤ (t : Int) + 1
  | 0, h1 => by
    have c1 : m (((0 : Nat) : Int)) ≤ m (((0 : Nat) : Int) - 1) + laidN b ((0 : Nat) : Int) := h.f _ (book_facts (by omega) h1).1
    have := (laidN_01 b ((0 : Nat) : Int)).2
    have e := h.z
    rw [show (((0 : Nat) : Int) - 1) = -1 by omega, e] at c1
    omega
  | t + 1, h1 => by
    have c1 : m (((t + 1 : Nat) : Int)) ≤ m (((t + 1 : Nat) : Int) - 1) + laidN b ((t + 1 : Nat) : Int) := h.f _ (book_facts (by omega) h1).1
    have := (laidN_01 b ((t + 1 : Nat) : Int)).2
    have ih := Feas.up h t (by omega)
    rw [show (((t + 1 : Nat) : Int) - 1) = (t : Int) by omega] at c1
    omega
theorem Feas.max {b : Book} {ss : List Sight} {m n : Int → Int} (h : Feas b ss m) (g : Feas b ss n) : Feas b ss fun x => Max.max (m x) (n x) :=
  ⟨by have := h.z; have := g.z; show Max.max (m (-1)) (n (-1)) = 0; omega, fun f hf => by
    have := h.f f hf
    have := g.f f hf
    show Max.max (m _) (n _) ≤ Max.max (m _) (n _) + _
    omega⟩
theorem Feas.min {b : Book} {ss : List Sight} {m n : Int → Int} (h : Feas b ss m) (g : Feas b ss n) : Feas b ss fun x => Min.min (m x) (n x) :=
  ⟨by have := h.z; have := g.z; show Min.min (m (-1)) (n (-1)) = 0; omega, fun f hf => by
    have := h.f f hf
    have := g.f f hf
    show Min.min (m _) (n _) ≤ Min.min (m _) (n _) + _
    omega⟩
/-! what settles is the greatest -/
theorem relax_inv (P : (Int → Int) → Prop) {says : List Say} (hP : ∀ st : BF, ∀ s ∈ says, P st.most → P (relax st s).most) : ∀ (l : List Say) (st : BF), (∀ s ∈ l, s ∈ says) → P st.most → P (l.foldl relax st).most
  | [], _, _, h => h
  | s :: l, st, hs, h => relax_inv P hP l (relax st s) (fun x hx => hs x (List.mem_cons_of_mem _ hx)) (hP st s (hs s List.mem_cons_self) h)
theorem settle_inv (P : (Int → Int) → Prop) {says : List Say} (hP : ∀ st : BF, ∀ s ∈ says, P st.most → P (relax st s).most) : ∀ (n : Nat) (st : BF) (m : Int → Int), P st.most → settleLoop says n st = .inl m → P m
  | 0, st, m, _, h => by simp [settleLoop] at h
  | n + 1, st, m, hp, h => by
    have hr : P (round says st).most := relax_inv P hP says _ (fun _ hx => hx) hp
    rw [settleLoop] at h
    split at h
    · cases h; exact hr
    · exact settle_inv P hP n _ m hr h
theorem settle_great {b : Book} {ss : List Sight} (wb : WB b) (ws : WS b ss) {m : Int → Int} (h : settleLoop (saysOf b ss []) (b.fin + 4).toNat init0 = .inl m) : Great b ss m := by
  have hb := wb.lo
  have hsat : ∀ f ∈ factsOf b ss, m (con b ss f).1 ≤ m (con b ss f).2.1 + (con b ss f).2.2 := fun f hf => settle_inl _ _ _ h (some f, con b ss f) (by rw [says_eq]; exact List.mem_map.mpr ⟨f, hf, rfl⟩)
  have hok : SaysOk b.fin (saysOf b ss []) := saysOf_ok wb ws (by simp)
  have hup : ∀ x, m x ≤ init0.most x := by
    refine settle_inv (fun q => ∀ x, q x ≤ init0.most x) (fun st s _ hq x => ?_) _ _ _ (fun x => Int.le_refl _) h
    unfold relax
    split
    · rename_i hlt
      show updI _ _ _ x ≤ _
      unfold updI
      split
      · rename_i e; subst e; have := hq s.2.1; omega
      · exact hq x
    · exact hq x
  have htop : ∀ g : Int → Int, Feas b ss g → ∀ x ∈ keysM b.fin, g x ≤ m x := by
    intro g hg
    refine settle_inv (fun q => ∀ x ∈ keysM b.fin, g x ≤ q x) (fun st s hs hq x hx => ?_) _ _ _ (fun x hx => ?_) h
    · unfold relax
      split
      · show g x ≤ updI _ _ _ x
        unfold updI
        split
        · rename_i e
          subst e
          rw [says_eq] at hs
          obtain ⟨f, hf, rfl⟩ := List.mem_map.mp hs
          have h1 := hg.f f hf
          have h2 := hq _ (hok (some f, con b ss f) (by rw [says_eq]; exact List.mem_map.mpr ⟨f, hf, rfl⟩)).2
          dsimp only at h2 ⊢
          omega
        · exact hq x hx
      · exact hq x hx
    · rw [mem_keysM hb] at hx
      show g x ≤ if x = -1 then 0 else x + 2
      split
      · rename_i e; subst e; have := hg.z; omega
      · have := hg.up x.toNat (by omega)
        rw [show ((x.toNat : Nat) : Int) = x by omega] at this
        omega
  have hz : m (-1) = 0 := by
    have h1 : m (-1) ≤ 0 := hup (-1)
    have h2 := htop (fun x => m x - m (-1)) ⟨by show m (-1) - m (-1) = 0; omega, fun f hf => by have := hsat f hf; show m _ - m (-1) ≤ m _ - m (-1) + _; omega⟩ (-1) ((mem_keysM hb).mpr ⟨by omega, by omega⟩)
    have h2 : m (-1) - m (-1) ≤ m (-1) := h2
    omega
  exact ⟨⟨hz, hsat⟩, fun g hg t h0 h1 => htop g hg t ((mem_keysM hb).mpr ⟨by omega, h1⟩)⟩
/-! there are least heights -/
theorem least_nat (P : Nat → Prop) : ∀ n, P n → ∃ k, P k ∧ ∀ j, P j → k ≤ j := by
  intro n
  induction n using Nat.strongRecOn with
  | ind n ih =>
    intro h
    by_cases z : ∃ j, j < n ∧ P j
    · obtain ⟨j, hj, hp⟩ := z
      exact ih j hj hp
    · exact ⟨n, h, fun j hj => Nat.le_of_not_lt fun hl => z ⟨j, hl, hj⟩⟩
theorem least_ex {b : Book} {ss : List Sight} (wb : WB b) (ws : WS b ss) {m : Int → Int} (h : Feas b ss m) : ∃ l, Least b ss l := by
  have hb := wb.lo
  have hmin : ∀ t : Int, ∃ k : Int, (0 ≤ t ∧ t ≤ b.fin → (∃ g, Feas b ss g ∧ g t = k) ∧ ∀ g, Feas b ss g → k ≤ g t) ∧ (¬ (0 ≤ t ∧ t ≤ b.fin) → k = 0) := fun t => by
    by_cases ht : 0 ≤ t ∧ t ≤ b.fin
    · obtain ⟨k, ⟨g, hg, e⟩, hk⟩ := least_nat (fun n => ∃ g, Feas b ss g ∧ (g t).toNat = n) _ ⟨m, h, rfl⟩
      refine ⟨(k : Int), fun _ => ⟨⟨g, hg, ?_⟩, fun g' hg' => ?_⟩, fun z => absurd ht z⟩
      · have := hg.nn ht.1 ht.2; omega
      · have h1 := hk _ ⟨g', hg', rfl⟩
        have := hg'.nn ht.1 ht.2
        omega
    · exact ⟨0, fun z => absurd z ht, fun _ => rfl⟩
  have hch := Classical.axiomOfChoice hmin
  obtain ⟨l, hl⟩ := hch
  have hle : ∀ g, Feas b ss g → ∀ t : Int, 0 ≤ t → t ≤ b.fin → l t ≤ g t := fun g hg t h0 h1 => ((hl t).1 ⟨h0, h1⟩).2 g hg
  have hz : l (-1) = 0 := (hl (-1)).2 (by omega)
  refine ⟨l, ⟨⟨hz, fun f hf => ?_⟩, hle⟩⟩
  have hk := con_keys wb ws (factsOf_ok wb hf)
  rw [mem_keysM hb, mem_keysM hb] at hk
  have hle2 : ∀ g, Feas b ss g → ∀ t : Int, -1 ≤ t → t ≤ b.fin → l t ≤ g t := fun g hg t h0 h1 => by
    by_cases z : t = -1
    · subst z; rw [hz, hg.z]; exact Int.le_refl _
    · exact hle g hg t (by omega) h1
  by_cases z : (con b ss f).2.1 = -1
  · have h1 := hle2 m h _ hk.1.1 hk.1.2
    have h2 : ∀ g, Feas b ss g → l (con b ss f).1 ≤ g (con b ss f).2.1 + (con b ss f).2.2 := fun g hg => Int.le_trans (hle2 g hg _ hk.1.1 hk.1.2) (hg.f f hf)
    have := h2 m h
    rw [z, h.z] at this
    rw [z, hz]
    exact this
  · obtain ⟨⟨g, hg, e⟩, _⟩ := (hl (con b ss f).2.1).1 ⟨by omega, hk.2.2⟩
    rw [← e]
    exact Int.le_trans (hle2 g hg _ hk.1.1 hk.1.2) (hg.f f hf)
/-! stories and heights -/
theorem run_taken {b : Book} (m : Int → Int) : ∀ {n : Nat} {tk : List Int} {ps : List Pile}, Run b n tk ps → (∀ t : Nat, t ≤ n → ((pil ps t).length : Int) = m ((t : Int) - 1)) → tk = (List.range n).map fun i => m (((i : Nat) : Int) - 1) + laidN b ((i : Nat) : Int) - m ((i : Nat) : Int) := by
  intro n tk ps h
  induction h with
  | nil => intro _; rfl
  | @snoc n tk ps k q h hk hq ih =>
    intro hm
    have hl := h.len.2
    have hprev : ∀ t : Nat, t ≤ n → ((pil ps t).length : Int) = m ((t : Int) - 1) := fun t ht => by
      have := hm t (by omega)
      rw [pil_snoc (by omega)] at this
      exact this
    rw [List.range_succ, List.map_append, ← ih hprev]
    congr 1
    have e1 : pil ps n = ps.getLastD [] := by rw [← hl]; exact pil_last ps
    have e2 : pil (ps ++ [q]) (n + 1) = q := by
      show ((ps ++ [q])[n]?).getD [] = q
      rw [List.getElem?_append_right (by omega), hl, Nat.sub_self]; rfl
    have h1 := hprev n (Nat.le_refl _)
    have h2 := hm (n + 1) (Nat.le_refl _)
    rw [e1] at h1
    rw [e2, show (((n + 1 : Nat) : Int) - 1) = (n : Int) by omega] at h2
    obtain ⟨j, j1, j2, eq⟩ := nextM_inv hk hq
    have hll := laidN_list b (n : Int)
    rw [eq, List.length_append, List.length_take, Nat.min_eq_left j2] at h2
    have : k = m ((n : Int) - 1) + laidN b (n : Int) - m (n : Int) := by omega
    rw [this]; rfl
theorem feas_run {b : Book} {ss : List Sight} (wb : WB b) (ws : WS b ss) {m : Int → Int} (h : Feas b ss m) : ∃ ps, StorySat b ss (takenL b m) ps ∧ ps.map (fun p => ((List.length p : Nat) : Int)) = heightsL b m := by
  obtain ⟨tk, ps, hr, hl⟩ := story_of_heights wb m h.z h.f (b.fin + 1).toNat (Nat.le_refl _)
  have e := run_taken m hr hl
  subst e
  refine ⟨ps, ⟨hr, story_sights wb ws m h.z h.f hr hl⟩, ?_⟩
  have hlen := hr.len.2
  apply List.ext_getElem?
  intro i
  unfold heightsL
  rw [List.getElem?_map, List.getElem?_map]
  by_cases hi : i < (b.fin + 1).toNat
  · rw [List.getElem?_range hi]
    have := hl (i + 1) (by omega)
    rw [show (((i + 1 : Nat) : Int) - 1) = (i : Int) by omega] at this
    rw [List.getElem?_eq_getElem (by omega)]
    have e2 : pil ps (i + 1) = ps[i]'(by omega) := by
      show (ps[i]?).getD [] = _
      rw [List.getElem?_eq_getElem (by omega)]; rfl
    rw [e2] at this
    exact congrArg some this
  · rw [List.getElem?_eq_none (by omega), List.getElem?_eq_none (by simp; omega)]; rfl
theorem sat_feas {b : Book} {ss : List Sight} (wb : WB b) (ws : WS b ss) {tk : List Int} {ps : List Pile} (h : StorySat b ss tk ps) : Feas b ss (hgt ps) := ⟨hgt_none ps, story_facts wb ws h.1 h.2⟩
theorem run_heights {b : Book} {tk : List Int} {ps : List Pile} (h : Run b (b.fin + 1).toNat tk ps) : ps.map (fun p => ((List.length p : Nat) : Int)) = heightsL b (hgt ps) := by
  have hlen := h.len.2
  apply List.ext_getElem?
  intro i
  unfold heightsL
  rw [List.getElem?_map, List.getElem?_map]
  by_cases hi : i < (b.fin + 1).toNat
  · rw [List.getElem?_range hi, List.getElem?_eq_getElem (by omega)]
    show _ = some (hgt ps (i : Int))
    rw [hgt_nat]
    have e2 : pil ps (i + 1) = ps[i]'(by omega) := by
      show (ps[i]?).getD [] = _
      rw [List.getElem?_eq_getElem (by omega)]; rfl
    rw [e2]; rfl
  · rw [List.getElem?_eq_none (by omega), List.getElem?_eq_none (by simp; omega)]; rfl
theorem stories_iff {b : Book} {ss : List Sight} {f : Sto} : f ∈ storiesM b ss ↔ StorySat b ss f.1 f.2 := by
  constructor
  · intro h
    exact ⟨storiesTo_run _ f h, stories_sat _ f h⟩
  · intro ⟨h1, h2⟩
    exact mem_stories h1 h2
theorem heightsL_congr {b : Book} {m n : Int → Int} (h : ∀ t : Int, 0 ≤ t → t ≤ b.fin → m t = n t) : heightsL b m = heightsL b n :=
  List.map_congr_left fun i hi => h _ (by omega) (by rw [List.mem_range] at hi; omega)
theorem takenL_congr {b : Book} {m n : Int → Int} (h : ∀ t : Int, 0 ≤ t → t ≤ b.fin → m t = n t) (hz : m (-1) = n (-1)) : takenL b m = takenL b n :=
  List.map_congr_left fun i hi => by
    rw [List.mem_range] at hi
    rw [h ((i : Nat) : Int) (by omega) (by omega)]
    by_cases z : i = 0
    · subst z
      rw [show (((0 : Nat) : Int) - 1) = -1 by omega, hz]
    · rw [h (((i : Nat) : Int) - 1) (by omega) (by omega)]
theorem Least.same {b : Book} {ss : List Sight} {m n : Int → Int} (h : Least b ss m) (g : Least b ss n) : heightsL b m = heightsL b n ∧ takenL b m = takenL b n := by
  have e : ∀ t : Int, 0 ≤ t → t ≤ b.fin → m t = n t := fun t h0 h1 => Int.le_antisymm (h.low n g.feas t h0 h1) (g.low m h.feas t h0 h1)
  exact ⟨heightsL_congr e, takenL_congr e (by rw [h.feas.z, g.feas.z])⟩
theorem Great.same {b : Book} {ss : List Sight} {m n : Int → Int} (h : Great b ss m) (g : Great b ss n) : heightsL b m = heightsL b n ∧ takenL b m = takenL b n := by
  have e : ∀ t : Int, 0 ≤ t → t ≤ b.fin → m t = n t := fun t h0 h1 => Int.le_antisymm (g.top m h.feas t h0 h1) (h.top n g.feas t h0 h1)
  exact ⟨heightsL_congr e, takenL_congr e (by rw [h.feas.z, g.feas.z])⟩
/-! the loop of lowest -/
def lowStep (l : Int → Int) (c : Con) : Int → Int := if l c.2.1 < l c.1 - c.2.2 then updI l c.2.1 (l c.1 - c.2.2) else l
def lowSum (e : Int) (m l : Int → Int) : Nat := ((keysM e).map fun x => (m x - l x).toNat).sum
/-- below the least heights, at or above nought -/
structure LowInv (b : Book) (m l : Int → Int) : Prop where
  le : ∀ x ∈ keysM b.fin, l x ≤ m x
  nn : 0 ≤ l (-1)
theorem sum_le {f g : Int → Nat} : ∀ {ks : List Int}, (∀ x ∈ ks, f x ≤ g x) → (ks.map f).sum ≤ (ks.map g).sum
  | [], _ => Nat.le_refl _
  | k :: ks, h => by
    have h1 := h k List.mem_cons_self
    have h2 := sum_le (ks := ks) fun x hx => h x (List.mem_cons_of_mem _ hx)
    simp only [List.map_cons, List.sum_cons]
    omega
theorem sum_lt {f g : Int → Nat} {y : Int} : ∀ {ks : List Int}, (∀ x ∈ ks, f x ≤ g x) → y ∈ ks → f y < g y → (ks.map f).sum < (ks.map g).sum
  | [], _, h, _ => by simp at h
  | k :: ks, h, hy, hl => by
    have h1 := h k List.mem_cons_self
    have h3 := sum_le (ks := ks) fun x hx => h x (List.mem_cons_of_mem _ hx)
    simp only [List.map_cons, List.sum_cons]
    rcases List.mem_cons.mp hy with z | z
    · subst z; omega
    · have h2 := sum_lt (ks := ks) (fun x hx => h x (List.mem_cons_of_mem _ hx)) z hl
      omega
theorem LowInv.step {b : Book} {ss : List Sight} {m l : Int → Int} (wb : WB b) (ws : WS b ss) (hm : Feas b ss m) (h : LowInv b m l) {f : Fact} (hf : f ∈ factsOf b ss) (hlt : l (con b ss f).2.1 < l (con b ss f).1 - (con b ss f).2.2) :
    LowInv b m (updI l (con b ss f).2.1 (l (con b ss f).1 - (con b ss f).2.2)) ∧ lowSum b.fin m (updI l (con b ss f).2.1 (l (con b ss f).1 - (con b ss f).2.2)) < lowSum b.fin m l := by
  have hb := wb.lo
  have hk := con_keys wb ws (factsOf_ok wb hf)
  have h1 := hm.f f hf
  have h2 := h.le _ hk.1
  refine ⟨⟨fun x hx => ?_, ?_⟩, ?_⟩
  · unfold updI
    split
    · rename_i e; subst e; omega
    · exact h.le x hx
  · unfold updI
    split
    · rename_i e; rw [← e] at hlt; have := h.nn; omega
    · exact h.nn
  · refine sum_lt (y := (con b ss f).2.1) (fun x hx => ?_) hk.2 ?_
    · unfold updI
      split
      · rename_i e; subst e; omega
      · exact Nat.le_refl _
    · show (m _ - updI l _ _ _).toNat < (m _ - l _).toNat
      rw [updI_same]
      omega
theorem LowInv.done {b : Book} {ss : List Sight} {m l : Int → Int} (wb : WB b) (hm : Least b ss m) (h : LowInv b m l) (hs : ∀ f ∈ factsOf b ss, ¬ l (con b ss f).2.1 < l (con b ss f).1 - (con b ss f).2.2) : heightsL b l = heightsL b m := by
  have hb := wb.lo
  have hz : l (-1) = 0 := by
    have h1 := h.le (-1) ((mem_keysM hb).mpr ⟨by omega, by omega⟩)
    have := hm.feas.z
    have := h.nn
    omega
  have hl : Feas b ss l := ⟨hz, fun f hf => by have := hs f hf; omega⟩
  exact heightsL_congr fun t h0 h1 => Int.le_antisymm (h.le t ((mem_keysM hb).mpr ⟨by omega, h1⟩)) (hm.low l hl t h0 h1)
theorem LowInv.start {b : Book} {ss : List Sight} {m : Int → Int} (wb : WB b) (hm : Feas b ss m) : LowInv b m fun _ => 0 := ⟨fun x hx => by
  rw [mem_keysM wb.lo] at hx
  by_cases z : x = -1
  · subst z; rw [hm.z]; exact Int.le_refl _
  · exact hm.nn (by omega) hx.2, Int.le_refl _⟩
theorem can_great {b : Book} {ss : List Sight} (wb : WB b) (ws : WS b ss) (h : canB b ss = true) : ∃ m, settleLoop (saysOf b ss []) (b.fin + 4).toNat init0 = .inl m ∧ Great b ss m := by
  unfold canB at h
  cases hq : settleLoop (saysOf b ss []) (b.fin + 4).toNat init0 with
  | inl m => exact ⟨m, rfl, settle_great wb ws hq⟩
  | inr st => rw [hq] at h; cases h

inductive R_behind : List D → D → Prop
  | mk (p : Pile) (took : Int) (name : Option Str) (ht : took = 0 ∨ took = 1) (hl : p.length ≤ 1000) : R_behind [encPile p, .int took, encON name] (encOP (nextM p took name))
inductive R_is_so : List D → D → Prop
  | mk (s : Sight) (p : Pile) (hn : ∀ t n m, s = .above t n m → nameOk n) (hok : ∀ n ∈ p, nameOk n) : R_is_so [encSight s, encPile p] (.bl (isSoM s p))
inductive R_is_story : List D → D → Prop
  | yes (b : Book) (ss : List Sight) (tk : List Int) (ps : List Pile) (wb : WB b) (ws : WS b ss) (h : StorySat b ss tk ps) : R_is_story [encBook b, encSights ss, encTk tk] (.bl true)
inductive R_story_of : List D → D → Prop
  | mk (b : Book) (m : Int → Int) (wb : WB b) (hz : m (-1) = 0) : R_story_of [encBook b, .lst ((heightsL b m).map .int)] (encTk (takenL b m))
inductive R_highest : List D → D → Prop
  | non (b : Book) (ss : List Sight) (wb : WB b) (ws : WS b ss) (hd : RingOut b ss) (hc : canB b ss = false) : R_highest [encBook b, encSights ss] .non
  | yes (b : Book) (ss : List Sight) (m : Int → Int) (wb : WB b) (ws : WS b ss) (hm : Great b ss m) (hc : canB b ss = true) : R_highest [encBook b, encSights ss] (.tup [.lst ((heightsL b m).map .int), encTk (takenL b m)])
inductive R_lowest : List D → D → Prop
  | non (b : Book) (ss : List Sight) (wb : WB b) (ws : WS b ss) (hd : RingOut b ss) (hc : canB b ss = false) : R_lowest [encBook b, encSights ss] .non
  | yes (b : Book) (ss : List Sight) (m : Int → Int) (wb : WB b) (ws : WS b ss) (hm : Least b ss m) (hd : RingOut b ss) (hc : canB b ss = true) : R_lowest [encBook b, encSights ss] (.tup [.lst ((heightsL b m).map .int), encTk (takenL b m)])
inductive L_heights : List D → D → Prop
  | tup (ps : List Pile) (h : ps.length ≤ 1000) : L_heights [.tup (ps.map encPile)] (.lst ((ps.map fun p => ((List.length p : Nat) : Int)).map .int))
  | lst (ps : List Pile) (h : ps.length ≤ 1000) : L_heights [.lst (ps.map encPile)] (.lst ((ps.map fun p => ((List.length p : Nat) : Int)).map .int))
inductive L_taken : List D → D → Prop
  | mk (b : Book) (m : Int → Int) (wb : WB b) (hz : m (-1) = 0) : L_taken [encBook b, .lst ((heightsL b m).map .int)] (encTk (takenL b m))
def rowsD (b : Book) (ss : List Sight) : List D := (storiesM b ss).map fun f => .lst ((f.2.map fun p => ((List.length p : Nat) : Int)).map .int)
inductive L_told_right : List D → D → Prop
  | mk (b : Book) (ss : List Sight) (wb : WB b) (ws : WS b ss) (hf : b.fin ≤ 15) (hd : RingOut b ss) (hc : canB b ss = !(storiesM b ss).isEmpty) : L_told_right [encBook b, encSights ss, .lst (rowsD b ss)] (.bl true)
theorem cut_neg1 {α : Type} (xs : List α) : cutL xs none (some (-1)) = xs.take (xs.length - 1) := by
  unfold cutL
  rw [HT.sIx_none, List.drop_zero, Nat.sub_zero]
  congr 1
  unfold HT.sIx
  simp only []
  rw [if_pos (by decide)]
  omega
theorem enum_laid (b : Book) : enumD ((laidAt b).map encON) = (List.range (b.fin + 1).toNat).map fun i => .tup [.int ((i : Nat) : Int), encON (nameAt b ((i : Nat) : Int))] := by
  unfold enumD laidAt
  apply List.ext_getElem?
  intro i
  rw [List.getElem?_mapIdx, List.getElem?_map, List.getElem?_map, List.getElem?_map]
  by_cases h : i < (b.fin + 1).toNat
  · rw [List.getElem?_range h]; rfl
  · rw [List.getElem?_eq_none (by simpa using h)]; rfl
theorem zip_map2 {α : Type} (f g : α → D) : ∀ l : List α, zipD (l.map f) (l.map g) = l.map fun x => .tup [f x, g x]
  | [] => rfl
  | x :: l => by
    have := zip_map2 f g l
    unfold zipD at this ⊢
    simp only [List.map_cons, List.zip_cons_cons, this]
theorem zip3_map {α : Type} (f g h : α → D) : ∀ l : List α, zip3D (l.map f) (l.map g) (l.map h) = l.map fun x => .tup [f x, g x, h x]
  | [] => rfl
  | x :: l => by
    have := zip3_map f g h l
    unfold zip3D at this ⊢
    simp only [List.map_cons, List.zip_cons_cons, this]
theorem zip_laid (b : Book) (m : Int → Int) : zipD ((laidAt b).map encON) ((heightsL b m).map .int) = (List.range (b.fin + 1).toNat).map fun i => .tup [encON (nameAt b ((i : Nat) : Int)), .int (m ((i : Nat) : Int))] := by
  unfold laidAt heightsL
  rw [List.map_map, List.map_map]
  exact zip_map2 _ _ _
theorem zip_heights (b : Book) (m n : Int → Int) : zipD ((heightsL b m).map .int) ((heightsL b n).map .int) = (List.range (b.fin + 1).toNat).map fun i => .tup [.int (m ((i : Nat) : Int)), .int (n ((i : Nat) : Int))] := by
  unfold heightsL
  rw [List.map_map, List.map_map]
  exact zip_map2 _ _ _
theorem zip_heights3 (b : Book) (m n o : Int → Int) : zip3D ((heightsL b m).map .int) ((heightsL b n).map .int) ((heightsL b o).map .int) = (List.range (b.fin + 1).toNat).map fun i => .tup [.int (m ((i : Nat) : Int)), .int (n ((i : Nat) : Int)), .int (o ((i : Nat) : Int))] := by
  unfold heightsL
  rw [List.map_map, List.map_map, List.map_map]
  exact zip3_map _ _ _ _
theorem heightsL_len (b : Book) (m : Int → Int) : (heightsL b m).length = (b.fin + 1).toNat := by simp [heightsL]
theorem heightsL_get {b : Book} {m : Int → Int} {t : Int} (h0 : 0 ≤ t) (h1 : t ≤ b.fin) : ((heightsL b m).map D.int)[t.toNat]? = some (.int (m t)) := by
  unfold heightsL
  rw [List.getElem?_map, List.getElem?_map, List.getElem?_range (by omega)]
  show some (D.int (m ((t.toNat : Nat) : Int))) = _
  rw [show ((t.toNat : Nat) : Int) = t by omega]
theorem Run.stp {b : Book} {n : Nat} {tk : List Int} {ps : List Pile} (h : Run b n tk ps) : ∀ t, t < n → ∃ k : Int, tk[t]? = some k ∧ (k = 0 ∨ k = 1) ∧ nextM (pil ps t) k (nameAt b (t : Int)) = some (pil ps (t + 1)) := by
  induction h with
  | nil => intro t ht; omega
  | @snoc n tk ps k q h hk hq ih =>
    intro t ht
    have hl := h.len.2
    have hl1 := h.len.1
    by_cases z : t < n
    · rw [pil_snoc (by omega), pil_snoc (by omega), List.getElem?_append_left (by omega)]
      exact ih t z
    · have e : t = n := by omega
      subst e
      refine ⟨k, by rw [List.getElem?_append_right (by omega), hl1, Nat.sub_self]; rfl, hk, ?_⟩
      rw [pil_snoc (by omega)]
      have e1 : pil ps t = ps.getLastD [] := by rw [← hl]; exact pil_last ps
      have e2 : pil (ps ++ [q]) (t + 1) = q := by
        show ((ps ++ [q])[t]?).getD [] = q
        rw [List.getElem?_append_right (by omega), hl, Nat.sub_self]; rfl
      rw [e1, e2]
      exact hq
theorem Run.tk01 {b : Book} {n : Nat} {tk : List Int} {ps : List Pile} (h : Run b n tk ps) : ∀ k ∈ tk, k = 0 ∨ k = 1 := fun k hk => by
  obtain ⟨i, hi⟩ := List.mem_iff_getElem?.mp hk
  have := at_lt hi
  obtain ⟨k', e, h01, _⟩ := h.stp i (by rw [← h.len.1]; exact this)
  rw [hi] at e
  cases e
  exact h01
theorem pil_mem {ps : List Pile} {t : Nat} {p : Pile} (h : pil ps t = p) (hp : p ≠ []) : p ∈ ps := by
  cases t with
  | zero => exact absurd h.symm hp
  | succ t =>
    have h : (ps[t]?).getD [] = p := h
    cases q : ps[t]? with
    | none => rw [q] at h; exact absurd h.symm hp
    | some x =>
      rw [q] at h
      have h : x = p := h
      subst h
      exact List.mem_of_getElem? q
theorem Run.pilOk {b : Book} (wb : WB b) {n : Nat} {tk : List Int} {ps : List Pile} (h : Run b n tk ps) (t : Nat) : (∀ x ∈ pil ps t, nameOk x) ∧ (pil ps t).length ≤ 10 := by
  by_cases hp : pil ps t = []
  · rw [hp]; exact ⟨fun x hx => by simp at hx, by simp⟩
  · have := pil_mem rfl hp
    exact ⟨h.okPs wb _ this, Nat.le_trans (h.fewAt _ this) wb.few⟩
theorem sat_at {b : Book} {ss : List Sight} (ws : WS b ss) {tk : List Int} {ps : List Pile} (h : StorySat b ss tk ps) {t : Nat} (ht : t < (b.fin + 1).toNat) : ((ss.filter fun s => decide (s.tick = (t : Int))).map fun s => isSoM s (pil ps (t + 1))).all id = true := by
  rw [List.all_eq_true]
  intro x hx
  obtain ⟨s, hs, rfl⟩ := List.mem_map.mp hx
  obtain ⟨h1, h2⟩ := List.mem_filter.mp hs
  obtain ⟨q, hq, hs⟩ := h.2 s h1 t (of_decide_eq_true h2) ht
  have e : pil ps (t + 1) = q := by
    show (ps[t]?).getD [] = q
    rw [hq]; rfl
  show isSoM s (pil ps (t + 1)) = true
  rw [e]; exact hs
theorem low_start (e : Int) (h0 : 0 ≤ e) : putD (putAll [] ((List.range (e + 1).toNat).map fun i => ((Sum.inl (0 + ((i : Nat) : Int)) : Key), D.int 0))) (.inl (-1)) (.int 0) = mkMost e fun _ => 0 := by
  have hn : (List.map Prod.fst ((List.range (e + 1).toNat).map fun i => ((Sum.inl (0 + ((i : Nat) : Int)) : Key), D.int 0))).Nodup := by
    rw [List.map_map, List.nodup_iff_pairwise_ne, List.pairwise_map]
    exact List.pairwise_lt_range.imp fun h z => by
      have := Sum.inl.inj z
      omega
  rw [putAll_nodup _ [] (by rw [List.nil_append]; exact hn), List.nil_append]
  unfold putD mkMost keysM
  rw [if_neg]
  · rw [List.map_append, List.map_map]
    congr 1
    refine List.map_congr_left fun i _ => ?_
    simp
  · intro z
    obtain ⟨p, hp, hk⟩ := List.any_eq_true.mp z
    obtain ⟨i, _, rfl⟩ := List.mem_map.mp hp
    have := Sum.inl.inj (of_decide_eq_true hk)
    omega
theorem plain_told (b : Book) (m : Int → Int) : plainD (.tup [.lst ((heightsL b m).map .int), encTk (takenL b m)]) = true := by
  have h1 : ∀ l : List Int, plainsD (l.map D.int) = true := plains_map D.int fun _ => rfl
  show (plainsD _ && (plainsD _ && true)) = true
  rw [h1, h1]; rfl
theorem okD_intsT (ns : List Int) : okD (.tup (ns.map .int)) = true ∧ okD (.lst (ns.map .int)) = true := by
  have := okD_lst (ds := ns.map D.int) (n := 0) (by decide) fun d hd => by
    obtain ⟨i, _, rfl⟩ := List.mem_map.mp hd
    exact ⟨rfl, Nat.le_refl _⟩
  exact ⟨this.2, this.1⟩
theorem depth_ints (ns : List Int) : (toPy (.lst (ns.map .int))).depth ≤ 1 ∧ (toPy (.tup (ns.map .int))).depth ≤ 1 := by
  have : PyData.depthAll (toPys (ns.map D.int)) ≤ 0 := depth_all_le fun d hd => by
    obtain ⟨i, _, rfl⟩ := List.mem_map.mp hd
    exact Nat.le_refl _
  constructor
  · show (PyData.list _).depth ≤ 1
    rw [PyData.depth]; omega
  · show (PyData.tuple _).depth ≤ 1
    rw [PyData.depth]; omega
theorem okD_told (b : Book) (m : Int → Int) : okD (.tup [.lst ((heightsL b m).map .int), encTk (takenL b m)]) = true := (okD_lst (n := 1) (by decide) fun d hd => by
  simp at hd
  rcases hd with rfl | rfl
  · exact ⟨(okD_intsT _).2, (depth_ints _).1⟩
  · exact ⟨(okD_intsT _).1, (depth_ints _).2⟩).2
theorem plain_tk (tk : List Int) : plainD (encTk tk) = true := plains_map D.int (fun _ => rfl) tk
theorem okD_rows (b : Book) (ss : List Sight) : okD (.lst (rowsD b ss)) = true := (okD_lst (n := 1) (by decide) fun d hd => by
  obtain ⟨f, _, rfl⟩ := List.mem_map.mp hd
  exact ⟨(okD_intsT _).2, (depth_ints _).1⟩).1
theorem rows_mem {b : Book} {ss : List Sight} (wb : WB b) (ws : WS b ss) {d : D} (h : d ∈ rowsD b ss) : ∃ m, Feas b ss m ∧ d = .lst ((heightsL b m).map .int) := by
  obtain ⟨f, hf, rfl⟩ := List.mem_map.mp h
  have hs := stories_iff.mp hf
  exact ⟨hgt f.2, sat_feas wb ws hs, by rw [run_heights hs.1]⟩
theorem rows_top {b : Book} {ss : List Sight} (wb : WB b) (ws : WS b ss) {m : Int → Int} (h : Feas b ss m) : ∃ f ∈ storiesM b ss, f.2.map (fun p => ((List.length p : Nat) : Int)) = heightsL b m := by
  obtain ⟨ps, h1, h2⟩ := feas_run wb ws h
  exact ⟨(takenL b m, ps), stories_iff.mpr h1, h2⟩
theorem sat_height {b : Book} {ss : List Sight} {m : Int → Int} {ps : List Pile} (h : StorySat b ss (takenL b m) ps) (hm : Feas b ss m) {i : Nat} (hi : i < (b.fin + 1).toNat) : hgt ps (i : Int) = m (i : Int) := by
  have e := h.1
  have key : ∀ t : Nat, t ≤ (b.fin + 1).toNat → ((pil ps t).length : Int) = m ((t : Int) - 1) := by
    intro t
    induction t with
    | zero =>
      intro _
      rw [show (((0 : Nat) : Int) - 1) = -1 by omega, hm.z]; rfl
    | succ t ih =>
      intro ht
      have ih := ih (by omega)
      obtain ⟨k, hk, h01, hn⟩ := e.stp t (by omega)
      have hk2 : k = m ((t : Int) - 1) + laidN b (t : Int) - m (t : Int) := by
        unfold takenL at hk
        rw [List.getElem?_map, List.getElem?_range (by omega)] at hk
        exact (Option.some.inj hk).symm
      obtain ⟨j, j1, j2, eq⟩ := nextM_inv h01 hn
      have hll := laidN_list b (t : Int)
      rw [eq, List.length_append, List.length_take, Nat.min_eq_left j2, show (((t + 1 : Nat) : Int) - 1) = (t : Int) by omega]
      omega
  have := key (i + 1) (by omega)
  rw [show (((i + 1 : Nat) : Int) - 1) = (i : Int) by omega] at this
  rw [hgt_nat]
  exact this
section
variable {c : Ctx} {Ps : List (Addr × D)} {ρ : List Sl} {σ : St} {H : Hp} {De : Ends} {te : TE} {tz : TS} {R : D → List (Addr × D) → Prop} {g : TG} {ts : List Nat}
theorem q_asgGB {ρ1 : D → List Sl} (a : At c Ps ρ σ H) (h : EB te Ps ρ R) (hg : ∀ d P, R d P → Tg g ts ρ d (ρ1 d)) (k : ∀ d P σ' H', R d P → At c P (ρ1 d) σ' H' → tz De σ' H') : tSeq (tAsg te g) tz De σ H := by
  show te σ H _
  refine h _ σ H a _ fun v d P L H1 hR r a1 => ?_
  obtain ⟨N1, a1⟩ := a1
  exact hg d P hR σ N1 H1 v a1.sg a1.fr.sub (r.mono (a1.ls L List.mem_cons_self)) _ fun σ' S' _ => k d P σ' H1 hR (At.unext ⟨N1, a1.fr, S', a1.ls, a1.ps, a1.nd⟩)
end
section
variable {K : PySem.W.Frag} {ρ : List Sl} {ta tb : TE} {p q : Bool}
theorem e_notB (ha : E ta ρ (.bl p)) (hb : E tb ρ (.bl q)) : E (tOp rNotB ta tb) ρ (.bl (!decide (p = q))) := e_op ha hb fun x y N H e rx ry Q k => ⟨p, q, rx.inv_bl, ry.inv_bl, k _ N H (Fr.refl e) (.bl _)⟩
end

abbrev Row := List Key × Addr × Int
abbrev RX : List Row → List (List Key × Addr × Value) → Prop := Paired fun r x => r.1 = x.1 ∧ r.2.1 = x.2.1 ∧ ∃ t, x.2.2 = .int r.2.2 t
def valR (rows : List Row) (k : List Key) : Option Int := (rows.find? fun r => decide (r.1 = k)).map (·.2.2)
def putR (rows : List Row) (k : List Key) (b : Addr) (m : Int) : List Row := if rows.any (fun r => decide (r.1 = k)) then rows.map (fun r => if r.1 = k then (r.1, r.2.1, m) else r) else rows ++ [(k, b, m)]
theorem putR_len (rows : List Row) (k : List Key) (b : Addr) (m : Int) : (putR rows k b m).length ≤ rows.length + 1 := by
  unfold putR
  split
  · rw [List.length_map]; omega
  · rw [List.length_append]; exact Nat.le_refl _
theorem RX.val {rows : List Row} {xs : List (List Key × Addr × Value)} (r : RX rows xs) (k : List Key) : (valR rows k = none ∧ (atKey xs k).map (·.2) = none) ∨ ∃ m t, valR rows k = some m ∧ (atKey xs k).map (·.2) = some (.int m t) := by
  induction r with
  | nil => exact .inl ⟨rfl, rfl⟩
  | @cons p q ps qs h t ih =>
    obtain ⟨h1, _, t, h2⟩ := h
    by_cases e : p.1 = k
    · have e' : q.1 = k := h1.symm.trans e
      refine .inr ⟨p.2.2, t, by simp [valR, List.find?_cons, e], ?_⟩
      have b : atKey (q :: qs) k = some q.2 := by simp [atKey, List.find?_cons, e']
      rw [b, ← h2]; rfl
    · have e' : ¬ q.1 = k := fun z => e (h1.trans z)
      have b : atKey (q :: qs) k = atKey qs k := by simp [atKey, List.find?_cons, e']
      have b2 : valR (p :: ps) k = valR ps k := by simp [valR, List.find?_cons, e]
      rw [b, b2]; exact ih
theorem RX.any {rows : List Row} {xs : List (List Key × Addr × Value)} (r : RX rows xs) (k : List Key) : (rows.any fun r => decide (r.1 = k)) = (atKey xs k).isSome := by
  induction r with
  | nil => rfl
  | @cons p q ps qs h t ih =>
    obtain ⟨h1, _, _⟩ := h
    by_cases e : p.1 = k
    · have e' : q.1 = k := h1.symm.trans e
      simp [atKey, List.find?_cons, e, e']
    · have e' : ¬ q.1 = k := fun z => e (h1.trans z)
      have b : atKey (q :: qs) k = atKey qs k := by simp [atKey, List.find?_cons, e']
      rw [b, ← ih]
      simp [e]
theorem RX.repl {rows : List Row} {xs : List (List Key × Addr × Value)} (r : RX rows xs) (k : List Key) (m : Int) (t : Tok) : RX (rows.map fun r => if r.1 = k then (r.1, r.2.1, m) else r) (xs.map (putAt k (.int m t))) := by
  induction r with
  | nil => exact .nil
  | @cons p q ps qs h t' ih =>
    rw [List.map_cons, List.map_cons]
    refine .cons ?_ ih
    obtain ⟨h1, h2, h3⟩ := h
    unfold putAt
    by_cases e : p.1 = k
    · rw [if_pos e, if_pos (h1.symm.trans e)]; exact ⟨h1, h2, _, rfl⟩
    · rw [if_neg e, if_neg (fun z => e (h1.trans z))]; exact ⟨h1, h2, h3⟩
theorem RX.put {rows : List Row} {xs : List (List Key × Addr × Value)} (r : RX rows xs) (k : List Key) (b : Addr) (m : Int) (t : Tok) : RX (putR rows k b m) (storedH xs k b (.int m t)) := by
  unfold putR storedH
  rw [r.any k]
  by_cases q : (atKey xs k).isSome = true
  · rw [if_pos q, if_pos q]; exact r.repl k m t
  · rw [if_neg q, if_neg q]; exact Paired.snoc r ⟨rfl, rfl, _, rfl⟩
/-- the dict at a -/
def pdO (P : Program) (w : World) (a : Addr) (rows : List Row) (ep : Nat) : HO := .ext fun h => rows.length ≤ sizeLine ∧ (a == sysModules) = false ∧ ∃ xs, RX rows xs ∧
  ∃ o es, h.get? a = some o ∧ o.ExactDict ∧ o.data = .dict es ep ∧ es.toList = xs.map (entryOfKey (tupleKind (mixKind P w))) ∧ (xs.map (·.1)).Nodup
/-- its keys are known to their objects -/
def Keyed (H : Hp) (rows : List Row) : Prop := ∀ r ∈ rows, ∃ o, o.dict = none ∧ H r.2.1 = some (.frz o (.tup (r.1.map kV)))
theorem Keyed.mono {H H' : Hp} {rows : List Row} (k : Keyed H rows) (e : Ex H H') : Keyed H' rows := fun r h => let ⟨o, a, b⟩ := k r h; ⟨o, a, e _ _ b⟩
theorem nimm_ext {φ : Heap → Prop} : ¬ Imm (.ext φ) := by
  rintro ⟨ys, h | ⟨o, h⟩⟩ <;> cases h
section
variable {P : Program} {w : World} {H : Hp} {h : Heap} {a b : Addr} {rows : List Row} {ep : Nat}
theorem pd_ok {H : Hp} {xs : List (List Key × Addr × Value)} {o : Obj} {es : Array DictEntry} (z : rows.length ≤ sizeLine) (hd : (a == sysModules) = false) (r : RX rows xs) (ho : h.get? a = some o) (hx : o.ExactDict) (hdt : o.data = .dict es ep) (he : es.toList = xs.map (entryOfKey (tupleKind (mixKind P w)))) (hn : (xs.map (·.1)).Nodup) :
    ObjOk P w H h a (pdO P w a rows ep) :=
  ⟨⟨z, hd, xs, r, o, es, ho, hx, hdt, he, hn⟩, ⟨o, ho⟩, fun h1 h2 ⟨z, hd, xs, r, o, es, ho, q⟩ k => ⟨z, hd, xs, r, o, es, k o ho, q⟩⟩
theorem key_frz {k : List Key} {o : Obj} (ok : HOk P w H h) (e : H b = some (.frz o (.tup (k.map kV)))) : (tupleKind (mixKind P w)).is h k b := by
  obtain ⟨_, _, its, r, o, h1, h2, n, h3⟩ := ok b _ e
  exact ⟨o, its.toArray, n, h1, h2, h3, by simpa using items_are r⟩
theorem pd_of (ok : HOk P w H h) (e : H a = some (pdO P w a rows ep)) (ky : Keyed H rows) : rows.length ≤ sizeLine ∧ (a == sysModules) = false ∧ ∃ xs, RX rows xs ∧ h.DictOfH (tupleKind (mixKind P w)) a xs := by
  obtain ⟨⟨z, hd, xs, r, o, es, ho, hx, hdt, he, hn⟩, _⟩ := ok a _ e
  refine ⟨z, hd, xs, r, o, es, ep, ho, hx, hdt, he, fun x hm => ?_, hn⟩
  have all : ∀ {l : List Row} {m : List (List Key × Addr × Value)}, RX l m → Keyed H l → ∀ x ∈ m, (tupleKind (mixKind P w)).is h x.1 x.2.1 := by
    intro l m q
    induction q with
    | nil => intro _ x hx; exact nomatch hx
    | @cons p q ps qs hq t ih =>
      intro ky x hx
      rcases List.mem_cons.mp hx with e | hx
      · subst e
        obtain ⟨o, _, e2⟩ := ky p List.mem_cons_self
        rw [← hq.1, ← hq.2.1]
        exact key_frz ok e2
      · exact ih (fun r hr => ky r (List.mem_cons_of_mem _ hr)) x hx
  exact all r ky x hm
theorem pd_raw (ok : HOk P w H h) (e : H a = some (pdO P w a rows ep)) : (a == sysModules) = false ∧ ∃ es, h.DictRaw a es ep ∧ es.size = rows.length ∧ ∀ i r, rows[i]? = some r → ∃ hi : i < es.size, es[i].key = .ref r.2.1 ∧ ∃ t, es[i].val = .int r.2.2 t := by
  obtain ⟨⟨z, hd, xs, r, o, es, ho, hx, hdt, he, hn⟩, _⟩ := ok a _ e
  have l1 : es.size = xs.length := size_of_entries he
  have l2 : rows.length = xs.length := Paired.length r
  refine ⟨hd, es, ⟨o, ho, hx, hdt⟩, l1.trans l2.symm, fun i q hq => ?_⟩
  have hi : i < es.size := by rw [l1, ← l2]; exact at_lt hq
  refine ⟨hi, ?_⟩
  have e2 := entry_at he i
  rw [Array.getElem?_eq_getElem hi, List.getElem?_eq_getElem (by omega), Option.map_some] at e2
  have e3 := Option.some.inj e2
  have pg : ∀ {l : List Row} {m : List (List Key × Addr × Value)} {i : Nat} {q : Row} {x : List Key × Addr × Value}, RX l m → l[i]? = some q → m[i]? = some x → q.2.1 = x.2.1 ∧ ∃ t, x.2.2 = .int q.2.2 t := by
    intro l m i q x r
    induction r generalizing i with
    | nil => intro h; simp at h
    | cons h t ih =>
      intro h1 h2
      cases i with
      | zero =>
        simp at h1 h2
        subst h1 h2
        exact h.2
      | succ i => exact ih (by simpa using h1) (by simpa using h2)
  obtain ⟨g1, t, g2⟩ := pg r hq (List.getElem?_eq_getElem (show i < xs.length by omega))
  rw [e3]
  exact ⟨by show Value.ref _ = _; rw [g1], t, g2⟩
end
/-! ### readings and rules -/
def optV (o : Option Int) (z : V) : V := match o with | some m => .int m | none => z
def tPNew (P : Program) (w : World) : TE := fun _ H Q => ∀ p, H p = none → Q (.ref p) (upd H p (pdO P w p [] 0))
def tPGet2 (P : Program) (w : World) (td ty tx : TE) : TE := fun σ H Q => td σ H fun x H1 => ∃ a, x = .ref a ∧ (∃ rows ep, H1 a = some (pdO P w a rows ep)) ∧ ty σ H1 fun y H2 => tx σ H2 fun z H3 =>
  ∃ rows ep b o k, H3 a = some (pdO P w a rows ep) ∧ Keyed H3 rows ∧ y = .ref b ∧ H3 b = some (.frz o (.tup (List.map kV k))) ∧ Q (optV (valR rows k) z) H3
def sPPut (P : Program) (w : World) (td ty tv : TE) : TS := fun D σ H => tv σ H fun v H1 => td σ H1 fun x H2 => ty σ H2 fun y H3 => ∃ a rows ep b o k m, x = .ref a ∧ v = .int m ∧ H3 a = some (pdO P w a rows ep) ∧ Keyed H3 rows ∧
  y = .ref b ∧ H3 b = some (.frz o (.tup (List.map kV k))) ∧ rows.length < sizeLine ∧ ∀ ep', D.nx σ (upd H3 a (pdO P w a (putR rows k b m) ep'))
def tPD1 (P : Program) (w : World) (tk tv : TE) : TE := fun σ H Q => ∀ p, H p = none → tk σ (upd H p (.dT [])) fun x H1 => tv σ H1 fun y H2 => ∃ b o k m, x = .ref b ∧ H2 b = some (.frz o (.tup (List.map kV k))) ∧ y = .int m ∧ H2 p = some (.dT []) ∧ ∀ ep, Q (.ref p) (upd H2 p (pdO P w p [(k, b, m)] ep))
def ItP (P : Program) (w : World) (a : Addr) (rows : List Row) (ep : Nat) : It := ⟨fun i H => H a = some (pdO P w a rows ep) ∧ i < rows.length, fun i H v H' => ∃ T r, v = .ref T ∧ rows[i]? = some r ∧ H T = none ∧ H' = upd H T (.tup [.ref r.2.1, .int r.2.2]), fun i H => H a = some (pdO P w a rows ep) ∧ rows.length ≤ i⟩
def iPItems (P : Program) (w : World) (td : TE) : TI := fun σ H R => td σ H fun x H1 => ∃ d rows ep, x = .ref d ∧ H1 d = some (pdO P w d rows ep) ∧ R (ItP P w d rows ep) H1
def pvO (p a : Addr) : HO := .ext fun h => h.IsValuesView p a
def tPVals (P : Program) (w : World) (td : TE) : TE := fun σ H Q => td σ H fun x H1 => ∃ a rows ep, x = .ref a ∧ H1 a = some (pdO P w a rows ep) ∧ ∀ p, H1 p = none → Q (.ref p) (upd H1 p (pvO p a))
def rSumP (P : Program) (w : World) : List V → Hp → VK → Prop := fun xs H Q => ∃ p a rows ep, xs = [.ref p] ∧ H p = some (pvO p a) ∧ H a = some (pdO P w a rows ep) ∧ (∀ r ∈ rows, 0 ≤ r.2.2) ∧ (rows.map (·.2.2)).sum < 2 ^ 62 ∧ Q (.int (rows.map (·.2.2)).sum) H
section
variable {X : Cx} {o i e f value tg : Expr} {pos pos' apos cpos : Pos} {td ty tx tv tk : TE}
theorem pe_pnew : PE X (.Dict [] [] pos) (tPNew X.prog X.w) := ⟨fun pins s σ H Q I h =>
  wpAny_Dict_empty ⟨.ref s.heap.objs.size, _, I.laid (a := s.heap.objs.size) (o := pdO X.prog X.w s.heap.objs.size [] 0) (t' := s.toks) (fun _ _ q => Heap.get?_push_of_some _ q) (Nat.le_refl _)
    (pd_ok (xs := []) (o := { cls := .type "dict", data := .dict #[] }) (es := #[]) (Nat.zero_le _) (beq_eq_false_iff_ne.mpr (Ne.symm (Nat.ne_of_lt I.big))) .nil (Heap.get?_push_size _ rfl) ⟨rfl, rfl, rfl⟩ rfl rfl List.nodup_nil), rfl, h _ (I.hok.fresh (Nat.le_refl _))⟩⟩
theorem pe_pget2 (hu : X.A.units + 1 < cLine) (ho : PE X o td) (he : PE X e ty) (hf : PE X f tx) (m : M2 X o "get" apos e f cpos) : PE X (.Call (.Attribute o "get" apos) [e, f] [] cpos) (tPGet2 X.prog X.w td ty tx) := by
  refine ⟨fun pins s σ H Q I h => ?_⟩
  refine wpAny_Call_method m.base m.few m.line PySem.F.plainAttrs_dict PySem.F.slot_dict_get PySem.F.type_dict_get (thn (ho.run pins s σ H _ I h) fun u s1 ⟨x, H1, I1, rx, a, ex, ⟨rows, ep, hd⟩, q1⟩ => ?_)
  subst ex
  obtain rfl : u = Value.ref a := rx
  obtain ⟨⟨z, hdd, xs, r, ob, es, hob, hx, hdt, hes, hn⟩, _⟩ := (show ObjOk X.prog X.w H1 s1.heap a (pdO X.prog X.w a rows ep) from I1.hok a _ hd)
  refine ⟨⟨ob, hob, hx.1⟩, fun b q => ?_, ?_⟩
  · cases q; exact ⟨ob, hob, hx.2.1⟩
  rw [m.trees]
  refine Calls.callWith_builtin rfl (Calls.evalArgs_plain (Calls.spliced_cons (thn (he.run pins s1 σ H1 _ I1 q1) fun iv s2 ⟨y, H2, I2, ry, q2⟩ =>
    Calls.spliced_cons (thn (hf.run pins s2 σ H2 _ I2 q2) fun fv s3 ⟨z, H3, I3, rz, rows, ep, b, o, k, ha, ky, ey, hb, q3⟩ => Calls.spliced_nil ?_))))
  subst ey
  obtain rfl : iv = Value.ref b := ry
  obtain ⟨z3, hd3, xs3, rel, dd⟩ := pd_of I3.hok ha ky
  refine call_meetsIn PySem.F.slot_dict_get dd.typeIs PySem.F.entry_dict_get (PySem.F.args_dict_get_3 _ _ _) (meetsH_dict_get_default (tupleKind (mixKind X.prog X.w)) a b hd3 fv) ⟨tupleKind_room_in1 hu, k, xs3, key_frz I3.hok hb, dd, ?_⟩
  rcases rel.val k with ⟨e1, e2⟩ | ⟨mm, t, e1, e2⟩
  · rw [e2]
    rw [e1] at q3
    exact ⟨_, H3, I3.tok _, rz, q3⟩
  · rw [e2]
    rw [e1] at q3
    exact ⟨.int mm, H3, I3.tok _, (show ∃ t2, Value.int mm t = Value.int mm t2 from ⟨t, rfl⟩), q3⟩
theorem ps_pput (hu : X.A.units + 1 < cLine) (ho : PE X o td) (hi : PE X i ty) (hv : PE X value tv) (hs : swapsWith value (some (.Subscript o i pos')) pos.line X.env = pure false) :
    PS X (.Assign [.Subscript o i pos'] value pos) (sPPut X.prog X.w td ty tv) := by
  refine ⟨fun pins s σ H D I h => ?_⟩
  refine wpAny_Assign_Subscript (thn (hv.run pins s σ H _ I h) fun r s1 ⟨v, H1, I1, rv, q1⟩ => thn (ho.run pins s1 σ H1 _ I1 q1) fun u s2 ⟨x, H2, I2, rx, q2⟩ => thn (hi.run pins s2 σ H2 _ I2 q2) fun iv s3 ⟨y, H3, I3, ry, a, rows, ep, b, ob, k, m, ex, ev, ha, ky, ey, hb, hl, q3⟩ => ?_) hs
  subst ex ey ev
  obtain rfl : u = Value.ref a := rx
  obtain rfl : iv = Value.ref b := ry
  obtain ⟨t, rfl⟩ := (show ∃ t, r = Value.int m t from rv)
  obtain ⟨z, hd, xs, rel, dd⟩ := pd_of I3.hok ha ky
  have hz : xs.length ≤ sizeLine := by rw [← Paired.length rel]; exact z
  refine wpAny_setItem_heap (hsz := hz) (tupleKind_room_in1 hu) (key_frz I3.hok hb) dd fun h' dd' hs => ?_
  obtain ⟨q, es, ep', hq, h2, h3, h4, _, h5⟩ := dd'
  refine ⟨σ, upd H3 a (pdO X.prog X.w a (putR rows k b m) ep'), d_write I3 (by rw [ha]; exact True.intro) hs ⟨q, hq⟩ ?_, q3 ep'⟩
  exact pd_ok (by have := putR_len rows k b m; omega) hd (rel.put k b m t) hq h2 h3 h4 h5
theorem pe_pd1 {k v : Expr} (hu : X.A.units < cLine) (hk : PE X k tk) (hv : PE X v tv) : PE X (.Dict [some k] [v] pos) (tPD1 X.prog X.w tk tv) := by
  refine ⟨fun pins s σ H Q I h => ?_⟩
  have hn := I.hok.fresh (Nat.le_refl s.heap.objs.size)
  have I1 := I.laid (a := s.heap.objs.size) (o := .dT []) (h' := s.heap.push { cls := .type "dict", data := .dict #[] }) (t' := s.toks) (fun _ _ q => Heap.get?_push_of_some _ q) (Nat.le_refl _) (dt_empty s.heap I.big)
  have hall : ([some k] : List (Option Expr)).all (·.isSome) = true := rfl
  have hln := pairTrees_length [some k] [v] X.env pos hall rfl
  have hp0 : pairTrees [some k] [v] X.env pos ≠ [] := by
    intro he
    rw [he] at hln
    cases hln
  rw [arm_eval_Dict, zip_pairTrees [some k] [v] X.env pos hall rfl, dictDisplay_pairs _ hp0 (by rw [hln]; show 1 < 17; omega)]
  refine wpAny_bind (wpAny_standAt (wpAny_bind (wpAny_subDictH (knd := tupleKind (mixKind X.prog X.w)) (Q := fun d s' => wpAny (model X.prog X.w) X.A (pure (Value.ref d)) _ X.xe s') hu (by rw [hln]; show 1 ≤ 15; omega) ?_)))
  refine pairTrees_cons_walk (thn (hk.run pins _ σ _ _ I1 (h _ hn)) fun u s1 ⟨x, H1, I2, rx, q1⟩ => thn (hv.run pins s1 σ H1 _ I2 q1) fun w2 s2 ⟨y, H2, I3, ry, b, o, kk, m, ex, hb, ey, hp, q2⟩ => pairTrees_nil_walk ?_)
  subst ex ey
  obtain rfl : u = Value.ref b := rx
  obtain ⟨t, rfl⟩ := (show ∃ t, w2 = Value.int m t from ry)
  obtain ⟨z, hd, xs0, r0, dd⟩ := dt_of I3.hok hp
  cases r0
  refine ⟨[(kk, b, .int m t)], ⟨rfl, rfl, key_frz I3.hok hb, True.intro⟩, dd, fun h' tk dd' hs => wpAny_pure ?_⟩
  obtain ⟨q, es, ep', hq, h2, h3, h4, _, h5⟩ := dd'
  refine ⟨.ref s.heap.objs.size, _, d_write I3 (by rw [hp]; exact True.intro) hs ⟨q, hq⟩ (pd_ok (xs := [(kk, b, .int m t)]) (by show 1 ≤ sizeLine; decide) hd (.cons ⟨rfl, rfl, _, rfl⟩ .nil) hq h2 h3 h4 h5), rfl, q2 ep'⟩
end
theorem turn_pitems {P : Program} {w : World} {K : PySem.W.Frag} {d : Addr} {rows : List Row} {ep : Nat} {elts : List Expr} {kk : Nat} {tpos : Pos} (it : Addr) :
    Turn P w K (.Tuple elts kk tpos) (ItP P w d rows ep) [it] it (fun i h => ∃ ok ov, IsItemIter h it d i rows.length ep ok ov) where
  mem := by simp
  obj := fun i h st b hb => by
    have e : b = it := by simpa using hb
    subst e
    obtain ⟨ok, ov, e⟩ := st
    exact ⟨_, e, fun v z => nomatch z⟩
  keep := fun i h h' st k => let ⟨ok, ov, e⟩ := st; ⟨ok, ov, k it (by simp) _ e⟩
  item := by
    intro X hP hw hK hc i pins s σ H E I hf st hg
    subst hP hw hK
    obtain ⟨hd, hi⟩ := hg
    obtain ⟨hs, es, hm, hsz, hen⟩ := pd_raw I.hok hd
    obtain ⟨r, hr⟩ : ∃ p, rows[i]? = some p := ⟨rows[i], List.getElem?_eq_getElem hi⟩
    obtain ⟨hie, ek, t, ev⟩ := hen i r hr
    obtain ⟨ok, ov, he⟩ := st
    rw [← hsz] at he
    have hlt : it < s.heap.objs.size := Heap.lt_size he
    refine wpAny_pyNext_items_item_raw he hm hie fun h' ho hT hz hk => ?_
    refine ⟨_, rfl, wpAny_letOwnedTupleGo_items (s := { s with heap := h' }) ho fun h'' he' sb => ?_⟩
    rw [ek, ev] at hT
    have hT2 : h''.get? s.heap.objs.size = some { cls := .type "tuple", data := .seq #[Value.ref r.2.1, Value.int r.2.2 t] } := (sb.2 _ (Nat.ne_of_gt hlt)).trans hT
    have new : ObjOk X.prog X.w (upd H s.heap.objs.size (.tup [.ref r.2.1, .int r.2.2])) h'' s.heap.objs.size (.tup [.ref r.2.1, .int r.2.2]) :=
      ⟨by show 2 ≤ sizeLine; decide, [Value.ref r.2.1, Value.int r.2.2 t], .cons rfl (.cons ⟨_, rfl⟩ .nil), ⟨_, hT2, rfl, _, rfl⟩⟩
    have I1 : Inv X pins σ (upd H s.heap.objs.size (.tup [.ref r.2.1, .int r.2.2])) { s with heap := h'' } :=
      I.turnedNew (t' := s.toks) (ch := [it]) (fun b ob hb e => (sb.2 b (by simpa using hb)).trans (hk b ob (by simpa using hb) e)) hf (Nat.le_refl _) new
    refine ⟨.ref s.heap.objs.size, _, I1, rfl, ⟨_, r, rfl, hr, I.hok.fresh (Nat.le_refl _), rfl⟩, ⟨es[i].key, es[i].val, ?_⟩, fun b hb => ?_⟩
    · rw [← hsz]; exact he'
    · have e : b = it := by simpa using hb
      rw [e, upd_ne (Nat.ne_of_lt hlt)]
      exact (hf it (by simp)).1
  done := by
    intro X hP hw hK hc i pins s σ H E I hf st hg
    subst hP hw hK
    obtain ⟨hd, hi⟩ := hg
    obtain ⟨f0, f1, f2, f3, f4, f5⟩ := hf it (by simp)
    obtain ⟨hs, es, hm, hsz, hen⟩ := pd_raw I.hok hd
    obtain ⟨ok, ov, he⟩ := st
    rw [← hsz] at he
    exact wpAny_pyNext_items_end_raw (I.ok.hd hc) he hm (by omega) fun h' eb => ⟨rfl, I.turned (t' := s.toks) (fun b ob hb e => eb b ob hb e) f0 f1 f3 f4 f5⟩
  self := fun A i s Q E st h => let ⟨_, _, e⟩ := st; PySem.W.kcp_self e h
section
variable {X : Cx} {o i e f value tg : Expr} {pos pos' apos cpos : Pos} {td ty tx tv tk : TE}
theorem pi_pitems {elts : List Expr} {kk : Nat} {tpos : Pos} (he : PE X e td) (hbase : attributeBase e "items" X.env (eval e X.env) = eval e X.env := by rfl) (hline : (apos.endLine == cpos.line) = true := by rfl) :
    PI X (.Tuple elts kk tpos) (.Call (.Attribute e "items" apos) [] [] cpos) (iPItems X.prog X.w td) := by
  refine ⟨fun pins s σ H R I h => ?_⟩
  refine wpAny_Call_method (T := "dict") (id := "dict.items") hbase rfl hline F.plainAttrs_dict F.slot_dict_items F.type_dict_items (thn (he.run pins s σ H _ I h) fun u s1 ⟨x, H1, I1, rx, d, rows, ep, ex, hd, q⟩ => ?_)
  subst ex
  obtain rfl : u = Value.ref d := rx
  obtain ⟨hs, es, hm, hsz, hen⟩ := pd_raw I1.hok hd
  have hm' := hm
  obtain ⟨ob, hob, hx, hdt⟩ := hm'
  refine ⟨⟨ob, hob, hx.1⟩, fun b q => ?_, ?_⟩
  · cases q; exact ⟨ob, hob, hx.2.1⟩
  have I2 : Inv X pins σ H1 { s1 with heap := s1.heap.push { cls := .type "dict_items", data := .fields #[.ref d] } } := I1.kept (t' := s1.toks) fun b ob q => Heap.get?_push_of_some _ q
  have fin : wpAny (model X.prog X.w) X.A (pyIter (.ref s1.heap.objs.size)) (PIE X pins σ (.Tuple elts kk tpos) R) X.xe { s1 with heap := s1.heap.push { cls := .type "dict_items", data := .fields #[.ref d] } } := by
    refine wpAny_pyIter_items_raw (d := d) (es := es) (ep := ep) ⟨_, Heap.get?_push_size _ rfl, rfl, rfl⟩ (hm.at fun o e => Heap.get?_push_of_some _ e) (pi_one (tk := s1.toks) I2 _ (turn_pitems _) ⟨.none, .none, ?_⟩ q)
    rw [← hsz]
    exact Heap.get?_push_size _ rfl
  show wpAny _ _ (callWith cpos (.builtin "dict.items") [.ref d] [] []) _ X.xe s1
  exact method_meetsIn F.slot_dict_items F.entry_dict_items rfl (PySem.evalArgs_none ⟨rfl, hm.typeIs, F.args_dict_items_1 _, _, meets_dict_items_raw d hs, ⟨⟨es, ep, hm⟩, fin⟩⟩)
theorem pe_pvals (he : PE X e td) (hbase : attributeBase e "values" X.env (eval e X.env) = eval e X.env := by rfl) (hline : (apos.endLine == cpos.line) = true := by rfl) :
    PE X (.Call (.Attribute e "values" apos) [] [] cpos) (tPVals X.prog X.w td) := by
  refine ⟨fun pins s σ H Q I h => ?_⟩
  refine wpAny_Call_method (T := "dict") (id := "dict.values") hbase rfl hline F.plainAttrs_dict F.slot_dict_values F.type_dict_values (thn (he.run pins s σ H _ I h) fun u s1 ⟨x, H1, I1, rx, d, rows, ep, ex, hd, q⟩ => ?_)
  subst ex
  obtain rfl : u = Value.ref d := rx
  obtain ⟨hs, es, hm, hsz, hen⟩ := pd_raw I1.hok hd
  have hm' := hm
  obtain ⟨ob, hob, hx, hdt⟩ := hm'
  refine ⟨⟨ob, hob, hx.1⟩, fun b q => ?_, ?_⟩
  · cases q; exact ⟨ob, hob, hx.2.1⟩
  have hf : H1 s1.heap.objs.size = none := I1.hok.fresh (Nat.le_refl _)
  have vw : (s1.heap.push { cls := .type "dict_values", data := .fields #[.ref d] }).IsValuesView s1.heap.objs.size d := ⟨_, Heap.get?_push_size _ rfl, rfl, rfl⟩
  show wpAny _ _ (callWith cpos (.builtin "dict.values") [.ref d] [] []) _ X.xe s1
  refine method_meetsIn F.slot_dict_values F.entry_dict_values rfl (PySem.evalArgs_none ⟨rfl, hm.typeIs, F.args_dict_values_1 _, _, meets_dict_values_raw d hs, ⟨⟨es, ep, hm⟩, ?_⟩⟩)
  exact ⟨.ref s1.heap.objs.size, _, I1.laid (t' := s1.toks) (o := pvO s1.heap.objs.size d) (fun b u e => Heap.get?_push_of_some _ e) (Nat.le_refl _) ⟨vw, ⟨_, Heap.get?_push_size _ rfl⟩, fun h1 h2 ⟨o, ho, r⟩ k => ⟨o, k o ho, r⟩⟩, rfl, q _ hf⟩
theorem sum_nonneg : ∀ {l : List Int}, (∀ x ∈ l, 0 ≤ x) → 0 ≤ l.sum
  | [], _ => Int.le_refl 0
  | x :: l, h => by
    have h1 := h x List.mem_cons_self
    have h2 := sum_nonneg (l := l) fun y hy => h y (List.mem_cons_of_mem _ hy)
    rw [List.sum_cons]; omega
theorem take_sum_succ {l : List Int} {j : Nat} (h : j < l.length) : (l.take (j + 1)).sum = (l.take j).sum + l.getD j 0 := by
  rw [List.take_add_one, List.sum_append, List.getD_eq_getElem?_getD, List.getElem?_eq_getElem h]
  simp
theorem preSum_take (l : List Int) : ∀ j, j ≤ l.length → preSum (fun i => l.getD i 0) j = (l.take j).sum
  | 0, _ => by simp [preSum]
  | j + 1, h => by
    show preSum _ j + _ = _
    rw [preSum_take l j (by omega), take_sum_succ (by omega)]
theorem call_sumP (hc : X.calm = true) : CallR X (.builtin "sum") (rSumP X.prog X.w) := by
  intro pins s σ H xs us Q I r h
  obtain ⟨p, a, rows, ep, rfl, hp, ha, h0, hs, q⟩ := h
  obtain rfl := Vals.ref1 r
  have view : s.heap.IsValuesView p a := (show ObjOk X.prog X.w H s.heap p (pvO p a) from I.hok p _ hp).1
  obtain ⟨hsy, es, hm, hsz, hen⟩ := pd_raw I.hok ha
  have hlt : a < s.heap.objs.size := let ⟨_, ho, _⟩ := hm; Heap.lt_size ho
  obtain ⟨l, hl⟩ : ∃ l, rows.map (·.2.2) = l := ⟨_, rfl⟩
  rw [hl] at hs q
  have hll : l.length = es.size := by rw [← hl, List.length_map, hsz]
  have hval : ∀ (i : Nat) (v : Value), (∃ hi : i < es.size, v = es[i].val) → ∃ t, v = Value.int ((fun i => l.getD i 0) i) t := fun i v ⟨hi, e⟩ => by
    obtain ⟨r, hr⟩ : ∃ r, rows[i]? = some r := ⟨_, List.getElem?_eq_getElem (by omega)⟩
    obtain ⟨_, _, t, ev⟩ := hen i r hr
    have e2 : l.getD i 0 = r.2.2 := by
      rw [← hl, List.getD_eq_getElem?_getD, List.getElem?_map, hr]; rfl
    refine ⟨t, ?_⟩
    show v = Value.int (l.getD i 0) t
    rw [e, ev, e2]
  have l0 : ∀ x ∈ l, 0 ≤ x := fun x hx => by
    rw [← hl] at hx
    obtain ⟨r, hr, rfl⟩ := List.mem_map.mp hx
    exact h0 r hr
  have hpre : ∀ j, j ≤ l.length → 0 ≤ (l.take j).sum ∧ (l.take j).sum ≤ l.sum := fun j hj => by
    have e : l.sum = (l.take j).sum + (l.drop j).sum := by rw [← List.sum_append, List.take_append_drop]
    have h1 := sum_nonneg (l := l.take j) fun x hx => l0 x (List.mem_of_mem_take hx)
    have h2 := sum_nonneg (l := l.drop j) fun x hx => l0 x (List.mem_of_mem_drop hx)
    omega
  refine call_sum_walk (wpAny_pyIter_values_raw (d := a) (es := es) (ep := ep) view hm ?_)
  refine ⟨_, _, _, _, _, _, fun i => l.getD i 0, rfl, Walks.rawValues (A := X.A.in1) (I.ok.hd hc) s.heap.objs.size a (Nat.ne_of_lt hlt) es ep,
    ⟨⟨_, Heap.get?_push_size _ rfl, rfl, rfl⟩, hm.at fun o e => Heap.get?_push_of_some _ e⟩, fun b hb => ?_, hval, fun j hj => ?_, fun h' tk t' hk => ?_⟩
  · show b < (s.heap.push _).objs.size
    rw [Heap.size_push]
    rcases List.mem_cons.mp hb with e | hb
    · rw [e]; exact Nat.lt_succ_self _
    · have e : b = a := List.mem_singleton.mp hb
      rw [e]; exact Nat.lt_succ_of_lt hlt
  · have hj' : j < l.length := by omega
    obtain ⟨g1, g2⟩ := hpre j (by omega)
    obtain ⟨g3, g4⟩ := hpre (j + 1) (by omega)
    have e2 := take_sum_succ hj'
    have e3 : 0 ≤ l.getD j 0 := by
      have := l0 l[j] (List.getElem_mem hj')
      simpa [List.getD_eq_getElem?_getD, List.getElem?_eq_getElem hj'] using this
    refine ⟨show -(2 ^ 63) ≤ l.getD j 0 ∧ l.getD j 0 < 2 ^ 63 from ⟨by omega, by omega⟩, ?_⟩
    rw [preSum_take l (j + 1) (by omega)]
    exact ⟨by omega, by omega⟩
  · rw [preSum_take l es.size (by omega), ← hll, List.take_length]
    refine ⟨.int l.sum, H, I.kept (t' := tk) fun b u e => hk b u (fun hmem => ?_) (Heap.get?_push_of_some _ e), ⟨_, rfl⟩, q⟩
    have e1 : b = s.heap.objs.size := List.mem_singleton.mp hmem
    have e2 := Heap.lt_size e
    rw [e1] at e2
    exact absurd e2 (Nat.lt_irrefl _)
end

section
variable {κ : Type} [DecidableEq κ]
def valI (kvs : List (κ × Int)) (k : κ) : Option Int := (kvs.find? fun p => decide (p.1 = k)).map (·.2)
def putI (kvs : List (κ × Int)) (k : κ) (m : Int) : List (κ × Int) := if kvs.any (fun p => decide (p.1 = k)) then kvs.map (fun p => if p.1 = k then (p.1, m) else p) else kvs ++ [(k, m)]
theorem putI_len (kvs : List (κ × Int)) (k : κ) (m : Int) : (putI kvs k m).length ≤ kvs.length + 1 := by
  unfold putI
  split
  · rw [List.length_map]; omega
  · rw [List.length_append]; exact Nat.le_refl _
end
abbrev kk (k : List Str) : List Key := k.map Sum.inr
theorem kk_inj {a b : List Str} (h : kk a = kk b) : a = b := by
  induction a generalizing b with
  | nil => cases b with
    | nil => rfl
    | cons y b => simp [kk] at h
  | cons x a ih => cases b with
    | nil => simp [kk] at h
    | cons y b =>
      simp only [kk, List.map_cons, List.cons.injEq, Sum.inr.injEq] at h
      rw [h.1, ih h.2]
theorem kk_kV (k : List Str) : (kk k).map kV = k.map V.str := by rw [List.map_map]; rfl
def rowKV (rows : List Row) : List (List Key × Int) := rows.map fun r => (r.1, r.2.2)
def kvK (kvs : List (List Str × Int)) : List (List Key × Int) := kvs.map fun p => (kk p.1, p.2)
theorem valR_eq {rows : List Row} {kvs : List (List Str × Int)} (h : rowKV rows = kvK kvs) (k : List Str) : valR rows (kk k) = valI kvs k := by
  induction rows generalizing kvs with
  | nil => cases kvs with
    | nil => rfl
    | cons p kvs => simp [rowKV, kvK] at h
  | cons r rows ih => cases kvs with
    | nil => simp [rowKV, kvK] at h
    | cons p kvs =>
      simp only [rowKV, kvK, List.map_cons, List.cons.injEq, Prod.mk.injEq] at h
      obtain ⟨⟨h1, h2⟩, h3⟩ := h
      by_cases e : p.1 = k
      · have e' : r.1 = kk k := by rw [h1, e]
        simp [valR, valI, List.find?_cons, e, e', h2]
      · have e' : ¬ r.1 = kk k := fun z => e (kk_inj (h1.symm.trans z))
        have i1 : valR (r :: rows) (kk k) = valR rows (kk k) := by simp [valR, List.find?_cons, e']
        have i2 : valI (p :: kvs) k = valI kvs k := by simp [valI, List.find?_cons, e]
        rw [i1, i2]
        exact ih h3
theorem putR_eq {rows : List Row} {kvs : List (List Str × Int)} (h : rowKV rows = kvK kvs) (k : List Str) (b : Addr) (m : Int) : rowKV (putR rows (kk k) b m) = kvK (putI kvs k m) := by
  have hany : ∀ {rows : List Row} {kvs : List (List Str × Int)}, rowKV rows = kvK kvs → (rows.any fun r => decide (r.1 = kk k)) = kvs.any fun p => decide (p.1 = k) := by
    intro rows kvs h
    have e1 : (rows.any fun r => decide (r.1 = kk k)) = (rowKV rows).any fun r => decide (r.1 = kk k) := by unfold rowKV; rw [List.any_map]; rfl
    rw [e1, h]
    unfold kvK
    rw [List.any_map]
    congr 1
    funext p
    show decide (kk p.1 = kk k) = decide (p.1 = k)
    by_cases e : p.1 = k
    · rw [e]; simp
    · rw [decide_eq_false e, decide_eq_false fun z => e (kk_inj z)]
  unfold putR putI
  rw [hany h]
  split
  · clear hany
    unfold rowKV kvK at *
    rw [List.map_map, List.map_map]
    rename_i hx
    clear hx
    induction rows generalizing kvs with
    | nil => cases kvs with
      | nil => rfl
      | cons p kvs => simp at h
    | cons r rows ih => cases kvs with
      | nil => simp at h
      | cons p kvs =>
        simp only [List.map_cons, List.cons.injEq, Prod.mk.injEq] at h ⊢
        obtain ⟨⟨h1, h2⟩, h3⟩ := h
        refine ⟨?_, ih h3⟩
        show ((if r.1 = kk k then (r.1, r.2.1, m) else r).1, (if r.1 = kk k then (r.1, r.2.1, m) else r).2.2) = (kk (if p.1 = k then (p.1, m) else p).1, (if p.1 = k then (p.1, m) else p).2)
        by_cases e : p.1 = k
        · have e' : r.1 = kk k := by rw [h1, e]
          rw [if_pos e, if_pos e', h1]
        · have e' : ¬ r.1 = kk k := fun z => e (kk_inj (h1.symm.trans z))
          rw [if_neg e, if_neg e', h1, h2]
  · unfold rowKV kvK at *
    rw [List.map_append, List.map_append, h]; rfl
theorem putR_keyed {N : Hp} {rows : List Row} {k : List Key} {b : Addr} {o : Obj} {m : Int} (ky : Keyed N rows) (ho : o.dict = none) (hb : N b = some (.frz o (.tup (k.map kV)))) : Keyed N (putR rows k b m) := by
  unfold putR
  split
  · intro r hr
    obtain ⟨q, hq, rfl⟩ := List.mem_map.mp hr
    obtain ⟨o2, a1, a2⟩ := ky q hq
    split
    · exact ⟨o2, a1, a2⟩
    · exact ⟨o2, a1, a2⟩
  · intro r hr
    rcases List.mem_append.mp hr with z | z
    · exact ky r z
    · have e : r = (k, b, m) := List.mem_singleton.mp z
      subst e
      exact ⟨o, ho, hb⟩
def PdF (P : Program) (w : World) (kvs : List (List Str × Int)) : Addr → Hp → HO → Prop := fun a N u => ∃ rows ep, u = pdO P w a rows ep ∧ Keyed N rows ∧ rowKV rows = kvK kvs
theorem PdF.mono (P : Program) (w : World) (kvs : List (List Str × Int)) : ∀ a N N' u, (∀ b o, N b = some o → N' b = some o) → PdF P w kvs a N u → PdF P w kvs a N' u := fun a N N' u e ⟨rows, ep, h1, h2, h3⟩ => ⟨rows, ep, h1, h2.mono e, h3⟩
def pdD (P : Program) (w : World) (kvs : List (List Str × Int)) : D := .opq (PdF P w kvs) (PdF.mono P w kvs)
def PdP (P : Program) (w : World) (kvs : List (List Str × Int)) : Hp → V → Prop := fun N v => ∃ a u, v = .ref a ∧ N a = some u ∧ PdF P w kvs a N u
theorem PdP.mono (P : Program) (w : World) (kvs : List (List Str × Int)) : ∀ N N' v, Ex N N' → PdP P w kvs N v → PdP P w kvs N' v := fun N N' v e ⟨a, u, h1, h2, h3⟩ => ⟨a, u, h1, e _ _ h2, PdF.mono P w kvs _ _ _ _ e h3⟩
/-- the slot of such a dict that changes no more -/
def pdS (P : Program) (w : World) (kvs : List (List Str × Int)) : Sl := .prd (PdP P w kvs) (PdP.mono P w kvs)
theorem Sg.setP {N : Hp} {σ : St} {ρ : List Sl} {v : V} {P : Hp → V → Prop} {m : ∀ N N' v, Ex N N' → P N v → P N' v} (S : Sg N σ ρ) (i : Nat) (h : P N v) : Sg N (σ.set i (some v)) (ρ.set i (.prd P m)) := by
  refine ⟨by simp [S.len], fun j w e => ?_, fun j w e => ?_, fun j w m2 e => ?_⟩
  · by_cases q : i = j
    · subst q
      rw [List.getElem?_set] at e
      split at e
      · split at e <;> simp at e
      · exact absurd rfl ‹_›
    · rw [List.getElem?_set_ne q] at e ⊢
      exact S.val j w e
  · by_cases q : i = j
    · subst q
      rw [List.getElem?_set] at e
      split at e
      · split at e <;> simp at e
      · exact absurd rfl ‹_›
    · rw [List.getElem?_set_ne q] at e ⊢
      exact S.dat j w e
  · by_cases q : i = j
    · subst q
      rw [List.getElem?_set] at e
      simp only [if_true] at e
      split at e
      · rename_i hlt
        simp at e
        subst e
        refine ⟨v, ?_, h⟩
        rw [List.getElem?_set, if_pos rfl, if_pos (by rw [S.len]; exact hlt)]
      · simp at e
    · rw [List.getElem?_set_ne q] at e ⊢
      exact S.prd j w m2 e
section
variable {P : Program} {w : World} {K : PySem.W.Frag} {c : Ctx} {Ps : List (Addr × D)} {ρ ρ' : List Sl} {σ : St} {H : Hp} {De : Ends} {td ty tx tm tk tv : TE} {tz : TS} {kvs : List (List Str × Int)}
theorem el_pnew : EL (tPNew P w) ρ (pdD P w []) := fun σ N H S e Q k => fun p hp => k p N _ (Fr.laid e hp) hp (none_of_ex e hp) ⟨_, upd_same, nimm_ext, [], 0, rfl, fun r h => by simp at h, rfl⟩
theorem el_pd1 {k : List Str} {m : Int} (hk : E tk ρ (.ftup (k.map .str))) (hv : E tv ρ (.int m)) : EL (tPD1 P w tk tv) ρ (pdD P w [(k, m)]) := fun σ N H S e Q q => fun p hp => by
  have n0 := none_of_ex e hp
  have f0 : Fr [] N H N (upd H p (.dT [])) := Fr.laid e hp
  refine hk σ N _ S f0.sub _ fun x N1 H1 f1 r1 => hv σ N1 H1 (S.mono f1.sml) f1.sub _ fun y N2 H2 f2 r2 => ?_
  obtain ⟨b, o, xs, rfl, ho, hb, hx⟩ := r1.inv_ftup
  rw [hx.strs] at hb
  have d2 : H2 p = some (.dT []) := f2.ex _ _ (f1.ex _ _ upd_same)
  have k2 : N2 p = none := f2.new _ _ (f1.new _ _ n0 upd_same nimm_dT) (f1.ex _ _ upd_same) nimm_dT
  have F := (f0.trans f1).trans f2
  refine ⟨b, o, kk k, m, rfl, by rw [kk_kV]; exact f2.ex _ _ (f1.sub _ _ hb), r2.inv_int, d2, fun ep => ?_⟩
  refine q p N2 _ ⟨fun b o hb q => ?_, fun b q => ?_, F.sml, fun b o q => ?_, F.new, fun b u q n => ?_⟩ hp k2 ⟨_, upd_same, nimm_ext, [(kk k, b, m)], ep, rfl, fun r hr => ?_, rfl⟩
  · rw [upd_ne (ne_of_none q hp)]; exact F.big b o hb q
  · by_cases z : b = p
    · subst z; rw [upd_same]; exact fun z => nomatch z
    · rw [upd_ne z]; exact F.dom b q
  · rw [upd_ne (ne_of_none q k2)]; exact F.sub b o q
  · rw [upd_ne (ne_of_none q hp)]; exact F.chg b u q n
  · have er : r = (kk k, b, m) := List.mem_singleton.mp hr
    subst er
    refine ⟨o, ho, ?_⟩
    rw [kk_kV]
    exact f2.sml _ _ hb
theorem AtN.pd {N : Hp} {p : Addr} (a : AtN c Ps ρ σ H N) (hm : (p, pdD P w kvs) ∈ Ps) : ∃ rows ep, H p = some (pdO P w p rows ep) ∧ Keyed N rows ∧ rowKV rows = kvK kvs := by
  obtain ⟨_, h2, _⟩ := a.ps p _ hm
  rcases h2 with ⟨u, h1, _, rows, ep, rfl, h3, h4⟩ | ⟨z, _⟩
  · exact ⟨rows, ep, h1, h3, h4⟩
  · cases z
/-- d[k] = d.get(k, x) + m -/
theorem s_pput {i j : Nat} {p : Addr} {k : List Str} {x0 m : Int} {ty2 : TE} (a : At c Ps ρ σ H) (hi : ρ[i]? = some (.val (.ref p))) (hk : Ps[j]? = some (p, pdD P w kvs)) (hy : E ty ρ (.ftup (k.map .str))) (hx : E tx ρ (.int x0)) (hm : E tm ρ (.int m)) (hy2 : E ty2 ρ (.ftup (k.map .str))) (hz : kvs.length ≤ 99999)
    (kk' : ∀ H', At c (Ps.set j (p, pdD P w (putI kvs k ((valI kvs k).getD x0 + m)))) ρ σ H' → De.nx σ H') : sPPut P w (tVar i) ty2 (tOp (uAdd K) (tPGet2 P w (tVar i) ty tx) tm) De σ H := by
  obtain ⟨N, a⟩ := a
  have hmem : (p, pdD P w kvs) ∈ Ps := List.mem_of_getElem? hk
  refine ⟨_, a.sg.val i _ hi, ?_⟩
  refine ⟨p, rfl, let ⟨rows, ep, h1, _⟩ := a.pd hmem; ⟨rows, ep, h1⟩, ?_⟩
  refine a.e hy fun v1 N1 H1 a1 r1 => (a1.ext (Ex.refl N1)).e hx fun v2 N2 H2 a2 r2 => ?_
  obtain ⟨b, o, xs, rfl, ho, hb, hxs⟩ := r1.inv_ftup
  rw [hxs.strs] at hb
  obtain ⟨rows, ep, h1, h2, h3⟩ := a2.pd hmem
  have e12 : Ex N1 N2 := a2.ls N1 List.mem_cons_self
  refine ⟨rows, ep, b, o, kk k, h1, h2.mono a2.fr.sub, rfl, by rw [kk_kV]; exact a2.fr.sub _ _ (e12 _ _ hb), ?_⟩
  have eval : optV (valR rows (kk k)) v2 = .int ((valI kvs k).getD x0) := by
    rw [valR_eq h3, r2.inv_int]
    cases valI kvs k <;> rfl
  rw [eval]
  refine a2.e hm fun v3 N3 H3 a3 r3 => ?_
  refine .inl (rI0_int (fun _ => .int _) _ _ N3 H3 a3.fr.sub (.int _) r3 _ fun v4 N4 H4 f4 r4 => ?_)
  have a4 := a3.step f4
  refine ⟨_, a4.sg.val i _ hi, ?_⟩
  refine (a4.ext (Ex.refl N4)).e hy2 fun v5 N5 H5 a5 r5 => ?_
  obtain ⟨b2, o2, ys, rfl, ho2, hb2, hys⟩ := r5.inv_ftup
  rw [hys.strs] at hb2
  obtain ⟨rows5, ep5, g1, g2, g3⟩ := a5.pd hmem
  have hl : rows5.length = kvs.length := by
    have := congrArg List.length g3
    simpa [rowKV, kvK] using this
  have hb3 : N5 b2 = some (.frz o2 (.tup ((kk k).map kV))) := by rw [kk_kV]; exact hb2
  refine ⟨p, rows5, ep5, b2, o2, kk k, _, rfl, r4.inv_int, g1, g2.mono a5.fr.sub, rfl, a5.fr.sub _ _ hb3, lt_line (by omega), fun ep' => ?_⟩
  refine kk' _ ⟨N5, (a5.unext.unext).wrote hk (.inl ⟨_, upd_same, nimm_ext, _, ep', rfl, putR_keyed g2 ho2 hb3, putR_eq g3 k b2 _⟩)⟩
/-- such a dict changes no more -/
theorem At.freezeP {p : Addr} {i : Nat} (a : At c ((p, pdD P w kvs) :: Ps) ρ σ H) (hi : ρ[i]? = some (.val (.ref p))) (hM : p ∉ c.M) : At c Ps (ρ.set i (pdS P w kvs)) σ H := by
  obtain ⟨N, a⟩ := a
  obtain ⟨h1, h2, h3⟩ := a.ps p _ (List.mem_cons_self)
  have hH : c.H p = none := h3.resolve_left hM
  have nodup := List.nodup_cons.mp a.nd
  have e1 : Ex N (addH N H p) := addH_ex h1
  obtain ⟨rows, ep, g1, g2, g3⟩ := a.pd List.mem_cons_self
  refine ⟨addH N H p, ⟨a.fr.big, a.fr.dom, a.fr.sml.trans e1, addH_sub a.fr.sub, fun b u q1 q2 n => ?_, a.fr.chg⟩, ?_, fun L h => (a.ls L h).trans e1, fun q e hq => ?_, nodup.2⟩
  · rw [addH_ne (ne_of_none q2 hH)]; exact a.fr.new b u q1 q2 n
  · have hr : PdP P w kvs (addH N H p) (.ref p) := ⟨p, _, rfl, by rw [addH_same]; exact g1, rows, ep, rfl, g2.mono e1, g3⟩
    have S := a.sg.mono e1
    have hv := a.sg.val i _ hi
    have S2 := S.setP (m := PdP.mono P w kvs) i hr
    have e : σ.set i (some (V.ref p)) = σ := by
      apply List.ext_getElem?
      intro j
      by_cases z : i = j
      · subst z
        rw [List.getElem?_set]
        simp only [if_true]
        rw [hv, if_pos (at_lt hv)]
      · rw [List.getElem?_set_ne z]
    rw [e] at S2
    exact S2
  · obtain ⟨g1, g2, g3⟩ := a.ps q e (List.mem_cons_of_mem _ hq)
    have ne : q ≠ p := fun z => by
      subst z
      exact nodup.1 (inP_of hq)
    refine ⟨by rw [addH_ne ne]; exact g1, g2.keep e1 rfl, g3⟩
/-- another name for what is told by a slot's law -/
theorem s_asgP {i j : Nat} {F : Hp → V → Prop} {m : ∀ N N' v, Ex N N' → F N v → F N' v} (a : At c Ps ρ σ H) (hi : ρ[i]? = some (.prd F m)) (k : ∀ σ' H', At c Ps (ρ.set j (.prd F m)) σ' H' → De.nx σ' H') : tAsg (tVar i) (gName j) De σ H := by
  obtain ⟨N, a⟩ := a
  obtain ⟨v, h1, h2⟩ := a.sg.prd i F m hi
  exact ⟨v, h1, k _ _ ⟨N, a.fr, a.sg.setP j h2, a.ls, a.ps, a.nd⟩⟩
theorem q_asgP {i j : Nat} {F : Hp → V → Prop} {m : ∀ N N' v, Ex N N' → F N v → F N' v} (a : At c Ps ρ σ H) (hi : ρ[i]? = some (.prd F m)) (k : ∀ σ' H', At c Ps (ρ.set j (.prd F m)) σ' H' → tz De σ' H') : tSeq (tAsg (tVar i) (gName j)) tz De σ H := s_asgP (De := { De with nx := tz De }) a hi k
def pdRows (kvs : List (List Str × Int)) : List D := kvs.map fun p => .tup [.ftup (p.1.map .str), .int p.2]
theorem src_pitems {i : Nat} (hi : ρ[i]? = some (pdS P w kvs)) : Src (iPItems P w (tVar i)) ρ (pdRows kvs) := fun σ N H S e R q => by
  obtain ⟨v, h1, a, u, rfl, h2, rows, ep, rfl, ky, hr⟩ := S.prd i _ _ hi
  have hl : rows.length = kvs.length := by
    have := congrArg List.length hr
    simpa [rowKV, kvK] using this
  have hlD : (pdRows kvs).length = kvs.length := List.length_map _
  refine ⟨_, h1, a, rows, ep, rfl, e _ _ h2, q _ N H (Fr.refl e) ⟨fun i H' e' hi => ⟨e' _ _ h2, by omega⟩, fun i H' e' hi => ⟨e' _ _ h2, by omega⟩, fun i d x N' H' H2 hd eL eN y => ?_⟩⟩
  obtain ⟨T, r, rfl, hri, hT, rfl⟩ := y
  have hp : (rowKV rows)[i]? = some (r.1, r.2.2) := by unfold rowKV; rw [List.getElem?_map, hri]; rfl
  rw [hr] at hp
  unfold kvK at hp
  rw [List.getElem?_map] at hp
  unfold pdRows at hd
  rw [List.getElem?_map] at hd
  cases hk : kvs[i]? with
  | none => rw [hk] at hd; cases hd
  | some p =>
    rw [hk] at hd hp
    have hd := Option.some.inj hd
    have hp := Option.some.inj hp
    subst hd
    obtain ⟨o, ho, hb⟩ := ky r (List.mem_of_getElem? hri)
    simp only [Prod.mk.injEq] at hp
    have f := Fr.made (M := []) (o := .tup [.ref r.2.1, .int r.2.2]) eN hT
    refine ⟨_, f, .tup upd_same (.cons ?_ (.cons ?_ .nil))⟩
    · rw [← hp.1, kk_kV] at hb
      exact .ftup ho (f.sml _ _ (eL _ _ hb)) (Rps.of_strs _)
    · rw [hp.2]; exact .int _
theorem e_psum {i : Nat} (hi : ρ[i]? = some (pdS P w kvs)) (h0 : ∀ p ∈ kvs, 0 ≤ p.2) (hs : (kvs.map (·.2)).sum < 2 ^ 62) : E (tCB (rSumP P w) (tCons (tPVals P w (tVar i)) tNil)) ρ (.int (kvs.map (·.2)).sum) := fun σ N H S e Q q => by
  obtain ⟨v, h1, a, u, rfl, h2, rows, ep, rfl, ky, hr⟩ := S.prd i _ _ hi
  have hsum : rows.map (·.2.2) = kvs.map (·.2) := by
    have := congrArg (List.map Prod.snd) hr
    unfold rowKV kvK at this
    rw [List.map_map, List.map_map] at this
    exact this
  refine ⟨_, h1, a, rows, ep, rfl, e _ _ h2, fun p hp => ?_⟩
  refine ⟨p, a, rows, ep, rfl, upd_same, by rw [upd_ne (ne_of_none (e _ _ h2) hp)]; exact e _ _ h2, fun r hr2 => ?_, by rw [hsum]; exact hs, ?_⟩
  · have : r.2.2 ∈ rows.map (·.2.2) := List.mem_map.mpr ⟨r, hr2, rfl⟩
    rw [hsum] at this
    obtain ⟨p, hp, e2⟩ := List.mem_map.mp this
    rw [← e2]; exact h0 p hp
  · rw [hsum]
    exact q _ N _ (Fr.laid e hp) (.int _)
end

def rSortedQ (K : PySem.W.Frag) : List V → Hp → VK → Prop := fun xs H Q => ∃ d ks bs, xs = [V.ref d] ∧ SqT K H d (bs.map V.ref) ∧ Paired (fun (k : List Key) b => H b = some (.tup (k.map kV))) ks bs ∧ (∀ k ∈ ks, headS k = true) ∧ (∀ p ∈ ks, ∀ q ∈ ks, cmpOk p q = true) ∧
  ∀ p cs, H p = none → Paired (fun (k : List Key) b => H b = some (.tup (k.map kV))) (sortK ks) cs → (∀ b ∈ cs, b ∈ bs) → Q (.ref p) (upd H p (.lst (cs.map V.ref)))
theorem vals_refs_inv : ∀ {bs : List Addr} {its : List Value}, Vals (bs.map V.ref) its → its = bs.map Value.ref
  | [], _, r => by cases r; rfl
  | b :: bs, _, r => by
    cases r with
    | cons h t =>
      cases h
      rw [vals_refs_inv t]; rfl
section
variable {X : Cx}
theorem keysK2 {H : Hp} {h : Heap} (kt : ∀ (b : Addr) (k : List Key), H b = some (.tup (k.map kV)) → IsKT h (.ref b) k) : ∀ {ks : List (List Key)} {bs : List Addr}, Paired (fun (k : List Key) b => H b = some (.tup (k.map kV))) ks bs → ks = bs.map fun b => kOf h (.ref b)
  | _, _, .nil => rfl
  | _, _, .cons e t => by
    rw [List.map_cons, ← keysK2 kt t, kOf_eq (kt _ _ e)]
theorem call_sortedQ (K : PySem.W.Frag) (hK : X.K = K := by rfl) : CallR X (.builtin "sorted") (rSortedQ K) := by
  subst hK
  intro pins s σ H xs us Q I r q
  obtain ⟨d, ks, bs, rfl, hd, pr, hh, hcm, q⟩ := q
  obtain ⟨u, rfl, rx⟩ := vals1 r
  cases rx
  obtain ⟨its, rv, ⟨o, ho, hc, n, hdt⟩, z⟩ := I.tuple hd
  rw [List.length_map] at z
  obtain rfl := vals_refs_inv rv
  have hbl : ks.length = bs.length := Paired.length pr
  refine Calls.call_function_entry PyProof.Rows.kind_sorted PyProof.Rows.plain_sorted PyProof.Rows.entry_sorted (PyProof.Rows.args_sorted1 _) ?_
  unfold Builtin.«sorted»
  refine wpAny_bind (m := checkCount "sorted" 1 1 _) (wpAny_pure ?_)
  refine wpAny_bind (wpAny_collect_seq (A := X.A.in1) d (.inr rfl) ho hc hdt (fun h' hk => ?_) (by rw [List.size_toArray, List.length_map]; exact z))
  have hmem : ∀ v ∈ bs.map Value.ref, ∃ b, ∃ p ∈ ks, v = Value.ref b ∧ H b = some (.tup (p.map kV)) ∧ b ∈ bs := fun v hv => by
    obtain ⟨b, hb, rfl⟩ := List.mem_map.mp hv
    obtain ⟨p, hp, e⟩ := paired_get pr b hb
    exact ⟨b, p, hp, rfl, e, hb⟩
  have I1 : Inv X pins σ H { s with heap := h', toks := s.toks } := I.kept hk
  have hal : (bs.map Value.ref).length = ks.length := by rw [List.length_map, hbl]
  refine wpAny_bind (wpAny_newList ?_ (by rw [List.length_map]; exact z))
  have hoL : (h'.push (seqObj "list" (bs.map Value.ref).toArray 0)).get? h'.objs.size = some (seqObj "list" (bs.map Value.ref).toArray 0) := Heap.get?_push_size _ rfl
  have keep1 : ∀ b o, h'.get? b = some o → (h'.push (seqObj "list" (bs.map Value.ref).toArray 0)).get? b = some o := fun b o e => Heap.get?_push_of_some _ e
  have kt : ∀ b k, H b = some (.tup (List.map kV k)) → IsKT (h'.push (seqObj "list" (bs.map Value.ref).toArray 0)) (.ref b) k := fun b k e => (isKT_of I1.hok e).keep fun c o e2 _ => keep1 c o e2
  show wpAny _ _ _ _ _ { s with heap := h'.push (seqObj "list" (bs.map Value.ref).toArray 0), toks := s.toks }
  let ltv : Value → Value → Bool := fun v u => lexK (kOf (h'.push (seqObj "list" (bs.map Value.ref).toArray 0)) v) (kOf (h'.push (seqObj "list" (bs.map Value.ref).toArray 0)) u)
  have O : SrtO.Swo ltv := ⟨fun x y h => lexK_asym h, fun x y z h1 h2 => lexK_nlt h1 h2⟩
  refine wpAny_bind (wpAny_holding (wpAny_call_entry slot_list_sort ⟨_, hoL, rfl⟩ entry_list_sort (SrtO.list_sort_ord (s := { s with heap := h'.push (seqObj "list" (bs.map Value.ref).toArray 0), toks := s.toks }) O hoL (by rw [List.length_map]; exact z)
    (fun h2 => sortableK (s := { s with heap := h'.push (seqObj "list" (bs.map Value.ref).toArray 0), toks := s.toks }) (fun v hv => ?_) (fun v hv u hu => ?_) (by omega) (fun o' e => ?_)) fun out hs1 hb1 => ⟨_, rfl, ?_⟩) (args_list_sort _)))
  · obtain ⟨b, p, hp, rfl, e, _⟩ := hmem v hv
    exact ⟨p, kt b p e, hh p hp⟩
  · obtain ⟨b, p, hp, rfl, e, _⟩ := hmem v hv
    obtain ⟨b2, p2, hp2, rfl, e2, _⟩ := hmem u hu
    rw [kOf_eq (kt b p e), kOf_eq (kt b2 p2 e2)]
    exact hcm p hp p2 hp2
  · rw [hoL] at e
    cases e
    intro y
    exact absurd (Value.type.inj y) (by decide)
  · have hperm : out.Perm (bs.map Value.ref) := hb1.perm
    obtain ⟨cs, rfl, hcs⟩ := refs_back (H := H) (out := out) fun v hv => by
      obtain ⟨b, p, _, h1, h2, _⟩ := hmem v (hperm.mem_iff.mp hv)
      exact ⟨b, p, h1, h2⟩
    have hin : ∀ b ∈ cs, b ∈ bs := fun b hb => by
      have h1 : Value.ref b ∈ bs.map Value.ref := hperm.mem_iff.mp (List.mem_map.mpr ⟨b, hb, rfl⟩)
      obtain ⟨c, hc, e⟩ := List.mem_map.mp h1
      have e2 : c = b := Value.ref.inj e
      rw [← e2]; exact hc
    obtain ⟨e', he'⟩ := PyProof.Rows.sortedHeap_at (vs := bs.map Value.ref) (out := (cs.map Value.ref).toArray) hoL
    have hcl : cs.length = bs.length := by
      have := hperm.length_eq
      rwa [List.length_map, List.length_map] at this
    have hkeys := pairedK kt hcs
    have hsorted : (cs.map fun b => kOf (h'.push (seqObj "list" (bs.map Value.ref).toArray 0)) (.ref b)).Pairwise fun a b => leK a b = true := by
      rw [List.pairwise_map]
      have h1 : (cs.map Value.ref).Pairwise fun x y => ltv y x = false := hs1
      rw [List.pairwise_map] at h1
      exact h1.imp fun {x y} h => by
        have h : lexK (kOf (h'.push (seqObj "list" (bs.map Value.ref).toArray 0)) (.ref y)) (kOf (h'.push (seqObj "list" (bs.map Value.ref).toArray 0)) (.ref x)) = false := h
        unfold leK
        rw [h]; rfl
    have hp2 : (cs.map fun b => kOf (h'.push (seqObj "list" (bs.map Value.ref).toArray 0)) (.ref b)).Perm ks := by
      have h3 := hperm.map fun v => kOf (h'.push (seqObj "list" (bs.map Value.ref).toArray 0)) v
      rw [List.map_map, List.map_map] at h3
      have e4 := keysK2 kt pr
      exact h3.trans (.of_eq e4.symm)
    rw [sortK_unique hp2 hsorted] at hkeys
    refine wpAny_pure ⟨_, rfl, .ref h'.objs.size, upd H h'.objs.size (.lst (cs.map V.ref)), I1.laid (t' := s.toks) (fun b u e => ?_) (Nat.le_refl _)
      (show ObjOk X.prog X.w _ _ _ (.lst (cs.map V.ref)) from ⟨by rw [List.length_map, hcl]; exact z, cs.map Value.ref, e', vals_refs cs, he'⟩), rfl, q _ cs (I1.hok.fresh (Nat.le_refl _)) hkeys hin⟩
    have hb : b < h'.objs.size := Heap.lt_size e
    rw [PyProof.Rows.sortedHeap_old (Nat.ne_of_lt hb) (by rw [size_push']; exact Nat.lt_succ_of_lt hb)]
    exact Heap.get?_push_of_some _ e
/-! lots -/
def encLot (l : List Int) : PyData := .tuple [.int l.length, .tuple (l.map .int)]
def sortLots (l : List (List Int)) : List (List Int) := l.mergeSort (PySem.W.dataLe false encLot)
def IsLot (K : PySem.W.Frag) (H : Hp) (y : V × List Int) : Prop := ∃ c b, y.1 = .ref c ∧ H c = some (.tup [.int y.2.length, .ref b]) ∧ H b = some (.tup (y.2.map V.int))
def sortY (ys : List (V × List Int)) : List (V × List Int) := ys.mergeSort (PySem.W.dataLe false fun y => encLot y.2)
def rSortedL (K : PySem.W.Frag) : List V → Hp → VK → Prop := fun xs H Q => ∃ a ys, xs = [V.ref a] ∧ SqL K H a (ys.map Prod.fst) ∧ (∀ y ∈ ys, IsLot K H y) ∧ ∀ p, H p = none → Q (.ref p) (upd H p (.lst ((sortY ys).map Prod.fst)))
theorem dp_ints {K : PySem.W.Frag} {H : Hp} : ∀ l : List Int, DpAll K H (l.map V.int) (l.map PyData.int)
  | [] => .nil
  | i :: l => .cons (.int i) (dp_ints l)
theorem IsLot.dp {K : PySem.W.Frag} {H : Hp} {y : V × List Int} (h : IsLot K H y) : Dp K H y.1 (encLot y.2) := by
  obtain ⟨c, b, e, h1, h2⟩ := h
  rw [e]
  exact .tup (SqT.of h1) (.cons (.int _) (.cons (.tup (SqT.of h2) (dp_ints _)) .nil))
theorem each_of_vals {R : V × List Int → Prop} : ∀ {ys : List (V × List Int)} {its : List Value}, Vals (ys.map Prod.fst) its → (∀ y ∈ ys, R y) → PySem.W.EachIs (fun v y => RelV y.1 v ∧ R y) its ys
  | [], _, r, _ => by cases r; exact .nil
  | y :: ys, _, r, h => by
    cases r with
    | cons r1 r2 => exact .cons ⟨r1, h y List.mem_cons_self⟩ (each_of_vals r2 fun y hy => h y (List.mem_cons_of_mem _ hy))
theorem vals_of_each {R : V × List Int → Prop} : ∀ {ys : List (V × List Int)} {its : List Value}, PySem.W.EachIs (fun v y => RelV y.1 v ∧ R y) its ys → Vals (ys.map Prod.fst) its
  | _, _, .nil => .nil
  | _, _, .cons h t => .cons h.1 (vals_of_each t)
theorem each_imp {α β : Type} {R S : α → β → Prop} (f : ∀ a b, R a b → S a b) : ∀ {xs : List α} {ys : List β}, PySem.W.EachIs R xs ys → PySem.W.EachIs S xs ys
  | _, _, .nil => .nil
  | _, _, .cons h t => .cons (f _ _ h) (each_imp f t)
theorem encLot_depth (l : List Int) : (encLot l).depth = 2 := by
  show max (PyData.depth (.int _)) (max (PyData.depthAll (l.map .int) + 1) 0) + 1 = 2
  rw [PySem.W.depth_ints]
  simp [PyData.depth]
theorem alike_lots (a b : List Int) : PySem.W.alike (encLot a) (encLot b) = true := by
  simp [encLot, PySem.W.alike, PySem.W.alikeAll, PySem.W.alike_ints]
theorem call_sortedL (K : PySem.W.Frag) (hu : X.A.units + 64 < cLine) (hK : X.K = K := by rfl) : CallR X (.builtin "sorted") (rSortedL K) := by
  subst hK
  intro pins s σ H xs us Q I r q
  obtain ⟨a, ys, rfl, hs, hl, q⟩ := q
  obtain rfl := Vals.ref1 r
  obtain ⟨its, rv, hp, z⟩ := I.list hs
  rw [List.length_map] at z
  refine PySem.W.sorted_data (bs := ys) (enc := fun y => encLot y.2) (R := fun v y => RelV y.1 v ∧ IsLot X.K H y) hp.isList (each_of_vals rv hl) (each_imp (fun v y h => Dp.reads I _ _ _ h.2.dp h.1) (each_of_vals rv hl)) (PySem.W.AllAlike.of fun a b => alike_lots a.2 b.2) (PySem.W.Sortable.tuples fun b => ⟨_, _, rfl⟩) z
    (fun y hy => by rw [encLot_depth]; omega) fun out ho eo => ?_
  obtain ⟨e, he⟩ := PyProof.Rows.sortedAll_at s.heap its (List.toArray out)
  refine ⟨.ref (s.heap.objs.size + 1), _, I.laid (t' := s.toks) (o := .lst ((sortY ys).map Prod.fst)) (fun b u q => PyProof.Rows.sortedAll_old q) (Nat.le_succ _) ⟨?_, out, e, vals_of_each eo, he⟩, rfl, q _ (I.hok.fresh (Nat.le_succ _))⟩
  rw [List.length_map]
  show (List.mergeSort ys _).length ≤ _
  rw [List.length_mergeSort]; exact z
end
section
variable {K : PySem.W.Frag} {ρ : List Sl} {ta : TE}
theorem paired_enc {N : Hp} : ∀ {ks : List (List Key)} {vs : List V}, Rps N vs (ks.map encK) → ∃ bs : List Addr, vs = bs.map V.ref ∧ Paired (fun (k : List Key) b => N b = some (.tup (k.map kV))) ks bs
  | [], _, r => ⟨[], r.inv_nil, .nil⟩
  | k :: ks, _, r => by
    obtain ⟨v, vs, rfl, h1, h2⟩ := Rps.inv_cons r
    obtain ⟨b, rfl, hb⟩ := h1.keyInv
    obtain ⟨bs, rfl, hp⟩ := paired_enc h2
    exact ⟨b :: bs, rfl, .cons hb hp⟩
theorem el_sortedQ {ks : List (List Key)} (h : E ta ρ (.tup (ks.map encK))) (hh : ∀ k ∈ ks, headS k = true) (hc : ∀ p ∈ ks, ∀ q ∈ ks, cmpOk p q = true) : EL (tCB (rSortedQ K) (tCons ta tNil)) ρ (.lst ((sortK ks).map encK)) := el_call (ea1 h) fun xs N H e r Q k => by
  obtain ⟨v, rfl, h1⟩ := r.one
  obtain ⟨a, vs, rfl, g1, g2⟩ := h1.inv_tup
  obtain ⟨bs, rfl, hp⟩ := paired_enc g2
  refine ⟨a, ks, bs, rfl, SqT.of (e _ _ g1), L2.Paired.mapP hp fun _ _ z => e _ _ z, hh, hc, fun p cs hpn hcs hin => ?_⟩
  refine k p N _ (Fr.laid e hpn) hpn (none_of_ex e hpn) ⟨cs.map V.ref, upd_same, ?_⟩
  have hb : ∀ b ∈ cs, ∃ k, N b = some (.tup (List.map kV k)) := fun b hb => let ⟨k, _, z⟩ := paired_get hp b (hin b hb); ⟨k, z⟩
  clear hin hp g1 g2 h1 r
  generalize sortK ks = l at hcs ⊢
  induction hcs with
  | nil => exact .nil
  | @cons k0 b0 l0 cs0 r t ih =>
    refine .cons (Rp.keyT ?_) (ih fun b hb' => hb b (List.mem_cons_of_mem _ hb'))
    obtain ⟨k2, hk2⟩ := hb b0 List.mem_cons_self
    have := e _ _ hk2
    rw [r] at this
    rw [hk2, this]
def lotD (l : List Int) : D := .tup [.int l.length, .tup (l.map .int)]
theorem rps_zip {N : Hp} : ∀ {ls : List (List Int)} {vs : List V}, Rps N vs (ls.map lotD) → (vs.zip ls).map Prod.fst = vs ∧ (vs.zip ls).map Prod.snd = ls ∧ ∀ y ∈ vs.zip ls, Rp N y.1 (lotD y.2)
  | [], _, r => by
    have := r.inv_nil
    subst this
    exact ⟨rfl, rfl, fun y hy => by simp at hy⟩
  | l :: ls, _, r => by
    obtain ⟨v, vs, rfl, h1, h2⟩ := Rps.inv_cons r
    obtain ⟨g1, g2, g3⟩ := rps_zip h2
    refine ⟨by rw [List.zip_cons_cons, List.map_cons, g1], by rw [List.zip_cons_cons, List.map_cons, g2], fun y hy => ?_⟩
    rw [List.zip_cons_cons] at hy
    rcases List.mem_cons.mp hy with z | z
    · rw [z]; exact h1
    · exact g3 y z
theorem el_sortedL {ls : List (List Int)} (h : E ta ρ (.lst (ls.map lotD))) : EL (tCB (rSortedL K) (tCons ta tNil)) ρ (.lst ((sortLots ls).map lotD)) := el_call (ea1 h) fun xs N H e r Q k => by
  obtain ⟨v, rfl, h1⟩ := r.one
  obtain ⟨a, vs, rfl, g1, g2⟩ := h1.inv_lst
  obtain ⟨z1, z2, z3⟩ := rps_zip g2
  refine ⟨a, vs.zip ls, rfl, by rw [z1]; exact SqL.of (e _ _ g1), fun y hy => ?_, fun p hp => ?_⟩
  · obtain ⟨c, xs, e1, h2, h3⟩ := (z3 y hy).inv_tup
    obtain ⟨v1, v2, rfl, r1, r2⟩ := h3.two
    obtain ⟨b, xs2, rfl, h4, h5⟩ := r2.inv_tup
    rw [r1.inv_int] at h2
    rw [h5.ints] at h4
    exact ⟨c, b, e1, e _ _ h2, e _ _ h4⟩
  · refine k p N _ (Fr.laid e hp) hp (none_of_ex e hp) ⟨_, upd_same, ?_⟩
    have es : (sortY (vs.zip ls)).map Prod.snd = sortLots ls := by
      have := List.map_mergeSort (r := PySem.W.dataLe false fun y : V × List Int => encLot y.2) (s := PySem.W.dataLe false encLot) (f := Prod.snd) (l := vs.zip ls) (fun a _ b _ => rfl)
      rw [z2] at this
      exact this
    rw [← es]
    have hz : ∀ y ∈ sortY (vs.zip ls), Rp N y.1 (lotD y.2) := fun y hy => z3 y ((List.mergeSort_perm _ _).mem_iff.mp hy)
    generalize sortY (vs.zip ls) = l at hz
    clear es z1 z2 z3
    induction l with
    | nil => exact .nil
    | cons y l ih => exact .cons (hz y List.mem_cons_self) (ih fun y hy => hz y (List.mem_cons_of_mem _ hy))
end
/-! the order of lots -/
theorem sortLots_mem {ls : List (List Int)} {l : List Int} : l ∈ sortLots ls ↔ l ∈ ls := (List.mergeSort_perm _ _).mem_iff
theorem sortLots_nil {ls : List (List Int)} (h : [] ∈ ls) : ∃ r, sortLots ls = [] :: r := by
  have hm : [] ∈ sortLots ls := sortLots_mem.mpr h
  have hp : (sortLots ls).Pairwise fun a b => PySem.W.dataLe false encLot a b = true := PySem.W.sort_pairwise (PySem.W.sortLe_total _ _ _) ls
  cases e : sortLots ls with
  | nil => rw [e] at hm; simp at hm
  | cons x r =>
    rw [e] at hm hp
    cases x with
    | nil => exact ⟨r, rfl⟩
    | cons i x =>
      rcases List.mem_cons.mp hm with z | z
      · cases z
      · have h1 := (List.pairwise_cons.mp hp).1 _ z
        have h2 : (!PySem.W.dataLt (encLot []) (encLot (i :: x))) = true := h1
        unfold encLot at h2
        rw [PySem.W.dataLt_pair rfl (by simp [PySem.W.alike, PySem.W.alikeAll]), PySem.W.dataLt_int] at h2
        simp [PyData.eqv] at h2
        omega

def dueAll (ss : List Sight) (t : Nat) (q : Pile) : Bool := (ss.filter fun s => decide (s.tick = (t : Int))).all fun s => isSoM s q
def wGo (b : Book) (ss : List Sight) (t : Nat) (p : Pile) (m : Int) (acc : List (Pile × Int)) (one : Int) : List (Pile × Int) :=
  match nextM p one (nameAt b (t : Int)) with
  | none => acc
  | some q => if dueAll ss t q = true then putI acc q ((valI acc q).getD 0 + m) else acc
def wStep (b : Book) (ss : List Sight) (t : Nat) (acc : List (Pile × Int)) (pm : Pile × Int) : List (Pile × Int) := wGo b ss t pm.1 pm.2 (wGo b ss t pm.1 pm.2 acc 0) 1
def waysTo (b : Book) (ss : List Sight) : Nat → List (Pile × Int)
  | 0 => [([], 1)]
  | n + 1 => (waysTo b ss n).foldl (wStep b ss n) []
def wsum (φ : Pile → Int) (kvs : List (Pile × Int)) : Int := (kvs.map fun p => p.2 * φ p.1).sum
section
variable {κ : Type} [DecidableEq κ]
theorem putI_keys (kvs : List (κ × Int)) (k : κ) (m : Int) : (putI kvs k m).map Prod.fst = if k ∈ kvs.map Prod.fst then kvs.map Prod.fst else kvs.map Prod.fst ++ [k] := by
  unfold putI
  have e : (kvs.any fun p => decide (p.1 = k)) = true ↔ k ∈ kvs.map Prod.fst := by
    rw [List.any_eq_true, List.mem_map]
    exact ⟨fun ⟨p, h1, h2⟩ => ⟨p, h1, of_decide_eq_true h2⟩, fun ⟨p, h1, h2⟩ => ⟨p, h1, decide_eq_true h2⟩⟩
  by_cases h : k ∈ kvs.map Prod.fst
  · rw [if_pos (e.mpr h), if_pos h, List.map_map]
    apply List.map_congr_left
    intro p _
    show (if p.1 = k then (p.1, m) else p).1 = p.1
    split <;> rfl
  · rw [if_neg fun z => h (e.mp z), if_neg h, List.map_append]; rfl
theorem putI_nodup {kvs : List (κ × Int)} (k : κ) (m : Int) (h : (kvs.map Prod.fst).Nodup) : ((putI kvs k m).map Prod.fst).Nodup := by
  rw [putI_keys]
  split
  · exact h
  · rename_i z
    rw [List.nodup_append]
    exact ⟨h, by simp, fun a ha b hb e => by
      have : b = k := by simpa using hb
      rw [e, this] at ha
      exact z ha⟩
theorem putI_mem {kvs : List (κ × Int)} {k : κ} {m : Int} {p : κ × Int} (h : p ∈ putI kvs k m) : p ∈ kvs ∨ p = (k, m) := by
  unfold putI at h
  split at h
  · obtain ⟨q, hq, rfl⟩ := List.mem_map.mp h
    split
    · rename_i e; exact .inr (by rw [e])
    · exact .inl hq
  · rcases List.mem_append.mp h with z | z
    · exact .inl z
    · exact .inr (by simpa using z)
theorem valI_mem {kvs : List (κ × Int)} {k : κ} {v : Int} (h : valI kvs k = some v) : (k, v) ∈ kvs := by
  unfold valI at h
  cases z : kvs.find? (fun p => decide (p.1 = k)) with
  | none => rw [z] at h; cases h
  | some p =>
    rw [z] at h
    have h1 := List.find?_some z
    have h2 := List.mem_of_find?_eq_some z
    have e1 : p.1 = k := of_decide_eq_true h1
    have e2 : p.2 = v := Option.some.inj h
    rw [← e1, ← e2]; exact h2
end
theorem wsum_put (φ : Pile → Int) : ∀ {kvs : List (Pile × Int)} (q : Pile) (m : Int), (kvs.map Prod.fst).Nodup → wsum φ (putI kvs q ((valI kvs q).getD 0 + m)) = wsum φ kvs + m * φ q
  | [], q, m, _ => by simp [putI, valI, wsum]
  | p :: kvs, q, m, h => by
    rw [List.map_cons, List.nodup_cons] at h
    by_cases e : p.1 = q
    · have e1 : valI (p :: kvs) q = some p.2 := by simp [valI, List.find?_cons, e]
      have e2 : ∀ v, putI (p :: kvs) q v = (p.1, v) :: kvs := fun v => by
        unfold putI
        rw [if_pos (by simp [e]), List.map_cons, if_pos e]
        congr 1
        have : ∀ x ∈ kvs, ¬ x.1 = q := fun x hx z => h.1 (List.mem_map.mpr ⟨x, hx, z.trans e.symm⟩)
        clear h e1
        induction kvs with
        | nil => rfl
        | cons x kvs ih =>
          rw [List.map_cons, if_neg (this x List.mem_cons_self), ih fun y hy => this y (List.mem_cons_of_mem _ hy)]
      rw [e1, e2]
      unfold wsum
      rw [List.map_cons, List.map_cons, List.sum_cons, List.sum_cons]
      show (p.2 + m) * φ p.1 + _ = _
      rw [Int.add_mul, e]
      omega
    · have e1 : valI (p :: kvs) q = valI kvs q := by simp [valI, List.find?_cons, e]
      have e2 : ∀ v, putI (p :: kvs) q v = p :: putI kvs q v := fun v => by
        unfold putI
        rw [List.any_cons, decide_eq_false e, Bool.false_or]
        split
        · rw [List.map_cons, if_neg e]
        · rfl
      have ih := wsum_put φ (kvs := kvs) q m h.2
      rw [e1, e2]
      unfold wsum at ih ⊢
      rw [List.map_cons, List.map_cons, List.sum_cons, List.sum_cons, ih]
      omega
def psi (b : Book) (ss : List Sight) (t : Nat) (φ : Pile → Int) (p : Pile) (one : Int) : Int :=
  match nextM p one (nameAt b (t : Int)) with
  | none => 0
  | some q => if dueAll ss t q = true then φ q else 0
theorem wGo_nodup {b : Book} {ss : List Sight} {t : Nat} {p : Pile} {m one : Int} {acc : List (Pile × Int)} (h : (acc.map Prod.fst).Nodup) : ((wGo b ss t p m acc one).map Prod.fst).Nodup := by
  unfold wGo
  split
  · exact h
  · split
    · exact putI_nodup _ _ h
    · exact h
theorem wGo_sum {b : Book} {ss : List Sight} {t : Nat} {p : Pile} {m one : Int} {acc : List (Pile × Int)} (φ : Pile → Int) (h : (acc.map Prod.fst).Nodup) : wsum φ (wGo b ss t p m acc one) = wsum φ acc + m * psi b ss t φ p one := by
  unfold wGo psi
  split
  · simp
  · split
    · exact wsum_put φ _ _ h
    · simp
theorem wFold_sum {b : Book} {ss : List Sight} {t : Nat} (φ : Pile → Int) : ∀ (l acc : List (Pile × Int)), (acc.map Prod.fst).Nodup →
    ((l.foldl (wStep b ss t) acc).map Prod.fst).Nodup ∧ wsum φ (l.foldl (wStep b ss t) acc) = wsum φ acc + wsum (fun p => psi b ss t φ p 0 + psi b ss t φ p 1) l
  | [], acc, h => ⟨h, by simp [wsum]⟩
  | x :: l, acc, h => by
    have h1 : ((wStep b ss t acc x).map Prod.fst).Nodup := wGo_nodup (wGo_nodup h)
    obtain ⟨i1, i2⟩ := wFold_sum φ l (wStep b ss t acc x) h1
    refine ⟨i1, ?_⟩
    rw [List.foldl_cons, i2]
    have e : wsum φ (wStep b ss t acc x) = wsum φ acc + x.2 * psi b ss t φ x.1 0 + x.2 * psi b ss t φ x.1 1 := by
      unfold wStep
      rw [wGo_sum φ (wGo_nodup h), wGo_sum φ h]
    rw [e]
    show _ = _ + (List.map _ (x :: l)).sum
    rw [List.map_cons, List.sum_cons]
    show _ = wsum φ acc + (x.2 * (psi b ss t φ x.1 0 + psi b ss t φ x.1 1) + wsum (fun p => psi b ss t φ p 0 + psi b ss t φ p 1) l)
    rw [Int.mul_add]
    omega
theorem ways_nodup (b : Book) (ss : List Sight) : ∀ n, ((waysTo b ss n).map Prod.fst).Nodup
  | 0 => by simp [waysTo]
  | n + 1 => (wFold_sum (fun _ => 0) _ [] (by simp)).1
theorem sum_flat {α β : Type} (f : β → Int) (g : α → List β) : ∀ l : List α, ((l.flatMap g).map f).sum = (l.map fun x => ((g x).map f).sum).sum
  | [] => rfl
  | x :: l => by
    rw [List.flatMap_cons, List.map_append, List.sum_append, sum_flat f g l, List.map_cons, List.sum_cons]
theorem step_sum (b : Book) (ss : List Sight) (t : Nat) (φ : Pile → Int) (f : Sto) : ((stepM b ss t f).map fun g => φ (g.2.getLastD [])).sum = psi b ss t φ (f.2.getLastD []) 0 + psi b ss t φ (f.2.getLastD []) 1 := by
  have h1 : ∀ one : Int, (((step1 b ss t f one).toList).map fun g => φ (g.2.getLastD [])).sum = psi b ss t φ (f.2.getLastD []) one := fun one => by
    unfold step1 psi
    cases nextM (f.2.getLastD []) one (nameAt b (t : Int)) with
    | none => rfl
    | some q =>
      show List.sum (List.map _ (Option.toList (if _ then _ else _))) = (if _ then _ else _)
      unfold dueAll
      split
      · simp
      · rfl
  have h2 : stepM b ss t f = (step1 b ss t f 0).toList ++ (step1 b ss t f 1).toList := by
    unfold stepM
    cases e0 : step1 b ss t f 0 <;> cases e1 : step1 b ss t f 1 <;> simp [List.filterMap, e0, e1]
  rw [h2, List.map_append, List.sum_append, h1, h1]
theorem ways_sum (b : Book) (ss : List Sight) : ∀ (n : Nat) (φ : Pile → Int), wsum φ (waysTo b ss n) = ((storiesTo b ss n).map fun f => φ (f.2.getLastD [])).sum
  | 0, φ => by simp [waysTo, storiesTo, wsum]
  | n + 1, φ => by
    show wsum φ ((waysTo b ss n).foldl (wStep b ss n) []) = _
    rw [(wFold_sum φ _ [] (by simp)).2, ways_sum b ss n]
    show 0 + _ = (((storiesTo b ss n).flatMap (stepM b ss n)).map fun f => φ (f.2.getLastD [])).sum
    rw [sum_flat, Int.zero_add]
    congr 1
    apply List.map_congr_left
    intro f _
    exact (step_sum b ss n φ f).symm
theorem sum_ones {α : Type} : ∀ l : List α, (l.map fun _ => (1 : Int)).sum = (l.length : Int)
  | [] => rfl
  | x :: l => by rw [List.map_cons, List.sum_cons, sum_ones l, List.length_cons]; omega
theorem ways_total (b : Book) (ss : List Sight) (n : Nat) : ((waysTo b ss n).map Prod.snd).sum = ((storiesTo b ss n).length : Int) := by
  have h := ways_sum b ss n fun _ => 1
  rw [sum_ones] at h
  rw [← h]
  unfold wsum
  congr 1
  apply List.map_congr_left
  intro p _
  rw [Int.mul_one]
/-! the piles that are met -/
def namesTo (b : Book) : Nat → List Str
  | 0 => []
  | n + 1 => namesTo b n ++ (nameAt b (n : Int)).toList
theorem namesTo_len (b : Book) : ∀ n, (namesTo b n).length ≤ laidTo b n
  | 0 => Nat.zero_le _
  | n + 1 => by
    have h1 := namesTo_len b n
    show (namesTo b n ++ _).length ≤ _
    rw [List.length_append]
    cases z : nameAt b (n : Int) with
    | none =>
      have := laidTo_mono b n
      simp only [Option.toList_none, List.length_nil]
      omega
    | some x =>
      have := laidTo_succ z
      simp only [Option.toList_some, List.length_singleton]
      omega
theorem namesTo_ok {b : Book} (wb : WB b) : ∀ n, ∀ x ∈ namesTo b n, nameOk x
  | 0, x, h => by simp [namesTo] at h
  | n + 1, x, h => by
    rcases List.mem_append.mp h with z | z
    · exact namesTo_ok wb n x z
    · cases e : nameAt b (n : Int) with
      | none => rw [e] at z; simp at z
      | some y =>
        rw [e] at z
        have : x = y := by simpa using z
        rw [this]
        exact nameAt_ok wb e
theorem next_sub {b : Book} {n : Nat} {p q : Pile} {one : Int} (hp : p.Sublist (namesTo b n)) (h : nextM p one (nameAt b (n : Int)) = some q) : q.Sublist (namesTo b (n + 1)) := by
  unfold nextM at h
  split at h
  · cases h
  · cases h
    show (List.take _ p ++ _).Sublist (namesTo b n ++ _)
    exact ((List.take_sublist _ _).trans hp).append (List.Sublist.refl _)
structure WInv (b : Book) (n : Nat) (kvs : List (Pile × Int)) : Prop where
  nd : (kvs.map Prod.fst).Nodup
  sub : ∀ p ∈ kvs, p.1.Sublist (namesTo b n)
  pos : ∀ p ∈ kvs, 0 ≤ p.2
theorem WInv.nil (b : Book) (n : Nat) : WInv b n [] := ⟨by simp, by simp, by simp⟩
theorem WInv.go {b : Book} {ss : List Sight} {n : Nat} {p : Pile} {m one : Int} {acc : List (Pile × Int)} (h : WInv b (n + 1) acc) (hp : p.Sublist (namesTo b n)) (hm : 0 ≤ m) : WInv b (n + 1) (wGo b ss n p m acc one) := by
  unfold wGo
  split
  · exact h
  · rename_i q hq
    split
    · refine ⟨putI_nodup _ _ h.nd, fun x hx => ?_, fun x hx => ?_⟩
      · rcases putI_mem hx with z | z
        · exact h.sub x z
        · rw [z]; exact next_sub hp hq
      · rcases putI_mem hx with z | z
        · exact h.pos x z
        · rw [z]
          show 0 ≤ (valI acc q).getD 0 + m
          cases e : valI acc q with
          | none => simpa using hm
          | some v =>
            have := h.pos _ (valI_mem e)
            show 0 ≤ v + m
            have : 0 ≤ v := this
            omega
    · exact h
theorem WInv.stp {b : Book} {ss : List Sight} {n : Nat} {x : Pile × Int} {acc : List (Pile × Int)} (h : WInv b (n + 1) acc) (hp : x.1.Sublist (namesTo b n)) (hm : 0 ≤ x.2) : WInv b (n + 1) (wStep b ss n acc x) := (h.go hp hm).go hp hm
theorem WInv.fold {b : Book} {ss : List Sight} {n : Nat} : ∀ (l acc : List (Pile × Int)), (∀ p ∈ l, p.1.Sublist (namesTo b n)) → (∀ p ∈ l, 0 ≤ p.2) → WInv b (n + 1) acc → WInv b (n + 1) (l.foldl (wStep b ss n) acc)
  | [], acc, _, _, h => h
  | x :: l, acc, h1, h2, h => by
    rw [List.foldl_cons]
    exact WInv.fold l _ (fun p hp => h1 p (List.mem_cons_of_mem _ hp)) (fun p hp => h2 p (List.mem_cons_of_mem _ hp)) (h.stp (h1 x List.mem_cons_self) (h2 x List.mem_cons_self))
theorem ways_inv (b : Book) (ss : List Sight) : ∀ n, WInv b n (waysTo b ss n)
  | 0 => ⟨by simp [waysTo], fun p hp => by simp [waysTo] at hp; simp [hp], fun p hp => by simp [waysTo] at hp; simp [hp]⟩
  | n + 1 => WInv.fold _ _ (ways_inv b ss n).sub (ways_inv b ss n).pos (WInv.nil _ _)
def subs : List Str → List (List Str)
  | [] => [[]]
  | x :: l => subs l ++ (subs l).map (x :: ·)
theorem subs_len : ∀ l, (subs l).length = 2 ^ l.length
  | [] => rfl
  | x :: l => by
    rw [subs, List.length_append, List.length_map, subs_len l, List.length_cons, Nat.pow_succ]; omega
theorem mem_subs {p l : List Str} (h : p.Sublist l) : p ∈ subs l := by
  induction h with
  | slnil => simp [subs]
  | cons x h ih => exact List.mem_append_left _ ih
  | cons_cons x h ih => exact List.mem_append_right _ (List.mem_map.mpr ⟨_, ih, rfl⟩)
theorem nodup_sub_len {α : Type} [DecidableEq α] : ∀ {l m : List α}, l.Nodup → (∀ x ∈ l, x ∈ m) → l.length ≤ m.length
  | [], _, _, _ => Nat.zero_le _
  | x :: l, m, h, hs => by
    rw [List.nodup_cons] at h
    have hx := hs x List.mem_cons_self
    have := nodup_sub_len (l := l) (m := m.erase x) h.2 fun y hy => (List.mem_erase_of_ne (fun e => h.1 (by rw [← e]; exact hy))).mpr (hs y (List.mem_cons_of_mem _ hy))
    rw [List.length_erase_of_mem hx] at this
    have := List.length_pos_of_mem hx
    rw [List.length_cons]; omega
theorem WInv.len {b : Book} (wb : WB b) {n : Nat} {kvs : List (Pile × Int)} (h : WInv b n kvs) : kvs.length ≤ 1024 := by
  have h1 := nodup_sub_len h.nd (m := subs (namesTo b n)) fun p hp => by
    obtain ⟨q, hq, rfl⟩ := List.mem_map.mp hp
    exact mem_subs (h.sub q hq)
  rw [List.length_map, subs_len] at h1
  have h2 : (namesTo b n).length ≤ 10 := Nat.le_trans (namesTo_len b n) (Nat.le_trans (laidTo_le b n) wb.few)
  exact Nat.le_trans h1 (Nat.le_trans (Nat.pow_le_pow_right (by decide) h2) (by decide))
theorem WInv.pile {b : Book} (wb : WB b) {n : Nat} {kvs : List (Pile × Int)} (h : WInv b n kvs) {p : Pile × Int} (hp : p ∈ kvs) : p.1.length ≤ 10 ∧ ∀ x ∈ p.1, nameOk x := by
  have hs := h.sub p hp
  refine ⟨Nat.le_trans hs.length_le (Nat.le_trans (namesTo_len b n) (Nat.le_trans (laidTo_le b n) wb.few)), fun x hx => namesTo_ok wb n x (hs.subset hx)⟩

theorem step1_due (b : Book) (ss : List Sight) (t : Nat) (f : Sto) (one : Int) : step1 b ss t f one = match nextM (f.2.getLastD []) one (nameAt b (t : Int)) with
  | none => none
  | some q => if dueAll ss t q = true then some (f.1 ++ [one], f.2 ++ [q]) else none := rfl
theorem all_perm {α : Type} (p : α → Bool) {l m : List α} (h : l.Perm m) : l.all p = m.all p := by
  induction h with
  | nil => rfl
  | cons x _ ih => simp [ih]
  | swap x y l => simp only [List.all_cons]; rw [← Bool.and_assoc, ← Bool.and_assoc, Bool.and_comm (p x)]
  | trans _ _ i1 i2 => rw [i1, i2]
theorem due_more {ss ss' : List Sight} {s : Sight} (hp : ss'.Perm (s :: ss)) (t : Nat) (q : Pile) : dueAll ss' t q = ((!decide (s.tick = (t : Int)) || isSoM s q) && dueAll ss t q) := by
  unfold dueAll
  rw [all_perm _ (hp.filter _), List.filter_cons]
  by_cases e : s.tick = (t : Int)
  · simp [e]
  · simp [e]
theorem filterMap_filter {α β : Type} (f : α → Option β) (p : β → Bool) : ∀ l : List α, (l.filterMap f).filter p = l.filterMap fun x => (f x).filter p
  | [] => rfl
  | x :: l => by
    cases e : f x with
    | none =>
      rw [List.filterMap_cons_none e, List.filterMap_cons_none (by rw [e]; rfl), filterMap_filter f p l]
    | some y =>
      rw [List.filterMap_cons_some e, List.filter_cons]
      cases h : p y with
      | true => rw [if_pos rfl, List.filterMap_cons_some (b := y) (by rw [e]; simp [Option.filter, h]), filterMap_filter f p l]
      | false => rw [if_neg Bool.false_ne_true, List.filterMap_cons_none (by rw [e]; simp [Option.filter, h]), filterMap_filter f p l]
theorem flat_filter {α β : Type} (g : α → List β) (p : α → Bool) : ∀ l : List α, (l.filter p).flatMap g = l.flatMap fun x => if p x = true then g x else []
  | [] => rfl
  | x :: l => by
    rw [List.filter_cons, List.flatMap_cons]
    cases p x with
    | true => rw [if_pos rfl, if_pos rfl, List.flatMap_cons, flat_filter g p l]
    | false => rw [if_neg Bool.false_ne_true, if_neg Bool.false_ne_true, List.nil_append, flat_filter g p l]
theorem filter_flat {α β : Type} (g : α → List β) (p : β → Bool) : ∀ l : List α, (l.flatMap g).filter p = l.flatMap fun x => (g x).filter p
  | [] => rfl
  | x :: l => by rw [List.flatMap_cons, List.filter_append, filter_flat g p l, List.flatMap_cons]
theorem flat_congr {α β : Type} {f g : α → List β} : ∀ {l : List α}, (∀ x ∈ l, f x = g x) → l.flatMap f = l.flatMap g
  | [], _ => rfl
  | x :: l, h => by rw [List.flatMap_cons, List.flatMap_cons, h x List.mem_cons_self, flat_congr fun y hy => h y (List.mem_cons_of_mem _ hy)]
/-- a story's pile behind the tick is as the sight says, as far as the story goes -/
def atSo (s : Sight) (T n : Nat) (f : Sto) : Bool := decide (n ≤ T) || isSoM s (pil f.2 (T + 1))
theorem stories_more {b : Book} {ss ss' : List Sight} {s : Sight} {T : Nat} (hp : ss'.Perm (s :: ss)) (hT : s.tick = (T : Int)) : ∀ n, storiesTo b ss' n = (storiesTo b ss n).filter (atSo s T n)
  | 0 => by simp [storiesTo, atSo]
  | n + 1 => by
    show (storiesTo b ss' n).flatMap (stepM b ss' n) = ((storiesTo b ss n).flatMap (stepM b ss n)).filter _
    rw [stories_more hp hT n, flat_filter, filter_flat]
    refine flat_congr fun f hf => ?_
    have hl := (storiesTo_run n f hf).len.2
    unfold stepM
    rw [filterMap_filter]
    have hpil : ∀ q : Pile, T < n → pil (f.2 ++ [q]) (T + 1) = pil f.2 (T + 1) := fun q h => pil_snoc (by omega)
    have hpil2 : ∀ q : Pile, T = n → pil (f.2 ++ [q]) (T + 1) = q := fun q h => by
      show ((f.2 ++ [q])[T]?).getD [] = q
      rw [List.getElem?_append_right (by omega), hl, h, Nat.sub_self]; rfl
    have key : ∀ one : Int, (step1 b ss n f one).filter (atSo s T (n + 1)) = if atSo s T n f = true then step1 b ss' n f one else none := fun one => by
      rw [step1_due, step1_due]
      cases nextM (f.2.getLastD []) one (nameAt b (n : Int)) with
      | none => simp
      | some q =>
        dsimp only
        rw [due_more hp]
        by_cases h1 : T < n
        · have e1 : atSo s T (n + 1) (f.1 ++ [one], f.2 ++ [q]) = isSoM s (pil f.2 (T + 1)) := by
            unfold atSo
            rw [hpil q h1, decide_eq_false (by omega), Bool.false_or]
          have e2 : atSo s T n f = isSoM s (pil f.2 (T + 1)) := by
            unfold atSo
            rw [decide_eq_false (by omega), Bool.false_or]
          have e3 : ¬ s.tick = (n : Int) := by omega
          cases dueAll ss n q <;> cases h : isSoM s (pil f.2 (T + 1)) <;> simp [Option.filter, e1, e2, e3, h]
        · by_cases h2 : T = n
          · have e1 : atSo s T (n + 1) (f.1 ++ [one], f.2 ++ [q]) = isSoM s q := by
              unfold atSo
              rw [hpil2 q h2, decide_eq_false (by omega), Bool.false_or]
            have e2 : atSo s T n f = true := by
              unfold atSo
              rw [decide_eq_true (show n ≤ T by omega), Bool.true_or]
            have e3 : s.tick = (n : Int) := by omega
            cases dueAll ss n q <;> cases h : isSoM s q <;> simp [Option.filter, e1, e2, e3, h]
          · have e1 : atSo s T (n + 1) (f.1 ++ [one], f.2 ++ [q]) = true := by
              unfold atSo
              rw [decide_eq_true (show n + 1 ≤ T by omega), Bool.true_or]
            have e2 : atSo s T n f = true := by
              unfold atSo
              rw [decide_eq_true (show n ≤ T by omega), Bool.true_or]
            have e3 : ¬ s.tick = (n : Int) := by omega
            cases dueAll ss n q <;> simp [Option.filter, e1, e2, e3]
    rw [show (fun x => (step1 b ss n f x).filter (atSo s T (n + 1))) = fun x => if atSo s T n f = true then step1 b ss' n f x else none from funext key]
    cases atSo s T n f with
    | true => simp
    | false => simp
theorem stories_moreM {b : Book} {ss ss' : List Sight} {s : Sight} (hp : ss'.Perm (s :: ss)) (h0 : 0 ≤ s.tick) (h1 : s.tick ≤ b.fin) : storiesM b ss' = (storiesM b ss).filter fun f => isSoM s (pil f.2 (s.tick.toNat + 1)) := by
  unfold storiesM
  rw [stories_more (T := s.tick.toNat) hp (by omega)]
  congr 1
  funext f
  unfold atSo
  rw [decide_eq_false (by omega), Bool.false_or]
theorem perm_snoc {α : Type} {l m : List α} {x : α} (h : l.Perm (m ++ [x])) : l.Perm (x :: m) := h.trans (List.perm_append_comm)
/-- the count by heights -/
theorem sum_below {α : Type} (h : α → Nat) (l : List α) : ∀ k, ((List.range k).map fun i => (((l.filter fun x => decide (h x = i)).length : Nat) : Int)).sum = ((l.filter fun x => decide (h x < k)).length : Int)
  | 0 => by
    rw [List.filter_eq_nil_iff.mpr fun x _ => by simp]; rfl
  | k + 1 => by
    rw [List.range_succ, List.map_append, List.sum_append, sum_below h l k]
    simp only [List.map_cons, List.map_nil, List.sum_cons, List.sum_nil]
    have : ∀ l : List α, (l.filter fun x => decide (h x < k + 1)).length = (l.filter fun x => decide (h x < k)).length + (l.filter fun x => decide (h x = k)).length := by
      intro l
      induction l with
      | nil => rfl
      | cons x l ih =>
        rw [List.filter_cons, List.filter_cons, List.filter_cons]
        by_cases h1 : h x < k
        · have h2 : h x < k + 1 := by omega
          have h3 : ¬ h x = k := by omega
          simp [h1, h2, h3, ih]; omega
        · by_cases h3 : h x = k
          · have h2 : h x < k + 1 := by omega
            simp only [decide_eq_true h2, decide_eq_false h1, decide_eq_true h3, if_true, Bool.false_eq_true, if_false, List.length_cons, ih]; omega
          · have h2 : ¬ h x < k + 1 := by omega
            simp only [decide_eq_false h2, decide_eq_false h1, decide_eq_false h3, Bool.false_eq_true, if_false, ih]
    rw [this l]
    omega
theorem split_heights {b : Book} (wb : WB b) {ss : List Sight} {t : Int} (h0 : 0 ≤ t) (h1 : t ≤ b.fin) (F : Nat → List Sight) (hF : ∀ i, (F i).Perm (ss ++ [Sight.high t (i : Int)])) :
    ((List.range 11).map fun i => (((storiesM b (F i)).length : Nat) : Int)).sum = ((storiesM b ss).length : Int) := by
  have e : ∀ i, storiesM b (F i) = (storiesM b ss).filter fun f => decide ((pil f.2 (t.toNat + 1)).length = i) := fun i => by
    rw [stories_moreM (s := .high t (i : Int)) (perm_snoc (hF i)) h0 h1]
    congr 1
    funext f
    show decide (((pil f.2 (t.toNat + 1)).length : Int) = (i : Int)) = _
    exact decide_eq_decide.mpr (by omega)
  simp only [e]
  rw [sum_below]
  congr 2
  rw [List.filter_eq_self]
  intro f hf
  have hr : Run b (b.fin + 1).toNat f.1 f.2 := storiesTo_run _ f hf
  have := (hr.pilOk wb (t.toNat + 1)).2
  exact decide_eq_true (by omega)
theorem fewer_more {b : Book} {ss ss' : List Sight} {s : Sight} (hp : ss'.Perm (ss ++ [s])) (h0 : 0 ≤ s.tick) (h1 : s.tick ≤ b.fin) : (storiesM b ss').length ≤ (storiesM b ss).length := by
  rw [stories_moreM (perm_snoc hp) h0 h1]
  exact List.length_filter_le _ _
/-! lots -/
def lotsM : Nat → List (List Int)
  | 0 => [[]]
  | n + 1 => lotsM n ++ (lotsM n).map fun l => l ++ [(n : Int)]
theorem lotsM_len : ∀ n, (lotsM n).length = 2 ^ n
  | 0 => rfl
  | n + 1 => by rw [lotsM, List.length_append, List.length_map, lotsM_len n, Nat.pow_succ]; omega
theorem lotsM_nil : ∀ n, [] ∈ lotsM n
  | 0 => List.mem_cons_self
  | n + 1 => List.mem_append_left _ (lotsM_nil n)
theorem lotsM_full : ∀ n, ((List.range n).map fun i => ((i : Nat) : Int)) ∈ lotsM n
  | 0 => List.mem_cons_self
  | n + 1 => List.mem_append_right _ (List.mem_map.mpr ⟨_, lotsM_full n, by rw [List.range_succ, List.map_append]; rfl⟩)
theorem lotsM_short : ∀ n, ∀ l ∈ lotsM n, l.length ≤ n
  | 0, l, h => by simp [lotsM] at h; simp [h]
  | n + 1, l, h => by
    rcases List.mem_append.mp h with z | z
    · exact Nat.le_succ_of_le (lotsM_short n l z)
    · obtain ⟨k, hk, rfl⟩ := List.mem_map.mp z
      have := lotsM_short n k hk
      rw [List.length_append, List.length_singleton]; omega
def lotsS (n : Nat) : List (List Int) := sortLots (lotsM n)
def dropLot (ss : List Sight) (lot : List Int) : List Sight := ((ss.mapIdx Prod.mk).filter fun p => !decide (((p.1 : Nat) : Int) ∈ lot)).map Prod.snd
theorem dropLot_sub (ss : List Sight) (lot : List Int) : ∀ s ∈ dropLot ss lot, s ∈ ss := fun s hs => by
  obtain ⟨p, hp, rfl⟩ := List.mem_map.mp hs
  have h1 := (List.mem_filter.mp hp).1
  obtain ⟨i, hi⟩ := List.mem_iff_getElem?.mp h1
  rw [List.getElem?_mapIdx] at hi
  cases e : ss[i]? with
  | none => rw [e] at hi; cases hi
  | some s2 =>
    rw [e] at hi
    have := Option.some.inj hi
    rw [← this]
    exact List.mem_of_getElem? e
theorem dropLot_len (ss : List Sight) (lot : List Int) : (dropLot ss lot).length ≤ ss.length := by
  unfold dropLot
  rw [List.length_map]
  exact Nat.le_trans (List.length_filter_le _ _) (by rw [List.length_mapIdx]; exact Nat.le_refl _)
theorem dropLot_ws {b : Book} {ss : List Sight} (ws : WS b ss) (lot : List Int) : WS b (dropLot ss lot) := ⟨Nat.le_trans (dropLot_len ss lot) ws.few, fun s hs => ws.all s (dropLot_sub ss lot s hs)⟩
theorem mapIdx_snd {α : Type} (l : List α) : (l.mapIdx Prod.mk).map Prod.snd = l := by
  apply List.ext_getElem?
  intro i
  rw [List.getElem?_map, List.getElem?_mapIdx]
  cases l[i]? <;> rfl
theorem dropLot_nil (ss : List Sight) : dropLot ss [] = ss := by
  unfold dropLot
  rw [List.filter_eq_self.mpr fun p _ => by simp]
  exact mapIdx_snd ss
theorem dropLot_full (ss : List Sight) : dropLot ss ((List.range ss.length).map fun i => ((i : Nat) : Int)) = [] := by
  unfold dropLot
  rw [List.filter_eq_nil_iff.mpr, List.map_nil]
  intro p hp
  obtain ⟨i, hi⟩ := List.mem_iff_getElem?.mp hp
  rw [List.getElem?_mapIdx] at hi
  cases e : ss[i]? with
  | none => rw [e] at hi; cases hi
  | some s2 =>
    rw [e] at hi
    have h2 := Option.some.inj hi
    rw [← h2]
    have : (((i : Nat) : Int)) ∈ (List.range ss.length).map fun i => ((i : Nat) : Int) := List.mem_map.mpr ⟨i, List.mem_range.mpr (at_lt e), rfl⟩
    show ¬ (!decide (((i : Nat) : Int) ∈ _)) = true
    rw [decide_eq_true this]; decide
theorem run_ex (b : Book) : ∀ n, ∃ tk ps, Run b n tk ps
  | 0 => ⟨[], [], .nil⟩
  | n + 1 => by
    obtain ⟨tk, ps, h⟩ := run_ex b n
    exact ⟨_, _, .snoc h (.inl rfl) (by unfold nextM; rw [if_neg (by simp)])⟩
theorem bare_stories (b : Book) : storiesM b [] ≠ [] := by
  obtain ⟨tk, ps, h⟩ := run_ex b (b.fin + 1).toNat
  exact stories_ne.mpr ⟨tk, ps, h, fun s hs => by simp at hs⟩
/-- the first lot without which there is a story -/
def firstLot (b : Book) (ss : List Sight) : List Int := ((lotsS ss.length).find? fun lot => !(storiesM b (dropLot ss lot)).isEmpty).getD []
theorem firstLot_some (b : Book) (ss : List Sight) : (lotsS ss.length).find? (fun lot => !(storiesM b (dropLot ss lot)).isEmpty) = some (firstLot b ss) := by
  cases e : (lotsS ss.length).find? fun lot => !(storiesM b (dropLot ss lot)).isEmpty with
  | some l => unfold firstLot; rw [e]; rfl
  | none =>
    rw [List.find?_eq_none] at e
    have h1 := e _ (sortLots_mem.mpr (lotsM_full ss.length))
    rw [dropLot_full] at h1
    exact absurd (by cases h : storiesM b [] with
      | nil => exact absurd h (bare_stories b)
      | cons x r => rfl) h1
theorem firstLot_nil {b : Book} {ss : List Sight} : firstLot b ss = [] ↔ storiesM b ss ≠ [] := by
  have h1 := firstLot_some b ss
  obtain ⟨r, hr⟩ := sortLots_nil (lotsM_nil ss.length)
  have hr : lotsS ss.length = [] :: r := hr
  constructor
  · intro h
    rw [h] at h1
    have h2 := List.find?_some h1
    rw [dropLot_nil] at h2
    intro z
    rw [z] at h2
    cases h2
  · intro h
    unfold firstLot
    rw [hr, List.find?_cons_of_pos (by rw [dropLot_nil]; cases e : storiesM b ss with
      | nil => exact absurd e h
      | cons x r => rfl)]
    rfl
theorem firstLot_mem (b : Book) (ss : List Sight) : firstLot b ss ∈ lotsM ss.length := sortLots_mem.mp (List.mem_of_find?_eq_some (firstLot_some b ss))

/-! what is never reached -/
def tNever : TS := fun _ _ _ => False
theorem ps_never {X : Cx} {st : Stmt} : PS X st tNever := ⟨fun pins s σ H De I h => h.elim⟩
/-! x not in t, items of any depth -/
def rNinT (K : PySem.W.Frag) : R2 := fun x y H Q => ∃ d ds, Dp K H x d ∧ Dp K H y (.tuple ds) ∧ SeqAt.shaped d = true ∧ SeqAt.shaped (.list ds) = true ∧ Q (.bl (!ds.any fun z => PyData.eqv z d)) H
theorem op_ninT {X : Cx} (K : PySem.W.Frag) (hu : X.A.units + 65 < cLine) (hK : X.K = K := by rfl) : OpR X (compareOp .NotIn) (rNinT K) := by
  subst hK
  intro pins s σ H x y v u Q I rx ry h
  obtain ⟨d, ds, hd, he, sd, se, q⟩ := h
  obtain ⟨as, r1⟩ := Dp.reads I d x v hd rx
  obtain ⟨bs, r2⟩ := Dp.reads I (.tuple ds) y u he ry
  exact SeqAt.notIn_tuple_reads r2 r1 (SeqAt.canLay_of_shaped se) (SeqAt.canLay_of_shaped sd) (room_in_shaped sd hu) ⟨.bl _, H, I, rfl, q⟩
section
variable {K : PySem.W.Frag} {ρ : List Sl} {ta tb : TE} {d : D} {ds : List D}
theorem e_ninD (ha : E ta ρ d) (hb : E tb ρ (.tup ds)) (oa : okD d = true) (od : okD (.lst ds) = true) : E (tOp (rNinT K) ta tb) ρ (.bl (!(toPys ds).any fun z => PyData.eqv z (toPy d))) := e_op ha hb fun x y N H e rx ry Q k => by
  have od2 : nd (.tup ds) = true := (okD_split od).1
  exact ⟨toPy d, toPys ds, (rx.mono e).dp (okD_split oa).1, (ry.mono e).dp od2, (okD_split oa).2, (okD_split od).2, k _ N H (Fr.refl e) (.bl _)⟩
end
def intsD (l : List Int) : D := .tup (l.map .int)
inductive R_lots_of : List D → D → Prop
  | mk (n : Nat) (h : n ≤ 6) : R_lots_of [.int (n : Nat)] (.lst ((lotsS n).map intsD))
inductive L_lots : List D → D → Prop
  | mk (n : Nat) (h : n ≤ 6) : L_lots [.int (n : Nat)] (.lst ((lotsS n).map intsD))
inductive R_fewest_wrong : List D → D → Prop
  | mk (b : Book) (ss : List Sight) (wb : WB b) (ws : WS b ss) : R_fewest_wrong [encBook b, encSights ss] (intsD (firstLot b ss))
inductive L_wrong_due : List D → D → Prop
  | mk (b : Book) (ss : List Sight) (wb : WB b) (hfl : b.fl = true) (ws : WS b ss) (h15 : b.fin ≤ 15) : L_wrong_due [encBook b, encSights ss] (intsD (firstLot b ss))
inductive R_how_many : List D → D → Prop
  | mk (b : Book) (ss : List Sight) (wb : WB b) (ws : WS b ss) : R_how_many [encBook b, encSights ss] (.int ((storiesM b ss).length : Int))
theorem lots64 {n : Nat} (h : n ≤ 6) : (lotsM n).length ≤ 64 := by
  rw [lotsM_len]
  exact Nat.le_trans (Nat.pow_le_pow_right (by decide) h) (by decide)
theorem lotsS_len (n : Nat) : (lotsS n).length = 2 ^ n := by
  show (List.mergeSort _ _).length = _
  rw [List.length_mergeSort, lotsM_len]
theorem lots_step (n : Nat) (m : Int) (hm : m = (n : Int)) : (lotsM n).map intsD ++ (lotsM n).map (fun l => intsD (l ++ [m])) = (lotsM (n + 1)).map intsD := by
  subst hm
  show _ = ((lotsM n) ++ _).map intsD
  rw [List.map_append, List.map_map]; rfl
theorem fzs_ints (f : List Int → List Int) (l : List (List Int)) : fzs (l.map fun x => intsD (f x)) = true := by
  induction l with
  | nil => rfl
  | cons x l ih =>
    show (fzs ((f x).map D.int) && fzs (l.map _)) = true
    rw [ih, Bool.and_true]
    induction f x with
    | nil => rfl
    | cons i r ih2 => exact ih2
theorem find_first {α : Type} {p : α → Bool} : ∀ {l : List α} {i : Nat} {x : α}, l[i]? = some x → p x = true → (∀ y ∈ l.take i, p y = false) → l.find? p = some x
  | [], _, _, h, _, _ => by simp at h
  | y :: l, 0, x, h, hp, _ => by
    simp at h
    subst h
    rw [List.find?_cons_of_pos hp]
  | y :: l, i + 1, x, h, hp, hn => by
    rw [List.find?_cons_of_neg (by rw [hn y (by simp)]; exact Bool.false_ne_true)]
    exact find_first (by simpa using h) hp fun z hz => hn z (by simp [hz])
theorem take_snoc {α : Type} {l : List α} {i : Nat} {x : α} (h : l[i]? = some x) : l.take (i + 1) = l.take i ++ [x] := by
  rw [List.take_add_one, h]; rfl
theorem lot_in (lot : List Int) (i : Int) : ((lot.map D.int).any fun z => eqD z (.int i)) = decide (i ∈ lot) := by
  induction lot with
  | nil => simp
  | cons x lot ih =>
    rw [List.map_cons, List.any_cons, ih]
    by_cases e : x = i
    · subst e
      have : eqD (D.int x) (D.int x) = true := by show PyData.eqv (.int x) (.int x) = true; simp [PyData.eqv]
      simp [this]
    · have h1 : eqD (D.int x) (D.int i) = false := by show PyData.eqv (.int x) (.int i) = false; simp [PyData.eqv, e]
      have h2 : ¬ i = x := fun z => e z.symm
      simp [h1, h2]
/-! sorted sights -/
theorem perm_map_inv {α β : Type} {f : α → β} : ∀ {m : List β} {l : List α}, m.Perm (l.map f) → ∃ l' : List α, l'.Perm l ∧ m = l'.map f
  | [], l, h => by
    have := h.length_eq
    cases l with
    | nil => exact ⟨[], .nil, rfl⟩
    | cons x l => simp at this
  | x :: m, l, h => by
    have hx : x ∈ l.map f := h.mem_iff.mp List.mem_cons_self
    obtain ⟨a, ha, e⟩ := List.mem_map.mp hx
    obtain ⟨s, t, rfl⟩ := List.append_of_mem ha
    have h2 : (x :: m).Perm (x :: (s ++ t).map f) := by
      refine h.trans ?_
      rw [List.map_append, List.map_cons, List.map_append, e]
      exact List.perm_middle
    obtain ⟨l', hp, e2⟩ := perm_map_inv (List.Perm.cons_inv h2)
    exact ⟨a :: l', (List.Perm.cons a hp).trans List.perm_middle.symm, by rw [List.map_cons, e, e2]⟩
theorem sorted_ss (l : List Sight) : ∃ l' : List Sight, l'.Perm l ∧ sortK (l.map sightK) = l'.map sightK := perm_map_inv (sortK_perm _)
noncomputable def sortS (l : List Sight) : List Sight := (sorted_ss l).choose
theorem sortS_perm (l : List Sight) : (sortS l).Perm l := (sorted_ss l).choose_spec.1
theorem sortS_eq (l : List Sight) : (sortK (l.map sightK)).map encK = (sortS l).map encSight := by
  rw [(sorted_ss l).choose_spec.2, List.map_map]
  exact List.map_congr_left fun s _ => encK_sight s
theorem sights_keys (l : List Sight) : l.map encSight = (l.map sightK).map encK := by
  rw [List.map_map]
  exact List.map_congr_left fun s _ => (encK_sight s).symm
section
variable {K : PySem.W.Frag} {ρ : List Sl} {ta tb : TE}
/-- tuple(sorted(some + (part,))) -/
theorem e_sortMore {ss : List Sight} {s : Sight} (h : E ta ρ (encSights ss)) (hs : E tb ρ (encSight s)) (hl : ss.length ≤ 100) : E (tCB (rTupU K) (tCons (tCB (rSortedQ K) (tCons (tOp (uAdd K) ta (tTup (tCons tb tNil))) tNil)) tNil)) ρ (encSights (sortS (ss ++ [s]))) := by
  refine e_is (e_tupL (EL.e (el_sortedQ (ks := (ss ++ [s]).map sightK) (e_is (e_addT h (e_tup (ea1 hs)) (by rw [List.length_map]; simp; omega)) ?_) (fun k hk => ?_) (fun p hp q hq => ?_)))) ?_
  · rw [← sights_keys, List.map_append]; rfl
  · obtain ⟨u, _, rfl⟩ := List.mem_map.mp hk
    exact headS_sight u
  · obtain ⟨u, _, rfl⟩ := List.mem_map.mp hp
    obtain ⟨v, _, rfl⟩ := List.mem_map.mp hq
    exact cmpOk_sight u v
  · rw [sortS_eq]; rfl
end
theorem sortS_ws {b : Book} {ss : List Sight} {s : Sight} (ws : WS b ss) (hl : ss.length ≤ 5) (hs : WS1 b s) : WS b (sortS (ss ++ [s])) := by
  have hp := sortS_perm (ss ++ [s])
  refine ⟨by rw [hp.length_eq, List.length_append, List.length_singleton]; omega, fun u hu => ?_⟩
  rcases List.mem_append.mp (hp.mem_iff.mp hu) with z | z
  · exact ws.all u z
  · have : u = s := by simpa using z
    rw [this]; exact hs
def headD (s : Sight) : D := match s with
  | .above t _ _ => .tup [.str "above", .int t]
  | .high t _ => .tup [.str "high", .int t]
  | .least t _ => .tup [.str "least", .int t]
  | .most t _ => .tup [.str "most", .int t]
theorem okD_head (s : Sight) : okD (headD s) = true ∧ (toPy (headD s)).depth ≤ 1 := by
  have hw : ∀ w : Str, w ∈ (["above", "high", "least", "most"].map Str.ofString) → okD (.str w) = true := List.all_eq_true.mp (show ((["above", "high", "least", "most"].map Str.ofString).all fun w => okD (.str w)) = true by decide +kernel)
  have key : ∀ (w : Str) (t : Int), w ∈ (["above", "high", "least", "most"].map Str.ofString) → okD (.tup [.str w, .int t]) = true ∧ (toPy (.tup [.str w, .int t])).depth ≤ 1 := fun w t hm => by
    have hd : ∀ d ∈ [D.str w, D.int t], okD d = true ∧ (toPy d).depth ≤ 0 := fun d hd => by
      simp only [List.mem_cons, List.not_mem_nil, or_false] at hd
      rcases hd with rfl | rfl
      · exact ⟨hw _ hm, by show (PyData.str _).depth ≤ 0; simp [PyData.depth]⟩
      · exact ⟨rfl, by show (PyData.int _).depth ≤ 0; simp [PyData.depth]⟩
    refine ⟨(okD_lst (n := 0) (by decide) hd).2, ?_⟩
    have := depth_all_le (n := 0) fun d hd2 => (hd d hd2).2
    show PyData.depthAll _ + 1 ≤ 1
    omega
  cases s <;> exact key _ _ (by simp)
theorem cut_head (s : Sight) : ∃ ds, encSight s = .tup ds ∧ D.tup (cutL ds none (some 2)) = headD s := by
  cases s <;> exact ⟨_, rfl, rfl⟩
theorem okD_sights {b : Book} {ss : List Sight} (ws : WS b ss) : okD (.lst (ss.map encSight)) = true := (okD_lst (n := 2) (by decide) fun d hd => by
  obtain ⟨s, hs, rfl⟩ := List.mem_map.mp hd
  exact okD_sight (ws.all s hs)).1
theorem okD_heads (ss : List Sight) : okD (.lst (ss.map headD)) = true := (okD_lst (n := 1) (by decide) fun d hd => by
  obtain ⟨s, hs, rfl⟩ := List.mem_map.mp hd
  exact okD_head s).1
theorem okD_intsD (l : List Int) : okD (intsD l) = true := (okD_lst (n := 0) (by decide) fun d hd => by
  obtain ⟨i, _, rfl⟩ := List.mem_map.mp hd
  exact ⟨rfl, by show (PyData.int _).depth ≤ 0; simp [PyData.depth]⟩).2
theorem plain_ints (l : List Int) : plainD (intsD l) = true := plains_map D.int (fun _ => rfl) l
theorem e_is' {R : List D → D → Prop} {x d d' : D} {e : D} (h : R [x, d] e) (q : d = d') : R [x, d'] e := q ▸ h
theorem drop_enc (ss : List Sight) (lot : List Int) : encSights (dropLot ss lot) = .tup (((ss.mapIdx Prod.mk).filter fun p => !decide (((p.1 : Nat) : Int) ∈ lot)).map fun p => encSight p.2) := by
  unfold encSights dropLot
  rw [List.map_map]; rfl
section
variable {K : PySem.W.Frag} {ρ : List Sl} {ta tb : TE} {tt tt2 : TT} {c : Ctx} {Ps : List (Addr × D)} {σ : St} {H : Hp} {De : Ends} {b2 : Bool} {tu : TS} {tz : TS} {EX : XK}
/-- a drawn story's piles -/
theorem eb_piles {i : Nat} {bg : Addr} {b : Book} (hi : ρ[i]? = some (.val (.ref bg))) (hm : (bg, D.non) ∈ Ps) (hb : E tb ρ (encBook b)) (wb : WB b) (hfl : b.fl = true) :
    EB (tOp (rIx K) (tCall (BagSp P_a_story R_a_story) [] EX (tCons (tVar i) (tCons tb tNil))) (tC (.int 1))) Ps ρ (fun d P => ∃ tk ps, Run b (b.fin + 1).toNat tk ps ∧ d = .lst (ps.map encPile) ∧ P = Ps) :=
  eb_op (Rb := fun _ _ d P => d = .int 1 ∧ P = Ps) (eb_callE (Pre := P_a_story) (Rf := R_a_story) hi hm (ea1 hb) (.mk b wb hfl)) (fun x P z => by rw [z.2]; exact eb_e e_int) fun x P y P2 z z2 => by
    obtain ⟨z, rfl⟩ := z
    obtain ⟨rfl, rfl⟩ := z2
    obtain ⟨tk, ps, hr, rfl⟩ := z.inv
    exact ⟨.lst (ps.map encPile), r2d_ixT (atI_1 _ _ _), tk, ps, hr, rfl, rfl⟩
/-- if .. : if (what is not): leave -/
theorem q_whenN (a : At c Ps ρ σ H) (h : ET tt ρ b2) (h2 : b2 = true → ET tt2 ρ false) (k : ∀ H', At c Ps ρ σ H' → tz De σ H') : tSeq (tIfS tt (tIfS tt2 tu tNext) tNext) tz De σ H :=
  q_when a h (fun hb H' A' => s_when A' (h2 hb) (fun z => nomatch z) fun _ H2 A2 => k H2 A2) fun _ H' A' => k H' A'
end
theorem many_pos (b : Book) (ss : List Sight) : decide ((0 : Int) < ((storiesM b ss).length : Int)) = !(storiesM b ss).isEmpty := by
  cases storiesM b ss with
  | nil => rfl
  | cons x r =>
    rw [decide_eq_true (by rw [List.length_cons]; omega)]; rfl
theorem told_nil (b : Book) (ss : List Sight) : ((firstLot b ss).map D.int).isEmpty = !(storiesM b ss).isEmpty := by
  have h := firstLot_nil (b := b) (ss := ss)
  cases e : storiesM b ss with
  | nil =>
    rw [e] at h
    cases e2 : firstLot b ss with
    | nil => exact absurd rfl (h.mp e2)
    | cons x r => rfl
  | cons x r =>
    rw [e] at h
    rw [h.mpr (by simp)]; rfl
theorem eqD_bl (a : Bool) : eqD (.bl a) (.bl a) = true := by show PyData.eqv (.bool a) (.bool a) = true; simp [PyData.eqv]
theorem sum11 {b : Book} (wb : WB b) {ss : List Sight} {t : Int} (h0 : 0 ≤ t) (h1 : t ≤ b.fin) :
    ((List.range 11).map fun i => (((storiesM b (sortS (ss ++ [Sight.high t (0 + ((i : Nat) : Int))]))).length : Nat) : Int)).sum = ((storiesM b ss).length : Int) := by
  have := split_heights wb (ss := ss) h0 h1 (fun i => sortS (ss ++ [Sight.high t (0 + ((i : Nat) : Int))])) fun i => by
    rw [Int.zero_add]
    exact sortS_perm _
  exact this
theorem e_head {ρ : List Sl} {ta : TE} {K : PySem.W.Frag} (s : Sight) (h : E ta ρ (encSight s)) : E (tSl (uSl K) ta tNoPart (tPart (tC (.int 2)))) ρ (headD s) := by
  obtain ⟨ds, e1, e2⟩ := cut_head s
  rw [e1] at h
  exact e_is (e_slT h eo_none (eo_some e_int)) e2

def topS (i : Nat) : Stmt := PySem.Challenge.pw_topseen_k06_whole_fewest_wrong_and_how_m.main.body.getD i (.Pass ⟨0, 0, 0, 0⟩)
abbrev s_own_tick : Stmt := topS 1
abbrev s_laid_at : Stmt := topS 2
abbrev s_behind : Stmt := topS 3
abbrev s_is_so : Stmt := topS 4
abbrev s_laid : Stmt := topS 7
abbrev s_read_tick : Stmt := topS 8
abbrev s_read_fact : Stmt := topS 9
abbrev s_facts_of_sight : Stmt := topS 10
abbrev s_facts_of : Stmt := topS 11
abbrev s_gone_back : Stmt := topS 12
abbrev s_settled : Stmt := topS 13
abbrev s_solved : Stmt := topS 14
abbrev s_can_be : Stmt := topS 15
abbrev s_lots_of : Stmt := topS 17
abbrev s_fewest_wrong : Stmt := topS 18
abbrev s_how_many : Stmt := topS 19
abbrev s__law_bag : Stmt := topS 21
abbrev s__law_take : Stmt := topS 22
abbrev s__law_of : Stmt := topS 23
abbrev s__law_book : Stmt := topS 24
abbrev s__law_next : Stmt := topS 25
abbrev s__law_a_story : Stmt := topS 26
abbrev s__law_sight_of : Stmt := topS 27
abbrev s__law_sights : Stmt := topS 28
abbrev s__law_is_so : Stmt := topS 29
abbrev s__law_stories : Stmt := topS 30
abbrev s__law_lots : Stmt := topS 31
abbrev s__law_wrong_due : Stmt := topS 32
abbrev s_law : Stmt := topS 33
structure GL (K : PySem.W.Frag) (mg : Str → Option Value) where
  a_own_tick : Addr
  fd_own_tick : FuncData
  F_own_tick : Fun K "own_tick" "own_tick" s_own_tick a_own_tick fd_own_tick
  g_own_tick : mg "own_tick" = some (.ref a_own_tick)
  n_own_tick : Binds K fd_own_tick ["book", "name"] []
  a_laid_at : Addr
  fd_laid_at : FuncData
  F_laid_at : Fun K "laid_at" "laid_at" s_laid_at a_laid_at fd_laid_at
  g_laid_at : mg "laid_at" = some (.ref a_laid_at)
  n_laid_at : Binds K fd_laid_at ["book"] []
  a_behind : Addr
  fd_behind : FuncData
  F_behind : Fun K "behind" "behind" s_behind a_behind fd_behind
  g_behind : mg "behind" = some (.ref a_behind)
  n_behind : Binds K fd_behind ["pile", "took", "name"] []
  a_is_so : Addr
  fd_is_so : FuncData
  F_is_so : Fun K "is_so" "is_so" s_is_so a_is_so fd_is_so
  g_is_so : mg "is_so" = some (.ref a_is_so)
  n_is_so : Binds K fd_is_so ["sight", "pile"] []
  a_laid : Addr
  fd_laid : FuncData
  F_laid : Fun K "laid" "laid" s_laid a_laid fd_laid
  g_laid : mg "laid" = some (.ref a_laid)
  n_laid : Binds K fd_laid ["book", "tick"] []
  a_read_tick : Addr
  fd_read_tick : FuncData
  F_read_tick : Fun K "read_tick" "read_tick" s_read_tick a_read_tick fd_read_tick
  g_read_tick : mg "read_tick" = some (.ref a_read_tick)
  n_read_tick : Binds K fd_read_tick ["book", "word", "tick"] []
  a_read_fact : Addr
  fd_read_fact : FuncData
  F_read_fact : Fun K "read_fact" "read_fact" s_read_fact a_read_fact fd_read_fact
  g_read_fact : mg "read_fact" = some (.ref a_read_fact)
  n_read_fact : Binds K fd_read_fact ["book", "sights", "fact"] []
  a_facts_of_sight : Addr
  fd_facts_of_sight : FuncData
  F_facts_of_sight : Fun K "facts_of_sight" "facts_of_sight" s_facts_of_sight a_facts_of_sight fd_facts_of_sight
  g_facts_of_sight : mg "facts_of_sight" = some (.ref a_facts_of_sight)
  n_facts_of_sight : Binds K fd_facts_of_sight ["book", "sights", "at"] []
  a_facts_of : Addr
  fd_facts_of : FuncData
  F_facts_of : Fun K "facts_of" "facts_of" s_facts_of a_facts_of fd_facts_of
  g_facts_of : mg "facts_of" = some (.ref a_facts_of)
  n_facts_of : Binds K fd_facts_of ["book", "sights"] []
  a_gone_back : Addr
  fd_gone_back : FuncData
  F_gone_back : Fun K "gone_back" "gone_back" s_gone_back a_gone_back fd_gone_back
  g_gone_back : mg "gone_back" = some (.ref a_gone_back)
  n_gone_back : Binds K fd_gone_back ["by", "last", "many"] []
  a_settled : Addr
  fd_settled : FuncData
  F_settled : Fun K "settled" "settled" s_settled a_settled fd_settled
  g_settled : mg "settled" = some (.ref a_settled)
  n_settled : Binds K fd_settled ["end", "says"] []
  a_solved : Addr
  fd_solved : FuncData
  F_solved : Fun K "solved" "solved" s_solved a_solved fd_solved
  g_solved : mg "solved" = some (.ref a_solved)
  n_solved : Binds K fd_solved ["book", "sights", "more"] []
  a_can_be : Addr
  fd_can_be : FuncData
  F_can_be : Fun K "can_be" "can_be" s_can_be a_can_be fd_can_be
  g_can_be : mg "can_be" = some (.ref a_can_be)
  n_can_be : Binds K fd_can_be ["book", "sights"] []
  a_lots_of : Addr
  fd_lots_of : FuncData
  F_lots_of : Fun K "lots_of" "lots_of" s_lots_of a_lots_of fd_lots_of
  g_lots_of : mg "lots_of" = some (.ref a_lots_of)
  n_lots_of : Binds K fd_lots_of ["many"] []
  a_fewest_wrong : Addr
  fd_fewest_wrong : FuncData
  F_fewest_wrong : Fun K "fewest_wrong" "fewest_wrong" s_fewest_wrong a_fewest_wrong fd_fewest_wrong
  g_fewest_wrong : mg "fewest_wrong" = some (.ref a_fewest_wrong)
  n_fewest_wrong : Binds K fd_fewest_wrong ["book", "sights"] []
  a_how_many : Addr
  fd_how_many : FuncData
  F_how_many : Fun K "how_many" "how_many" s_how_many a_how_many fd_how_many
  g_how_many : mg "how_many" = some (.ref a_how_many)
  n_how_many : Binds K fd_how_many ["book", "sights"] []
  a__law_bag : Addr
  fd__law_bag : FuncData
  F__law_bag : Fun K "_law_bag" "_law_bag" s__law_bag a__law_bag fd__law_bag
  g__law_bag : mg "_law_bag" = some (.ref a__law_bag)
  n__law_bag : Binds K fd__law_bag ["script", "k"] []
  a__law_take : Addr
  fd__law_take : FuncData
  F__law_take : Fun K "_law_take" "_law_take" s__law_take a__law_take fd__law_take
  g__law_take : mg "_law_take" = some (.ref a__law_take)
  n__law_take : Binds K fd__law_take ["bag", "count"] []
  a__law_of : Addr
  fd__law_of : FuncData
  F__law_of : Fun K "_law_of" "_law_of" s__law_of a__law_of fd__law_of
  g__law_of : mg "_law_of" = some (.ref a__law_of)
  n__law_of : Binds K fd__law_of ["bag", "some"] []
  a__law_book : Addr
  fd__law_book : FuncData
  F__law_book : Fun K "_law_book" "_law_book" s__law_book a__law_book fd__law_book
  g__law_book : mg "_law_book" = some (.ref a__law_book)
  n__law_book : Binds K fd__law_book ["bag", "most"] []
  a__law_next : Addr
  fd__law_next : FuncData
  F__law_next : Fun K "_law_next" "_law_next" s__law_next a__law_next fd__law_next
  g__law_next : mg "_law_next" = some (.ref a__law_next)
  n__law_next : Binds K fd__law_next ["pile", "took", "name"] []
  a__law_a_story : Addr
  fd__law_a_story : FuncData
  F__law_a_story : Fun K "_law_a_story" "_law_a_story" s__law_a_story a__law_a_story fd__law_a_story
  g__law_a_story : mg "_law_a_story" = some (.ref a__law_a_story)
  n__law_a_story : Binds K fd__law_a_story ["bag", "book"] []
  a__law_sight_of : Addr
  fd__law_sight_of : FuncData
  F__law_sight_of : Fun K "_law_sight_of" "_law_sight_of" s__law_sight_of a__law_sight_of fd__law_sight_of
  g__law_sight_of : mg "_law_sight_of" = some (.ref a__law_sight_of)
  n__law_sight_of : Binds K fd__law_sight_of ["bag", "book", "piles"] []
  a__law_sights : Addr
  fd__law_sights : FuncData
  F__law_sights : Fun K "_law_sights" "_law_sights" s__law_sights a__law_sights fd__law_sights
  g__law_sights : mg "_law_sights" = some (.ref a__law_sights)
  n__law_sights : Binds K fd__law_sights ["bag", "book", "most"] []
  a__law_is_so : Addr
  fd__law_is_so : FuncData
  F__law_is_so : Fun K "_law_is_so" "_law_is_so" s__law_is_so a__law_is_so fd__law_is_so
  g__law_is_so : mg "_law_is_so" = some (.ref a__law_is_so)
  n__law_is_so : Binds K fd__law_is_so ["sight", "pile"] []
  a__law_stories : Addr
  fd__law_stories : FuncData
  F__law_stories : Fun K "_law_stories" "_law_stories" s__law_stories a__law_stories fd__law_stories
  g__law_stories : mg "_law_stories" = some (.ref a__law_stories)
  n__law_stories : Binds K fd__law_stories ["book", "sights"] []
  a__law_lots : Addr
  fd__law_lots : FuncData
  F__law_lots : Fun K "_law_lots" "_law_lots" s__law_lots a__law_lots fd__law_lots
  g__law_lots : mg "_law_lots" = some (.ref a__law_lots)
  n__law_lots : Binds K fd__law_lots ["many"] []
  a__law_wrong_due : Addr
  fd__law_wrong_due : FuncData
  F__law_wrong_due : Fun K "_law_wrong_due" "_law_wrong_due" s__law_wrong_due a__law_wrong_due fd__law_wrong_due
  g__law_wrong_due : mg "_law_wrong_due" = some (.ref a__law_wrong_due)
  n__law_wrong_due : Binds K fd__law_wrong_due ["book", "sights"] []
  a_law : Addr
  fd_law : FuncData
  F_law : Fun K "law" "law" s_law a_law fd_law
  g_law : mg "law" = some (.ref a_law)
  n_law : Binds K fd_law ["script"] []
  v_NOUGHT : Value
  m_NOUGHT : mg "NOUGHT" = some v_NOUGHT
  r_NOUGHT : RelV (.int (-1)) v_NOUGHT
  b_len : mg "len" = none
  b_range : mg "range" = none
  b_max : mg "max" = none
  b_min : mg "min" = none
  b_sum : mg "sum" = none
  b_all : mg "all" = none
  b_sorted : mg "sorted" = none
  b_enumerate : mg "enumerate" = none
  b_tuple : mg "tuple" = none
  b_int : mg "int" = none
  b_dict : mg "dict" = none
section
variable {P : Program} {w : World} {K : PySem.W.Frag} {mg : Str → Option Value} {base : Heap}
theorem sc_own_tick : FnScope ["book", "name", "ticks", "tick", "plate"] ["book", "name"] (defScope s_own_tick) := ⟨rfl, rfl, rfl, by decide +kernel, rfl, by decide +kernel, by decide +kernel⟩
theorem ok_own_tick (g : GL K mg) : FnOk P w K mg base CX0 1 g.a_own_tick g.fd_own_tick ["book", "name"] (PureSp R_own_tick) := by
  refine fn_pure g.F_own_tick sc_own_tick (fun ds d h => by cases h <;> rfl) (fun cdv A outer s H EX hr => ⟨_, (pss_cons (ps_setLc (i := 2) rfl sc_own_tick.nd rfl rfl (sw_true rfl rfl rfl (by decide +kernel)) (own := [("tick", 3), ("plate", 4)]) (pi_seqK K (pe_ix (ix_seqK K) (pv 0) pe_int (fun _ _ => rfl))) (blkOk_by (N := ["book", "name", "ticks", "tick", "plate"]) (sc := defScope s_own_tick) (by decide +kernel)) (fun _ _ _ _ _ => (pg_tupK K (n := 2) (by rfl) (pgs_cons (pg_name (i := 3) sc_own_tick.nd rfl (by first | exact .inl rfl | exact .inr rfl)) (pgs_cons (pg_name (i := 4) sc_own_tick.nd rfl (by first | exact .inl rfl | exact .inr rfl)) pgs_nil)))) (fun _ _ _ _ _ => (pts_one (pt_cmpR (op_eqK K hr.units) (pv 4) (pv 1) (nomark _)))) (fun _ _ _ _ _ => (pv 3)))
      (pss_one (ps_ret (pe_ifExp (pt_truK K (pv 2) (by intro _; rfl)) (pe_ix (ix_seqK K) (pv 2) pe_int (fun _ _ => rfl)) pe_non)))), ?_⟩)
  intro ds d hR N H σ Q A k
  cases hR with
  | mk b n wb hn =>
    refine q_asg A (EL.e (el_lc (ts := [3, 4]) b.laid encRow (fun r => decide (r.2 = n)) (fun r => .int r.1) (fun r => [.dat (encBook b), .dat (.str n), .no, .dat (.int r.1), .dat (.str r.2)]) (src_tF (e_ixT (e_var rfl) e_int rfl)) wb.rows (by simp)
      (fun r _ => tg2 3 4) (fun r hr' => et_T (e_eqS (e_var rfl) (e_var rfl) (wb.nam r hr') hn)) (fun r _ _ => e_var rfl))) fun σ1 H1 A1 => ?_
    refine s_ret A1 (d := encOI (ownTick b n)) ?_ k
    unfold ownTick
    generalize b.laid.filter (fun r => decide (r.2 = n)) = l
    cases l with
    | nil => exact e_if (et_tru' (e_var rfl) rfl) (fun z => nomatch z) (fun _ => e_non)
    | cons r l => exact e_if (et_tru' (e_var rfl) rfl) (fun _ => e_ixL (e_var rfl) e_int (atI_0 _ _)) (fun z => nomatch z)
theorem sc_laid_at : FnScope ["book", "table", "tick", "name"] ["book"] (defScope s_laid_at) := ⟨rfl, rfl, rfl, by decide +kernel, rfl, by decide +kernel, by decide +kernel⟩
theorem ok_laid_at (g : GL K mg) : FnOk P w K mg base CX0 1 g.a_laid_at g.fd_laid_at ["book"] (PureSp R_laid_at) := by
  refine fn_pure g.F_laid_at sc_laid_at (fun ds d h => by cases h <;> rfl) (fun cdv A outer s H EX hr => ⟨_, (pss_cons (ps_set (i := 1) sc_laid_at.nd rfl (.inr rfl) (pe_dc (own := [("tick", 2), ("name", 3)]) rfl sc_laid_at.nd (pi_seqK K (pe_ix (ix_seqK K) (pv 0) pe_int (fun _ _ => rfl))) (blkOk_by (N := ["book", "table", "tick", "name"]) (sc := defScope s_laid_at) (by decide +kernel)) (fun _ _ _ _ _ => (pg_tupK K (n := 2) (by rfl) (pgs_cons (pg_name (i := 2) sc_laid_at.nd rfl (by first | exact .inl rfl | exact .inr rfl)) (pgs_cons (pg_name (i := 3) sc_laid_at.nd rfl (by first | exact .inl rfl | exact .inr rfl)) pgs_nil)))) (fun _ _ _ _ _ => pts_nil) (fun _ _ _ _ _ => (pv 2)) (fun _ _ _ _ _ => (pv 3))))
      (pss_one (ps_ret (pe_lc (own := [("tick", 2)]) rfl sc_laid_at.nd (pi_range1 (by rfl) g.b_range (pa_cons (pe_op (op_addK K) (pe_ix (ix_seqK K) (pv 0) pe_int (fun _ _ => rfl)) pe_int) pa_nil)) (blkOk_by (N := ["book", "table", "tick", "name"]) (sc := defScope s_laid_at) (by decide +kernel)) (fun _ _ _ _ _ => (pg_name (i := 2) sc_laid_at.nd rfl (by first | exact .inl rfl | exact .inr rfl))) (fun _ _ _ _ _ => pts_nil) (fun _ _ _ _ _ => (pe_dget1 (hu_of hr) (pv 1) (pv 2) ⟨rfl, rfl, rfl, rfl⟩)))))), ?_⟩)
  intro ds d hR N H σ Q A k
  cases hR with
  | mk b wb =>
    refine q_asg A (EL.e (el_dc (ts := [2, 3]) b.laid encRow (fun r => .inl r.1) (fun r => .str r.2) (fun r => [.dat (encBook b), .no, .dat (.int r.1), .dat (.str r.2)]) (src_tF (e_ixT (e_var rfl) e_int rfl)) wb.rows (by simp)
      (fun r _ => tg2 2 3) (fun r _ => e_var rfl) (fun r _ => e_var rfl))) fun σ1 H1 A1 => ?_
    rw [putAll_nodup _ [] (by rw [List.nil_append, List.map_map]; exact pair_nodup wb), List.nil_append] at A1
    refine s_ret A1 (d := .lst ((laidAt b).map encON)) (e_is (EL.e (el_lc0 (ts := [2]) (List.range (b.fin + 1).toNat) (fun i => .int (0 + (i : Nat))) (fun i => encON (nameAt b (i : Nat))) (fun i => [.dat (encBook b), .dat (.dk (b.laid.map fun r => ((Sum.inl r.1 : Key), D.str r.2))), .dat (.int (0 + (i : Nat))), .no])
      (src_r1 (ea1 (e_add (e_ixT (e_var rfl) e_int rfl) e_int)) ?_) (by rw [List.length_range]; have := wb.hi; omega) (by simp) (fun i _ => tg_n 2) (fun i _ => e_is (e_dget1 (k := .inl (0 + (i : Nat))) (e_var rfl) (e_var rfl)) ?_))) ?_) k
    · have := wb.hi
      have := wb.lo
      omega
    · rw [valD_map b.laid (fun r => r.1) (fun r => D.str r.2), Int.zero_add]
      unfold nameAt
      cases b.laid.find? (fun r => decide (r.1 = ((i : Nat) : Int))) <;> rfl
    · unfold laidAt
      rw [List.map_map]; rfl
theorem sc_laid : FnScope ["book", "tick"] ["book", "tick"] (defScope s_laid) := ⟨rfl, rfl, rfl, by decide +kernel, rfl, by decide +kernel, by decide +kernel⟩
theorem ok_laid (g : GL K mg) : FnOk P w K mg base CX0 2 g.a_laid g.fd_laid ["book", "tick"] (PureSp R_laid) := by
  have G_laid_at := ok_laid_at (P := P) (w := w) (base := base) g
  refine fn_pure g.F_laid sc_laid (fun ds d h => by cases h <;> rfl) (fun cdv A outer s H EX hr => ⟨_, (pss_one (ps_ret (pe_callTy call_intU (by rfl) g.b_int (by decide +kernel) (pa_cons (pe_cmpR op_notNU (pe_ix (ix_seqK K) (pe_call G_laid_at (hr.mono (by decide)) (by rfl) g.g_laid_at g.F_laid_at.kp g.n_laid_at .nil pass0 (pa_cons (pv 0) pa_nil)) (pv 1) (fun _ _ => rfl)) pe_non (nomark _)) pa_nil)))), ?_⟩)
  intro ds d hR N H σ Q A k
  cases hR with
  | mk b t wb h0 h1 =>
    refine s_ret A (d := .int (laidN b t)) (e_is (e_intB (e_notN (e_ixL (e_fn (ea1 (e_var rfl)) (.mk b wb)) (e_var rfl) (atI_int h0 (laidAt_get h0 h1))))) ?_) k
    rw [isNon_encON, Bool.not_not]; rfl
theorem sc_read_tick : FnScope ["book", "word", "tick"] ["book", "word", "tick"] (defScope s_read_tick) := ⟨rfl, rfl, rfl, by decide +kernel, rfl, by decide +kernel, by decide +kernel⟩
theorem ok_read_tick (g : GL K mg) : FnOk P w K mg base CX0 3 g.a_read_tick g.fd_read_tick ["book", "word", "tick"] (PureSp R_read_tick) := by
  have G_laid := ok_laid (P := P) (w := w) (base := base) g
  refine fn_pure g.F_read_tick sc_read_tick (fun ds d h => by cases h <;> rfl) (fun cdv A outer s H EX hr => ⟨_, (pss_cons (ps_if (pt_cmpR (op_eqK K hr.units) (pv 1) pe_str (nomark _))
        (pss_one (ps_ret (pe_tup (pa_cons (pv 2) (pa_cons (pe_op op_subU (pv 2) pe_int) (pa_cons (pe_call G_laid (hr.mono (by decide)) (by rfl) g.g_laid g.F_laid.kp g.n_laid .nil pass0 (pa_cons (pv 0) (pa_cons (pv 2) pa_nil))) pa_nil)))))) pss_nil)
      (pss_cons (ps_if (pt_cmpR (op_eqK K hr.units) (pv 1) pe_str (nomark _))
        (pss_one (ps_ret (pe_tup (pa_cons (pe_op op_subU (pv 2) pe_int) (pa_cons (pv 2) (pa_cons (pe_op op_subU pe_int (pe_call G_laid (hr.mono (by decide)) (by rfl) g.g_laid g.F_laid.kp g.n_laid .nil pass0 (pa_cons (pv 0) (pa_cons (pv 2) pa_nil)))) pa_nil)))))) pss_nil)
      (pss_one (ps_ret (pe_tup (pa_cons (pe_glob (by rfl) g.m_NOUGHT g.r_NOUGHT) (pa_cons (pv 2) (pa_cons (pe_op op_subU pe_int (pe_call G_laid (hr.mono (by decide)) (by rfl) g.g_laid g.F_laid.kp g.n_laid .nil pass0 (pa_cons (pv 0) (pa_cons (pv 2) pa_nil)))) pa_nil)))))))), ?_⟩)
  intro ds d hR N H σ Q A k
  cases hR with
  | laid b t wb h0 h1 =>
    exact q_whenT A (et_T (e_eqS (e_var rfl) e_str (by decide +kernel) (by decide +kernel))) (by decide +kernel) fun H1 A1 =>
      s_ret A1 (e_tup (ea3 (e_var rfl) (e_sub (e_var rfl) e_int) (e_fn (ea2 (e_var rfl) (e_var rfl)) (.mk b t wb h0 h1)))) k
  | took b t wb h0 h1 =>
    exact q_whenF A (et_T (e_eqS (e_var rfl) e_str (by decide +kernel) (by decide +kernel))) (by decide +kernel) fun H1 A1 =>
      q_whenT A1 (et_T (e_eqS (e_var rfl) e_str (by decide +kernel) (by decide +kernel))) (by decide +kernel) fun H2 A2 =>
      s_ret A2 (e_tup (ea3 (e_sub (e_var rfl) e_int) (e_var rfl) (e_sub e_int (e_fn (ea2 (e_var rfl) (e_var rfl)) (.mk b t wb h0 h1))))) k
  | floor b t wb h0 h1 =>
    exact q_whenF A (et_T (e_eqS (e_var rfl) e_str (by decide +kernel) (by decide +kernel))) (by decide +kernel) fun H1 A1 =>
      q_whenF A1 (et_T (e_eqS (e_var rfl) e_str (by decide +kernel) (by decide +kernel))) (by decide +kernel) fun H2 A2 =>
      s_ret A2 (e_tup (ea3 e_int (e_var rfl) (e_sub e_int (e_fn (ea2 (e_var rfl) (e_var rfl)) (.mk b t wb h0 h1))))) k
theorem sc_read_fact : FnScope ["book", "sights", "fact", "sight", "own"] ["book", "sights", "fact"] (defScope s_read_fact) := ⟨rfl, rfl, rfl, by decide +kernel, rfl, by decide +kernel, by decide +kernel⟩
theorem ok_read_fact (g : GL K mg) : FnOk P w K mg base CX0 4 g.a_read_fact g.fd_read_fact ["book", "sights", "fact"] (PureSp R_read_fact) := by
  have G_own_tick := ok_own_tick (P := P) (w := w) (base := base) g
  have G_laid := ok_laid (P := P) (w := w) (base := base) g
  have G_read_tick := ok_read_tick (P := P) (w := w) (base := base) g
  refine fn_pure g.F_read_fact sc_read_fact (fun ds d h => by cases h <;> rfl) (fun cdv A outer s H EX hr => ⟨_, (pss_cons (ps_if (pt_cmpR (op_inK K (units65 hr)) (pe_ix (ix_seqK K) (pv 2) pe_int (fun _ _ => rfl)) (pe_tup (pa_cons pe_str (pa_cons pe_str (pa_cons pe_str pa_nil)))) (by rfl))
        (pss_one (ps_ret (pe_call G_read_tick (hr.mono (by decide)) (by rfl) g.g_read_tick g.F_read_tick.kp g.n_read_tick .nil pass0 (pa_cons (pv 0) (pa_cons (pe_ix (ix_seqK K) (pv 2) pe_int (fun _ _ => rfl)) (pa_cons (pe_ix (ix_seqK K) (pv 2) pe_int (fun _ _ => rfl)) pa_nil)))))) pss_nil)
      (pss_cons (ps_set (i := 3) sc_read_fact.nd rfl (.inl rfl) (pe_ix (ix_seqK K) (pv 1) (pe_ix (ix_seqK K) (pv 2) pe_int (fun _ _ => rfl)) (fun _ _ => rfl)))
      (pss_cons (ps_if (pt_cmpR (op_eqK K hr.units) (pe_ix (ix_seqK K) (pv 2) pe_int (fun _ _ => rfl)) pe_str (nomark _))
        (pss_one (ps_ret (pe_tup (pa_cons (pe_ix (ix_seqK K) (pv 3) pe_int (fun _ _ => rfl)) (pa_cons (pe_glob (by rfl) g.m_NOUGHT g.r_NOUGHT) (pa_cons (pe_ix (ix_seqK K) (pv 3) pe_int (fun _ _ => rfl)) pa_nil)))))) pss_nil)
      (pss_cons (ps_if (pt_cmpR (op_eqK K hr.units) (pe_ix (ix_seqK K) (pv 2) pe_int (fun _ _ => rfl)) pe_str (nomark _))
        (pss_one (ps_ret (pe_tup (pa_cons (pe_glob (by rfl) g.m_NOUGHT g.r_NOUGHT) (pa_cons (pe_ix (ix_seqK K) (pv 3) pe_int (fun _ _ => rfl)) (pa_cons (pe_op op_subU pe_int (pe_ix (ix_seqK K) (pv 3) pe_int (fun _ _ => rfl))) pa_nil)))))) pss_nil)
      (pss_cons (ps_set (i := 4) sc_read_fact.nd rfl (.inl rfl) (pe_call G_own_tick (hr.mono (by decide)) (by rfl) g.g_own_tick g.F_own_tick.kp g.n_own_tick .nil pass0 (pa_cons (pv 0) (pa_cons (pe_ix (ix_seqK K) (pv 3) pe_int (fun _ _ => rfl)) pa_nil))))
      (pss_cons (ps_if (pt_cmpR (op_eqK K hr.units) (pe_ix (ix_seqK K) (pv 2) pe_int (fun _ _ => rfl)) pe_str (nomark _))
        (pss_one (ps_ret (pe_tup (pa_cons (pv 4) (pa_cons (pe_ix (ix_seqK K) (pv 2) pe_int (fun _ _ => rfl)) (pa_cons (pe_op op_subU pe_int (pe_call G_laid (hr.mono (by decide)) (by rfl) g.g_laid g.F_laid.kp g.n_laid .nil pass0 (pa_cons (pv 0) (pa_cons (pe_ix (ix_seqK K) (pv 2) pe_int (fun _ _ => rfl)) pa_nil)))) pa_nil)))))) pss_nil)
      (pss_one (ps_ret (pe_ifExp (pt_cmpR (op_eqK K hr.units) (pe_ix (ix_seqK K) (pv 2) pe_int (fun _ _ => rfl)) pe_str (nomark _)) (pe_tup (pa_cons (pe_ix (ix_seqK K) (pv 3) pe_int (fun _ _ => rfl)) (pa_cons (pv 4) (pa_cons (pe_ix (ix_seqK K) (pv 3) pe_int (fun _ _ => rfl)) pa_nil)))) (pe_tup (pa_cons (pv 4) (pa_cons (pe_ix (ix_seqK K) (pv 3) pe_int (fun _ _ => rfl)) (pa_cons (pe_op op_subU pe_int (pe_ix (ix_seqK K) (pv 3) pe_int (fun _ _ => rfl))) pa_nil))))))))))))), ?_⟩)
  intro ds d hR N H σ Q A k
  cases hR with
  | mk b ss f wb ws hf =>
    have hall := ws.all
    cases f with
    | laid t =>
      exact q_whenT A (et_T (e_inT (e_ixT (e_var rfl) e_int (atI_0 _ _)) (e_tup (ea3 e_str e_str e_str)) rfl rfl)) (by decide +kernel) fun H1 A1 =>
        s_ret A1 (e_fn (ea3 (e_var rfl) (e_ixT (e_var rfl) e_int (atI_0 _ _)) (e_ixT (e_var rfl) e_int (atI_1 _ _ _))) (.laid b t wb hf.1 hf.2)) k
    | took t =>
      exact q_whenT A (et_T (e_inT (e_ixT (e_var rfl) e_int (atI_0 _ _)) (e_tup (ea3 e_str e_str e_str)) rfl rfl)) (by decide +kernel) fun H1 A1 =>
        s_ret A1 (e_fn (ea3 (e_var rfl) (e_ixT (e_var rfl) e_int (atI_0 _ _)) (e_ixT (e_var rfl) e_int (atI_1 _ _ _))) (.took b t wb hf.1 hf.2)) k
    | floor t =>
      exact q_whenT A (et_T (e_inT (e_ixT (e_var rfl) e_int (atI_0 _ _)) (e_tup (ea3 e_str e_str e_str)) rfl rfl)) (by decide +kernel) fun H1 A1 =>
        s_ret A1 (e_fn (ea3 (e_var rfl) (e_ixT (e_var rfl) e_int (atI_0 _ _)) (e_ixT (e_var rfl) e_int (atI_1 _ _ _))) (.floor b t wb hf.1 hf.2)) k
    | most a =>
      obtain ⟨j, t, m, rfl, hj⟩ := hf
      refine q_whenF A (et_T (e_inT (e_ixT (e_var rfl) e_int (atI_0 _ _)) (e_tup (ea3 e_str e_str e_str)) rfl rfl)) (by decide +kernel) fun H1 A1 => ?_
      rcases hj with hj | hj
      all_goals
        have hg := getS hj
        refine q_asg A1 (e_ixT (e_var rfl) (e_ixT (e_var rfl) e_int (atI_1 _ _ _)) (atI_nat hg)) fun σ2 H2 A2 => ?_
        refine q_whenT A2 (et_T (e_eqS (e_ixT (e_var rfl) e_int (atI_0 _ _)) e_str (by decide +kernel) (by decide +kernel))) (by decide +kernel) fun H3 A3 => ?_
        refine s_ret A3 (e_is (e_tup (ea3 (e_ixT (e_var rfl) e_int (atI_1 _ _ _)) e_int (e_ixT (e_var rfl) e_int (atI_2 _ _ _ _)))) ?_) k
        simp only [con, Int.toNat_natCast, hj]; rfl
    | least a =>
      obtain ⟨j, t, m, rfl, hj⟩ := hf
      refine q_whenF A (et_T (e_inT (e_ixT (e_var rfl) e_int (atI_0 _ _)) (e_tup (ea3 e_str e_str e_str)) rfl rfl)) (by decide +kernel) fun H1 A1 => ?_
      rcases hj with hj | hj
      all_goals
        have hg := getS hj
        refine q_asg A1 (e_ixT (e_var rfl) (e_ixT (e_var rfl) e_int (atI_1 _ _ _)) (atI_nat hg)) fun σ2 H2 A2 => ?_
        refine q_whenF A2 (et_T (e_eqS (e_ixT (e_var rfl) e_int (atI_0 _ _)) e_str (by decide +kernel) (by decide +kernel))) (by decide +kernel) fun H3 A3 => ?_
        refine q_whenT A3 (et_T (e_eqS (e_ixT (e_var rfl) e_int (atI_0 _ _)) e_str (by decide +kernel) (by decide +kernel))) (by decide +kernel) fun H4 A4 => ?_
        refine s_ret A4 (e_is (e_tup (ea3 e_int (e_ixT (e_var rfl) e_int (atI_1 _ _ _)) (e_sub e_int (e_ixT (e_var rfl) e_int (atI_2 _ _ _ _))))) ?_) k
        simp only [con, Int.toNat_natCast, hj]; rfl
    | there a t =>
      obtain ⟨j, u, n, m, rfl, hj, h1, h2⟩ := hf
      have w1 := hall _ (List.mem_of_getElem? hj)
      have hg := getS hj
      have hu : u ≤ b.fin := w1.hi
      have h0 := (WS1.own0 wb w1).1
      refine q_whenF A (et_T (e_inT (e_ixT (e_var rfl) e_int (atI_0 _ _)) (e_tup (ea3 e_str e_str e_str)) rfl rfl)) (by decide +kernel) fun H1 A1 => ?_
      refine q_asg A1 (e_ixT (e_var rfl) (e_ixT (e_var rfl) e_int (atI_1 _ _ _)) (atI_nat hg)) fun σ2 H2 A2 => ?_
      refine q_whenF A2 (et_T (e_eqS (e_ixT (e_var rfl) e_int (atI_0 _ _)) e_str (by decide +kernel) (by decide +kernel))) (by decide +kernel) fun H3 A3 => ?_
      refine q_whenF A3 (et_T (e_eqS (e_ixT (e_var rfl) e_int (atI_0 _ _)) e_str (by decide +kernel) (by decide +kernel))) (by decide +kernel) fun H4 A4 => ?_
      refine q_asg A4 (d := .int (ownT b n)) (e_is (e_fn (ea2 (e_var rfl) (e_ixT (e_var rfl) e_int (atI_2 _ _ _ _))) (.mk b n wb w1.own'.1)) (by rw [w1.own'.2.1]; rfl)) fun σ5 H5 A5 => ?_
      refine q_whenT A5 (et_T (e_eqS (e_ixT (e_var rfl) e_int (atI_0 _ _)) e_str (by decide +kernel) (by decide +kernel))) (by decide +kernel) fun H6 A6 => ?_
      refine s_ret A6 (e_is (e_tup (ea3 (e_var rfl) (e_ixT (e_var rfl) e_int (atI_2 _ _ _ _)) (e_sub e_int (e_fn (ea2 (e_var rfl) (e_ixT (e_var rfl) e_int (atI_2 _ _ _ _))) (.mk b t wb (by omega) (by omega)))))) ?_) k
      simp only [con, Int.toNat_natCast, hj]; rfl
    | over a =>
      obtain ⟨j, u, n, m, rfl, hj⟩ := hf
      have w1 := hall _ (List.mem_of_getElem? hj)
      have hg := getS hj
      refine q_whenF A (et_T (e_inT (e_ixT (e_var rfl) e_int (atI_0 _ _)) (e_tup (ea3 e_str e_str e_str)) rfl rfl)) (by decide +kernel) fun H1 A1 => ?_
      refine q_asg A1 (e_ixT (e_var rfl) (e_ixT (e_var rfl) e_int (atI_1 _ _ _)) (atI_nat hg)) fun σ2 H2 A2 => ?_
      refine q_whenF A2 (et_T (e_eqS (e_ixT (e_var rfl) e_int (atI_0 _ _)) e_str (by decide +kernel) (by decide +kernel))) (by decide +kernel) fun H3 A3 => ?_
      refine q_whenF A3 (et_T (e_eqS (e_ixT (e_var rfl) e_int (atI_0 _ _)) e_str (by decide +kernel) (by decide +kernel))) (by decide +kernel) fun H4 A4 => ?_
      refine q_asg A4 (d := .int (ownT b n)) (e_is (e_fn (ea2 (e_var rfl) (e_ixT (e_var rfl) e_int (atI_2 _ _ _ _))) (.mk b n wb w1.own'.1)) (by rw [w1.own'.2.1]; rfl)) fun σ5 H5 A5 => ?_
      refine q_whenF A5 (et_T (e_eqS (e_ixT (e_var rfl) e_int (atI_0 _ _)) e_str (by decide +kernel) (by decide +kernel))) (by decide +kernel) fun H6 A6 => ?_
      refine s_ret A6 (e_ifT (et_T (e_eqS (e_ixT (e_var rfl) e_int (atI_0 _ _)) e_str (by decide +kernel) (by decide +kernel))) (by decide +kernel)
        (e_is (e_tup (ea3 (e_ixT (e_var rfl) e_int (atI_1 _ _ _)) (e_var rfl) (e_ixT (e_var rfl) e_int (atI_nat (j := 3) rfl)))) ?_)) k
      simp only [con, Int.toNat_natCast, hj]; rfl
    | under a =>
      obtain ⟨j, u, n, m, rfl, hj⟩ := hf
      have w1 := hall _ (List.mem_of_getElem? hj)
      have hg := getS hj
      refine q_whenF A (et_T (e_inT (e_ixT (e_var rfl) e_int (atI_0 _ _)) (e_tup (ea3 e_str e_str e_str)) rfl rfl)) (by decide +kernel) fun H1 A1 => ?_
      refine q_asg A1 (e_ixT (e_var rfl) (e_ixT (e_var rfl) e_int (atI_1 _ _ _)) (atI_nat hg)) fun σ2 H2 A2 => ?_
      refine q_whenF A2 (et_T (e_eqS (e_ixT (e_var rfl) e_int (atI_0 _ _)) e_str (by decide +kernel) (by decide +kernel))) (by decide +kernel) fun H3 A3 => ?_
      refine q_whenF A3 (et_T (e_eqS (e_ixT (e_var rfl) e_int (atI_0 _ _)) e_str (by decide +kernel) (by decide +kernel))) (by decide +kernel) fun H4 A4 => ?_
      refine q_asg A4 (d := .int (ownT b n)) (e_is (e_fn (ea2 (e_var rfl) (e_ixT (e_var rfl) e_int (atI_2 _ _ _ _))) (.mk b n wb w1.own'.1)) (by rw [w1.own'.2.1]; rfl)) fun σ5 H5 A5 => ?_
      refine q_whenF A5 (et_T (e_eqS (e_ixT (e_var rfl) e_int (atI_0 _ _)) e_str (by decide +kernel) (by decide +kernel))) (by decide +kernel) fun H6 A6 => ?_
      refine s_ret A6 (e_ifF (et_T (e_eqS (e_ixT (e_var rfl) e_int (atI_0 _ _)) e_str (by decide +kernel) (by decide +kernel))) (by decide +kernel)
        (e_is (e_tup (ea3 (e_var rfl) (e_ixT (e_var rfl) e_int (atI_1 _ _ _)) (e_sub e_int (e_ixT (e_var rfl) e_int (atI_nat (j := 3) rfl))))) ?_)) k
      simp only [con, Int.toNat_natCast, hj]; rfl
theorem sc_facts_of_sight : FnScope ["book", "sights", "at", "sight", "found", "tick", "word"] ["book", "sights", "at"] (defScope s_facts_of_sight) := ⟨rfl, rfl, rfl, by decide +kernel, rfl, by decide +kernel, by decide +kernel⟩
theorem ok_facts_of_sight (g : GL K mg) : FnOk P w K mg base CX0 2 g.a_facts_of_sight g.fd_facts_of_sight ["book", "sights", "at"] (PureSp R_facts_of_sight) := by
  have G_own_tick := ok_own_tick (P := P) (w := w) (base := base) g
  refine fn_pure g.F_facts_of_sight sc_facts_of_sight (fun ds d h => by cases h <;> rfl) (fun cdv A outer s H EX hr => ⟨_, (pss_cons (ps_set (i := 3) sc_facts_of_sight.nd rfl (.inr rfl) (pe_ix (ix_seqK K) (pv 1) (pv 2) (fun _ _ => rfl)))
      (pss_cons (ps_if (pt_cmpR (op_eqK K hr.units) (pe_ix (ix_seqK K) (pv 3) pe_int (fun _ _ => rfl)) pe_str (nomark _))
        (pss_cons (ps_setLc (i := 4) rfl sc_facts_of_sight.nd rfl rfl (sw_true rfl rfl rfl (by decide +kernel)) (own := [("tick", 5)]) (pi_range2 (by rfl) g.b_range (pa_cons (pe_op (op_addK K) (pe_call G_own_tick (hr.mono (by decide)) (by rfl) g.g_own_tick g.F_own_tick.kp g.n_own_tick .nil pass0 (pa_cons (pv 0) (pa_cons (pe_ix (ix_seqK K) (pv 3) pe_int (fun _ _ => rfl)) pa_nil))) pe_int) (pa_cons (pe_op (op_addK K) (pe_ix (ix_seqK K) (pv 3) pe_int (fun _ _ => rfl)) pe_int) pa_nil))) (blkOk_by (N := ["book", "sights", "at", "sight", "found", "tick", "word"]) (sc := defScope s_facts_of_sight) (by decide +kernel)) (fun _ _ _ _ _ => (pg_name (i := 5) sc_facts_of_sight.nd rfl (by first | exact .inl rfl | exact .inr rfl))) (fun _ _ _ _ _ => pts_nil) (fun _ _ _ _ _ => (pe_tup (pa_cons pe_str (pa_cons (pv 2) (pa_cons (pv 5) pa_nil))))))
      (pss_one (ps_ret (pe_op (op_addK K) (pv 4) (pe_lst (pa_cons (pe_tup (pa_cons pe_str (pa_cons (pv 2) pa_nil))) (pa_cons (pe_tup (pa_cons pe_str (pa_cons (pv 2) pa_nil))) pa_nil))))))) pss_nil)
      (pss_one (ps_ret (pe_lc (own := [("word", 6)]) rfl sc_facts_of_sight.nd (pi_seqK K (pe_tup (pa_cons pe_str (pa_cons pe_str pa_nil)))) (blkOk_by (N := ["book", "sights", "at", "sight", "found", "tick", "word"]) (sc := defScope s_facts_of_sight) (by decide +kernel)) (fun _ _ _ _ _ => (pg_name (i := 6) sc_facts_of_sight.nd rfl (by first | exact .inl rfl | exact .inr rfl))) (fun _ _ _ _ _ => (pts_one (pt_cmpR (op_inK K (units65 hr)) (pe_ix (ix_seqK K) (pv 3) pe_int (fun _ _ => rfl)) (pe_tup (pa_cons (pv 6) (pa_cons pe_str pa_nil))) (by rfl)))) (fun _ _ _ _ _ => (pe_tup (pa_cons (pv 6) (pa_cons (pv 2) pa_nil))))))))), ?_⟩)
  intro ds d hR N H σ Q A k
  cases hR with
  | mk b ss a s wb ws hs =>
    have w1 := ws.all _ (List.mem_of_getElem? hs)
    refine q_asg A (e_ixT (e_var rfl) (e_var rfl) (atI_nat (getS hs))) fun σ1 H1 A1 => ?_
    cases s with
    | above u n m =>
      have hu : u ≤ b.fin := w1.hi
      have h0 := (WS1.own0 wb w1).1
      have h1 := w1.own'.2.2
      have hb := wb.hi
      refine q_whenT A1 (et_T (e_eqS (e_ixT (e_var rfl) e_int (atI_0 _ _)) e_str (by decide +kernel) (by decide +kernel))) (by decide +kernel) fun H2 A2 => ?_
      refine q_asg A2 (EL.e (el_lc0 (ts := [5]) (List.range (u + 1 - (ownT b n + 1)).toNat) (fun i => .int (ownT b n + 1 + (i : Nat))) (fun i => encFact (.there (a : Nat) (ownT b n + 1 + (i : Nat))))
        (fun i => [.dat (encBook b), .dat (encSights ss), .dat (.int (a : Nat)), .dat (encSight (.above u n m)), .no, .dat (.int (ownT b n + 1 + (i : Nat))), .no])
        (src_r2 (ea2 (e_add (e_is (e_fn (ea2 (e_var rfl) (e_ixT (e_var rfl) e_int (atI_2 _ _ _ _))) (.mk b n wb w1.own'.1)) (by rw [w1.own'.2.1]; rfl)) e_int) (e_add (e_ixT (e_var rfl) e_int (atI_1 _ _ _)) e_int)) (by omega))
        (by rw [List.length_range]; omega) (by simp) (fun i _ => tg_n 5) (fun i _ => e_tup (ea3 e_str (e_var rfl) (e_var rfl))))) fun σ3 H3 A3 => ?_
      refine s_ret A3 (e_is (EL.e (el_addL (e_var rfl) (EL.e (el_lst (ea2 (e_tup (ea2 e_str (e_var rfl))) (e_tup (ea2 e_str (e_var rfl)))))) (by simp; omega))) ?_) k
      simp only [factsOfSight, List.map_append, List.map_map]
      rw [show u + 1 - (ownT b n + 1) = u - ownT b n by omega]
      rfl
    | high t m =>
      refine q_whenF A1 (et_T (e_eqS (e_ixT (e_var rfl) e_int (atI_0 _ _)) e_str (by decide +kernel) (by decide +kernel))) (by decide +kernel) fun H2 A2 => ?_
      refine s_ret A2 (e_is (EL.e (el_lc (ts := [6]) (["most", "least"] : List Str) .str (fun w => [D.str w, .str "high"].any fun z => eqD z (.str "high")) (fun w => .tup [.str w, .int (a : Nat)])
        (fun w => [.dat (encBook b), .dat (encSights ss), .dat (.int (a : Nat)), .dat (encSight (.high t m)), .no, .no, .dat (.str w)]) (src_T (e_tup (ea2 e_str e_str))) (by decide) (by simp) (fun i _ => tg_n 6)
        (fun w _ => et_T (e_inT (e_ixT (e_var rfl) e_int (atI_0 _ _)) (e_tup (ea2 (e_var rfl) e_str)) rfl rfl)) (fun w _ _ => e_tup (ea2 (e_var rfl) (e_var rfl))))) ?_) k
      rw [show (["most", "least"] : List Str).filter (fun w => [D.str w, .str "high"].any fun z => eqD z (.str "high")) = [("most" : Str), ("least" : Str)] by decide +kernel]; rfl
    | least t m =>
      refine q_whenF A1 (et_T (e_eqS (e_ixT (e_var rfl) e_int (atI_0 _ _)) e_str (by decide +kernel) (by decide +kernel))) (by decide +kernel) fun H2 A2 => ?_
      refine s_ret A2 (e_is (EL.e (el_lc (ts := [6]) (["most", "least"] : List Str) .str (fun w => [D.str w, .str "high"].any fun z => eqD z (.str "least")) (fun w => .tup [.str w, .int (a : Nat)])
        (fun w => [.dat (encBook b), .dat (encSights ss), .dat (.int (a : Nat)), .dat (encSight (.least t m)), .no, .no, .dat (.str w)]) (src_T (e_tup (ea2 e_str e_str))) (by decide) (by simp) (fun i _ => tg_n 6)
        (fun w _ => et_T (e_inT (e_ixT (e_var rfl) e_int (atI_0 _ _)) (e_tup (ea2 (e_var rfl) e_str)) rfl rfl)) (fun w _ _ => e_tup (ea2 (e_var rfl) (e_var rfl))))) ?_) k
      rw [show (["most", "least"] : List Str).filter (fun w => [D.str w, .str "high"].any fun z => eqD z (.str "least")) = [("least" : Str)] by decide +kernel]; rfl
    | most t m =>
      refine q_whenF A1 (et_T (e_eqS (e_ixT (e_var rfl) e_int (atI_0 _ _)) e_str (by decide +kernel) (by decide +kernel))) (by decide +kernel) fun H2 A2 => ?_
      refine s_ret A2 (e_is (EL.e (el_lc (ts := [6]) (["most", "least"] : List Str) .str (fun w => [D.str w, .str "high"].any fun z => eqD z (.str "most")) (fun w => .tup [.str w, .int (a : Nat)])
        (fun w => [.dat (encBook b), .dat (encSights ss), .dat (.int (a : Nat)), .dat (encSight (.most t m)), .no, .no, .dat (.str w)]) (src_T (e_tup (ea2 e_str e_str))) (by decide) (by simp) (fun i _ => tg_n 6)
        (fun w _ => et_T (e_inT (e_ixT (e_var rfl) e_int (atI_0 _ _)) (e_tup (ea2 (e_var rfl) e_str)) rfl rfl)) (fun w _ _ => e_tup (ea2 (e_var rfl) (e_var rfl))))) ?_) k
      rw [show (["most", "least"] : List Str).filter (fun w => [D.str w, .str "high"].any fun z => eqD z (.str "most")) = [("most" : Str)] by decide +kernel]; rfl
theorem sc_facts_of : FnScope ["book", "sights", "found", "tick", "at"] ["book", "sights"] (defScope s_facts_of) := ⟨rfl, rfl, rfl, by decide +kernel, rfl, by decide +kernel, by decide +kernel⟩
theorem ok_facts_of (g : GL K mg) : FnOk P w K mg base CX0 3 g.a_facts_of g.fd_facts_of ["book", "sights"] (PureSp R_facts_of) := by
  have G_facts_of_sight := ok_facts_of_sight (P := P) (w := w) (base := base) g
  refine fn_pure g.F_facts_of sc_facts_of (fun ds d h => by cases h <;> rfl) (fun cdv A outer s H EX hr => ⟨_, (pss_cons (ps_set (i := 2) sc_facts_of.nd rfl (.inl rfl) (pe_lst pa_nil))
      (pss_cons (ps_for PassesOwn.never rfl (pi_range1 (by rfl) g.b_range (pa_cons (pe_op (op_addK K) (pe_ix (ix_seqK K) (pv 0) pe_int (fun _ _ => rfl)) pe_int) pa_nil)) (pg_name (i := 3) sc_facts_of.nd rfl (.inl rfl))
        (pss_one (ps_aug (i := 2) sc_facts_of.nd rfl (.inl rfl) (pe_lst (pa_cons (pe_tup (pa_cons pe_str (pa_cons (pv 3) pa_nil))) (pa_cons (pe_tup (pa_cons pe_str (pa_cons (pv 3) pa_nil))) (pa_cons (pe_tup (pa_cons pe_str (pa_cons (pv 3) pa_nil))) pa_nil)))) ip_extU)))
      (pss_cons (ps_for PassesOwn.never rfl (pi_range1 (by rfl) g.b_range (pa_cons (pe_callB (call_lenK K) (by rfl) g.b_len (by decide +kernel) (pa_cons (pv 1) pa_nil)) pa_nil)) (pg_name (i := 4) sc_facts_of.nd rfl (.inl rfl))
        (pss_one (ps_aug (i := 2) sc_facts_of.nd rfl (.inl rfl) (pe_call G_facts_of_sight (hr.mono (by decide)) (by rfl) g.g_facts_of_sight g.F_facts_of_sight.kp g.n_facts_of_sight .nil pass0 (pa_cons (pv 0) (pa_cons (pv 1) (pa_cons (pv 4) pa_nil)))) ip_extU)))
      (pss_one (ps_ret (pv 2)))))), ?_⟩)
  intro ds d hR N H σ Q A k
  cases hR with
  | mk b ss wb ws =>
    have hb := wb.hi
    have hb0 := wb.lo
    have hf := ws.few
    refine q_asgL A (el_lst ea_nil) fun p σ1 H1 A1 => ?_
    refine q_for (S := Nat) (ts := [3]) (fun n => [(p, .lst ((factsBook n).map encFact))]) (fun _ => [.dat (encBook b), .dat (encSights ss), .val (.ref p), .no, .no]) (fun i n => n = i ∧ i ≤ 21) 0 A1
      (src_r1 (ea1 (e_add (e_ixT (e_var rfl) e_int (atI_0 _ _)) e_int)) (by omega)) ⟨rfl, by omega⟩ (fun _ d => [.dat (encBook b), .dat (encSights ss), .val (.ref p), .dat d, .no]) (fun _ _ _ _ _ => tg_n 3) ?_ ?_
    · rintro L i n d σ2 H2 hd ⟨rfl, _⟩ A2
      have hi := at_lt hd
      rw [rangeD_len] at hi
      rw [rangeD_get hi] at hd
      cases hd
      refine s_augL A2 (k := 0) rfl rfl (Vw.refl _ _) (el_lst (ea3 (e_tup (ea2 e_str (e_var rfl))) (e_tup (ea2 e_str (e_var rfl))) (e_tup (ea2 e_str (e_var rfl))))) rfl (by rw [List.length_map, factsBook_len]; simp; omega) fun σ3 H3 A3 => ⟨n + 1, ⟨rfl, by omega⟩, ?_⟩
      have A4 := A3.weak (.same (.same (.same (.drop (.same .nil)))))
      have e : (factsBook n).map encFact ++ [.tup [.str "laid", .int (0 + (n : Nat))], .tup [.str "took", .int (0 + (n : Nat))], .tup [.str "floor", .int (0 + (n : Nat))]] = (factsBook (n + 1)).map encFact := by
        rw [factsBook_succ, List.map_append, Int.zero_add]; rfl
      have A5 : At _ [(p, .lst ((factsBook n).map encFact ++ [.tup [.str "laid", .int (0 + (n : Nat))], .tup [.str "took", .int (0 + (n : Nat))], .tup [.str "floor", .int (0 + (n : Nat))]]))] _ _ _ := A4
      rw [e] at A5
      exact A5
    · rintro n σ2 H2 ⟨hn, _⟩ A2
      rw [rangeD_len] at hn
      subst hn
      refine q_for (S := Nat) (ts := [4]) (fun n => [(p, .lst ((factsBook (b.fin + 1).toNat ++ factsAt 0 b (ss.take n)).map encFact))]) (fun _ => [.dat (encBook b), .dat (encSights ss), .val (.ref p), .no, .no]) (fun i n => n = i) 0 (by rw [List.take_zero, factsAt, List.append_nil]; exact A2)
        (src_r1 (ea1 (e_lenT (e_var rfl))) (by rw [List.length_map]; omega)) rfl (fun _ d => [.dat (encBook b), .dat (encSights ss), .val (.ref p), .no, .dat d]) (fun _ _ _ _ _ => tg_n 4) ?_ ?_
      · rintro L i n d σ3 H3 hd rfl A3
        have hi := at_lt hd
        rw [rangeD_len, List.length_map] at hi
        have hi : n < ss.length := by omega
        rw [rangeD_get (by rw [List.length_map]; omega)] at hd
        cases hd
        have hx : ss[n]? = some ss[n] := List.getElem?_eq_getElem hi
        generalize ss[n] = s at hx
        have hl : (factsAt 0 b (ss.take n)).length ≤ 200 := by
          have h1 := factsAt_len wb (ss.take n) 0 fun s hs => ws.all s (List.mem_of_mem_take hs)
          rw [List.length_take] at h1
          omega
        have hl2 := factsOfSight_len wb (ws.all s (List.mem_of_getElem? hx)) (n : Nat)
        refine s_augE A3 (k := 0) rfl rfl (e_fn (ea3 (e_var rfl) (e_var rfl) (e_is (e_var rfl) (by rw [Int.zero_add]))) (.mk b ss n s wb ws hx)) (by rw [List.length_map, List.length_map, List.length_append, factsBook_len]; omega) fun σ4 H4 A4 => ⟨n + 1, rfl, ?_⟩
        have A5 := A4.weak (.same (.same (.same (.same (.drop .nil)))))
        have e : (factsBook (b.fin + 1).toNat ++ factsAt 0 b (ss.take n)).map encFact ++ (factsOfSight b s (n : Nat)).map encFact = (factsBook (b.fin + 1).toNat ++ factsAt 0 b (ss.take (n + 1))).map encFact := by
          have e1 : ss.take (n + 1) = ss.take n ++ [s] := by rw [List.take_add_one, hx]; rfl
          rw [e1, factsAt_snoc, List.length_take, Nat.min_eq_left (Nat.le_of_lt hi), Nat.zero_add, ← List.append_assoc]
          simp only [List.map_append]
        have A6 : At _ [(p, .lst ((factsBook (b.fin + 1).toNat ++ factsAt 0 b (ss.take n)).map encFact ++ (factsOfSight b s (n : Nat)).map encFact))] _ _ _ := A5
        rw [e] at A6
        exact A6
      · rintro n σ3 H3 hn A3
        rw [rangeD_len, List.length_map] at hn
        have hn : n = ss.length := by omega
        subst hn
        rw [List.take_length] at A3
        exact s_ret (A3.freeze (i := 2) rfl rfl (by simp)) (e_var rfl) k
theorem sc_gone_back : FnScope ["by", "last", "many", "turn", "found", "here"] ["by", "last", "many"] (defScope s_gone_back) := ⟨rfl, rfl, rfl, by decide +kernel, rfl, by decide +kernel, by decide +kernel⟩
theorem ok_gone_back (g : GL K mg) : FnOk P w K mg base CX0 1 g.a_gone_back g.fd_gone_back ["by", "last", "many"] (PureSp R_gone_back) := by
  refine fn_pure g.F_gone_back sc_gone_back (fun ds d h => by cases h <;> rfl) (fun cdv A outer s H EX hr => ⟨_, (pss_cons (ps_for PassesOwn.never rfl (pi_range1 (by rfl) g.b_range (pa_cons (pv 2) pa_nil)) (pg_name (i := 3) sc_gone_back.nd rfl (.inl rfl))
        (pss_one (ps_set (i := 1) sc_gone_back.nd rfl (.inl rfl) (pe_ix (ix_seqK K) (pe_dget (hu_of hr) (pv 0) (pv 1) (fun _ _ => rfl)) pe_int (fun _ _ => rfl)))))
      (pss_cons (ps_par (i := 4) (j := 5) rfl sc_gone_back.nd rfl rfl (by decide) rfl rfl (pa_cons (pe_lst (pa_cons (pe_ix (ix_seqK K) (pe_dget (hu_of hr) (pv 0) (pv 1) (fun _ _ => rfl)) pe_int (fun _ _ => rfl)) pa_nil)) (pa_cons (pe_ix (ix_seqK K) (pe_dget (hu_of hr) (pv 0) (pv 1) (fun _ _ => rfl)) pe_int (fun _ _ => rfl)) pa_nil)) (by rfl))
      (pss_cons (ps_while PassesOwn.never (pt_cmpR (op_neK K hr.units) (pv 5) (pv 1) (nomark _))
        (pss_cons (ps_expr (pe_bm PySem.F.plainAttrs_list PySem.F.slot_list_append PySem.F.type_list_append mt_append (pv 4) (pa_cons (pe_ix (ix_seqK K) (pe_dget (hu_of hr) (pv 0) (pv 5) (fun _ _ => rfl)) pe_int (fun _ _ => rfl)) pa_nil)))
      (pss_one (ps_set (i := 5) sc_gone_back.nd rfl (.inl rfl) (pe_ix (ix_seqK K) (pe_dget (hu_of hr) (pv 0) (pv 5) (fun _ _ => rfl)) pe_int (fun _ _ => rfl))))))
      (pss_one (ps_ret (pe_callTy (call_tupK K) (by rfl) g.b_tuple (by decide +kernel) (pa_cons (pv 4) pa_nil))))))), ?_⟩)
  intro ds d hR N H σ Q A k
  cases hR with
  | mk kvs by_ last many out hr h0 h1 hg =>
    obtain ⟨cc, f, y, n, hc, hy, hcy, hn⟩ := hg
    refine q_forT (ts := [3]) (List.range many.toNat) (fun i => .int (0 + (i : Nat))) (fun _ => []) (fun x => [.dat (.dk kvs), .dat (.int x), .dat (.int many), .no, .no, .no]) (fun i x => goBack by_ (many.toNat - i) x = some cc) last
      (fun x i => [.dat (.dk kvs), .dat (.int x), .dat (.int many), .dat (.int (0 + (i : Nat))), .no, .no]) A (src_r1 (ea1 (e_var rfl)) (by omega)) hc (fun _ _ _ _ _ => tg_n 3) ?_ ?_
    · intro L i x j σ2 H2 hi hJ A2
      have hi := at_lt hi
      rw [List.length_range] at hi
      obtain ⟨m', hm'⟩ : ∃ m', many.toNat - i = m' + 1 := ⟨many.toNat - i - 1, by omega⟩
      rw [hm', goBack] at hJ
      cases hb : by_ x with
      | none => rw [hb] at hJ; simp at hJ
      | some p =>
        obtain ⟨f2, y2⟩ := p
        rw [hb] at hJ
        have hv : valD kvs (.inl x) = some (encBy (f2, y2)) := by rw [hr x, hb]; rfl
        refine s_asg A2 (e_ixT (e_dgetI (e_var rfl) (e_var rfl) hv) e_int (atI_1 _ _ _)) fun σ3 H3 A3 => ⟨y2, ?_, A3.weak (.same (.same (.same (.drop (.same (.same .nil))))))⟩
        have e : many.toNat - (i + 1) = m' := by omega
        rw [e]
        exact hJ
    · intro x σ2 H2 hJ A2
      rw [List.length_range, Nat.sub_self] at hJ
      have hx : x = cc := Option.some.inj hJ
      subst hx
      have hv : valD kvs (.inl x) = some (encBy (f, y)) := by rw [hr x, hy]; rfl
      refine q_parLE A2 (el_lst (ea1 (e_ixT (e_dgetI (e_var rfl) (e_var rfl) hv) e_int (atI_0 _ _)))) (e_ixT (e_dgetI (e_var rfl) (e_var rfl) hv) e_int (atI_1 _ _ _)) fun p σ3 H3 A3 => ?_
      refine q_while (S := Int × List OF) (fun s => [(p, .lst (s.2.map encOF))]) (fun s => [.dat (.dk kvs), .dat (.int x), .dat (.int many), .no, .val (.ref p), .dat (.int s.1)])
        (fun m s => CycR by_ x m s.1 s.2 out ∧ s.2.length + m ≤ 2000) n (y, [f]) A3 ⟨hcy, by simp; omega⟩ ?_
      rintro m ⟨here, found⟩ ⟨hC, hl⟩
      refine ⟨!decide (here = x), _, Vw.refl _ _, et_T (e_neI (e_var rfl) (e_var rfl)), fun hb σ4 H4 A4 => ?_, fun hb σ4 H4 A4 => ?_⟩
      · cases hC with
        | stop => simp at hb
        | go hne hby hrest =>
          rename_i m2 y2 f2
          have hv2 : valD kvs (.inl here) = some (encBy (f2, y2)) := by rw [hr here, hby]; rfl
          refine q_app A4 (k := 0) rfl rfl (Vw.refl _ _) (e_ixT (e_dgetI (e_var rfl) (e_var rfl) hv2) e_int (atI_0 _ _)) (encOF_fz f2) (by rw [List.length_map]; dsimp only at hl ⊢; omega) fun H5 A5 => ?_
          refine s_asg A5 (e_ixT (e_dgetI (e_var rfl) (e_var rfl) hv2) e_int (atI_1 _ _ _)) fun σ6 H6 A6 => ⟨m2, (y2, found ++ [f2]), Nat.lt_succ_self _, ⟨hrest, by simp at hl ⊢; omega⟩, ?_⟩
          have e : (found ++ [f2]).map encOF = found.map encOF ++ [encOF f2] := by simp
          show At _ [(p, .lst ((found ++ [f2]).map encOF))] _ _ _
          rw [e]
          exact A6
      · cases hC with
        | go hne hby hrest => simp [hne] at hb
        | stop => exact s_ret (A4.freeze (i := 4) rfl rfl (by simp)) (e_tupL (e_var rfl)) k
theorem sc_settled : FnScope ["end", "says", "most", "by", "turn", "last", "fact", "one", "other", "gap", "tick"] ["end", "says"] (defScope s_settled) := ⟨rfl, rfl, rfl, by decide +kernel, rfl, by decide +kernel, by decide +kernel⟩
theorem ok_settled (g : GL K mg) : FnOk P w K mg base CX0 2 g.a_settled g.fd_settled ["end", "says"] (PureSp R_settled) := by
  have G_gone_back := ok_gone_back (P := P) (w := w) (base := base) g
  refine fn_pure g.F_settled sc_settled (fun ds d h => by cases h <;> rfl) (fun cdv A outer s H EX hr => ⟨_, (pss_cons (ps_setDc (i := 2) rfl sc_settled.nd rfl rfl (sw_trueD rfl rfl rfl (by decide +kernel)) (own := [("tick", 10)]) (pi_range1 (by rfl) g.b_range (pa_cons (pe_op (op_addK K) (pv 0) pe_int) pa_nil)) (blkOk_by (N := ["end", "says", "most", "by", "turn", "last", "fact", "one", "other", "gap", "tick"]) (sc := defScope s_settled) (by decide +kernel)) (fun _ _ _ _ _ => (pg_name (i := 10) sc_settled.nd rfl (by first | exact .inl rfl | exact .inr rfl))) (fun _ _ _ _ _ => pts_nil) (fun _ _ _ _ _ => (pv 10)) (fun _ _ _ _ _ => (pe_op (op_addK K) (pv 10) pe_int)))
      (pss_cons (ps_dput (hu_of hr) (pv 2) (pe_glob (by rfl) g.m_NOUGHT g.r_NOUGHT) pe_int rfl)
      (pss_cons (ps_set (i := 3) sc_settled.nd rfl (.inl rfl) pe_dnewK)
      (pss_cons (ps_for PassesOwn.never rfl (pi_range1 (by rfl) g.b_range (pa_cons (pe_op (op_addK K) (pv 0) pe_int) pa_nil)) (pg_name (i := 4) sc_settled.nd rfl (.inl rfl))
        (pss_cons (ps_set (i := 5) sc_settled.nd rfl (.inl rfl) pe_non)
      (pss_cons (ps_for PassesOwn.never rfl (pi_seqK K (pv 1)) (pg_tupK K (n := 2) (by rfl) (pgs_cons (pg_name (i := 6) sc_settled.nd rfl (.inl rfl)) (pgs_cons (pg_tupK K (n := 3) (by rfl) (pgs_cons (pg_name (i := 7) sc_settled.nd rfl (.inl rfl)) (pgs_cons (pg_name (i := 8) sc_settled.nd rfl (.inl rfl)) (pgs_cons (pg_name (i := 9) sc_settled.nd rfl (.inl rfl)) pgs_nil)))) pgs_nil)))
        (pss_one (ps_if (pt_cmpR op_ltU (pe_op (op_addK K) (pe_dget (hu_of hr) (pv 2) (pv 8) (fun _ _ => rfl)) (pv 9)) (pe_dget (hu_of hr) (pv 2) (pv 7) (fun _ _ => rfl)) (nomark _))
        (pss_cons (ps_dput (hu_of hr) (pv 2) (pv 7) (pe_op (op_addK K) (pe_dget (hu_of hr) (pv 2) (pv 8) (fun _ _ => rfl)) (pv 9)) rfl)
      (pss_cons (ps_dput (hu_of hr) (pv 3) (pv 7) (pe_tup (pa_cons (pv 6) (pa_cons (pv 8) pa_nil))) rfl)
      (pss_one (ps_set (i := 5) sc_settled.nd rfl (.inl rfl) (pv 7))))) pss_nil)))
      (pss_one (ps_if (pt_cmpR op_isNU (pv 5) pe_non (nomark _))
        (pss_one (ps_ret (pe_tup (pa_cons (pv 2) (pa_cons pe_non pa_nil))))) pss_nil)))))
      (pss_one (ps_ret (pe_tup (pa_cons pe_non (pa_cons (pe_call G_gone_back (hr.mono (by decide)) (by rfl) g.g_gone_back g.F_gone_back.kp g.n_gone_back .nil pass0 (pa_cons (pv 3) (pa_cons (pv 5) (pa_cons (pe_op (op_addK K) (pv 0) pe_int) pa_nil)))) pa_nil))))))))), ?_⟩)
  intro ds d hR N H σ Q A k
  cases hR with
  | mk e says _ h0 h1 hs hl hd =>
    refine q_asgL A (el_dc (ts := [10]) (List.range (e + 1).toNat) (fun i => .int (0 + (i : Nat))) (fun i => .inl (0 + ((i : Nat) : Int))) (fun i => .int (0 + ((i : Nat) : Int) + 2))
      (fun i => [.dat (.int e), .dat (.lst (says.map encSay)), .no, .no, .no, .no, .no, .no, .no, .no, .dat (.int (0 + (i : Nat)))]) (src_r1 (ea1 (e_add (e_var rfl) e_int)) (by omega)) (by rw [List.length_range]; omega) (by simp)
      (fun i _ => tg_n 10) (fun i _ => e_var rfl) (fun i _ => e_add (e_var rfl) e_int)) fun pm σ1 H1 A1 => ?_
    refine q_dput A1 (i := 2) (k := 0) (key := .inl (-1)) rfl rfl (Vw.refl _ _) e_int rfl e_int ?_ fun H2 A2 => ?_
    · have h := putAll_len [] ((List.range (e + 1).toNat).map fun i => ((Sum.inl (0 + ((i : Nat) : Int)) : Key), D.int (0 + ((i : Nat) : Int) + 2)))
      rw [List.length_map, List.length_range, List.length_nil] at h
      omega
    have A3 : At _ [(pm, .dk (putD (putAll [] ((List.range (e + 1).toNat).map fun i => ((Sum.inl (0 + ((i : Nat) : Int)) : Key), D.int (0 + ((i : Nat) : Int) + 2)))) (.inl (-1)) (.int 0)))] _ _ _ := A2
    rw [most_start e h0] at A3
    refine q_asgL A3 el_newK fun pb σ4 H4 A4 => ?_
    refine q_forT (S := Sl × BF × List (Key × D)) (ts := [4]) (List.range (e + 4).toNat) (fun i => .int (0 + (i : Nat))) (fun s => [(pb, .dk s.2.2), (pm, .dk (mkMost e s.2.1.most))])
      (fun s => [.dat (.int e), .dat (.lst (says.map encSay)), .val (.ref pm), .val (.ref pb), .no, s.1, .no, .no, .no, .no, .no])
      (fun i s => ByRel s.2.2 s.2.1.by_ ∧ s.2.2.length ≤ i * 2000 ∧ settleLoop says (e + 4).toNat init0 = settleLoop says ((e + 4).toNat - i) s.2.1 ∧ (i = 0 ∨ (s.1 = .dat (encOI s.2.1.last) ∧ ∃ l, s.2.1.last = some l))) (.no, init0, [])
      (fun s i => [.dat (.int e), .dat (.lst (says.map encSay)), .val (.ref pm), .val (.ref pb), .dat (.int (0 + (i : Nat))), s.1, .no, .no, .no, .no, .no]) A4 (src_r1 (ea1 (e_add (e_var rfl) e_int)) (by omega))
      ⟨ByRel.nil, by simp, by simp, .inl rfl⟩ (fun _ _ _ _ _ => tg_n 4) ?_ ?_
    · rintro L i ⟨sl, st, kb⟩ j σ5 H5 hi ⟨hB, hK, hE, _⟩ A5
      have hi := at_lt hi
      rw [List.length_range] at hi
      obtain ⟨m', hm'⟩ : ∃ m', (e + 4).toNat - i = m' + 1 := ⟨(e + 4).toNat - i - 1, by omega⟩
      dsimp only at hB hK hE A5
      refine q_asg A5 e_non fun σ6 H6 A6 => ?_
      refine q_forT (S := BF × List (Key × D)) (ts := [6, 7, 8, 9]) says encSay (fun s => [(pb, .dk s.2), (pm, .dk (mkMost e s.1.most))])
        (fun s => [.dat (.int e), .dat (.lst (says.map encSay)), .val (.ref pm), .val (.ref pb), .dat (.int (0 + (j : Nat))), .dat (encOI s.1.last), .no, .no, .no, .no, .no])
        (fun n s => s.1 = (says.take n).foldl relax { st with last := none } ∧ ByRel s.2 s.1.by_ ∧ s.2.length ≤ i * 2000 + n) ({ st with last := none }, kb)
        (fun s x => [.dat (.int e), .dat (.lst (says.map encSay)), .val (.ref pm), .val (.ref pb), .dat (.int (0 + (j : Nat))), .dat (encOI s.1.last), .dat (encOF x.1), .dat (.int x.2.1), .dat (.int x.2.2.1), .dat (.int x.2.2.2), .no])
        A6 (src_L (e_var rfl)) ⟨rfl, hB, by omega⟩ (fun _ _ x _ _ => tg_tup (tgs_cons (tg_n 6) (tgs_cons (tg_tup (tgs_cons (tg_n 7) (tgs_cons (tg_n 8) (tgs_cons (tg_n 9) tgs_nil)))) tgs_nil))) ?_ ?_
      · rintro L2 n ⟨st2, kb2⟩ x σ7 H7 hx ⟨hS, hB2, hK2⟩ A7
        dsimp only at hS hB2 hK2 A7
        have hok := hs x (List.mem_of_getElem? hx)
        have hn := at_lt hx
        refine s_whenV A7 (ρ' := [.dat (.int e), .dat (.lst (says.map encSay)), .dat (.dk (mkMost e st2.most)), .val (.ref pb), .dat (.int (0 + (j : Nat))), .dat (encOI st2.last), .dat (encOF x.1), .dat (.int x.2.1), .dat (.int x.2.2.1), .dat (.int x.2.2.2), .no])
          (.same (.same (.see (by simp) rfl (Vw.refl _ _)))) (et_T (e_lt (e_add (e_dgetI (e_var rfl) (e_var rfl) (valD_most hok.2)) (e_var rfl)) (e_dgetI (e_var rfl) (e_var rfl) (valD_most hok.1)))) (fun hb H8 A8 => ?_) (fun hb H8 A8 => ?_)
        · have hlt : st2.most x.2.2.1 + x.2.2.2 < st2.most x.2.1 := of_decide_eq_true hb
          refine q_dput A8 (i := 2) (k := 1) (key := .inl x.2.1) (ρ' := [.dat (.int e), .dat (.lst (says.map encSay)), .dat (.dk (mkMost e st2.most)), .val (.ref pb), .dat (.int (0 + (j : Nat))), .dat (encOI st2.last), .dat (encOF x.1), .dat (.int x.2.1), .dat (.int x.2.2.1), .dat (.int x.2.2.2), .no])
            rfl rfl (.same (.same (.see (by simp) rfl (Vw.refl _ _)))) (e_add (e_dgetI (e_var rfl) (e_var rfl) (valD_most hok.2)) (e_var rfl)) rfl (e_var rfl) (by rw [mkMost_len]; omega) fun H9 A9 => ?_
          have A10 : At _ [(pb, .dk kb2), (pm, .dk (putD (mkMost e st2.most) (.inl x.2.1) (.int (st2.most x.2.2.1 + x.2.2.2))))] _ _ _ := A9
          rw [putD_most hok.1] at A10
          refine q_dput A10 (i := 3) (k := 0) (key := .inl x.2.1) rfl rfl (Vw.refl _ _) (d := encBy (x.1, x.2.2.1)) (e_tup (ea2 (e_var rfl) (e_var rfl))) (encBy_fz _) (e_var rfl) (by omega) fun H11 A11 => ?_
          refine s_asg A11 (e_var rfl) fun σ12 H12 A12 => ⟨(relax st2 x, putD kb2 (.inl x.2.1) (encBy (x.1, x.2.2.1))), ⟨?_, ?_, ?_⟩, ?_⟩
          · show relax st2 x = _
            rw [foldl_take_succ hx, ← hS]
          · have hr : (relax st2 x).by_ = updI st2.by_ x.2.1 (some (x.1, x.2.2.1)) := by unfold relax; rw [if_pos hlt]
            show ByRel _ (relax st2 x).by_
            rw [hr]
            exact hB2.put _ _
          · have := putD_len kb2 (.inl x.2.1) (encBy (x.1, x.2.2.1))
            dsimp only
            omega
          · have hr : relax st2 x = { most := updI st2.most x.2.1 (st2.most x.2.2.1 + x.2.2.2), by_ := updI st2.by_ x.2.1 (some (x.1, x.2.2.1)), last := some x.2.1 } := by unfold relax; rw [if_pos hlt]
            dsimp only
            rw [hr]
            exact A12.weak (.same (.same (.same (.same (.same (.same (.drop (.drop (.drop (.drop (.same .nil)))))))))))
        · have hlt : ¬ st2.most x.2.2.1 + x.2.2.2 < st2.most x.2.1 := of_decide_eq_false hb
          have hr : relax st2 x = st2 := by unfold relax; rw [if_neg hlt]
          refine ⟨(st2, kb2), ⟨?_, hB2, by dsimp only; omega⟩, A8.weak (.same (.same (.same (.same (.same (.same (.drop (.drop (.drop (.drop (.same .nil)))))))))))⟩
          rw [foldl_take_succ hx, ← hS]
          exact hr.symm
      · rintro ⟨st2, kb2⟩ σ7 H7 ⟨hS, hB2, hK2⟩ A7
        dsimp only at hS hB2 hK2 A7
        rw [List.take_length] at hS
        have hS : st2 = round says st := hS
        subst hS
        rw [hm', settleLoop] at hE
        refine s_when A7 (et_T (e_isN (e_var rfl))) (fun hb H8 A8 => ?_) (fun hb H8 A8 => ?_)
        · rw [isNon_encOI, Option.isNone_iff_eq_none] at hb
          rw [hb] at hE
          have hE : settleLoop says (e + 4).toNat init0 = .inl (round says st).most := hE
          unfold Settled at hd
          rw [hE] at hd
          have hd : _ = D.tup [.dk (mkMost e (round says st).most), .non] := hd
          subst hd
          exact s_ret (A8.dropP.freeze (i := 2) rfl rfl (by simp)) (e_tup (ea2 (e_var rfl) e_non)) k
        · rw [isNon_encOI] at hb
          obtain ⟨l, hl2⟩ : ∃ l, (round says st).last = some l := by
            cases hq : (round says st).last with
            | none => rw [hq] at hb; simp at hb
            | some l => exact ⟨l, rfl⟩
          rw [hl2] at hE
          refine ⟨(.dat (encOI (round says st).last), round says st, kb2), ⟨hB2, by dsimp only; omega, ?_, .inr ⟨rfl, l, hl2⟩⟩, A8.weak (.same (.same (.same (.same (.drop (Wk.refl _))))))⟩
          have e2 : (e + 4).toNat - (i + 1) = m' := by omega
          rw [e2]
          exact hE
    · rintro ⟨sl, st, kb⟩ σ5 H5 ⟨hB, hK, hE, hL⟩ A5
      dsimp only at hB hK hE hL A5
      rw [List.length_range, Nat.sub_self] at hE
      have hE : settleLoop says (e + 4).toNat init0 = .inr st := hE
      rw [List.length_range] at hL
      rcases hL with hL | ⟨hL, l, hl2⟩
      · exact absurd hL (by omega)
      · unfold Settled at hd
        rw [hE] at hd
        obtain ⟨l', out, hl3, hg, rfl⟩ := hd
        have : l' = l := Option.some.inj (hl3.symm.trans hl2)
        subst this
        subst hL
        rw [hl3] at A5
        have A6 := A5.freeze (i := 3) rfl rfl (by simp)
        exact s_ret A6 (e_tup (ea2 e_non (e_fn (ea3 (e_var rfl) (e_var rfl) (e_add (e_var rfl) e_int)) (.mk kb st.by_ l' (e + 4) out hB (by omega) (by omega) hg)))) k
theorem sc_solved : FnScope ["book", "sights", "more", "says", "fact"] ["book", "sights", "more"] (defScope s_solved) := ⟨rfl, rfl, rfl, by decide +kernel, rfl, by decide +kernel, by decide +kernel⟩
theorem ok_solved (g : GL K mg) : FnOk P w K mg base CX0 5 g.a_solved g.fd_solved ["book", "sights", "more"] (PureSp R_solved) := by
  have G_read_fact := ok_read_fact (P := P) (w := w) (base := base) g
  have G_facts_of := ok_facts_of (P := P) (w := w) (base := base) g
  have G_settled := ok_settled (P := P) (w := w) (base := base) g
  refine fn_pure g.F_solved sc_solved (fun ds d h => by cases h <;> rfl) (fun cdv A outer s H EX hr => ⟨_, (pss_cons (ps_setLc (i := 3) rfl sc_solved.nd rfl rfl (sw_true rfl rfl rfl (by decide +kernel)) (own := [("fact", 4)]) (pi_seqK K (pe_call G_facts_of (hr.mono (by decide)) (by rfl) g.g_facts_of g.F_facts_of.kp g.n_facts_of .nil pass0 (pa_cons (pv 0) (pa_cons (pv 1) pa_nil)))) (blkOk_by (N := ["book", "sights", "more", "says", "fact"]) (sc := defScope s_solved) (by decide +kernel)) (fun _ _ _ _ _ => (pg_name (i := 4) sc_solved.nd rfl (by first | exact .inl rfl | exact .inr rfl))) (fun _ _ _ _ _ => pts_nil) (fun _ _ _ _ _ => (pe_tup (pa_cons (pv 4) (pa_cons (pe_call G_read_fact (hr.mono (by decide)) (by rfl) g.g_read_fact g.F_read_fact.kp g.n_read_fact .nil pass0 (pa_cons (pv 0) (pa_cons (pv 1) (pa_cons (pv 4) pa_nil)))) pa_nil)))))
      (pss_one (ps_ret (pe_call G_settled (hr.mono (by decide)) (by rfl) g.g_settled g.F_settled.kp g.n_settled .nil pass0 (pa_cons (pe_ix (ix_seqK K) (pv 0) pe_int (fun _ _ => rfl)) (pa_cons (pe_op (op_addK K) (pv 3) (pe_lc (own := [("fact", 4)]) rfl sc_solved.nd (pi_seqK K (pv 2)) (blkOk_by (N := ["book", "sights", "more", "says", "fact"]) (sc := defScope s_solved) (by decide +kernel)) (fun _ _ _ _ _ => (pg_name (i := 4) sc_solved.nd rfl (by first | exact .inl rfl | exact .inr rfl))) (fun _ _ _ _ _ => pts_nil) (fun _ _ _ _ _ => (pe_tup (pa_cons pe_non (pa_cons (pv 4) pa_nil)))))) pa_nil)))))), ?_⟩)
  intro ds d hR N H σ Q A k
  cases hR with
  | mk b ss more _ wb ws hm hl hd =>
    have hlen := factsOf_len wb ws
    refine q_asg A (EL.e (el_lc0 (ts := [4]) (factsOf b ss) encFact (fun f => .tup [encFact f, encCon (con b ss f)]) (fun f => [.dat (encBook b), .dat (encSights ss), .dat (.lst (more.map encCon)), .no, .dat (encFact f)])
      (src_L (e_fn (ea2 (e_var rfl) (e_var rfl)) (.mk b ss wb ws))) (by omega) (by simp) (fun f _ => tg_n 4)
      (fun f hf => e_tup (ea2 (e_var rfl) (e_fn (ea3 (e_var rfl) (e_var rfl) (e_var rfl)) (.mk b ss f wb ws (factsOf_ok wb hf))))))) fun σ1 H1 A1 => ?_
    refine s_ret A1 (e_fn (ea2 (e_ixT (e_var rfl) e_int (atI_0 _ _)) (e_is (EL.e (el_addL (e_var rfl) (EL.e (el_lc0 (ts := [4]) more encCon (fun c => .tup [.non, encCon c])
      (fun c => [.dat (encBook b), .dat (encSights ss), .dat (.lst (more.map encCon)), .dat (.lst ((factsOf b ss).map fun f => .tup [encFact f, encCon (con b ss f)])), .dat (encCon c)]) (src_L (e_var rfl)) (by omega) (by simp) (fun f _ => tg_n 4)
      (fun c hc => e_tup (ea2 e_non (e_var rfl))))) (by rw [List.length_map, List.length_map]; omega))) (congrArg D.lst (encSay_map b ss more).symm)))
      (.mk b.fin (saysOf b ss more) _ wb.lo wb.hi (saysOf_ok wb ws hm) (by rw [saysOf, List.length_append, List.length_map, List.length_map]; omega) hd)) k
theorem sc_can_be : FnScope ["book", "sights"] ["book", "sights"] (defScope s_can_be) := ⟨rfl, rfl, rfl, by decide +kernel, rfl, by decide +kernel, by decide +kernel⟩
theorem ok_can_be (g : GL K mg) : FnOk P w K mg base CX0 6 g.a_can_be g.fd_can_be ["book", "sights"] (PureSp R_can_be) := by
  have G_solved := ok_solved (P := P) (w := w) (base := base) g
  refine fn_pure g.F_can_be sc_can_be (fun ds d h => by cases h <;> rfl) (fun cdv A outer s H EX hr => ⟨_, (pss_one (ps_ret (pe_cmpR op_notNU (pe_ix (ix_seqK K) (pe_call G_solved (hr.mono (by decide)) (by rfl) g.g_solved g.F_solved.kp g.n_solved .nil pass0 (pa_cons (pv 0) (pa_cons (pv 1) (pa_cons (pe_lst pa_nil) pa_nil)))) pe_int (fun _ _ => rfl)) pe_non (nomark _)))), ?_⟩)
  intro ds d hR N H σ Q A k
  cases hR with
  | mk b ss wb ws hd =>
    obtain ⟨d, hd⟩ := hd
    have hd' := hd
    unfold Settled at hd'
    unfold canB at k
    cases hq : settleLoop (saysOf b ss []) (b.fin + 4).toNat init0 with
    | inl m =>
      rw [hq] at hd' k
      have hd' : d = D.tup [.dk (mkMost b.fin m), .non] := hd'
      subst hd'
      exact s_ret A (e_notN (e_ixT (e_fn (ea3 (e_var rfl) (e_var rfl) (EL.e (el_lst ea_nil))) (.mk b ss [] _ wb ws (by simp) (by simp) hd)) e_int (atI_0 _ _))) k
    | inr st =>
      rw [hq] at hd' k
      obtain ⟨l, out, h1, h2, rfl⟩ := hd'
      exact s_ret A (e_notN (e_ixT (e_fn (ea3 (e_var rfl) (e_var rfl) (EL.e (el_lst ea_nil))) (.mk b ss [] _ wb ws (by simp) (by simp) hd)) e_int (atI_0 _ _))) k
theorem sc__law_take : FnScope ["bag", "count", "found"] ["bag", "count"] (defScope s__law_take) := ⟨rfl, rfl, rfl, by decide +kernel, rfl, by decide +kernel, by decide +kernel⟩
theorem ok__law_take (g : GL K mg) : FnOk P w K mg base CX0 1 g.a__law_take g.fd__law_take ["bag", "count"] (BagSp P_take R_take) := by
  refine fn_bag g.F__law_take sc__law_take (fun ds h => by cases h <;> rfl) (fun cdv A outer s H EX hr => ⟨_, (pss_cons (ps_if (pt_cmpR op_gtU (pe_ix (ix_seqK K) (pv 0) pe_int (fun _ _ => rfl)) pe_int (nomark _))
        (pss_cons (ps_set (i := 2) sc__law_take.nd rfl (.inl rfl) (pe_op op_modU (pe_ix (ix_seqK K) (pv 0) pe_int (fun _ _ => rfl)) (pv 1)))
      (pss_cons (ps_asg (pe_op op_divU (pe_ix (ix_seqK K) (pv 0) pe_int (fun _ _ => rfl)) (pv 1)) (pg_sub (pv 0) pe_int set_list))
      (pss_one (ps_ret (pv 2))))) pss_nil)
      (pss_cons (ps_asg (pe_op op_modU (pe_op op_mulU (pe_ix (ix_seqK K) (pv 0) pe_int (fun _ _ => rfl)) pe_int) pe_int) (pg_sub (pv 0) pe_int set_list))
      (pss_one (ps_ret (pe_op op_modU (pe_op op_divU (pe_op op_modU (pe_op op_mulU (pe_op op_divU (pe_ix (ix_seqK K) (pv 0) pe_int (fun _ _ => rfl)) pe_int) (pe_op (op_addK K) (pe_op op_modU (pe_ix (ix_seqK K) (pv 0) pe_int (fun _ _ => rfl)) pe_int) pe_int)) pe_int) pe_int) (pv 1)))))), ?_⟩)
  intro ds hP N H σ bg Q A k
  cases hP with
  | mk n n0 n1 =>
    obtain ⟨x, y, A⟩ := A.unbag
    refine q_whenV A (ρ' := [.dat (.lst [.int x, .int y]), .dat (.int n), .no]) (.see (by simp) rfl (Vw.refl _ _)) (et_T (e_gt (e_ixL (e_var rfl) e_int (atI_0 _ _)) e_int)) (fun hb H1 A1 => ?_) (fun hb H1 A1 => ?_)
    · refine q_asgV A1 (ρ' := [.dat (.lst [.int x, .int y]), .dat (.int n), .no]) (.see (by simp) rfl (Vw.refl _ _)) (e_mod (e_ixL (e_var rfl) e_int (atI_0 _ _)) (e_var rfl) (by omega)) rfl fun σ2 H2 A2 => ?_
      refine q_setL A2 (i := 0) (k := 0) (j := 0) (m := 0) rfl rfl (ρ' := [.dat (.lst [.int x, .int y]), .dat (.int n), .dat (.int (x.fmod n))]) (.see (by simp) rfl (Vw.refl _ _)) (e_div (e_ixL (e_var rfl) e_int (atI_0 _ _)) (e_var rfl) (by refine ⟨by omega, ?_⟩; omega)) rfl rfl fun H3 A3 => ?_
      have A4 := At.rebag (Ps := []) A3
      exact s_retB rfl A4 (eb_e (e_var rfl)) (fun d P z => by rw [z.2]; simp) fun v d P N' H' z => by
        rw [z.1]
        exact k v _ N' H' (.mk n _ (by rw [Int.fmod_eq_emod_of_nonneg _ (by omega)]; exact Int.emod_nonneg _ (by omega)) (by rw [Int.fmod_eq_emod_of_nonneg _ (by omega)]; exact Int.emod_lt_of_pos _ n0))
    · refine q_setL A1 (i := 0) (k := 0) (j := 1) (m := 1) rfl rfl (ρ' := [.dat (.lst [.int x, .int y]), .dat (.int n), .no]) (.see (by simp) rfl (Vw.refl _ _)) (e_mod (e_mul (e_ixL (e_var rfl) e_int (atI_1 _ _ _)) e_int (.inr (by decide))) e_int (by decide)) rfl rfl fun H3 A3 => ?_
      have A4 : At _ [(bg, .lst [.int x, .int ((y * 48271).fmod 2147483647)])] _ _ _ := A3
      generalize (y * 48271).fmod 2147483647 = z at A4
      refine s_retB rfl (At.rebag (Ps := []) A4) (R := fun d P => ∃ r, d = .int r ∧ 0 ≤ r ∧ r < n ∧ P = [(bg, .non)]) ?_ (fun d P ⟨r, _, _, _, z⟩ => by rw [z]; simp) fun v d P N' H' ⟨r, z, z0, z1, _⟩ => by
        rw [z]
        exact k v _ N' H' (.mk n _ z0 z1)
      intro c2 σ2 H2 B Q2 k2
      obtain ⟨x2, y2, B⟩ := B.unbag
      refine B.ev (ρ' := [.dat (.lst [.int x2, .int y2]), .dat (.int n), .no]) (.see (by simp) rfl (Vw.refl _ _))
        (e_mod (e_div (e_mod (e_mul (e_div (e_ixL (e_var rfl) e_int (atI_1 _ _ _)) e_int (by refine ⟨by decide, by decide⟩)) (e_add (e_mod (e_ixL (e_var rfl) e_int (atI_1 _ _ _)) e_int (by decide)) e_int) (.inr ?_)) e_int (by decide)) e_int (by refine ⟨by decide, by decide⟩)) (e_var rfl) (by omega)) rfl fun v L H3 r B2 => k2 v _ _ L H3 ⟨_, rfl, ?_, ?_, rfl⟩ r B2.rebag
      · rw [Int.fmod_eq_emod_of_nonneg _ (by omega)]
        have h1 := Int.emod_nonneg y2 (show (32749 : Int) ≠ 0 by decide)
        have h2 := Int.emod_lt_of_pos y2 (show (0 : Int) < 32749 by decide)
        constructor <;> omega
      · rw [Int.fmod_eq_emod_of_nonneg _ (by omega)]; exact Int.emod_nonneg _ (by omega)
      · rw [Int.fmod_eq_emod_of_nonneg _ (by omega)]; exact Int.emod_lt_of_pos _ n0
theorem sc__law_of : FnScope ["bag", "some"] ["bag", "some"] (defScope s__law_of) := ⟨rfl, rfl, rfl, by decide +kernel, rfl, by decide +kernel, by decide +kernel⟩
theorem ok__law_of (g : GL K mg) : FnOk P w K mg base CX0 2 g.a__law_of g.fd__law_of ["bag", "some"] (BagSp P_of R_of) := by
  have G__law_take := ok__law_take (P := P) (w := w) (base := base) g
  refine fn_bag g.F__law_of sc__law_of (fun ds h => by cases h <;> rfl) (fun cdv A outer s H EX hr => ⟨_, (pss_one (ps_ret (pe_ix (ix_seqK K) (pv 1) (pe_call G__law_take (hr.mono (by decide)) (by rfl) g.g__law_take g.F__law_take.kp g.n__law_take .nil pass0 (pa_cons (pv 0) (pa_cons (pe_callB (call_lenK K) (by rfl) g.b_len (by decide +kernel) (pa_cons (pv 1) pa_nil)) pa_nil))) (fun _ _ => rfl)))), ?_⟩)
  intro ds hP N H σ bg Q A k
  cases hP with
  | mk xs hne hl =>
    have hl0 : 0 < xs.length := List.length_pos_iff.mpr hne
    refine s_retB rfl A (R := fun d P => d ∈ xs ∧ P = [(bg, .non)]) ?_ (fun d P z => by rw [z.2]; simp) fun v d P N' H' z => k v d N' H' (.mk xs d z.1)
    refine eb_op (Rb := fun _ _ d P => R_take [.int (xs.length : Int)] d ∧ P = [(bg, .non)]) (eb_e (e_var rfl)) (fun x P z => by
      rw [z.2]
      exact eb_callE (Ps := [(bg, .non)]) (ds := [.int (xs.length : Int)]) (Pre := P_take) (Rf := R_take) rfl (by simp) (ea1 (e_lenL (e_var rfl))) (.mk _ (by omega) (by omega))) fun x P y P2 z z2 => ?_
    obtain ⟨rfl, rfl⟩ := z
    obtain ⟨z2, rfl⟩ := z2
    cases z2 with
    | mk _ r r0 r1 =>
      obtain ⟨m, hm⟩ : ∃ m, xs[r.toNat]? = some m := ⟨_, List.getElem?_eq_getElem (by omega)⟩
      refine ⟨m, fun u w N1 H1 e ru rw' Q2 k2 => ?_, List.mem_of_getElem? hm, rfl⟩
      exact r2d_ixL (atI_int r0 hm) u w N1 H1 e ru rw' Q2 k2
theorem sc__law_next : FnScope ["pile", "took", "name", "rest"] ["pile", "took", "name"] (defScope s__law_next) := ⟨rfl, rfl, rfl, by decide +kernel, rfl, by decide +kernel, by decide +kernel⟩
theorem ok__law_next (g : GL K mg) : FnOk P w K mg base CX0 1 g.a__law_next g.fd__law_next ["pile", "took", "name"] (PureSp L_next) := by
  refine fn_pure g.F__law_next sc__law_next (fun ds d h => by cases h <;> rfl) (fun cdv A outer s H EX hr => ⟨_, (pss_cons (ps_if (PW.pt (pw_and (pt_cmpR (op_eqK K hr.units) (pv 1) pe_int (nomark _)) (pw_and1 (pt_cmpR (op_eqK K hr.units) (pv 0) (pe_tupF pa_nil) (nomark _)))))
        (pss_one (ps_ret pe_non)) pss_nil)
      (pss_cons (ps_set (i := 3) sc__law_next.nd rfl (.inl rfl) (pe_slice (sl_tupF K) (pv 0) po_none (po_some (pe_op op_subU (pe_callB (call_lenK K) (by rfl) g.b_len (by decide +kernel) (pa_cons (pv 0) pa_nil)) (pv 1)))))
      (pss_one (ps_ret (pe_ifExp (pt_cmpR op_isNU (pv 2) pe_non (nomark _)) (pv 3) (pe_op (op_catF K) (pv 3) (pe_tupF (pa_cons (pv 2) pa_nil)))))))), ?_⟩)
  intro ds d hR N H σ Q A k
  cases hR with
  | mk p took name ht hl hok =>
    refine q_when A (b := decide (took = 1 ∧ p = [])) ?_ (fun hb H1 A1 => ?_) (fun hb H1 A1 => ?_)
    · exact et_is (et_and (et_T (e_eqI (e_var rfl) e_int)) fun _ => et_T (e_eqF0 (e_var rfl) (e_tupD ea_nil) (okPile hok))) (by
        cases p <;> simp)
    · have hb : took = 1 ∧ p = [] := of_decide_eq_true hb
      refine s_ret A1 (e_is e_non ?_) k
      unfold nextM
      rw [if_pos hb]; rfl
    · have hb : ¬ (took = 1 ∧ p = []) := of_decide_eq_false hb
      have hle : took.toNat ≤ p.length := by
        rcases ht with z | z
        · subst z; simp
        · subst z
          have : p ≠ [] := fun q => hb ⟨rfl, q⟩
          have := List.length_pos_iff.mpr this
          simp; omega
      refine q_asg A1 (e_slF (e_var rfl) eo_none (eo_some (e_sub (e_lenF (e_var rfl)) (e_var rfl)))) fun σ2 H2 A2 => ?_
      have e1 : cutL (p.map D.str) none (some (((p.map D.str).length : Int) - took)) = (p.take (p.length - took.toNat)).map D.str := by
        have ht0 : 0 ≤ took := by rcases ht with z | z <;> omega
        have hlen : (p.map D.str).length = p.length := List.length_map _
        rw [cut_nI _ (by rw [hlen]; omega) (by rw [hlen]; omega), List.map_take]
        congr 1
        rw [hlen]
        omega
      have A3 : At ⟨[], N, H, []⟩ [] [.dat (encPile p), .dat (.int took), .dat (encON name), .dat (encPile (p.take (p.length - took.toNat)))] σ2 H2 := by
        unfold encPile
        rw [← e1]
        exact A2
      cases name with
      | none =>
        refine s_ret A3 (e_is (e_ifT (et_T (e_isN (e_var rfl))) rfl (e_var rfl)) ?_) k
        unfold nextM
        rw [if_neg hb]
        simp [encOP]
      | some n =>
        refine s_ret A3 (e_is (e_ifF (et_T (e_isN (e_var rfl))) rfl (e_addF (f1 := true) (f2 := true) (ds := (p.take (p.length - took.toNat)).map .str) (es := [.str n]) rfl rfl (e_var rfl) (e_tupD (ea1 (e_var rfl))) (by simp only [List.length_map, List.length_take, List.length_singleton]; omega))) ?_) k
        unfold nextM
        rw [if_neg hb]
        simp [encOP, encPile]
theorem sc__law_book : FnScope ["bag", "most", "names", "rows", "end", "tick"] ["bag", "most"] (defScope s__law_book) := ⟨rfl, rfl, rfl, by decide +kernel, rfl, by decide +kernel, by decide +kernel⟩
theorem ok__law_book (g : GL K mg) : FnOk P w K mg base CX0 2 g.a__law_book g.fd__law_book ["bag", "most"] (BagSp P_book R_book) := by
  have G__law_take := ok__law_take (P := P) (w := w) (base := base) g
  refine fn_bag g.F__law_book sc__law_book (fun ds h => by cases h <;> rfl) (fun cdv A outer s H EX hr => ⟨_, (pss_cons (ps_par (i := 2) (j := 3) rfl sc__law_book.nd rfl rfl (by decide) rfl rfl (pa_cons (pe_lst (pa_cons pe_str (pa_cons pe_str (pa_cons pe_str (pa_cons pe_str (pa_cons pe_str (pa_cons pe_str (pa_cons pe_str (pa_cons pe_str (pa_cons pe_str (pa_cons pe_str pa_nil))))))))))) (pa_cons (pe_lst pa_nil) pa_nil)) (by rfl))
      (pss_cons (ps_set (i := 4) sc__law_book.nd rfl (.inl rfl) (pe_call G__law_take (hr.mono (by decide)) (by rfl) g.g__law_take g.F__law_take.kp g.n__law_take .nil pass0 (pa_cons (pv 0) (pa_cons (pv 1) pa_nil))))
      (pss_cons (ps_for PassesOwn.never rfl (pi_range1 (by rfl) g.b_range (pa_cons (pe_op (op_addK K) (pv 4) pe_int) pa_nil)) (pg_name (i := 5) sc__law_book.nd rfl (.inl rfl))
        (pss_one (ps_if (PW.pt (pw_and (pt_cmpR op_gtU (pe_call G__law_take (hr.mono (by decide)) (by rfl) g.g__law_take g.F__law_take.kp g.n__law_take .nil pass0 (pa_cons (pv 0) (pa_cons pe_int pa_nil))) pe_int (nomark _)) (pw_and1 (pt_cmpR (op_neK K hr.units) (pv 2) (pe_lst pa_nil) (nomark _)))))
        (pss_one (ps_expr (pe_bm PySem.F.plainAttrs_list PySem.F.slot_list_append PySem.F.type_list_append mt_append (pv 3) (pa_cons (pe_tup (pa_cons (pv 5) (pa_cons (pe_bm PySem.F.plainAttrs_list PySem.F.slot_list_pop PySem.F.type_list_pop mt_popAt (pv 2) (pa_cons (pe_call G__law_take (hr.mono (by decide)) (by rfl) g.g__law_take g.F__law_take.kp g.n__law_take .nil pass0 (pa_cons (pv 0) (pa_cons (pe_callB (call_lenK K) (by rfl) g.b_len (by decide +kernel) (pa_cons (pv 2) pa_nil)) pa_nil))) pa_nil)) pa_nil))) pa_nil)))) pss_nil)))
      (pss_one (ps_ret (pe_tup (pa_cons (pv 4) (pa_cons (pe_callTy (call_tupF K) (by rfl) g.b_tuple (by decide +kernel) (pa_cons (pv 3) pa_nil)) pa_nil)))))))), ?_⟩)
  intro ds hP N H σ bg Q A k
  cases hP with
  | mk most m1 m2 =>
    refine q_parLL A (el_lst (ds := poolS.map D.str) (ea_cons e_str (ea_cons e_str (ea_cons e_str (ea_cons e_str (ea_cons e_str (ea_cons e_str (ea_cons e_str (ea_cons e_str (ea_cons e_str (ea_cons e_str ea_nil)))))))))) (by decide)) (el_lst ea_nil) fun p q σ1 H1 A1 => ?_
    refine q_asgB A1 (eb_callE (Pre := P_take) (Rf := R_take) rfl (by simp) (ea1 (e_var rfl)) (.mk _ (by omega) (by omega))) fun d P σ2 H2 z A2 => ?_
    obtain ⟨z, rfl⟩ := z
    cases z with
    | mk _ e e0 e1 =>
    have hne : q ≠ bg := by
      obtain ⟨N2, a2⟩ := A2
      have := a2.nd
      simp at this
      exact this.1.2
    refine q_forT (S := List Str × List (Int × Str)) (ts := [5]) (List.range (e + 1).toNat) (fun i => .int (0 + (i : Nat))) (fun s => [(q, .lst (s.2.map encRow)), (p, .lst (s.1.map .str)), (bg, .non)])
      (fun s => [.val (.ref bg), .dat (.int most), .val (.ref p), .val (.ref q), .dat (.int e), .no]) (fun i s => BookInv i s) (poolS, [])
      (fun s i => [.val (.ref bg), .dat (.int most), .val (.ref p), .val (.ref q), .dat (.int e), .dat (.int (0 + (i : Nat)))]) A2 (src_r1 (ea1 (e_add (e_var rfl) e_int)) (by omega)) BookInv.nil (fun _ _ _ _ _ => tg_n 5) ?_ ?_
    · rintro L i ⟨ns, rows⟩ j σ3 H3 hi hJ A3
      have hi2 := at_lt hi
      have ej : j = i := by
        rw [List.getElem?_eq_getElem hi2, List.getElem_range] at hi
        exact (Option.some.inj hi).symm
      subst ej
      have hok : ∀ n ∈ ns, nameOk n := hJ.nok
      have hnn : (ns.map D.str).isEmpty = decide (ns = []) := by cases ns <;> simp
      have hv : ∀ d0 : Sl, Vw [(q, .lst (rows.map encRow)), (p, .lst (ns.map .str)), (bg, .non)] [.val (.ref bg), .dat (.int most), .val (.ref p), .val (.ref q), .dat (.int e), d0] [.val (.ref bg), .dat (.int most), .dat (.lst (ns.map .str)), .val (.ref q), .dat (.int e), d0] :=
        fun d0 => .same (.same (.see (by simp) rfl (Vw.refl _ _)))
      have hdraw := eb_callE (i := 0) (bg := bg) (Ps := [(q, .lst (rows.map encRow)), (p, .lst (ns.map .str)), (bg, .non)]) (ρ := [.val (.ref bg), .dat (.int most), .val (.ref p), .val (.ref q), .dat (.int e), .dat (.int (0 + (j : Nat)))]) (Pre := P_take) (Rf := R_take) (EX := EX) rfl (by simp) (ea1 e_int) (.mk 3 (by decide) (by decide))
      have htest := etb_T (R' := fun b P => P = [(q, .lst (rows.map encRow)), (p, .lst (ns.map .str)), (bg, .non)]) (eb_op (r := uGt) (tb := tC (.int 0)) (Rb := fun _ _ d P => d = .int 0 ∧ P = [(q, .lst (rows.map encRow)), (p, .lst (ns.map .str)), (bg, .non)]) (R := fun d P => (∃ b, d = .bl b) ∧ P = [(q, .lst (rows.map encRow)), (p, .lst (ns.map .str)), (bg, .non)])
          hdraw (fun x P z => by rw [z.2]; exact eb_e e_int) fun x P y P2 z z2 => by
            obtain ⟨z, rfl⟩ := z
            obtain ⟨rfl, rfl⟩ := z2
            cases z with
            | mk _ r _ _ => exact ⟨_, rI0_int fun _ => .bl _, ⟨_, rfl⟩, rfl⟩) fun d P z => ⟨_, z.1.choose_spec, z.2⟩
      refine s_whenB A3 (R' := fun b P => P = [(q, .lst (rows.map encRow)), (p, .lst (ns.map .str)), (bg, .non)] ∧ (b = true → ns ≠ [])) (etb_and htest
        (R2 := fun _ b P2 => b = !(ns.map D.str).isEmpty ∧ P2 = [(q, .lst (rows.map encRow)), (p, .lst (ns.map .str)), (bg, .non)])
        (fun P z => by rw [z]; exact etb_et (hv _) (et_T (e_neL0 (e_var rfl) (EL.e (el_lst ea_nil)) (okD_names hok).2))) (fun P z => ⟨z, fun y => nomatch y⟩) (fun P b P2 z z2 => ⟨z2.2, fun y y2 => by rw [hnn, y2] at z2; rw [z2.1] at y; simp at y⟩)) (fun P H4 z A4 => ?_) (fun P H4 z A4 => ?_)
      · obtain ⟨rfl, hne2⟩ := z
        have hns := hne2 rfl
        have hlen := hJ.len
        have hpos : 0 < ns.length := List.length_pos_iff.mpr hns
        dsimp only at hlen
        refine s_appB A4 (i := 3) (k := 0) (ds := rows.map encRow) (R := fun d P => ∃ m x, ns[m]? = some x ∧ d = encRow ((j : Int), x) ∧ P = [(q, .lst (rows.map encRow)), (p, .lst ((ns.eraseIdx m).map .str)), (bg, .non)]) rfl (by simp)
          (eb_mono (eb_tup (eba_e (e_var rfl) (eba1 (eb_popAt (i := 2) (k := 1) (ds := ns.map .str) rfl rfl (eba1 (eb_callV (Pre := P_take) (Rf := R_take) rfl (by simp) (hv _) (e_lenL (e_var rfl)) rfl (.mk _ (by rw [List.length_map]; omega) (by rw [List.length_map]; omega)))) (fun es P z => by
            obtain ⟨d, rfl, z, rfl⟩ := z
            cases z with
            | mk _ r r0 r1 => exact ⟨rfl, r, rfl, r0, r1⟩) (by rw [List.length_map]; omega)))) (fun ds P z => by
            obtain ⟨r, rfl, d, rfl, _⟩ := z
            simp)) fun d P z => ?_) (fun d P z => by obtain ⟨m, x, _, _, rfl⟩ := z; rfl) (by rw [List.length_map]; omega) fun d P H5 z A5 => ?_
        · obtain ⟨ds, ⟨r, rfl, d2, rfl, m, hm, rfl⟩, rfl⟩ := z
          rw [List.getElem?_map] at hm
          cases hx : ns[m]? with
          | none => rw [hx] at hm; cases hm
          | some x =>
            rw [hx] at hm
            cases hm
            refine ⟨m, x, hx, ?_, ?_⟩
            · show D.tup [.int (0 + (j : Int)), .str x] = D.tup [.int (j : Int), .str x]
              rw [Int.zero_add]
            · rw [map_eraseIdx']; rfl
        · obtain ⟨m, x, hm, rfl, rfl⟩ := z
          refine ⟨(ns.eraseIdx m, rows ++ [((j : Int), x)]), hJ.more hm, ?_⟩
          have e2 : (rows ++ [((j : Int), x)]).map encRow = rows.map encRow ++ [encRow ((j : Int), x)] := by simp
          show At _ [(q, .lst ((rows ++ [((j : Int), x)]).map encRow)), (p, .lst ((ns.eraseIdx m).map .str)), (bg, .non)] _ _ _
          rw [e2]
          exact A5.weak (.same (.same (.same (.same (.same (.drop .nil))))))
      · obtain ⟨rfl, _⟩ := z
        exact ⟨(ns, rows), hJ.same, A4.weak (.same (.same (.same (.same (.same (.drop .nil))))))⟩
    · rintro ⟨ns, rows⟩ σ3 H3 hJ A3
      rw [List.length_range] at hJ
      have A4 := (A3.freeze (i := 3) rfl rfl (by simpa using hne)).subP (Ps' := [(bg, .non)]) (by simp) (by simp)
      refine s_retB rfl A4 (eb_e (e_tup (ea2 (e_var rfl) (e_tupF (e_var rfl))))) (fun d P z => by rw [z.2]; simp) fun v d P N' H' z => ?_
      rw [z.1]
      exact k v _ N' H' (.mk most ⟨e, rows, true⟩ (hJ.done (by omega) e0 e1 m2))
theorem sc__law_a_story : FnScope ["bag", "book", "table", "pile", "found", "piles", "tick", "took"] ["bag", "book"] (defScope s__law_a_story) := ⟨rfl, rfl, rfl, by decide +kernel, rfl, by decide +kernel, by decide +kernel⟩
theorem ok__law_a_story (g : GL K mg) : FnOk P w K mg base CX0 2 g.a__law_a_story g.fd__law_a_story ["bag", "book"] (BagSp P_a_story R_a_story) := by
  have G__law_take := ok__law_take (P := P) (w := w) (base := base) g
  have G__law_next := ok__law_next (P := P) (w := w) (base := base) g
  refine fn_bag g.F__law_a_story sc__law_a_story (fun ds h => by cases h <;> rfl) (fun cdv A outer s H EX hr => ⟨_, (pss_cons (ps_asg (pe_tup (pa_cons (pe_callTy (call_dictF K rfl) (by rfl) g.b_dict (by decide +kernel) (pa_cons (pe_ix (ix_seqK K) (pv 1) pe_int (fun _ _ => rfl)) pa_nil)) (pa_cons (pe_tupF pa_nil) (pa_cons (pe_lst pa_nil) (pa_cons (pe_lst pa_nil) pa_nil))))) (pg_tupK K (n := 4) (by rfl) (pgs_cons (pg_name (i := 2) sc__law_a_story.nd rfl (.inl rfl)) (pgs_cons (pg_name (i := 3) sc__law_a_story.nd rfl (.inl rfl)) (pgs_cons (pg_name (i := 4) sc__law_a_story.nd rfl (.inl rfl)) (pgs_cons (pg_name (i := 5) sc__law_a_story.nd rfl (.inl rfl)) pgs_nil))))))
      (pss_cons (ps_for PassesOwn.never rfl (pi_range1 (by rfl) g.b_range (pa_cons (pe_op (op_addK K) (pe_ix (ix_seqK K) (pv 1) pe_int (fun _ _ => rfl)) pe_int) pa_nil)) (pg_name (i := 6) sc__law_a_story.nd rfl (.inl rfl))
        (pss_cons (ps_set (i := 7) sc__law_a_story.nd rfl (.inl rfl) (pe_ifExp (pt_cmpR (op_neK K hr.units) (pv 3) (pe_tupF pa_nil) (nomark _)) (pe_call G__law_take (hr.mono (by decide)) (by rfl) g.g__law_take g.F__law_take.kp g.n__law_take .nil pass0 (pa_cons (pv 0) (pa_cons pe_int pa_nil))) pe_int))
      (pss_cons (ps_set (i := 3) sc__law_a_story.nd rfl (.inl rfl) (pe_call G__law_next (hr.mono (by decide)) (by rfl) g.g__law_next g.F__law_next.kp g.n__law_next .nil pass0 (pa_cons (pv 3) (pa_cons (pv 7) (pa_cons (pe_dget2 (hu_of hr) (pv 2) (pv 6) pe_non ⟨rfl, rfl, rfl, rfl⟩) pa_nil)))))
      (pss_cons (ps_expr (pe_bm PySem.F.plainAttrs_list PySem.F.slot_list_append PySem.F.type_list_append mt_append (pv 4) (pa_cons (pv 7) pa_nil)))
      (pss_one (ps_expr (pe_bm PySem.F.plainAttrs_list PySem.F.slot_list_append PySem.F.type_list_append mt_append (pv 5) (pa_cons (pv 3) pa_nil))))))))
      (pss_one (ps_ret (pe_tup (pa_cons (pe_callTy (call_tupK K) (by rfl) g.b_tuple (by decide +kernel) (pa_cons (pv 4) pa_nil)) (pa_cons (pv 5) pa_nil))))))), ?_⟩)
  intro ds hP N H σ bg Q A k
  cases hP with
  | mk b wb hfl =>
    refine q_par4 A (e_dictF (rows := b.laid) (e_is (e_ixT (e_var rfl) e_int (atI_1 _ _ _)) (laid_ftup hfl)) (pair_nodup wb)) (e_tupD ea_nil) (el_lst ea_nil) (el_lst ea_nil) fun p q σ1 H1 A1 => ?_
    have hne : q ≠ bg ∧ p ≠ bg := by
      obtain ⟨N2, a2⟩ := A1
      have := a2.nd
      simp at this
      exact ⟨this.1.2, this.2⟩
    have h0 := wb.lo
    have h1 := wb.hi
    refine q_forT (S := List Int × List Pile) (ts := [6]) (List.range (b.fin + 1).toNat) (fun i => .int (0 + (i : Nat))) (fun s => [(q, .lst (s.2.map encPile)), (p, .lst (s.1.map .int)), (bg, .non)])
      (fun s => [.val (.ref bg), .dat (encBook b), .dat (.dk (tableD b)), .dat (encPile (s.2.getLastD [])), .val (.ref p), .val (.ref q), .no, .no]) (fun i s => Run b i s.1 s.2) ([], [])
      (fun s i => [.val (.ref bg), .dat (encBook b), .dat (.dk (tableD b)), .dat (encPile (s.2.getLastD [])), .val (.ref p), .val (.ref q), .dat (.int (0 + (i : Nat))), .no]) A1 (src_r1 (ea1 (e_add (e_ixT (e_var rfl) e_int (atI_0 _ _)) e_int)) (by omega)) Run.nil (fun _ _ _ _ _ => tg_n 6) ?_ ?_
    · rintro L i ⟨tk, ps⟩ j σ3 H3 hi hJ A3
      have hi2 := at_lt hi
      have ej : j = i := by
        rw [List.getElem?_eq_getElem hi2, List.getElem_range] at hi
        exact (Option.some.inj hi).symm
      subst ej
      rw [List.length_range] at hi2
      dsimp only at hJ A3
      have hok := hJ.nok wb
      have hl10 := hJ.len10 wb
      refine q_asgB A3 (R := fun d P => ∃ t, d = .int t ∧ (t = 0 ∨ t = 1) ∧ ¬ (t = 1 ∧ ps.getLastD [] = []) ∧ P = [(q, .lst (ps.map encPile)), (p, .lst (tk.map .int)), (bg, .non)])
        (eb_if (p := !((ps.getLastD []).map D.str).isEmpty) (Vw.refl _ _) (et_T (e_neF0 (e_var rfl) (e_tupD ea_nil) (okPile hok))) (fun hb => eb_mono (eb_callE (Pre := P_take) (Rf := R_take) rfl (by simp) (ea1 e_int) (.mk 2 (by decide) (by decide))) fun d P z => ?_) (fun hb => eb_mono (eb_e e_int) fun d P z => ⟨0, z.1, .inl rfl, by simp, z.2⟩)) fun d P σ4 H4 z A4 => ?_
      · obtain ⟨z, rfl⟩ := z
        cases z with
        | mk _ r r0 r1 => exact ⟨r, rfl, by omega, fun y => by rw [y.2] at hb; simp at hb, rfl⟩
      · obtain ⟨t, rfl, ht, hne2, rfl⟩ := z
        obtain ⟨nx, hnx⟩ := nextM_some (nm := nameAt b (j : Int)) hne2
        refine q_asg A4 (e_is (e_fn (ea3 (e_var rfl) (e_var rfl) (e_is (e_dget2 (k := .inl (0 + (j : Int))) (e_var rfl) (e_var rfl) e_non) (by rw [Int.zero_add]; exact valD_table b _))) (.mk (ps.getLastD []) t (nameAt b (j : Int)) ht (by omega) hok)) (by rw [hnx])) fun σ5 H5 A5 => ?_
        have hlen := hJ.len
        refine q_app A5 (i := 4) (k := 1) rfl rfl (Vw.refl _ _) (e_var rfl) rfl (by rw [List.length_map]; omega) fun H6 A6 => ?_
        refine s_app A6 (i := 5) (k := 0) rfl rfl (Vw.refl _ _) (e_var rfl) (fz_pile nx) (by rw [List.length_map]; omega) fun H7 A7 => ?_
        refine ⟨(tk ++ [t], ps ++ [nx]), Run.snoc hJ ht hnx, ?_⟩
        show At _ [(q, .lst ((ps ++ [nx]).map encPile)), (p, .lst ((tk ++ [t]).map .int)), (bg, .non)] [.val (.ref bg), .dat (encBook b), .dat (.dk (tableD b)), .dat (encPile ((ps ++ [nx]).getLastD [])), .val (.ref p), .val (.ref q), .no, .no] _ _
        rw [getLastD_snoc, List.map_append, List.map_append, List.map_singleton, List.map_singleton]
        exact A7.weak (.same (.same (.same (.same (.same (.same (.drop (.drop .nil))))))))
    · rintro ⟨tk, ps⟩ σ3 H3 hJ A3
      rw [List.length_range] at hJ
      have A4 := (A3.freeze (i := 5) rfl rfl (by simpa using hne.1)).freeze (i := 4) rfl rfl (by simpa using hne.2)
      refine s_retB rfl A4 (eb_e (e_tup (ea2 (e_tupL (e_var rfl)) (e_var rfl)))) (fun d P z => by rw [z.2]; simp) fun v d P N' H' z => ?_
      rw [z.1]
      exact k v _ N' H' (.mk b tk ps hJ)
theorem sc__law_is_so : FnScope ["sight", "pile"] ["sight", "pile"] (defScope s__law_is_so) := ⟨rfl, rfl, rfl, by decide +kernel, rfl, by decide +kernel, by decide +kernel⟩
theorem ok__law_is_so (g : GL K mg) : FnOk P w K mg base CX0 1 g.a__law_is_so g.fd__law_is_so ["sight", "pile"] (PureSp L_is_so) := by
  refine fn_pure g.F__law_is_so sc__law_is_so (fun ds d h => by cases h <;> rfl) (fun cdv A outer s H EX hr => ⟨_, (pss_cons (ps_if (pt_cmpR (op_eqK K hr.units) (pe_ix (ix_seqK K) (pv 0) pe_int (fun _ _ => rfl)) pe_str (nomark _))
        (pss_one (ps_ret (pe_and (pe_cmpR (op_inK K (units65 hr)) (pe_ix (ix_seqK K) (pv 0) pe_int (fun _ _ => rfl)) (pv 1) (by rfl)) (pe_one (pe_cmpR (op_eqK K hr.units) (pe_op (op_addK K) (pe_op (op_addK K) (pe_bmF PySem.F.plainAttrs_tuple PySem.F.slot_tuple_index PySem.F.type_tuple_index mt_tup_index (pv 1) (pa_cons (pe_ix (ix_seqK K) (pv 0) pe_int (fun _ _ => rfl)) pa_nil)) pe_int) (pe_ix (ix_seqK K) (pv 0) pe_int (fun _ _ => rfl))) (pe_callB (call_lenK K) (by rfl) g.b_len (by decide +kernel) (pa_cons (pv 1) pa_nil)) (nomark _)))))) pss_nil)
      (pss_cons (ps_if (pt_cmpR (op_eqK K hr.units) (pe_ix (ix_seqK K) (pv 0) pe_int (fun _ _ => rfl)) pe_str (nomark _))
        (pss_one (ps_ret (pe_cmpR (op_eqK K hr.units) (pe_callB (call_lenK K) (by rfl) g.b_len (by decide +kernel) (pa_cons (pv 1) pa_nil)) (pe_ix (ix_seqK K) (pv 0) pe_int (fun _ _ => rfl)) (nomark _)))) pss_nil)
      (pss_one (ps_ret (pe_ifExp (pt_cmpR (op_eqK K hr.units) (pe_ix (ix_seqK K) (pv 0) pe_int (fun _ _ => rfl)) pe_str (nomark _)) (pe_cmpR op_geU (pe_callB (call_lenK K) (by rfl) g.b_len (by decide +kernel) (pa_cons (pv 1) pa_nil)) (pe_ix (ix_seqK K) (pv 0) pe_int (fun _ _ => rfl)) (nomark _)) (pe_cmpR op_leU (pe_callB (call_lenK K) (by rfl) g.b_len (by decide +kernel) (pa_cons (pv 1) pa_nil)) (pe_ix (ix_seqK K) (pv 0) pe_int (fun _ _ => rfl)) (nomark _))))))), ?_⟩)
  intro ds d hR N H σ Q A k
  cases hR with
  | mk s p hn hok =>
    have hl : ((p.map D.str).length : Int) = (p.length : Int) := by simp
    cases s with
    | above t n m =>
      refine q_whenT A (et_T (e_eqS (e_ixT (e_var rfl) e_int (atI_0 _ _)) e_str (by decide +kernel) (by decide +kernel))) (by decide +kernel) fun H1 A1 => ?_
      refine s_ret A1 (e_is (e_andV (q := decide (((p.idxOf n : Nat) : Int) + 1 + m = ((p.map D.str).length : Int))) (e_inF (ds := p.map D.str) (e_ixT (e_var rfl) e_int (atI_2 _ _ _ _)) (e_var rfl) rfl (by simp [flatD])) fun hb => ?_) ?_) k
      · rw [any_eqS] at hb
        exact e_eqI (e_add (e_add (e_indexF (e_var rfl) (e_ixT (e_var rfl) e_int (atI_2 _ _ _ _)) (of_decide_eq_true hb)) e_int) (e_ixT (e_var rfl) e_int (atI_3 _ _ _ _ _))) (e_lenF (e_var rfl))
      · rw [any_eqS, hl]; rfl
    | high t m =>
      refine q_whenF A (et_T (e_eqS (e_ixT (e_var rfl) e_int (atI_0 _ _)) e_str (by decide +kernel) (by decide +kernel))) (by decide +kernel) fun H1 A1 => ?_
      refine q_whenT A1 (et_T (e_eqS (e_ixT (e_var rfl) e_int (atI_0 _ _)) e_str (by decide +kernel) (by decide +kernel))) (by decide +kernel) fun H2 A2 => ?_
      exact s_ret A2 (e_is (e_eqI (e_lenF (e_var rfl)) (e_ixT (e_var rfl) e_int (atI_2 _ _ _ _))) (by rw [hl]; rfl)) k
    | least t m =>
      refine q_whenF A (et_T (e_eqS (e_ixT (e_var rfl) e_int (atI_0 _ _)) e_str (by decide +kernel) (by decide +kernel))) (by decide +kernel) fun H1 A1 => ?_
      refine q_whenF A1 (et_T (e_eqS (e_ixT (e_var rfl) e_int (atI_0 _ _)) e_str (by decide +kernel) (by decide +kernel))) (by decide +kernel) fun H2 A2 => ?_
      exact s_ret A2 (e_ifT (et_T (e_eqS (e_ixT (e_var rfl) e_int (atI_0 _ _)) e_str (by decide +kernel) (by decide +kernel))) (by decide +kernel) (e_is (e_ge (e_lenF (e_var rfl)) (e_ixT (e_var rfl) e_int (atI_2 _ _ _ _))) (by rw [hl]; rfl))) k
    | most t m =>
      refine q_whenF A (et_T (e_eqS (e_ixT (e_var rfl) e_int (atI_0 _ _)) e_str (by decide +kernel) (by decide +kernel))) (by decide +kernel) fun H1 A1 => ?_
      refine q_whenF A1 (et_T (e_eqS (e_ixT (e_var rfl) e_int (atI_0 _ _)) e_str (by decide +kernel) (by decide +kernel))) (by decide +kernel) fun H2 A2 => ?_
      exact s_ret A2 (e_ifF (et_T (e_eqS (e_ixT (e_var rfl) e_int (atI_0 _ _)) e_str (by decide +kernel) (by decide +kernel))) (by decide +kernel) (e_is (e_le (e_lenF (e_var rfl)) (e_ixT (e_var rfl) e_int (atI_2 _ _ _ _))) (by rw [hl]; rfl))) k
theorem sc__law_sight_of : FnScope ["bag", "book", "piles", "tick", "bent", "pile", "way", "at", "number"] ["bag", "book", "piles"] (defScope s__law_sight_of) := ⟨rfl, rfl, rfl, by decide +kernel, rfl, by decide +kernel, by decide +kernel⟩
theorem ok__law_sight_of (g : GL K mg) : FnOk P w K mg base CX0 3 g.a__law_sight_of g.fd__law_sight_of ["bag", "book", "piles"] (BagSp P_sight_of R_sight_of) := by
  have G__law_take := ok__law_take (P := P) (w := w) (base := base) g
  have G__law_of := ok__law_of (P := P) (w := w) (base := base) g
  refine fn_bag g.F__law_sight_of sc__law_sight_of (fun ds h => by cases h <;> rfl) (fun cdv A outer s H EX hr => ⟨_, (pss_cons (ps_par (i := 3) (j := 4) rfl sc__law_sight_of.nd rfl rfl (by decide) rfl rfl (pa_cons (pe_call G__law_take (hr.mono (by decide)) (by rfl) g.g__law_take g.F__law_take.kp g.n__law_take .nil pass0 (pa_cons (pv 0) (pa_cons (pe_op (op_addK K) (pe_ix (ix_seqK K) (pv 1) pe_int (fun _ _ => rfl)) pe_int) pa_nil))) (pa_cons (pe_call G__law_of (hr.mono (by decide)) (by rfl) g.g__law_of g.F__law_of.kp g.n__law_of .nil pass0 (pa_cons (pv 0) (pa_cons (pe_lst (pa_cons pe_int (pa_cons pe_int (pa_cons pe_int (pa_cons pe_int (pa_cons pe_int (pa_cons (pe_un un_neg pe_int) pa_nil))))))) pa_nil))) pa_nil)) (by rfl))
      (pss_cons (ps_par (i := 5) (j := 6) rfl sc__law_sight_of.nd rfl rfl (by decide) rfl rfl (pa_cons (pe_ix (ix_seqK K) (pv 2) (pv 3) (fun _ _ => rfl)) (pa_cons (pe_call G__law_take (hr.mono (by decide)) (by rfl) g.g__law_take g.F__law_take.kp g.n__law_take .nil pass0 (pa_cons (pv 0) (pa_cons pe_int pa_nil))) pa_nil)) (by rfl))
      (pss_cons (ps_if (PW.pt (pw_and (pt_cmpR op_ltU (pv 6) pe_int (nomark _)) (pw_and1 (pt_cmpR (op_neK K hr.units) (pv 5) (pe_tupF pa_nil) (nomark _)))))
        (pss_cons (ps_set (i := 7) sc__law_sight_of.nd rfl (.inl rfl) (pe_call G__law_of (hr.mono (by decide)) (by rfl) g.g__law_of g.F__law_of.kp g.n__law_of .nil pass0 (pa_cons (pv 0) (pa_cons (pe_lst (pa_cons (pe_op op_subU (pe_callB (call_lenK K) (by rfl) g.b_len (by decide +kernel) (pa_cons (pv 5) pa_nil)) pe_int) (pa_cons (pe_call G__law_take (hr.mono (by decide)) (by rfl) g.g__law_take g.F__law_take.kp g.n__law_take .nil pass0 (pa_cons (pv 0) (pa_cons (pe_callB (call_lenK K) (by rfl) g.b_len (by decide +kernel) (pa_cons (pv 5) pa_nil)) pa_nil))) pa_nil))) pa_nil))))
      (pss_one (ps_ret (pe_tup (pa_cons pe_str (pa_cons (pv 3) (pa_cons (pe_ix (ix_seqK K) (pv 5) (pv 7) (fun _ _ => rfl)) (pa_cons (pe_callB (call_maxU rfl) (by rfl) g.b_max (by decide +kernel) (pa_cons pe_int (pa_cons (pe_op (op_addK K) (pe_op op_subU (pe_op op_subU (pe_callB (call_lenK K) (by rfl) g.b_len (by decide +kernel) (pa_cons (pv 5) pa_nil)) pe_int) (pv 7)) (pv 4)) pa_nil))) pa_nil)))))))) pss_nil)
      (pss_cons (ps_set (i := 8) sc__law_sight_of.nd rfl (.inl rfl) (pe_callB (call_minU rfl) (by rfl) g.b_min (by decide +kernel) (pa_cons pe_int (pa_cons (pe_callB (call_maxU rfl) (by rfl) g.b_max (by decide +kernel) (pa_cons pe_int (pa_cons (pe_op (op_addK K) (pe_callB (call_lenK K) (by rfl) g.b_len (by decide +kernel) (pa_cons (pv 5) pa_nil)) (pv 4)) pa_nil))) pa_nil))))
      (pss_one (ps_ret (pe_tup (pa_cons (pe_call G__law_of (hr.mono (by decide)) (by rfl) g.g__law_of g.F__law_of.kp g.n__law_of .nil pass0 (pa_cons (pv 0) (pa_cons (pe_lst (pa_cons pe_str (pa_cons pe_str (pa_cons pe_str pa_nil)))) pa_nil))) (pa_cons (pv 3) (pa_cons (pv 8) pa_nil)))))))))), ?_⟩)
  intro ds hP N H σ bg Q A k
  cases hP with
  | mk b tk ps wb hrun =>
    have hlen := hrun.len.2
    have h0 := wb.lo
    have h1 := wb.hi
    have hfew := wb.few
    refine q_parBB (R2 := fun _ _ e P => R_of [.lst [.int 0, .int 0, .int 0, .int 0, .int 1, .int (-1)]] e ∧ P = [(bg, .non)]) A (eb_callE (Pre := P_take) (Rf := R_take) rfl (by simp) (ea1 (e_add (e_ixT (e_var rfl) e_int (atI_0 _ _)) e_int)) (.mk _ (by omega) (by omega)))
      (fun d P z => by rw [z.2]; exact eb_callE (Ps := [(bg, .non)]) (Pre := P_of) (Rf := R_of) rfl (by simp) (ea1 (EL.e (el_lst (ea_cons e_int (ea_cons e_int (ea_cons e_int (ea_cons e_int (ea_cons e_int (ea_cons (e_neg e_int) ea_nil))))))))) (.mk _ (by simp) (by simp))) fun d P e P2 σ1 H1 z z2 A1 => ?_
    obtain ⟨z, rfl⟩ := z
    obtain ⟨z2, rfl⟩ := z2
    cases z with
    | mk _ t t0 t1 =>
    cases z2 with
    | mk _ _ he =>
    have hb : ∃ bt : Int, e = .int bt ∧ -1 ≤ bt ∧ bt ≤ 1 := by
      simp only [List.mem_cons, List.not_mem_nil, or_false] at he
      rcases he with h | h | h | h | h | h <;> exact ⟨_, h, by decide, by decide⟩
    obtain ⟨bt, rfl, b0, b1⟩ := hb
    obtain ⟨q, hq⟩ : ∃ q, ps[t.toNat]? = some q := ⟨_, List.getElem?_eq_getElem (by omega)⟩
    have hq2 : (ps.map encPile)[t.toNat]? = some (encPile q) := by rw [List.getElem?_map, hq]; rfl
    have hql : q.length ≤ 10 := Nat.le_trans (hrun.fewAt q (List.mem_of_getElem? hq)) hfew
    have hqo : ∀ x ∈ q, nameOk x ∧ ∃ o, ownTick b x = some o ∧ o ≤ t := fun x hx => by
      obtain ⟨t', ht', e'⟩ := hrun.at_ _ q hq x hx
      exact ⟨nameAt_ok wb e', _, own_at wb e', by omega⟩
    refine q_parBB (R2 := fun _ _ e P => R_take [.int 6] e ∧ P = [(bg, .non)]) A1 (eb_e (e_ixL (e_var rfl) (e_var rfl) (atI_int t0 hq2))) (fun d P z => by rw [z.2]; exact eb_callE (Ps := [(bg, .non)]) (Pre := P_take) (Rf := R_take) rfl (by simp) (ea1 e_int) (.mk 6 (by decide) (by decide))) fun d P e P2 σ2 H2 z z2 A2 => ?_
    obtain ⟨rfl, rfl⟩ := z
    obtain ⟨z2, rfl⟩ := z2
    cases z2 with
    | mk _ w w0 w1 =>
    have hlq : ((q.map D.str).length : Int) = (q.length : Int) := by simp
    refine q_when A2 (et_and (et_T (e_lt (e_var rfl) e_int)) fun _ => et_T (e_neF0 (e_var rfl) (e_tupD ea_nil) (okPile fun x hx => (hqo x hx).1))) (fun hb H3 A3 => ?_) (fun hb H3 A3 => ?_)
    · have hne : 0 < q.length := by
        cases q with
        | nil => simp at hb
        | cons _ _ => simp
      refine q_asgB A3 (R := fun d P => ∃ a, d = .int a ∧ 0 ≤ a ∧ a < q.length ∧ P = [(bg, .non)]) (eb_mono (eb_call (Pre := P_of) (Rf := R_of) (RA := fun ds P => ∃ r, ds = [.lst [.int (q.length - 1), .int r]] ∧ 0 ≤ r ∧ r < q.length ∧ P = [(bg, .non)]) rfl (fun ds P ⟨_, _, _, _, z⟩ => by rw [z]; simp)
        (eba_mono (eba1 (eb_lst (eba_e (e_sub (e_lenF (e_var rfl)) e_int) (eba1 (eb_callE (Pre := P_take) (Rf := R_take) rfl (by simp) (ea1 (e_lenF (e_var rfl))) (.mk _ (by omega) (by omega))))) (fun ds P z => by obtain ⟨r, rfl, d, rfl, _⟩ := z; simp))) fun ds P z => ?_) (fun ds P ⟨_, z, _⟩ => by rw [z]; exact .mk _ (by simp) (by simp))) fun d P z => ?_) fun d P σ4 H4 z A4 => ?_
      · obtain ⟨d, rfl, ds2, ⟨r, rfl, d3, rfl, z, rfl⟩, rfl⟩ := z
        cases z with
        | mk _ r r0 r1 => exact ⟨r, by rw [hlq], r0, by omega, rfl⟩
      · obtain ⟨ds, ⟨r, rfl, r0, r1, rfl⟩, z⟩ := z
        cases z with
        | mk _ _ hd =>
          simp only [List.mem_cons, List.not_mem_nil, or_false] at hd
          rcases hd with h | h
          · exact ⟨_, h, by omega, by omega, rfl⟩
          · exact ⟨_, h, r0, r1, rfl⟩
      · obtain ⟨a, rfl, a0, a1, rfl⟩ := z
        obtain ⟨x, hx⟩ : ∃ x, q[a.toNat]? = some x := ⟨_, List.getElem?_eq_getElem (by omega)⟩
        have hx2 : (q.map D.str)[a.toNat]? = some (.str x) := by rw [List.getElem?_map, hx]; rfl
        refine s_retB rfl A4 (eb_e (e_tup (ea4 e_str (e_var rfl) (e_ixF (e_var rfl) (e_var rfl) (atI_int a0 hx2)) (e_max2 e_int (e_add (e_sub (e_sub (e_lenF (e_var rfl)) e_int) (e_var rfl)) (e_var rfl)))))) (fun d P z => by rw [z.2]; simp) fun v d P N' H' z => ?_
        rw [z.1]
        refine k v _ N' H' (.mk b ps (.above t x (max 0 (((q.map D.str).length : Int) - 1 - a + bt))) ⟨t0, by show t ≤ b.fin; omega, by show 0 ≤ max 0 _; omega, by show max 0 _ ≤ 10; omega, fun t' n' m' e' => ?_⟩)
        cases e'
        exact hqo x (List.mem_of_getElem? hx)
    · refine q_asg A3 (e_min2 e_int (e_max2 e_int (e_add (e_lenF (e_var rfl)) (e_var rfl)))) fun σ4 H4 A4 => ?_
      refine s_retB rfl A4 (R := fun d P => ∃ s, WS1 b s ∧ d = encSight s ∧ P = [(bg, .non)]) (eb_mono (eb_tup (eba_cons (RA := fun d P ds P2 => ds = [.int t, .int (min 10 (max 0 (((q.map D.str).length : Int) + bt)))] ∧ P2 = P) (eb_callE (Pre := P_of) (Rf := R_of) rfl (by simp) (ea1 (EL.e (el_lst (ea3 e_str e_str e_str)))) (.mk _ (by simp) (by simp)))
        (fun d P z => by rw [z.2]; exact eba_ea (ea2 (e_var rfl) (e_var rfl)))) (fun ds P z => by obtain ⟨d, r, P1, rfl, _, rfl, _⟩ := z; simp)) fun d P z => ?_) (fun d P ⟨_, _, _, z⟩ => by rw [z]; simp) fun v d P N' H' z => ?_
      · obtain ⟨ds, ⟨d, r, P1, rfl, ⟨z, rfl⟩, rfl, rfl⟩, rfl⟩ := z
        have m0 : 0 ≤ min 10 (max 0 (((q.map D.str).length : Int) + bt)) := by omega
        have m1 : min 10 (max 0 (((q.map D.str).length : Int) + bt)) ≤ 10 := by omega
        generalize min 10 (max 0 (((q.map D.str).length : Int) + bt)) = m at m0 m1 ⊢
        have t2 : t ≤ b.fin := by omega
        cases z with
        | mk _ _ hd =>
          simp only [List.mem_cons, List.not_mem_nil, or_false] at hd
          rcases hd with rfl | rfl | rfl
          · exact ⟨.high t m, ⟨t0, t2, m0, m1, fun _ _ _ e => by cases e⟩, rfl, rfl⟩
          · exact ⟨.least t m, ⟨t0, t2, m0, m1, fun _ _ _ e => by cases e⟩, rfl, rfl⟩
          · exact ⟨.most t m, ⟨t0, t2, m0, m1, fun _ _ _ e => by cases e⟩, rfl, rfl⟩
      · obtain ⟨s, hs, rfl, _⟩ := z
        exact k v _ N' H' (.mk b ps s hs)
theorem sc__law_sights : FnScope ["bag", "book", "most", "piles", "found", "turn"] ["bag", "book", "most"] (defScope s__law_sights) := ⟨rfl, rfl, rfl, by decide +kernel, rfl, by decide +kernel, by decide +kernel⟩
theorem ok__law_sights (g : GL K mg) : FnOk P w K mg base CX0 4 g.a__law_sights g.fd__law_sights ["bag", "book", "most"] (BagSp P_sights R_sights) := by
  have G__law_take := ok__law_take (P := P) (w := w) (base := base) g
  have G__law_a_story := ok__law_a_story (P := P) (w := w) (base := base) g
  have G__law_sight_of := ok__law_sight_of (P := P) (w := w) (base := base) g
  refine fn_bag g.F__law_sights sc__law_sights (fun ds h => by cases h <;> rfl) (fun cdv A outer s H EX hr => ⟨_, (pss_cons (ps_par (i := 3) (j := 4) rfl sc__law_sights.nd rfl rfl (by decide) rfl rfl (pa_cons (pe_ix (ix_seqK K) (pe_call G__law_a_story (hr.mono (by decide)) (by rfl) g.g__law_a_story g.F__law_a_story.kp g.n__law_a_story .nil pass0 (pa_cons (pv 0) (pa_cons (pv 1) pa_nil))) pe_int (fun _ _ => rfl)) (pa_cons pe_dnewT pa_nil)) (by rfl))
      (pss_cons (ps_for PassesOwn.never rfl (pi_range1 (by rfl) g.b_range (pa_cons (pe_call G__law_take (hr.mono (by decide)) (by rfl) g.g__law_take g.F__law_take.kp g.n__law_take .nil pass0 (pa_cons (pv 0) (pa_cons (pe_op (op_addK K) (pv 2) pe_int) pa_nil))) pa_nil)) (pg_name (i := 5) sc__law_sights.nd rfl (.inl rfl))
        (pss_one (ps_dput (hu_of hr) (pv 4) (pe_call G__law_sight_of (hr.mono (by decide)) (by rfl) g.g__law_sight_of g.F__law_sight_of.kp g.n__law_sight_of .nil pass0 (pa_cons (pv 0) (pa_cons (pv 1) (pa_cons (pv 3) pa_nil)))) pe_bl rfl)))
      (pss_one (ps_ret (pe_callTy (call_tupK K) (by rfl) g.b_tuple (by decide +kernel) (pa_cons (pe_callB (call_sortedT rfl) (by rfl) g.b_sorted (by decide +kernel) (pa_cons (pv 4) pa_nil)) pa_nil)))))), ?_⟩)
  intro ds hP N H σ bg Q A k
  cases hP with
  | mk b most wb hfl m0 m6 =>
    refine q_parBL A (R1 := fun d P => ∃ tk ps, Run b (b.fin + 1).toNat tk ps ∧ d = .lst (ps.map encPile) ∧ P = [(bg, .non)]) (eb_op (Rb := fun _ _ d P => d = .int 1 ∧ P = [(bg, .non)]) (eb_callE (Pre := P_a_story) (Rf := R_a_story) rfl (by simp) (ea1 (e_var rfl)) (.mk b wb hfl)) (fun x P z => by rw [z.2]; exact eb_e e_int) fun x P y P2 z z2 => ?_) el_newT fun d P p σ1 H1 z A1 => ?_
    · obtain ⟨z, rfl⟩ := z
      obtain ⟨rfl, rfl⟩ := z2
      obtain ⟨tk, ps, hr, rfl⟩ := z.inv
      exact ⟨.lst (ps.map encPile), r2d_ixT (atI_1 _ _ _), tk, ps, hr, rfl, rfl⟩
    · obtain ⟨tk, ps, hrun, rfl, rfl⟩ := z
      have hne : p ≠ bg := by
        obtain ⟨N2, a2⟩ := A1
        have := a2.nd
        simpa using this
      refine q_rngB A1 (RA := fun ds P => ∃ n : Int, ds = [.int n] ∧ 0 ≤ n ∧ n ≤ most ∧ P = [(p, .dt []), (bg, .non)]) (eba_mono (eba1 (eb_callE (Pre := P_take) (Rf := R_take) rfl (by simp) (ea1 (e_add (e_var rfl) e_int)) (.mk _ (by omega) (by omega)))) fun ds P z => ?_) (fun ds P ⟨n, z, n0, n1, _⟩ => ⟨n, z, by omega, by omega⟩) fun n P H2 z A2 => ?_
      · obtain ⟨d, rfl, z, rfl⟩ := z
        cases z with
        | mk _ r r0 r1 => exact ⟨r, rfl, r0, by omega, rfl⟩
      · obtain ⟨n', e, n0, n1, rfl⟩ := z
        cases e
        refine q_forT (S := List (List Key × D)) (ts := [5]) (List.range n.toNat) (fun i => .int (0 + (i : Nat))) (fun kvs => [(p, .dt kvs), (bg, .non)])
          (fun _ => [.val (.ref bg), .dat (encBook b), .dat (.int most), .dat (.lst (ps.map encPile)), .val (.ref p), .no]) (fun i kvs => SightKeys (WS1 b) kvs ∧ kvs.length ≤ i) []
          (fun _ i => [.val (.ref bg), .dat (encBook b), .dat (.int most), .dat (.lst (ps.map encPile)), .val (.ref p), .dat (.int (0 + (i : Nat)))]) A2 (src_r1 (ea1 e_int) (by omega)) ⟨fun p hp => by simp at hp, by simp⟩ (fun _ _ _ _ _ => tg_n 5) ?_ ?_
        · rintro L i kvs j σ3 H3 hi ⟨hJ, hl⟩ A3
          have hi2 := at_lt hi
          rw [List.length_range] at hi2
          refine s_dputB A3 (i := 4) (j := 0) rfl e_bl rfl (R := fun d P => ∃ s, WS1 b s ∧ d = encSight s ∧ P = [(p, .dt kvs), (bg, .non)]) (eb_mono (eb_callE (Pre := P_sight_of) (Rf := R_sight_of) rfl (by simp) (ea2 (e_var rfl) (e_var rfl)) (.mk b tk ps wb hrun)) fun d P z => ?_) (fun y P ⟨s, hs, z, z2⟩ => ⟨sightK s, by rw [encK_sight, z], by rw [z2]; rfl⟩) (by omega) fun key P H4 z A4 => ?_
          · obtain ⟨z, rfl⟩ := z
            obtain ⟨s, hs, rfl⟩ := z.inv
            exact ⟨s, hs, rfl, rfl⟩
          · obtain ⟨s, hs, e, rfl⟩ := z
            have ek := encK_sight_inj e
            subst ek
            refine ⟨putD kvs (sightK s) (.bl true), ⟨hJ.put hs, Nat.le_trans (putD_len _ _ _) (by omega)⟩, ?_⟩
            exact A4.weak (.same (.same (.same (.same (.same (.drop .nil))))))
        · rintro kvs σ3 H3 ⟨hJ, hl⟩ A3
          rw [List.length_range] at hl
          have A4 := A3.freeze (i := 4) rfl rfl (by simpa using hne)
          obtain ⟨ss, es, hws, hsl⟩ := hJ.sorted
          refine s_retB rfl A4 (eb_e (e_is (e_tupL (EL.e (el_sortedT (e_var rfl) hJ.heads hJ.cmps))) (congrArg D.tup es))) (fun d P z => by rw [z.2]; simp) fun v d P N' H' z => ?_
          rw [z.1]
          exact k v _ N' H' (.mk b most ss ⟨by omega, hws⟩ (by omega))
theorem sc__law_stories : FnScope ["book", "sights", "table", "found", "tick", "due", "longer", "took", "piles", "one", "pile", "sight"] ["book", "sights"] (defScope s__law_stories) := ⟨rfl, rfl, rfl, by decide +kernel, rfl, by decide +kernel, by decide +kernel⟩
theorem ok__law_stories (g : GL K mg) : FnOk P w K mg base CX0 2 g.a__law_stories g.fd__law_stories ["book", "sights"] (PureSp L_stories) := by
  have G__law_next := ok__law_next (P := P) (w := w) (base := base) g
  have G__law_is_so := ok__law_is_so (P := P) (w := w) (base := base) g
  refine fn_pure g.F__law_stories sc__law_stories (fun ds d h => by cases h <;> rfl) (fun cdv A outer s H EX hr => ⟨_, (pss_cons (ps_par (i := 2) (j := 3) rfl sc__law_stories.nd rfl rfl (by decide) rfl rfl (pa_cons (pe_callTy (call_dictF K rfl) (by rfl) g.b_dict (by decide +kernel) (pa_cons (pe_ix (ix_seqK K) (pv 0) pe_int (fun _ _ => rfl)) pa_nil)) (pa_cons (pe_lst (pa_cons (pe_tup (pa_cons (pe_tup pa_nil) (pa_cons (pe_tup pa_nil) pa_nil))) pa_nil)) pa_nil)) (by rfl))
      (pss_cons (ps_for PassesOwn.never rfl (pi_range1 (by rfl) g.b_range (pa_cons (pe_op (op_addK K) (pe_ix (ix_seqK K) (pv 0) pe_int (fun _ _ => rfl)) pe_int) pa_nil)) (pg_name (i := 4) sc__law_stories.nd rfl (.inr rfl))
        (pss_cons (ps_par (i := 5) (j := 6) rfl sc__law_stories.nd rfl rfl (by decide) rfl rfl (pa_cons (pe_lc (own := [("sight", 11)]) rfl sc__law_stories.nd (pi_seqK K (pv 1)) (blkOk_by (N := ["book", "sights", "table", "found", "tick", "due", "longer", "took", "piles", "one", "pile", "sight"]) (sc := defScope s__law_stories) (by decide +kernel)) (fun _ _ _ _ _ => (pg_name (i := 11) sc__law_stories.nd rfl (by first | exact .inl rfl | exact .inr rfl))) (fun _ _ _ _ _ => (pts_one (pt_cmpR (op_eqK K hr.units) (pe_ix (ix_seqK K) (pv 11) pe_int (fun _ _ => rfl)) (pv 4) (nomark _)))) (fun _ _ _ _ _ => (pv 11))) (pa_cons (pe_lst pa_nil) pa_nil)) (by rfl))
      (pss_cons (ps_for PassesOwn.never rfl (pi_seqK K (pv 3)) (pg_tupK K (n := 2) (by rfl) (pgs_cons (pg_name (i := 7) sc__law_stories.nd rfl (.inl rfl)) (pgs_cons (pg_name (i := 8) sc__law_stories.nd rfl (.inl rfl)) pgs_nil)))
        (pss_one (ps_for PassesOwn.never rfl (pi_seqK K (pe_tup (pa_cons pe_int (pa_cons pe_int pa_nil)))) (pg_name (i := 9) sc__law_stories.nd rfl (.inl rfl))
        (pss_cons (ps_set (i := 10) sc__law_stories.nd rfl (.inr rfl) (pe_call G__law_next (hr.mono (by decide)) (by rfl) g.g__law_next g.F__law_next.kp g.n__law_next .nil pass0 (pa_cons (pe_ifExp (pt_cmpR (op_neK K hr.units) (pv 8) (pe_tup pa_nil) (nomark _)) (pe_ix (ix_seqK K) (pv 8) (pe_un un_neg pe_int) (fun _ _ => rfl)) (pe_tupF pa_nil)) (pa_cons (pv 9) (pa_cons (pe_dget2 (hu_of hr) (pv 2) (pv 4) pe_non ⟨rfl, rfl, rfl, rfl⟩) pa_nil)))))
      (pss_one (ps_if (PW.pt (pw_and (pt_cmpR op_notNU (pv 10) pe_non (nomark _)) (pw_and1 (pt_cmpR (op_eqK K hr.units) (pe_lc (own := [("sight", 11)]) rfl sc__law_stories.nd (pi_seqK K (pv 5)) (blkOk_by (N := ["book", "sights", "table", "found", "tick", "due", "longer", "took", "piles", "one", "pile", "sight"]) (sc := defScope s__law_stories) (by decide +kernel)) (fun _ _ _ _ _ => (pg_name (i := 11) sc__law_stories.nd rfl (by first | exact .inl rfl | exact .inr rfl))) (fun _ _ _ _ _ => (pts_one (pt_not (pt_truK K (pe_call G__law_is_so (hr.mono (by decide)) (by rfl) g.g__law_is_so g.F__law_is_so.kp g.n__law_is_so .nil pass0 (pa_cons (pv 11) (pa_cons (pv 10) pa_nil))) (by intro _; rfl))))) (fun _ _ _ _ _ => (pv 11))) (pe_lst pa_nil) (nomark _)))))
        (pss_one (ps_expr (pe_bm PySem.F.plainAttrs_list PySem.F.slot_list_append PySem.F.type_list_append mt_append (pv 6) (pa_cons (pe_tup (pa_cons (pe_op (op_addK K) (pv 7) (pe_tup (pa_cons (pv 9) pa_nil))) (pa_cons (pe_op (op_addK K) (pv 8) (pe_tup (pa_cons (pv 10) pa_nil))) pa_nil))) pa_nil)))) pss_nil))))))
      (pss_one (ps_set (i := 3) sc__law_stories.nd rfl (.inl rfl) (pv 6))))))
      (pss_one (ps_ret (pv 3))))), ?_⟩)
  intro ds d hR N H σ Q A k
  cases hR with
  | mk b ss wb hfl ws h15 =>
    have h0 := wb.lo
    have hss := ws.all
    have hss6 := ws.few
    refine q_parEE A (e_dictF (rows := b.laid) (e_is (e_ixT (e_var rfl) e_int (atI_1 _ _ _)) (laid_ftup hfl)) (pair_nodup wb)) (EL.e (el_lst (ea1 (e_tup (ea2 (e_tup ea_nil) (e_tup ea_nil)))))) fun σ1 H1 A1 => ?_
    refine q_forT (S := List Sto) (ts := [4]) (List.range (b.fin + 1).toNat) (fun i => .int (0 + (i : Nat))) (fun _ => [])
      (fun fs => [.dat (encBook b), .dat (encSights ss), .dat (.dk (tableD b)), .dat (.lst (fs.map encSto)), .no, .no, .no, .no, .no, .no, .no, .no]) (fun i fs => fs = storiesTo b ss i) [([], [])]
      (fun fs i => [.dat (encBook b), .dat (encSights ss), .dat (.dk (tableD b)), .dat (.lst (fs.map encSto)), .dat (.int (0 + (i : Nat))), .no, .no, .no, .no, .no, .no, .no]) A1 (src_r1 (ea1 (e_add (e_ixT (e_var rfl) e_int (atI_0 _ _)) e_int)) (by omega)) rfl (fun _ _ _ _ _ => tg_n 4) ?_ ?_
    · rintro L i fs j σ2 H2 hi rfl A2
      have hi2 := at_lt hi
      have ej : j = i := by
        rw [List.getElem?_eq_getElem hi2, List.getElem_range] at hi
        exact (Option.some.inj hi).symm
      subst ej
      rw [List.length_range] at hi2
      try dsimp only at A2
      have hruns := storiesTo_run (b := b) (ss := ss) j
      have hxl := storiesTo_len16 b ss (n := j) (by omega)
      have edue : ∀ s : Sight, decide (s.tick = 0 + (j : Int)) = decide (s.tick = (j : Int)) := fun s => by rw [Int.zero_add]
      refine q_parEL A2 (EL.e (el_lc (ts := [11]) ss encSight (fun s => decide (s.tick = 0 + (j : Int))) encSight (fun s => [.dat (encBook b), .dat (encSights ss), .dat (.dk (tableD b)), .dat (.lst ((storiesTo b ss j).map encSto)), .dat (.int (0 + (j : Nat))), .no, .no, .no, .no, .no, .no, .dat (encSight s)]) (src_T (e_var rfl)) (by omega) (by simp)
        (fun s _ => tg_n 11) (fun s _ => et_T (e_eqI (e_sTick (e_var rfl)) (e_var rfl))) (fun s _ _ => e_var rfl))) (el_lst ea_nil) fun p σ3 H3 A3 => ?_
      simp only [edue] at A3
      have hdue : ∀ s ∈ ss.filter (fun s => decide (s.tick = (j : Int))), WS1 b s := fun s hs => hss s (List.mem_filter.mp hs).1
      have hduel : (ss.filter fun s => decide (s.tick = (j : Int))).length ≤ 6 := Nat.le_trans (List.length_filter_le _ _) hss6
      have hstep : ∀ (f : Sto) (one : Int), step1 b ss j f one = match nextM (f.2.getLastD []) one (nameAt b (j : Int)) with
        | none => none
        | some q => if (ss.filter fun s => decide (s.tick = (j : Int))).all (fun s => isSoM s q) then some (f.1 ++ [one], f.2 ++ [q]) else none := fun f one => rfl
      generalize ss.filter (fun s => decide (s.tick = (j : Int))) = due at A3 hdue hduel hstep
      refine q_forT (S := List Sto) (ts := [7, 8]) (storiesTo b ss j) encSto (fun acc => [(p, .lst (acc.map encSto))])
        (fun _ => [.dat (encBook b), .dat (encSights ss), .dat (.dk (tableD b)), .dat (.lst ((storiesTo b ss j).map encSto)), .dat (.int (0 + (j : Nat))), .dat (.lst (due.map encSight)), .val (.ref p), .no, .no, .no, .no, .no]) (fun n acc => acc = ((storiesTo b ss j).take n).flatMap (stepM b ss j)) []
        (fun _ f => [.dat (encBook b), .dat (encSights ss), .dat (.dk (tableD b)), .dat (.lst ((storiesTo b ss j).map encSto)), .dat (.int (0 + (j : Nat))), .dat (.lst (due.map encSight)), .val (.ref p), .dat (encTk f.1), .dat (.tup (f.2.map encPile)), .no, .no, .no]) A3 (src_L (e_var rfl)) (by simp) (fun _ _ _ _ _ => tg2 7 8) ?_ ?_
      · rintro L2 n acc f σ4 H4 hf rfl A4
        have hn := at_lt hf
        have hrun := hruns f (List.mem_of_getElem? hf)
        have hok := hrun.nok wb
        have hl10 := hrun.len10 wb
        have hlen := hrun.len
        have hops := hrun.okPs wb
        obtain ⟨tk, ps⟩ := f
        dsimp only at hrun hok hl10 hlen hops
        have hacc := flatMap_len (stepM_len b ss j) ((storiesTo b ss j).take n)
        rw [List.length_take] at hacc
        generalize ha0 : ((storiesTo b ss j).take n).flatMap (stepM b ss j) = acc0 at A4 hacc
        refine s_forT (S := List Sto) (ts := [9]) ([0, 1] : List Int) D.int (fun acc => [(p, .lst (acc.map encSto))])
          (fun _ => [.dat (encBook b), .dat (encSights ss), .dat (.dk (tableD b)), .dat (.lst ((storiesTo b ss j).map encSto)), .dat (.int (0 + (j : Nat))), .dat (.lst (due.map encSight)), .val (.ref p), .dat (encTk tk), .dat (.tup (ps.map encPile)), .no, .no, .no]) (fun m acc => acc = acc0 ++ (([0, 1] : List Int).take m).filterMap (step1 b ss j (tk, ps))) acc0
          (fun _ one => [.dat (encBook b), .dat (encSights ss), .dat (.dk (tableD b)), .dat (.lst ((storiesTo b ss j).map encSto)), .dat (.int (0 + (j : Nat))), .dat (.lst (due.map encSight)), .val (.ref p), .dat (encTk tk), .dat (.tup (ps.map encPile)), .dat (.int one), .no, .no]) A4 (src_T (e_tup (ea2 e_int e_int))) (by simp) (fun _ _ _ _ _ => tg_n 9) ?_ ?_
        · rintro L3 m acc one σ5 H5 hone rfl A5
          have hm := at_lt hone
          have ho : one = 0 ∨ one = 1 := by
            have := List.mem_of_getElem? hone
            simpa using this
          have htake : ([0, 1] : List Int).take (m + 1) = ([0, 1] : List Int).take m ++ [one] := by
            rw [List.take_add_one, hone]; rfl
          have hfl2 : (acc0 ++ (([0, 1] : List Int).take m).filterMap (step1 b ss j (tk, ps))).length ≤ 99999 := by
            have := List.length_filterMap_le (step1 b ss j (tk, ps)) (([0, 1] : List Int).take m)
            rw [List.length_take] at this
            rw [List.length_append]
            simp at this
            omega
          have hgoal : acc0 ++ (([0, 1] : List Int).take (m + 1)).filterMap (step1 b ss j (tk, ps)) = (acc0 ++ (([0, 1] : List Int).take m).filterMap (step1 b ss j (tk, ps))) ++ (step1 b ss j (tk, ps) one).toList := by
            rw [htake, List.filterMap_append, List.append_assoc]
            rfl
          rw [hgoal]
          generalize acc0 ++ (([0, 1] : List Int).take m).filterMap (step1 b ss j (tk, ps)) = acc at A5 hfl2
          refine q_asg A5 (e_fn (ea3 (a := encPile (ps.getLastD [])) (e_if (p := !(ps.map encPile).isEmpty) (et_T (e_neT0 (e_var rfl) (e_tup ea_nil) (okD_piles hops))) (fun hb => ?_) (fun hb => ?_)) (e_var rfl) (e_is (e_dget2 (k := .inl (0 + (j : Int))) (e_var rfl) (e_var rfl) e_non) (by rw [Int.zero_add]; exact valD_table b _))) (L_next.mk (ps.getLastD []) one (nameAt b (j : Int)) ho (by omega) hok)) fun σ6 H6 A6 => ?_
          · have hne : ps ≠ [] := fun z => by rw [z] at hb; simp at hb
            refine e_ixT (e_var rfl) (e_neg e_int) ?_
            have := atI_last (encPile []) (l := ps.map encPile) (by simpa using hne)
            rw [this]
            congr 1
            cases ps with
            | nil => exact absurd rfl hne
            | cons x l =>
              rw [List.getLastD_eq_getLast?, List.getLastD_eq_getLast?, List.getLast?_map]
              cases (x :: l).getLast? <;> rfl
          · have hne : ps = [] := by
              cases ps with
              | nil => rfl
              | cons _ _ => simp at hb
            subst hne
            exact e_tupD ea_nil
          · have hs1 := hstep (tk, ps) one
            cases hnx : nextM (ps.getLastD []) one (nameAt b (j : Int)) with
            | none =>
              rw [hnx] at A6
              rw [hnx] at hs1
              rw [hs1]
              refine s_when A6 (b := false) (et_is (et_and (q := false) (et_T (e_notN (e_var rfl))) fun h => nomatch h) rfl) (fun hb => nomatch hb) fun _ H7 A7 => ⟨_, rfl, ?_⟩
              rw [Option.toList_none, List.append_nil]
              exact A7.weak (.same (.same (.same (.same (.same (.same (.same (.same (.same (.drop (.drop (.same .nil))))))))))))
            | some q =>
              rw [hnx] at A6
              rw [hnx] at hs1
              have hqok : ∀ x ∈ q, nameOk x := fun x hx => by
                rcases nextM_mem hnx x hx with z | z
                · exact hok x z
                · exact nameAt_ok wb z
              refine s_when A6 (b := due.all fun s => isSoM s q) (et_is (et_and (et_T (e_notN (a := encPile q) (e_var rfl))) fun h => et_T (e_eqL0 (EL.e (el_lc (ts := [11]) due encSight (fun s => !isSoM s q) encSight (fun s => [.dat (encBook b), .dat (encSights ss), .dat (.dk (tableD b)), .dat (.lst ((storiesTo b ss j).map encSto)), .dat (.int (0 + (j : Nat))), .dat (.lst (due.map encSight)), .val (.ref p), .dat (encTk tk), .dat (.tup (ps.map encPile)), .dat (.int one), .dat (encPile q), .dat (encSight s)]) (src_L (e_var rfl)) (by omega) (by simp)
                (fun s _ => tg_n 11) (fun s hs => et_not (et_tru' (e_fn (ea2 (e_var rfl) (e_var rfl)) (L_is_so.mk s q (fun t n m e => ((hdue s hs).own t n m e).1) hqok)) rfl)) (fun s _ _ => e_var rfl))) (EL.e (el_lst ea_nil)) (okD_sightsL fun s hs => hdue s (List.mem_filter.mp hs).1))) ?_) (fun hb H7 A7 => ?_) (fun hb H7 A7 => ?_)
              · rw [map_isEmpty]
                show (true && _) = _
                rw [Bool.true_and]
                clear hduel hdue A6 A5 A4 A3 hstep hs1
                induction due with
                | nil => rfl
                | cons s due ih =>
                  rw [List.filter_cons, List.all_cons]
                  cases isSoM s q
                  · rfl
                  · simpa using ih
              · have hs2 : step1 b ss j (tk, ps) one = some (tk ++ [one], ps ++ [q]) := by
                  rw [hs1]
                  show (if _ then _ else _) = _
                  rw [if_pos hb]
                rw [hs2]
                refine s_app A7 (i := 6) (k := 0) rfl rfl (Vw.refl _ _) (e_tup (ea2 (e_addT (e_var rfl) (e_tup (ea1 (e_var rfl))) (by rw [List.length_map]; simp; omega)) (e_addT (ds := ps.map encPile) (es := [encPile q]) (e_var rfl) (e_tup (ea1 (e_var rfl))) (by rw [List.length_map]; simp; omega)))) ?_ (by rw [List.length_map]; exact hfl2) fun H8 A8 => ⟨_, rfl, ?_⟩
                · show (fzs (tk.map D.int ++ [.int one]) && (fzs (ps.map encPile ++ [encPile q]) && true)) = true
                  have e1 : tk.map D.int ++ [.int one] = (tk ++ [one]).map D.int := by simp
                  have e2 : ps.map encPile ++ [encPile q] = (ps ++ [q]).map encPile := by simp
                  rw [e1, e2, fzs_map D.int (fun _ => rfl), fzs_map encPile fz_pile]; rfl
                · have e3 : (acc ++ [((tk ++ [one], ps ++ [q]) : Sto)]).map encSto = acc.map encSto ++ [.tup [.tup (tk.map D.int ++ [.int one]), .tup (ps.map encPile ++ [encPile q])]] := by
                    simp [encSto, encTk]
                  show At _ [(p, .lst ((acc ++ [((tk ++ [one], ps ++ [q]) : Sto)]).map encSto))] _ _ _
                  rw [e3]
                  exact A8.weak (.same (.same (.same (.same (.same (.same (.same (.same (.same (.drop (.drop (.same .nil))))))))))))
              · have hs2 : step1 b ss j (tk, ps) one = none := by
                  rw [hs1]
                  show (if _ then _ else _) = _
                  rw [if_neg (by rw [hb]; simp)]
                rw [hs2]
                refine ⟨_, rfl, ?_⟩
                rw [Option.toList_none, List.append_nil]
                exact A7.weak (.same (.same (.same (.same (.same (.same (.same (.same (.same (.drop (.drop (.same .nil))))))))))))
        · rintro acc σ5 H5 rfl A5
          refine ⟨_, ?_, A5.weak (.same (.same (.same (.same (.same (.same (.same (.drop (.drop (.same (.same (.same .nil))))))))))))⟩
          rw [List.take_add_one, hf, List.flatMap_append, ha0]
          simp [stepM]
      · rintro acc σ4 H4 rfl A4
        rw [List.take_length] at A4
        refine s_asg (A4.freeze (i := 6) rfl rfl (by simp)) (e_var rfl) fun σ5 H5 A5 => ⟨_, rfl, ?_⟩
        exact A5.weak (.same (.same (.same (.same (.drop (.drop (.drop (.same (.same (.same (.same (.same .nil))))))))))))
    · rintro fs σ2 H2 rfl A2
      rw [List.length_range] at A2
      exact s_ret A2 (e_var rfl) k
theorem sc__law_bag : FnScope ["script", "k", "cell", "seed"] ["script", "k"] (defScope s__law_bag) := ⟨rfl, rfl, rfl, by decide +kernel, rfl, by decide +kernel, by decide +kernel⟩
theorem ok__law_bag (g : GL K mg) : FnOk P w K mg base CX0 1 g.a__law_bag g.fd__law_bag ["script", "k"] (NewBag K) := by
  refine fn_new g.F__law_bag sc__law_bag rfl (fun cdv A outer s H EX hr => ⟨_, (pss_cons (ps_set (i := 2) sc__law_bag.nd rfl (.inl rfl) pe_int)
      (pss_cons (ps_if (pt_cmpR op_ltU (pv 1) (pe_callB (call_lenK K) (by rfl) g.b_len (by decide +kernel) (pa_cons (pv 0) pa_nil)) (nomark _))
        (pss_one (ps_set (i := 2) sc__law_bag.nd rfl (.inl rfl) (pe_op op_modU (pe_ix (ix_seqK K) (pv 0) (pv 1) (fun _ _ => rfl)) (pe_op op_powU pe_int pe_int)))) pss_nil)
      (pss_cons (ps_set (i := 3) sc__law_bag.nd rfl (.inl rfl) (pe_op (op_addK K) pe_int (pe_op op_modU (pe_op (op_addK K) (pe_op (op_addK K) (pe_op (op_addK K) (pe_op op_mulU (pe_op op_modU (pv 2) pe_int) pe_int) (pe_op op_mulU (pe_op op_mulU pe_int (pv 1)) (pv 1))) (pe_op op_mulU pe_int (pv 1))) pe_int) pe_int)))
      (pss_cons (ps_if (pt_cmpR op_ltU (pv 2) (pe_op op_powU pe_int pe_int) (nomark _))
        (pss_one (ps_ret (pe_lst (pa_cons pe_int (pa_cons (pv 3) pa_nil))))) pss_nil)
      (pss_one (ps_ret (pe_lst (pa_cons (pv 2) (pa_cons (pv 3) pa_nil))))))))), ?_⟩)
  intro ns j j0 j1 N H σ Q A k
  refine q_asg A e_int fun σ1 H1 A1 => ?_
  refine q_joinI (S := Int) (fun x => [scr K ns, .dat (.int j), .dat (.int x), .no]) A1 (et_T (e_lt (e_var rfl) (e_lenS rfl))) (fun hb kk H2 A2 => ?_) (fun hb kk H2 A2 => kk 0 _ _ A2) fun x σ2 H2 A2 => ?_
  · have hlt : j < (ns.length : Int) := of_decide_eq_true hb
    obtain ⟨m, hm⟩ : ∃ m, ns[j.toNat]? = some m := ⟨_, List.getElem?_eq_getElem (by omega)⟩
    exact s_asg A2 (e_mod (e_ixS rfl (e_var rfl) (atI_int j0 hm)) (e_pow e_int e_int (by refine ⟨by decide, by decide, by decide⟩)) (by decide +kernel)) fun σ3 H3 A3 => kk _ _ _ A3
  · refine q_asg A2 (e_add e_int (e_mod (e_add (e_add (e_add (e_mul (e_mod (e_var rfl) e_int (by decide)) e_int (.inr (by decide))) (e_mul (e_mul e_int (e_var rfl) (.inl (by decide))) (e_var rfl) (.inr (by omega)))) (e_mul e_int (e_var rfl) (.inl (by decide)))) e_int) e_int (by decide))) fun σ3 H3 A3 => ?_
    refine q_when A3 (et_T (e_lt (e_var rfl) (e_pow e_int e_int (by refine ⟨by decide, by decide, by decide⟩)))) (fun hb H4 A4 => ?_) (fun hb H4 A4 => ?_)
    · exact s_retBag rfl A4 (ea2 e_int (e_var rfl)) k
    · exact s_retBag rfl A4 (ea2 (e_var rfl) (e_var rfl)) k
theorem sc_behind : FnScope ["pile", "took", "name"] ["pile", "took", "name"] (defScope s_behind) := ⟨rfl, rfl, rfl, by decide +kernel, rfl, by decide +kernel, by decide +kernel⟩
theorem ok_behind (g : GL K mg) : FnOk P w K mg base CX0 1 g.a_behind g.fd_behind ["pile", "took", "name"] (PureSp R_behind) := by
  refine fn_pure g.F_behind sc_behind (fun ds d h => by cases h <;> rfl) (fun cdv A outer s H EX hr => ⟨_, (pss_cons (ps_if (pt_truK K (pv 1) (by intro _; rfl))
        (pss_cons (ps_if (pt_not (pt_truK K (pv 0) (by intro _; rfl)))
        (pss_one (ps_ret pe_non)) pss_nil)
      (pss_one (ps_set (i := 0) sc_behind.nd rfl (.inl rfl) (pe_slice (sl_tupF K) (pv 0) po_none (po_some (pe_un un_neg pe_int)))))) pss_nil)
      (pss_one (ps_ret (pe_ifExp (pt_cmpR op_isNU (pv 2) pe_non (nomark _)) (pv 0) (pe_op (op_catF K) (pv 0) (pe_tupF (pa_cons (pv 2) pa_nil))))))), ?_⟩)
  intro ds d hR N H σ Q A k
  cases hR with
  | mk p took name ht hl =>
    have hret : ∀ (q : Pile) (σ' : St) (H' : Hp), q.length ≤ 1000 → At ⟨[], N, H, []⟩ [] [.dat (encPile q), .dat (.int took), .dat (encON name)] σ' H' → nextM p took name = some (q ++ name.toList) → tRet (tIf (tTest (tOp uIsN (tVar 2) (tC .non))) (tVar 0) (tOp (rCatF K) (tVar 0) (tTupF (tCons (tVar 2) tNil)))) { nx := fun _ _ => False, rt := Q } σ' H' := by
      intro q σ' H' hq A1 hn
      rw [hn] at k
      cases name with
      | none => exact s_ret A1 (e_is (e_ifT (et_T (e_isN (e_var rfl))) rfl (e_var rfl)) (by simp [encOP])) k
      | some n =>
        exact s_ret A1 (e_is (e_ifF (et_T (e_isN (e_var rfl))) rfl (e_addF (f1 := true) (f2 := true) (ds := q.map .str) (es := [.str n]) rfl rfl (e_var rfl) (e_tupD (ea1 (e_var rfl))) (by simp only [List.length_map, List.length_singleton]; omega))) (by simp [encOP, encPile])) k
    rcases ht with rfl | rfl
    · refine q_whenF A (et_tru' (e_var rfl) rfl) (by decide) fun H1 A1 => hret p _ _ hl A1 ?_
      unfold nextM
      rw [if_neg (by simp)]
      simp
    · refine q_whenT A (et_tru' (e_var rfl) rfl) (by decide) fun H1 A1 => ?_
      cases p with
      | nil =>
        exact q_whenT A1 (et_not (et_tru' (e_var rfl) rfl)) rfl fun H2 A2 => s_ret A2 (e_is e_non (by simp [nextM, encOP])) k
      | cons x p =>
        refine q_whenF A1 (et_not (et_tru' (e_var rfl) rfl)) rfl fun H2 A2 => ?_
        refine s_asg A2 (e_is (e_slF (e_var rfl) eo_none (eo_some (e_neg e_int))) (show _ = encPile ((x :: p).take p.length) from ?_)) fun σ3 H3 A3 => hret _ _ _ ?_ A3 ?_
        · rw [cut_neg1]
          unfold encPile
          rw [List.map_take, List.length_map]; rfl
        · rw [List.length_take]; simp at hl ⊢; omega
        · unfold nextM
          rw [if_neg (by simp)]
          simp
theorem sc_is_so : FnScope ["sight", "pile"] ["sight", "pile"] (defScope s_is_so) := ⟨rfl, rfl, rfl, by decide +kernel, rfl, by decide +kernel, by decide +kernel⟩
theorem ok_is_so (g : GL K mg) : FnOk P w K mg base CX0 1 g.a_is_so g.fd_is_so ["sight", "pile"] (PureSp R_is_so) := by
  refine fn_pure g.F_is_so sc_is_so (fun ds d h => by cases h <;> rfl) (fun cdv A outer s H EX hr => ⟨_, (pss_cons (ps_if (pt_cmpR (op_eqK K hr.units) (pe_ix (ix_seqK K) (pv 0) pe_int (fun _ _ => rfl)) pe_str (nomark _))
        (pss_one (ps_ret (pe_and (pe_cmpR (op_inK K (units65 hr)) (pe_ix (ix_seqK K) (pv 0) pe_int (fun _ _ => rfl)) (pv 1) (by rfl)) (pe_one (pe_cmpR (op_eqK K hr.units) (pe_op op_subU (pe_op op_subU (pe_callB (call_lenK K) (by rfl) g.b_len (by decide +kernel) (pa_cons (pv 1) pa_nil)) pe_int) (pe_bmF PySem.F.plainAttrs_tuple PySem.F.slot_tuple_index PySem.F.type_tuple_index mt_tup_index (pv 1) (pa_cons (pe_ix (ix_seqK K) (pv 0) pe_int (fun _ _ => rfl)) pa_nil))) (pe_ix (ix_seqK K) (pv 0) pe_int (fun _ _ => rfl)) (nomark _)))))) pss_nil)
      (pss_cons (ps_if (pt_cmpR (op_eqK K hr.units) (pe_ix (ix_seqK K) (pv 0) pe_int (fun _ _ => rfl)) pe_str (nomark _))
        (pss_one (ps_ret (pe_cmpR op_leU (pe_callB (call_lenK K) (by rfl) g.b_len (by decide +kernel) (pa_cons (pv 1) pa_nil)) (pe_ix (ix_seqK K) (pv 0) pe_int (fun _ _ => rfl)) (nomark _)))) pss_nil)
      (pss_one (ps_ret (pe_ifExp (pt_cmpR (op_eqK K hr.units) (pe_ix (ix_seqK K) (pv 0) pe_int (fun _ _ => rfl)) pe_str (nomark _)) (pe_cmpR (op_eqK K hr.units) (pe_callB (call_lenK K) (by rfl) g.b_len (by decide +kernel) (pa_cons (pv 1) pa_nil)) (pe_ix (ix_seqK K) (pv 0) pe_int (fun _ _ => rfl)) (nomark _)) (pe_cmpR op_geU (pe_callB (call_lenK K) (by rfl) g.b_len (by decide +kernel) (pa_cons (pv 1) pa_nil)) (pe_ix (ix_seqK K) (pv 0) pe_int (fun _ _ => rfl)) (nomark _))))))), ?_⟩)
  intro ds d hR N H σ Q A k
  cases hR with
  | mk s p hn hok =>
    have hl : ((p.map D.str).length : Int) = (p.length : Int) := by simp
    cases s with
    | above t n m =>
      refine q_whenT A (et_T (e_eqS (e_ixT (e_var rfl) e_int (atI_0 _ _)) e_str (by decide +kernel) (by decide +kernel))) (by decide +kernel) fun H1 A1 => ?_
      refine s_ret A1 (e_is (e_andV (q := decide ((((p.map D.str).length : Int) - 1) - ((p.idxOf n : Nat) : Int) = m)) (e_inF (ds := p.map D.str) (e_ixT (e_var rfl) e_int (atI_2 _ _ _ _)) (e_var rfl) rfl (by simp [flatD])) fun hb => ?_) ?_) k
      · rw [any_eqS] at hb
        exact e_eqI (e_sub (e_sub (e_lenF (e_var rfl)) e_int) (e_indexF (e_var rfl) (e_ixT (e_var rfl) e_int (atI_2 _ _ _ _)) (of_decide_eq_true hb))) (e_ixT (e_var rfl) e_int (atI_3 _ _ _ _ _))
      · rw [any_eqS, hl]
        show D.bl (_ && _) = D.bl (decide (n ∈ p) && decide (((p.idxOf n : Nat) : Int) + 1 + m = p.length))
        congr 2
        apply decide_eq_decide.mpr
        omega
    | high t m =>
      refine q_whenF A (et_T (e_eqS (e_ixT (e_var rfl) e_int (atI_0 _ _)) e_str (by decide +kernel) (by decide +kernel))) (by decide +kernel) fun H1 A1 => ?_
      refine q_whenF A1 (et_T (e_eqS (e_ixT (e_var rfl) e_int (atI_0 _ _)) e_str (by decide +kernel) (by decide +kernel))) (by decide +kernel) fun H2 A2 => ?_
      exact s_ret A2 (e_ifT (et_T (e_eqS (e_ixT (e_var rfl) e_int (atI_0 _ _)) e_str (by decide +kernel) (by decide +kernel))) (by decide +kernel) (e_is (e_eqI (e_lenF (e_var rfl)) (e_ixT (e_var rfl) e_int (atI_2 _ _ _ _))) (by rw [hl]; rfl))) k
    | least t m =>
      refine q_whenF A (et_T (e_eqS (e_ixT (e_var rfl) e_int (atI_0 _ _)) e_str (by decide +kernel) (by decide +kernel))) (by decide +kernel) fun H1 A1 => ?_
      refine q_whenF A1 (et_T (e_eqS (e_ixT (e_var rfl) e_int (atI_0 _ _)) e_str (by decide +kernel) (by decide +kernel))) (by decide +kernel) fun H2 A2 => ?_
      exact s_ret A2 (e_ifF (et_T (e_eqS (e_ixT (e_var rfl) e_int (atI_0 _ _)) e_str (by decide +kernel) (by decide +kernel))) (by decide +kernel) (e_is (e_ge (e_lenF (e_var rfl)) (e_ixT (e_var rfl) e_int (atI_2 _ _ _ _))) (by rw [hl]; rfl))) k
    | most t m =>
      refine q_whenF A (et_T (e_eqS (e_ixT (e_var rfl) e_int (atI_0 _ _)) e_str (by decide +kernel) (by decide +kernel))) (by decide +kernel) fun H1 A1 => ?_
      refine q_whenT A1 (et_T (e_eqS (e_ixT (e_var rfl) e_int (atI_0 _ _)) e_str (by decide +kernel) (by decide +kernel))) (by decide +kernel) fun H2 A2 => ?_
      exact s_ret A2 (e_is (e_le (e_lenF (e_var rfl)) (e_ixT (e_var rfl) e_int (atI_2 _ _ _ _))) (by rw [hl]; rfl)) k
theorem sc_lots_of : FnScope ["many", "lots", "place", "lot", "number"] ["many"] (defScope s_lots_of) := ⟨rfl, rfl, rfl, by decide +kernel, rfl, by decide +kernel, by decide +kernel⟩
theorem ok_lots_of (g : GL K mg) : FnOk P w K mg base CX0 1 g.a_lots_of g.fd_lots_of ["many"] (PureSp R_lots_of) := by
  refine fn_pure g.F_lots_of sc_lots_of (fun ds d h => by cases h <;> rfl) (fun cdv A outer s H EX hr => ⟨_, (pss_cons (ps_set (i := 1) sc_lots_of.nd rfl (.inl rfl) (pe_lst (pa_cons (pe_tup pa_nil) pa_nil)))
      (pss_cons (ps_for PassesOwn.never rfl (pi_range1 (by rfl) g.b_range (pa_cons (pv 0) pa_nil)) (pg_name (i := 2) sc_lots_of.nd rfl (.inr rfl))
        (pss_one (ps_aug (i := 1) sc_lots_of.nd rfl (.inl rfl) (pe_lc (own := [("lot", 3)]) rfl sc_lots_of.nd (pi_seqK K (pv 1)) (blkOk_by (N := ["many", "lots", "place", "lot", "number"]) (sc := defScope s_lots_of) (by decide +kernel)) (fun _ _ _ _ _ => (pg_name (i := 3) sc_lots_of.nd rfl (by first | exact .inl rfl | exact .inr rfl))) (fun _ _ _ _ _ => pts_nil) (fun _ _ _ _ _ => (pe_op (op_addK K) (pv 3) (pe_tup (pa_cons (pv 2) pa_nil))))) ip_extU)))
      (pss_one (ps_ret (pe_lc (own := [("number", 4), ("lot", 3)]) rfl sc_lots_of.nd (pi_seqK K (pe_callB (call_sortedL K hr.units) (by rfl) g.b_sorted (by decide +kernel) (pa_cons (pe_lc (own := [("lot", 3)]) rfl sc_lots_of.nd (pi_seqK K (pv 1)) (blkOk_by (N := ["many", "lots", "place", "lot", "number"]) (sc := defScope s_lots_of) (by decide +kernel)) (fun _ _ _ _ _ => (pg_name (i := 3) sc_lots_of.nd rfl (by first | exact .inl rfl | exact .inr rfl))) (fun _ _ _ _ _ => pts_nil) (fun _ _ _ _ _ => (pe_tup (pa_cons (pe_callB (call_lenK K) (by rfl) g.b_len (by decide +kernel) (pa_cons (pv 3) pa_nil)) (pa_cons (pv 3) pa_nil))))) pa_nil))) (blkOk_by (N := ["many", "lots", "place", "lot", "number"]) (sc := defScope s_lots_of) (by decide +kernel)) (fun _ _ _ _ _ => (pg_tupK K (n := 2) (by rfl) (pgs_cons (pg_name (i := 4) sc_lots_of.nd rfl (by first | exact .inl rfl | exact .inr rfl)) (pgs_cons (pg_name (i := 3) sc_lots_of.nd rfl (by first | exact .inl rfl | exact .inr rfl)) pgs_nil)))) (fun _ _ _ _ _ => pts_nil) (fun _ _ _ _ _ => (pv 3))))))), ?_⟩)
  intro ds d hR N H σ Q A k
  cases hR with
  | mk n h6 =>
    refine q_asgL A (el_lst (ea1 (e_tup ea_nil))) fun p σ1 H1 A1 => ?_
    refine q_forT (S := List (List Int)) (ts := [2]) (List.range ((n : Nat) : Int).toNat) (fun i => .int (0 + (i : Nat))) (fun ls => [(p, .lst (ls.map intsD))])
      (fun _ => [.dat (.int (n : Nat)), .val (.ref p), .no, .no, .no]) (fun i ls => ls = lotsM i) [[]]
      (fun _ i => [.dat (.int (n : Nat)), .val (.ref p), .dat (.int (0 + (i : Nat))), .no, .no]) A1 (src_r1 (ea1 (e_var rfl)) (by omega)) rfl (fun _ _ _ _ _ => tg_n 2) ?_ ?_
    · rintro L i ls j σ2 H2 hi rfl A2
      have hi2 := at_lt hi
      have ej : j = i := by
        rw [List.getElem?_eq_getElem hi2, List.getElem_range] at hi
        exact (Option.some.inj hi).symm
      subst ej
      rw [List.length_range] at hi2
      have hz := lots64 (n := j) (by omega)
      refine s_augL A2 (i := 1) (k := 0) (ρ' := [.dat (.int (n : Nat)), .dat (.lst ((lotsM j).map intsD)), .dat (.int (0 + (j : Nat))), .no, .no]) (es := (lotsM j).map fun l => intsD (l ++ [0 + ((j : Nat) : Int)])) rfl rfl (.same (.see List.mem_cons_self rfl (Vw.refl _ _)))
        (el_lc0 (ts := [3]) (lotsM j) intsD (fun l => intsD (l ++ [0 + ((j : Nat) : Int)])) (fun l => [.dat (.int (n : Nat)), .dat (.lst ((lotsM j).map intsD)), .dat (.int (0 + (j : Nat))), .dat (intsD l), .no]) (src_L (e_var rfl)) (by omega) (by simp) (fun _ _ => tg_n 3)
          (fun l hl => e_is (e_addT (ds := l.map D.int) (es := [D.int (0 + ((j : Nat) : Int))]) (e_var rfl) (e_tup (ea1 (e_var rfl))) (by have := lotsM_short j l hl; rw [List.length_map]; simp; omega)) (by unfold intsD; rw [List.map_append]; rfl)))
        (fzs_ints _ _) (by rw [List.length_map, List.length_map]; omega) fun σ3 H3 A3 => ⟨lotsM (j + 1), rfl, ?_⟩
      have A4 : At _ [(p, .lst ((lotsM j).map intsD ++ (lotsM j).map fun l => intsD (l ++ [0 + ((j : Nat) : Int)])))] _ _ _ := A3
      rw [lots_step j _ (Int.zero_add _)] at A4
      exact A4.weak (.same (.same (.drop (.same (.same .nil)))))
    · rintro ls σ2 H2 hls A2
      rw [List.length_range, Int.toNat_natCast] at hls
      subst hls
      have A3 := A2.freeze (i := 1) rfl rfl (by simp)
      have hz := lots64 (n := n) h6
      refine s_ret A3 (EL.e (el_lc0 (ts := [4, 3]) (lotsS n) lotD intsD (fun l => [.dat (.int (n : Nat)), .dat (.lst ((lotsM n).map intsD)), .no, .dat (intsD l), .dat (.int (l.length : Int))])
        (src_L (EL.e (el_sortedL (ls := lotsM n) (EL.e (el_lc0 (ts := [3]) (lotsM n) intsD lotD (fun l => [.dat (.int (n : Nat)), .dat (.lst ((lotsM n).map intsD)), .no, .dat (intsD l), .no]) (src_L (e_var rfl)) (by omega) (by simp) (fun _ _ => tg_n 3)
          (fun l _ => e_is (e_tup (ea2 (e_lenT (ds := l.map D.int) (e_var rfl)) (e_var rfl))) (by rw [List.length_map]; rfl))))))) (by rw [lotsS_len]; exact Nat.le_trans (Nat.pow_le_pow_right (by decide) h6) (by decide)) (by simp) (fun _ _ => tg2 4 3) (fun l _ => e_var rfl))) k
theorem sc_fewest_wrong : FnScope ["book", "sights", "lot", "at", "sight"] ["book", "sights"] (defScope s_fewest_wrong) := ⟨rfl, rfl, rfl, by decide +kernel, rfl, by decide +kernel, by decide +kernel⟩
theorem ok_fewest_wrong (g : GL K mg) : FnOk P w K mg base CX0 7 g.a_fewest_wrong g.fd_fewest_wrong ["book", "sights"] (PureSp R_fewest_wrong) := by
  have G_lots_of := ok_lots_of (P := P) (w := w) (base := base) g
  have G_can_be := ok_can_be (P := P) (w := w) (base := base) g
  refine fn_pure g.F_fewest_wrong sc_fewest_wrong (fun ds d h => by cases h <;> rfl) (fun cdv A outer s H EX hr => ⟨_, (pss_cons (ps_for PassesOwn.never rfl (pi_seqK K (pe_call G_lots_of (hr.mono (by decide)) (by rfl) g.g_lots_of g.F_lots_of.kp g.n_lots_of .nil pass0 (pa_cons (pe_callB (call_lenK K) (by rfl) g.b_len (by decide +kernel) (pa_cons (pv 1) pa_nil)) pa_nil))) (pg_name (i := 2) sc_fewest_wrong.nd rfl (.inr rfl))
        (pss_one (ps_if (pt_truK K (pe_call G_can_be (hr.mono (by decide)) (by rfl) g.g_can_be g.F_can_be.kp g.n_can_be .nil pass0 (pa_cons (pv 0) (pa_cons (pe_callTy (call_tupK K) (by rfl) g.b_tuple (by decide +kernel) (pa_cons (pe_lc (own := [("at", 3), ("sight", 4)]) rfl sc_fewest_wrong.nd (pi_enumT (by rfl) g.b_enumerate (pa_cons (pv 1) pa_nil)) (blkOk_by (N := ["book", "sights", "lot", "at", "sight"]) (sc := defScope s_fewest_wrong) (by decide +kernel)) (fun _ _ _ _ _ => (pg_tupK K (n := 2) (by rfl) (pgs_cons (pg_name (i := 3) sc_fewest_wrong.nd rfl (by first | exact .inl rfl | exact .inr rfl)) (pgs_cons (pg_name (i := 4) sc_fewest_wrong.nd rfl (by first | exact .inl rfl | exact .inr rfl)) pgs_nil)))) (fun _ _ _ _ _ => (pts_one (pt_cmpR (op_ninK K (units65 hr)) (pv 3) (pv 2) (by rfl)))) (fun _ _ _ _ _ => (pv 4))) pa_nil)) pa_nil))) (by intro _; rfl))
        (pss_one (ps_ret (pv 2))) pss_nil)))
      (pss_one ps_never)), ?_⟩)
  intro ds d hR N H σ Q A k
  cases hR with
  | mk b ss wb ws =>
    have hf := firstLot_some b ss
    have hcan : ∀ lot, canB b (dropLot ss lot) = !(storiesM b (dropLot ss lot)).isEmpty := fun lot => can_iff wb (dropLot_ws ws lot)
    have hfew := ws.few
    refine q_forT (S := Unit) (ts := [2]) (lotsS ss.length) intsD (fun _ => []) (fun _ => [.dat (encBook b), .dat (encSights ss), .no, .no, .no]) (fun i _ => ∀ l ∈ (lotsS ss.length).take i, (!(storiesM b (dropLot ss l)).isEmpty) = false) ()
      (fun _ l => [.dat (encBook b), .dat (encSights ss), .dat (intsD l), .no, .no]) A (src_L (e_fn (ea1 (e_is (e_lenT (ds := ss.map encSight) (e_var rfl)) (by rw [List.length_map]))) (.mk ss.length hfew))) (fun l hl => by simp at hl) (fun _ _ _ _ _ => tg_n 2) ?_ ?_
    · rintro L i _ lot σ1 H1 hi hJ A1
      refine s_when A1 (et_tru' (e_fn (ea2 (e_var rfl) (e_tupL (EL.e (el_lc (ts := [3, 4]) (ss.mapIdx Prod.mk) encIx (fun p => !decide (((p.1 : Nat) : Int) ∈ lot)) (fun p => encSight p.2) (fun p => [.dat (encBook b), .dat (encSights ss), .dat (intsD lot), .dat (.int ((p.1 : Nat) : Int)), .dat (encSight p.2)])
        (by rw [← enum_sights]; exact src_enumT (ea1 (e_var rfl))) (by rw [List.length_mapIdx]; omega) (by simp) (fun _ _ => tg2 3 4)
        (fun p _ => et_is (et_T (e_ninT (ds := lot.map D.int) (e_var rfl) (e_var rfl) rfl (by simp [flatD]))) (by show truD (.bl _) = _; show (!_) = _; rw [lot_in])) (fun p _ _ => e_var rfl))))) (e_is' (R_can_be.mk b (dropLot ss lot) wb (dropLot_ws ws lot) (settled_ex (ring_out wb (dropLot_ws ws lot)))) (drop_enc ss lot))) rfl) (fun hb H2 A2 => ?_) (fun hb H2 A2 => ⟨(), ?_, A2.weak (.same (.same (.drop (.same (.same .nil)))))⟩)
      · have hb : canB b (dropLot ss lot) = true := hb
        rw [hcan] at hb
        have e := find_first (p := fun lot => !(storiesM b (dropLot ss lot)).isEmpty) hi hb hJ
        rw [hf] at e
        have e := Option.some.inj e
        exact s_ret A2 (e_var rfl) (by rw [← e]; exact k)
      · have hb : canB b (dropLot ss lot) = false := hb
        rw [hcan] at hb
        intro l hl
        rw [take_snoc hi] at hl
        rcases List.mem_append.mp hl with z | z
        · exact hJ l z
        · have : l = lot := by simpa using z
          rw [this]; exact hb
    · rintro _ σ1 H1 hJ A1
      rw [List.take_length] at hJ
      have h1 := List.find?_some hf
      have h2 := hJ _ (List.mem_of_find?_eq_some hf)
      rw [h2] at h1
      cases h1
theorem sc__law_lots : FnScope ["many", "found", "place", "lot", "number"] ["many"] (defScope s__law_lots) := ⟨rfl, rfl, rfl, by decide +kernel, rfl, by decide +kernel, by decide +kernel⟩
theorem ok__law_lots (g : GL K mg) : FnOk P w K mg base CX0 1 g.a__law_lots g.fd__law_lots ["many"] (PureSp L_lots) := by
  refine fn_pure g.F__law_lots sc__law_lots (fun ds d h => by cases h <;> rfl) (fun cdv A outer s H EX hr => ⟨_, (pss_cons (ps_set (i := 1) sc__law_lots.nd rfl (.inl rfl) (pe_lst (pa_cons (pe_tup pa_nil) pa_nil)))
      (pss_cons (ps_for PassesOwn.never rfl (pi_range1 (by rfl) g.b_range (pa_cons (pv 0) pa_nil)) (pg_name (i := 2) sc__law_lots.nd rfl (.inr rfl))
        (pss_one (ps_set (i := 1) sc__law_lots.nd rfl (.inl rfl) (pe_op (op_addK K) (pv 1) (pe_lc (own := [("lot", 3)]) rfl sc__law_lots.nd (pi_seqK K (pv 1)) (blkOk_by (N := ["many", "found", "place", "lot", "number"]) (sc := defScope s__law_lots) (by decide +kernel)) (fun _ _ _ _ _ => (pg_name (i := 3) sc__law_lots.nd rfl (by first | exact .inl rfl | exact .inr rfl))) (fun _ _ _ _ _ => pts_nil) (fun _ _ _ _ _ => (pe_op (op_addK K) (pv 3) (pe_tup (pa_cons (pv 2) pa_nil)))))))))
      (pss_one (ps_ret (pe_lc (own := [("number", 4), ("lot", 3)]) rfl sc__law_lots.nd (pi_seqK K (pe_callB (call_sortedL K hr.units) (by rfl) g.b_sorted (by decide +kernel) (pa_cons (pe_lc (own := [("lot", 3)]) rfl sc__law_lots.nd (pi_seqK K (pv 1)) (blkOk_by (N := ["many", "found", "place", "lot", "number"]) (sc := defScope s__law_lots) (by decide +kernel)) (fun _ _ _ _ _ => (pg_name (i := 3) sc__law_lots.nd rfl (by first | exact .inl rfl | exact .inr rfl))) (fun _ _ _ _ _ => pts_nil) (fun _ _ _ _ _ => (pe_tup (pa_cons (pe_callB (call_lenK K) (by rfl) g.b_len (by decide +kernel) (pa_cons (pv 3) pa_nil)) (pa_cons (pv 3) pa_nil))))) pa_nil))) (blkOk_by (N := ["many", "found", "place", "lot", "number"]) (sc := defScope s__law_lots) (by decide +kernel)) (fun _ _ _ _ _ => (pg_tupK K (n := 2) (by rfl) (pgs_cons (pg_name (i := 4) sc__law_lots.nd rfl (by first | exact .inl rfl | exact .inr rfl)) (pgs_cons (pg_name (i := 3) sc__law_lots.nd rfl (by first | exact .inl rfl | exact .inr rfl)) pgs_nil)))) (fun _ _ _ _ _ => pts_nil) (fun _ _ _ _ _ => (pv 3))))))), ?_⟩)
  intro ds d hR N H σ Q A k
  cases hR with
  | mk n h6 =>
    refine q_asg A (EL.e (el_lst (ea1 (e_tup ea_nil)))) fun σ1 H1 A1 => ?_
    refine q_forT (S := List (List Int)) (ts := [2]) (List.range ((n : Nat) : Int).toNat) (fun i => .int (0 + (i : Nat))) (fun _ => [])
      (fun ls => [.dat (.int (n : Nat)), .dat (.lst (ls.map intsD)), .no, .no, .no]) (fun i ls => ls = lotsM i) [[]]
      (fun ls i => [.dat (.int (n : Nat)), .dat (.lst (ls.map intsD)), .dat (.int (0 + (i : Nat))), .no, .no]) A1 (src_r1 (ea1 (e_var rfl)) (by omega)) rfl (fun _ _ _ _ _ => tg_n 2) ?_ ?_
    · rintro L i ls j σ2 H2 hi rfl A2
      have hi2 := at_lt hi
      have ej : j = i := by
        rw [List.getElem?_eq_getElem hi2, List.getElem_range] at hi
        exact (Option.some.inj hi).symm
      subst ej
      rw [List.length_range] at hi2
      have hz := lots64 (n := j) (by omega)
      refine s_asg A2 (e_is (EL.e (el_addL (e_var rfl) (EL.e (el_lc0 (ts := [3]) (lotsM j) intsD (fun l => intsD (l ++ [0 + ((j : Nat) : Int)])) (fun l => [.dat (.int (n : Nat)), .dat (.lst ((lotsM j).map intsD)), .dat (.int (0 + (j : Nat))), .dat (intsD l), .no]) (src_L (e_var rfl)) (by omega) (by simp) (fun _ _ => tg_n 3)
          (fun l hl => e_is (e_addT (ds := l.map D.int) (es := [D.int (0 + ((j : Nat) : Int))]) (e_var rfl) (e_tup (ea1 (e_var rfl))) (by have := lotsM_short j l hl; rw [List.length_map]; simp; omega)) (by unfold intsD; rw [List.map_append]; rfl)))) (by rw [List.length_map, List.length_map]; omega)))
        (by rw [lots_step j _ (Int.zero_add _)])) fun σ3 H3 A3 => ⟨lotsM (j + 1), rfl, ?_⟩
      exact A3.weak (.same (.same (.drop (.same (.same .nil)))))
    · rintro ls σ2 H2 hls A3
      rw [List.length_range, Int.toNat_natCast] at hls
      subst hls
      have hz := lots64 (n := n) h6
      refine s_ret A3 (EL.e (el_lc0 (ts := [4, 3]) (lotsS n) lotD intsD (fun l => [.dat (.int (n : Nat)), .dat (.lst ((lotsM n).map intsD)), .no, .dat (intsD l), .dat (.int (l.length : Int))])
        (src_L (EL.e (el_sortedL (ls := lotsM n) (EL.e (el_lc0 (ts := [3]) (lotsM n) intsD lotD (fun l => [.dat (.int (n : Nat)), .dat (.lst ((lotsM n).map intsD)), .no, .dat (intsD l), .no]) (src_L (e_var rfl)) (by omega) (by simp) (fun _ _ => tg_n 3)
          (fun l _ => e_is (e_tup (ea2 (e_lenT (ds := l.map D.int) (e_var rfl)) (e_var rfl))) (by rw [List.length_map]; rfl))))))) (by rw [lotsS_len]; exact Nat.le_trans (Nat.pow_le_pow_right (by decide) h6) (by decide)) (by simp) (fun _ _ => tg2 4 3) (fun l _ => e_var rfl))) k
theorem sc__law_wrong_due : FnScope ["book", "sights", "lot", "at", "sight"] ["book", "sights"] (defScope s__law_wrong_due) := ⟨rfl, rfl, rfl, by decide +kernel, rfl, by decide +kernel, by decide +kernel⟩
theorem ok__law_wrong_due (g : GL K mg) : FnOk P w K mg base CX0 3 g.a__law_wrong_due g.fd__law_wrong_due ["book", "sights"] (PureSp L_wrong_due) := by
  have G__law_lots := ok__law_lots (P := P) (w := w) (base := base) g
  have G__law_stories := ok__law_stories (P := P) (w := w) (base := base) g
  refine fn_pure g.F__law_wrong_due sc__law_wrong_due (fun ds d h => by cases h <;> rfl) (fun cdv A outer s H EX hr => ⟨_, (pss_cons (ps_for PassesOwn.never rfl (pi_seqK K (pe_call G__law_lots (hr.mono (by decide)) (by rfl) g.g__law_lots g.F__law_lots.kp g.n__law_lots .nil pass0 (pa_cons (pe_callB (call_lenK K) (by rfl) g.b_len (by decide +kernel) (pa_cons (pv 1) pa_nil)) pa_nil))) (pg_name (i := 2) sc__law_wrong_due.nd rfl (.inr rfl))
        (pss_one (ps_if (pt_cmpR (op_neK K hr.units) (pe_call G__law_stories (hr.mono (by decide)) (by rfl) g.g__law_stories g.F__law_stories.kp g.n__law_stories .nil pass0 (pa_cons (pv 0) (pa_cons (pe_callTy (call_tupK K) (by rfl) g.b_tuple (by decide +kernel) (pa_cons (pe_lc (own := [("at", 3), ("sight", 4)]) rfl sc__law_wrong_due.nd (pi_enumT (by rfl) g.b_enumerate (pa_cons (pv 1) pa_nil)) (blkOk_by (N := ["book", "sights", "lot", "at", "sight"]) (sc := defScope s__law_wrong_due) (by decide +kernel)) (fun _ _ _ _ _ => (pg_tupK K (n := 2) (by rfl) (pgs_cons (pg_name (i := 3) sc__law_wrong_due.nd rfl (by first | exact .inl rfl | exact .inr rfl)) (pgs_cons (pg_name (i := 4) sc__law_wrong_due.nd rfl (by first | exact .inl rfl | exact .inr rfl)) pgs_nil)))) (fun _ _ _ _ _ => (pts_one (pt_cmpR (op_ninK K (units65 hr)) (pv 3) (pv 2) (by rfl)))) (fun _ _ _ _ _ => (pv 4))) pa_nil)) pa_nil))) (pe_lst pa_nil) (nomark _))
        (pss_one (ps_ret (pv 2))) pss_nil)))
      (pss_one (ps_ret pe_non))), ?_⟩)
  intro ds d hR N H σ Q A k
  cases hR with
  | mk b ss wb hfl ws h15 =>
    have hf := firstLot_some b ss
    have hfew := ws.few
    refine q_forT (S := Unit) (ts := [2]) (lotsS ss.length) intsD (fun _ => []) (fun _ => [.dat (encBook b), .dat (encSights ss), .no, .no, .no]) (fun i _ => ∀ l ∈ (lotsS ss.length).take i, (!(storiesM b (dropLot ss l)).isEmpty) = false) ()
      (fun _ l => [.dat (encBook b), .dat (encSights ss), .dat (intsD l), .no, .no]) A (src_L (e_fn (ea1 (e_is (e_lenT (ds := ss.map encSight) (e_var rfl)) (by rw [List.length_map]))) (.mk ss.length hfew))) (fun l hl => by simp at hl) (fun _ _ _ _ _ => tg_n 2) ?_ ?_
    · rintro L i _ lot σ1 H1 hi hJ A1
      refine s_when A1 (b := !(storiesM b (dropLot ss lot)).isEmpty) (et_T (e_is (e_neL0 (e_fn (ea2 (e_var rfl) (e_tupL (EL.e (el_lc (ts := [3, 4]) (ss.mapIdx Prod.mk) encIx (fun p => !decide (((p.1 : Nat) : Int) ∈ lot)) (fun p => encSight p.2) (fun p => [.dat (encBook b), .dat (encSights ss), .dat (intsD lot), .dat (.int ((p.1 : Nat) : Int)), .dat (encSight p.2)])
        (by rw [← enum_sights]; exact src_enumT (ea1 (e_var rfl))) (by rw [List.length_mapIdx]; omega) (by simp) (fun _ _ => tg2 3 4)
        (fun p _ => et_is (et_T (e_ninT (ds := lot.map D.int) (e_var rfl) (e_var rfl) rfl (by simp [flatD]))) (by show truD (.bl _) = _; show (!_) = _; rw [lot_in])) (fun p _ _ => e_var rfl))))) (e_is' (L_stories.mk b (dropLot ss lot) wb hfl (dropLot_ws ws lot) h15) (drop_enc ss lot))) (EL.e (el_lst ea_nil)) (okD_stories wb _)) (by rw [map_isEmpty]))) (fun hb H2 A2 => ?_) (fun hb H2 A2 => ⟨(), ?_, A2.weak (.same (.same (.drop (.same (.same .nil)))))⟩)
      · have e := find_first (p := fun lot => !(storiesM b (dropLot ss lot)).isEmpty) hi hb hJ
        rw [hf] at e
        have e := Option.some.inj e
        exact s_ret A2 (e_var rfl) (by rw [← e]; exact k)
      · intro l hl
        rw [take_snoc hi] at hl
        rcases List.mem_append.mp hl with z | z
        · exact hJ l z
        · have : l = lot := by simpa using z
          rw [this]; exact hb
    · rintro _ σ1 H1 hJ A1
      rw [List.take_length] at hJ
      have h1 := List.find?_some hf
      have h2 := hJ _ (List.mem_of_find?_eq_some hf)
      rw [h2] at h1
      cases h1
theorem sc_how_many : FnScope ["book", "sights", "ways", "tick", "name", "later", "pile", "many", "took", "there", "sight"] ["book", "sights"] (defScope s_how_many) := ⟨rfl, rfl, rfl, by decide +kernel, rfl, by decide +kernel, by decide +kernel⟩
theorem ok_how_many (g : GL K mg) : FnOk P w K mg base CX0 2 g.a_how_many g.fd_how_many ["book", "sights"] (PureSp R_how_many) := by
  have G_laid_at := ok_laid_at (P := P) (w := w) (base := base) g
  have G_behind := ok_behind (P := P) (w := w) (base := base) g
  have G_is_so := ok_is_so (P := P) (w := w) (base := base) g
  refine fn_pure g.F_how_many sc_how_many (fun ds d h => by cases h <;> rfl) (fun cdv A outer s H EX hr => ⟨_, (pss_cons (ps_set (i := 2) sc_how_many.nd rfl (.inl rfl) (pe_pd1 (Nat.lt_of_succ_lt (hu_of hr)) (pe_tupF pa_nil) pe_int))
      (pss_cons (ps_for PassesOwn.never rfl (pi_enum (by rfl) g.b_enumerate (pa_cons (pe_call G_laid_at (hr.mono (by decide)) (by rfl) g.g_laid_at g.F_laid_at.kp g.n_laid_at .nil pass0 (pa_cons (pv 0) pa_nil)) pa_nil)) (pg_tupK K (n := 2) (by rfl) (pgs_cons (pg_name (i := 3) sc_how_many.nd rfl (.inr rfl)) (pgs_cons (pg_name (i := 4) sc_how_many.nd rfl (.inl rfl)) pgs_nil)))
        (pss_cons (ps_set (i := 5) sc_how_many.nd rfl (.inl rfl) pe_pnew)
      (pss_cons (ps_for PassesOwn.never rfl (pi_pitems (pv 2)) (pg_tupK K (n := 2) (by rfl) (pgs_cons (pg_name (i := 6) sc_how_many.nd rfl (.inl rfl)) (pgs_cons (pg_name (i := 7) sc_how_many.nd rfl (.inl rfl)) pgs_nil)))
        (pss_one (ps_for PassesOwn.never rfl (pi_seqK K (pe_tup (pa_cons pe_int (pa_cons pe_int pa_nil)))) (pg_name (i := 8) sc_how_many.nd rfl (.inl rfl))
        (pss_cons (ps_set (i := 9) sc_how_many.nd rfl (.inr rfl) (pe_call G_behind (hr.mono (by decide)) (by rfl) g.g_behind g.F_behind.kp g.n_behind .nil pass0 (pa_cons (pv 6) (pa_cons (pv 8) (pa_cons (pv 4) pa_nil)))))
      (pss_one (ps_if (PW.pt (pw_and (pt_cmpR op_notNU (pv 9) pe_non (nomark _)) (pw_and1 (pt_truK K (pe_callB (call_allK K rfl) (by rfl) g.b_all (by decide +kernel) (pa_cons (pe_lc (own := [("sight", 10)]) rfl sc_how_many.nd (pi_seqK K (pv 1)) (blkOk_by (N := ["book", "sights", "ways", "tick", "name", "later", "pile", "many", "took", "there", "sight"]) (sc := defScope s_how_many) (by decide +kernel)) (fun _ _ _ _ _ => (pg_name (i := 10) sc_how_many.nd rfl (by first | exact .inl rfl | exact .inr rfl))) (fun _ _ _ _ _ => (pts_one (pt_cmpR (op_eqK K hr.units) (pe_ix (ix_seqK K) (pv 10) pe_int (fun _ _ => rfl)) (pv 3) (nomark _)))) (fun _ _ _ _ _ => (pe_call G_is_so (hr.mono (by decide)) (by rfl) g.g_is_so g.F_is_so.kp g.n_is_so .nil pass0 (pa_cons (pv 10) (pa_cons (pv 9) pa_nil))))) pa_nil)) (by intro _; rfl)))))
        (pss_one (ps_pput (hu_of hr) (pv 5) (pv 9) (pe_op (op_addK K) (pe_pget2 (hu_of hr) (pv 5) (pv 9) pe_int ⟨rfl, rfl, rfl, rfl⟩) (pv 7)) rfl)) pss_nil))))))
      (pss_one (ps_set (i := 2) sc_how_many.nd rfl (.inl rfl) (pv 5))))))
      (pss_one (ps_ret (pe_callB (call_sumP rfl) (by rfl) g.b_sum (by decide +kernel) (pa_cons (pe_pvals (pv 2)) pa_nil)))))), ?_⟩)
  intro ds d hR N H σ Q A k
  cases hR with
  | mk b ss wb ws =>
    have hb := wb.lo
    have hb2 := wb.hi
    have hss := ws.all
    have hss6 := ws.few
    refine q_asgL A (el_pd1 (k := []) (m := 1) (e_tupD ea_nil) e_int) fun p0 σ1 H1 A0 => ?_
    have A1 := A0.freezeP (i := 2) rfl (by simp)
    refine q_forT (S := List (Pile × Int)) (ts := [3, 4]) (List.range (b.fin + 1).toNat) (fun i => .tup [.int ((i : Nat) : Int), encON (nameAt b ((i : Nat) : Int))]) (fun _ => [])
      (fun kvs => [.dat (encBook b), .dat (encSights ss), pdS P w kvs, .no, .no, .no, .no, .no, .no, .no, .no]) (fun i kvs => kvs = waysTo b ss i) [([], 1)]
      (fun kvs i => [.dat (encBook b), .dat (encSights ss), pdS P w kvs, .dat (.int ((i : Nat) : Int)), .dat (encON (nameAt b ((i : Nat) : Int))), .no, .no, .no, .no, .no, .no]) A1 (by rw [← enum_laid b]; exact src_enumL (ea1 (e_fn (ea1 (e_var rfl)) (.mk b wb)))) rfl (fun _ _ _ _ _ => tg2 3 4) ?_ ?_
    · rintro L i kvs j σ3 H3 hi rfl A3
      have hi2 := at_lt hi
      have ej : j = i := by
        rw [List.getElem?_eq_getElem hi2, List.getElem_range] at hi
        exact (Option.some.inj hi).symm
      subst ej
      rw [List.length_range] at hi2
      have hinv := ways_inv b ss j
      refine q_asgL A3 el_pnew fun pl σ4 H4 A4 => ?_
      refine q_forT (S := List (Pile × Int)) (ts := [6, 7]) (waysTo b ss j) (fun x => .tup [encPile x.1, .int x.2]) (fun acc => [(pl, pdD P w acc)])
        (fun _ => [.dat (encBook b), .dat (encSights ss), pdS P w (waysTo b ss j), .dat (.int ((j : Nat) : Int)), .dat (encON (nameAt b ((j : Nat) : Int))), .val (.ref pl), .no, .no, .no, .no, .no]) (fun i acc => acc = ((waysTo b ss j).take i).foldl (wStep b ss j) [] ∧ WInv b (j + 1) acc) []
        (fun _ x => [.dat (encBook b), .dat (encSights ss), pdS P w (waysTo b ss j), .dat (.int ((j : Nat) : Int)), .dat (encON (nameAt b ((j : Nat) : Int))), .val (.ref pl), .dat (encPile x.1), .dat (.int x.2), .no, .no, .no]) A4 (src_pitems (i := 2) rfl) ⟨rfl, WInv.nil _ _⟩ (fun _ _ _ _ _ => tg2 6 7) ?_ ?_
      · rintro L5 i5 acc x σ5 H5 hi5 ⟨hacc, hai⟩ A5
        have hxm := List.mem_of_getElem? hi5
        have hxp := hinv.pile wb hxm
        have hxs := hinv.sub x hxm
        have hx0 := hinv.pos x hxm
        refine s_forT (S := List (Pile × Int)) (ts := [8]) ([0, 1] : List Int) D.int (fun acc => [(pl, pdD P w acc)])
          (fun _ => [.dat (encBook b), .dat (encSights ss), pdS P w (waysTo b ss j), .dat (.int ((j : Nat) : Int)), .dat (encON (nameAt b ((j : Nat) : Int))), .val (.ref pl), .dat (encPile x.1), .dat (.int x.2), .no, .no, .no]) (fun i a => a = (([0, 1] : List Int).take i).foldl (wGo b ss j x.1 x.2) acc ∧ WInv b (j + 1) a) acc
          (fun _ one => [.dat (encBook b), .dat (encSights ss), pdS P w (waysTo b ss j), .dat (.int ((j : Nat) : Int)), .dat (encON (nameAt b ((j : Nat) : Int))), .val (.ref pl), .dat (encPile x.1), .dat (.int x.2), .dat (.int one), .no, .no]) A5 (src_T (e_tup (ea2 e_int e_int))) ⟨rfl, hai⟩ (fun _ _ _ _ _ => tg_n 8) ?_ ?_
        · rintro L6 i6 a one σ6 H6 hi6 ⟨ha, hinv6⟩ A6
          have h01 : one = 0 ∨ one = 1 := by simpa using List.mem_of_getElem? hi6
          have hgo : wGo b ss j x.1 x.2 a one = (([0, 1] : List Int).take (i6 + 1)).foldl (wGo b ss j x.1 x.2) acc := by rw [take_snoc hi6, List.foldl_append, ← ha]; rfl
          have hinv7 : WInv b (j + 1) (wGo b ss j x.1 x.2 a one) := hinv6.go hxs hx0
          refine q_asg A6 (e_fn (ea3 (e_var rfl) (e_var rfl) (e_var rfl)) (R_behind.mk x.1 one (nameAt b (j : Int)) h01 (by omega))) fun σ7 H7 A7 => ?_
          have hgd : wGo b ss j x.1 x.2 a one = match nextM x.1 one (nameAt b (j : Int)) with
            | none => a
            | some q => if dueAll ss j q = true then putI a q ((valI a q).getD 0 + x.2) else a := rfl
          cases hq : nextM x.1 one (nameAt b (j : Int)) with
          | none =>
            rw [hq] at A7 hgd
            refine s_when A7 (b := false) (et_is (et_and (q := false) (et_T (e_notN (e_var rfl))) fun hb2 => nomatch hb2) rfl) (fun hb2 => nomatch hb2) fun _ H8 A8 => ⟨a, ⟨by rw [← hgo, hgd], hinv6⟩, A8.weak (.same (.same (.same (.same (.same (.same (.same (.same (.drop (.drop (.same .nil)))))))))))⟩
          | some q =>
            rw [hq] at A7 hgd
            have hqs := next_sub hxs hq
            have hqn : ∀ n ∈ q, nameOk n := fun n hn => namesTo_ok wb (j + 1) n (hqs.subset hn)
            have A7 : At _ [(pl, pdD P w a)] [.dat (encBook b), .dat (encSights ss), pdS P w (waysTo b ss j), .dat (.int ((j : Nat) : Int)), .dat (encON (nameAt b ((j : Nat) : Int))), .val (.ref pl), .dat (encPile x.1), .dat (.int x.2), .dat (.int one), .dat (encPile q), .no] σ7 H7 := A7
            have hdue : ((ss.filter fun (s : Sight) => decide (s.tick = (j : Int))).map fun s => isSoM s q).all id = dueAll ss j q := by
              unfold dueAll
              rw [List.all_map]; rfl
            refine s_when A7 (b := dueAll ss j q) (et_is (et_and (q := dueAll ss j q) (et_T (e_notN (e_var rfl))) fun _ => et_is (et_tru' (e_allL (ns := (ss.filter fun (s : Sight) => decide (s.tick = (j : Int))).map fun s => isSoM s q) (e_is (EL.e (el_lc (ts := [10]) (vs := [10]) ss encSight (fun (s : Sight) => decide (s.tick = (j : Int))) (fun (s : Sight) => D.bl (isSoM s q))
              (fun (s : Sight) => [.dat (encBook b), .dat (encSights ss), pdS P w (waysTo b ss j), .dat (.int ((j : Nat) : Int)), .dat (encON (nameAt b ((j : Nat) : Int))), .val (.ref pl), .dat (encPile x.1), .dat (.int x.2), .dat (.int one), .dat (encPile q), .dat (encSight s)]) (src_T (e_var rfl)) (by omega) (by simp) (fun _ _ => tg_n 10)
              (fun s _ => et_T (e_eqI (e_sTick (e_var rfl)) (e_var rfl))) (fun s hs _ => e_fn (ea2 (e_var rfl) (e_var rfl)) (R_is_so.mk s q (fun t n m e => ((hss s hs).own t n m e).1) hqn)))) (by rw [List.map_map]; rfl))) rfl) hdue) (by show (true && _) = _; rw [Bool.true_and])) (fun hb H8 A8 => ?_) (fun hb H8 A8 => ?_)
            · refine s_pput A8 (i := 5) (j := 0) (k := q) rfl rfl (e_var rfl) e_int (e_var rfl) (e_var rfl) (by have := hinv6.len wb; omega) fun H9 A9 => ⟨putI a q ((valI a q).getD 0 + x.2), ⟨?_, ?_⟩, ?_⟩
              · rw [← hgo, hgd]
                show _ = if dueAll ss j q = true then _ else _
                rw [if_pos hb]
              · rw [hgd] at hinv7
                have hinv7 : WInv b (j + 1) (if dueAll ss j q = true then putI a q ((valI a q).getD 0 + x.2) else a) := hinv7
                rwa [if_pos hb] at hinv7
              · exact A9.weak (.same (.same (.same (.same (.same (.same (.same (.same (.drop (.drop (.same .nil)))))))))))
            · refine ⟨a, ⟨?_, hinv6⟩, A8.weak (.same (.same (.same (.same (.same (.same (.same (.same (.drop (.drop (.same .nil)))))))))))⟩
              rw [← hgo, hgd]
              show _ = if dueAll ss j q = true then _ else _
              rw [if_neg (by rw [hb]; exact Bool.false_ne_true)]
        · rintro a σ6 H6 ⟨ha, hinv6⟩ A6
          refine ⟨a, ⟨?_, hinv6⟩, A6.weak (.same (.same (.same (.same (.same (.same (.drop (.drop (.same (.same (.same .nil)))))))))))⟩
          rw [take_snoc hi5, List.foldl_append, ← hacc, ha]; rfl
      · rintro acc σ5 H5 ⟨hacc, hai⟩ A5
        rw [List.take_length] at hacc
        have A6 := A5.freezeP (i := 5) rfl (by simp)
        have A6 : At _ [] [.dat (encBook b), .dat (encSights ss), pdS P w (waysTo b ss j), .dat (.int ((j : Nat) : Int)), .dat (encON (nameAt b ((j : Nat) : Int))), pdS P w acc, .no, .no, .no, .no, .no] σ5 H5 := A6
        refine s_asgP (F := PdP P w acc) (m := PdP.mono P w acc) (i := 5) (j := 2) A6 rfl fun σ7 H7 A7 => ⟨acc, hacc, ?_⟩
        have A7 : At _ [] [.dat (encBook b), .dat (encSights ss), pdS P w acc, .dat (.int ((j : Nat) : Int)), .dat (encON (nameAt b ((j : Nat) : Int))), pdS P w acc, .no, .no, .no, .no, .no] σ7 H7 := A7
        exact A7.weak (.same (.same (.same (.drop (.drop (.drop (.same (.same (.same (.same (.same .nil)))))))))))
    · rintro kvs σ3 H3 hk A3
      rw [List.length_range] at hk
      subst hk
      have ht : ((waysTo b ss (b.fin + 1).toNat).map (·.2)).sum = ((storiesM b ss).length : Int) := ways_total b ss _
      have hln : (storiesM b ss).length ≤ 2 ^ 21 := Nat.le_trans (storiesTo_len b ss _) (Nat.pow_le_pow_right (by decide) (by omega))
      have hbnd : ((waysTo b ss (b.fin + 1).toNat).map (·.2)).sum < 2 ^ 62 := by
        rw [ht]
        have : ((storiesM b ss).length : Int) ≤ ((2 ^ 21 : Nat) : Int) := Int.ofNat_le.mpr hln
        have e : ((2 ^ 21 : Nat) : Int) = 2097152 := by decide
        omega
      exact s_ret A3 (e_is (e_psum (P := P) (w := w) (kvs := waysTo b ss (b.fin + 1).toNat) (i := 2) rfl (fun p hp => (ways_inv b ss _).pos p hp) hbnd) (by rw [ht])) k
theorem sc_law : FnScope ["script", "k", "bag", "book", "found", "one", "other", "turn", "sights", "told", "many", "wide", "some", "tick", "total", "parts", "more", "number", "sight", "part"] ["script"] (defScope s_law) := ⟨rfl, rfl, rfl, by decide +kernel, rfl, by decide +kernel, by decide +kernel⟩
theorem ok_law (g : GL K mg) : FnOk P w K mg base CX0 8 g.a_law g.fd_law ["script"] (LawSp K) := by
  have G__law_bag := ok__law_bag (P := P) (w := w) (base := base) g
  have G__law_take := ok__law_take (P := P) (w := w) (base := base) g
  have G__law_of := ok__law_of (P := P) (w := w) (base := base) g
  have G__law_book := ok__law_book (P := P) (w := w) (base := base) g
  have G__law_a_story := ok__law_a_story (P := P) (w := w) (base := base) g
  have G__law_sight_of := ok__law_sight_of (P := P) (w := w) (base := base) g
  have G__law_sights := ok__law_sights (P := P) (w := w) (base := base) g
  have G__law_stories := ok__law_stories (P := P) (w := w) (base := base) g
  have G__law_wrong_due := ok__law_wrong_due (P := P) (w := w) (base := base) g
  have G_fewest_wrong := ok_fewest_wrong (P := P) (w := w) (base := base) g
  have G_how_many := ok_how_many (P := P) (w := w) (base := base) g
  have G_can_be := ok_can_be (P := P) (w := w) (base := base) g
  refine fn_law g.F_law sc_law rfl (fun cdv A outer s H EX hr => ⟨_, (pss_cons (ps_for PassesOwn.never rfl (pi_range1 (by rfl) g.b_range (pa_cons (pe_op (op_addK K) (pe_callB (call_minU rfl) (by rfl) g.b_min (by decide +kernel) (pa_cons (pe_callB (call_lenK K) (by rfl) g.b_len (by decide +kernel) (pa_cons (pv 0) pa_nil)) (pa_cons pe_int pa_nil))) pe_int) pa_nil)) (pg_name (i := 1) sc_law.nd rfl (.inl rfl))
        (pss_cons (ps_set (i := 2) sc_law.nd rfl (.inl rfl) (pe_call G__law_bag (hr.mono (by decide)) (by rfl) g.g__law_bag g.F__law_bag.kp g.n__law_bag .nil pass0 (pa_cons (pv 0) (pa_cons (pv 1) pa_nil))))
      (pss_cons (ps_par (i := 3) (j := 4) rfl sc_law.nd rfl rfl (by decide) rfl rfl (pa_cons (pe_call G__law_book (hr.mono (by decide)) (by rfl) g.g__law_book g.F__law_book.kp g.n__law_book .nil pass0 (pa_cons (pv 2) (pa_cons pe_int pa_nil))) (pa_cons pe_dnewT pa_nil)) (by rfl))
      (pss_cons (ps_par (i := 5) (j := 6) rfl sc_law.nd rfl rfl (by decide) rfl rfl (pa_cons (pe_ix (ix_seqK K) (pe_call G__law_a_story (hr.mono (by decide)) (by rfl) g.g__law_a_story g.F__law_a_story.kp g.n__law_a_story .nil pass0 (pa_cons (pv 2) (pa_cons (pv 3) pa_nil))) pe_int (fun _ _ => rfl)) (pa_cons (pe_ix (ix_seqK K) (pe_call G__law_a_story (hr.mono (by decide)) (by rfl) g.g__law_a_story g.F__law_a_story.kp g.n__law_a_story .nil pass0 (pa_cons (pv 2) (pa_cons (pv 3) pa_nil))) pe_int (fun _ _ => rfl)) pa_nil)) (by rfl))
      (pss_cons (ps_for PassesOwn.never rfl (pi_range1 (by rfl) g.b_range (pa_cons (pe_call G__law_take (hr.mono (by decide)) (by rfl) g.g__law_take g.F__law_take.kp g.n__law_take .nil pass0 (pa_cons (pv 2) (pa_cons pe_int pa_nil))) pa_nil)) (pg_name (i := 7) sc_law.nd rfl (.inl rfl))
        (pss_one (ps_dput (hu_of hr) (pv 4) (pe_call G__law_sight_of (hr.mono (by decide)) (by rfl) g.g__law_sight_of g.F__law_sight_of.kp g.n__law_sight_of .nil pass0 (pa_cons (pv 2) (pa_cons (pv 3) (pa_cons (pe_call G__law_of (hr.mono (by decide)) (by rfl) g.g__law_of g.F__law_of.kp g.n__law_of .nil pass0 (pa_cons (pv 2) (pa_cons (pe_lst (pa_cons (pv 5) (pa_cons (pv 6) pa_nil))) pa_nil))) pa_nil)))) pe_bl rfl)))
      (pss_cons (ps_set (i := 8) sc_law.nd rfl (.inl rfl) (pe_callTy (call_tupK K) (by rfl) g.b_tuple (by decide +kernel) (pa_cons (pe_callB (call_sortedT rfl) (by rfl) g.b_sorted (by decide +kernel) (pa_cons (pv 4) pa_nil)) pa_nil)))
      (pss_cons (ps_par (i := 9) (j := 10) rfl sc_law.nd rfl rfl (by decide) rfl rfl (pa_cons (pe_call G_fewest_wrong (hr.mono (by decide)) (by rfl) g.g_fewest_wrong g.F_fewest_wrong.kp g.n_fewest_wrong .nil pass0 (pa_cons (pv 3) (pa_cons (pv 8) pa_nil))) (pa_cons (pe_callB (call_lenK K) (by rfl) g.b_len (by decide +kernel) (pa_cons (pe_call G__law_stories (hr.mono (by decide)) (by rfl) g.g__law_stories g.F__law_stories.kp g.n__law_stories .nil pass0 (pa_cons (pv 3) (pa_cons (pv 8) pa_nil))) pa_nil)) pa_nil)) (by rfl))
      (pss_cons (ps_if (PW.pt (pw_or (pt_cmpR (op_neK K hr.units) (pv 9) (pe_call G__law_wrong_due (hr.mono (by decide)) (by rfl) g.g__law_wrong_due g.F__law_wrong_due.kp g.n__law_wrong_due .nil pass0 (pa_cons (pv 3) (pa_cons (pv 8) pa_nil))) (nomark _)) (pw_or1 (pt_cmpR (op_neK K hr.units) (pe_call G_how_many (hr.mono (by decide)) (by rfl) g.g_how_many g.F_how_many.kp g.n_how_many .nil pass0 (pa_cons (pv 3) (pa_cons (pv 8) pa_nil))) (pv 10) (nomark _)))))
        (pss_one (ps_ret pe_bl)) pss_nil)
      (pss_cons (ps_if (PW.pt (pw_or (pt_cmpR (op_neK K hr.units) (pe_cmpR (op_eqK K hr.units) (pv 9) (pe_tup pa_nil) (nomark _)) (pe_cmpR op_gtU (pv 10) pe_int (nomark _)) (nomark _)) (pw_or1 (pt_cmpR (op_neK K hr.units) (pe_cmpR op_gtU (pv 10) pe_int (nomark _)) (pe_call G_can_be (hr.mono (by decide)) (by rfl) g.g_can_be g.F_can_be.kp g.n_can_be .nil pass0 (pa_cons (pv 3) (pa_cons (pv 8) pa_nil))) (nomark _)))))
        (pss_one (ps_ret pe_bl)) pss_nil)
      (pss_cons (ps_set (i := 11) sc_law.nd rfl (.inr rfl) (pe_call G__law_book (hr.mono (by decide)) (by rfl) g.g__law_book g.F__law_book.kp g.n__law_book .nil pass0 (pa_cons (pv 2) (pa_cons pe_int pa_nil))))
      (pss_cons (ps_asg (pe_tup (pa_cons (pe_call G__law_sights (hr.mono (by decide)) (by rfl) g.g__law_sights g.F__law_sights.kp g.n__law_sights .nil pass0 (pa_cons (pv 2) (pa_cons (pv 11) (pa_cons pe_int pa_nil)))) (pa_cons (pe_call G__law_take (hr.mono (by decide)) (by rfl) g.g__law_take g.F__law_take.kp g.n__law_take .nil pass0 (pa_cons (pv 2) (pa_cons (pe_op (op_addK K) (pe_ix (ix_seqK K) (pv 11) pe_int (fun _ _ => rfl)) pe_int) pa_nil))) pa_nil))) (pg_tupK K (n := 2) (by rfl) (pgs_cons (pg_name (i := 12) sc_law.nd rfl (.inr rfl)) (pgs_cons (pg_name (i := 13) sc_law.nd rfl (.inr rfl)) pgs_nil))))
      (pss_cons (ps_set (i := 14) sc_law.nd rfl (.inl rfl) (pe_call G_how_many (hr.mono (by decide)) (by rfl) g.g_how_many g.F_how_many.kp g.n_how_many .nil pass0 (pa_cons (pv 11) (pa_cons (pv 12) pa_nil))))
      (pss_cons (ps_setLc (i := 15) rfl sc_law.nd rfl rfl (sw_true rfl rfl rfl (by decide +kernel)) (own := [("number", 17)]) (pi_range1 (by rfl) g.b_range (pa_cons pe_int pa_nil)) (blkOk_by (N := ["script", "k", "bag", "book", "found", "one", "other", "turn", "sights", "told", "many", "wide", "some", "tick", "total", "parts", "more", "number", "sight", "part"]) (sc := defScope s_law) (by decide +kernel)) (fun _ _ _ _ _ => (pg_name (i := 17) sc_law.nd rfl (by first | exact .inl rfl | exact .inr rfl))) (fun _ _ _ _ _ => pts_nil) (fun _ _ _ _ _ => (pe_tup (pa_cons pe_str (pa_cons (pv 13) (pa_cons (pv 17) pa_nil))))))
      (pss_cons (ps_if (pt_cmpR (op_ninK K (units65 hr)) (pe_tup (pa_cons pe_str (pa_cons (pv 13) pa_nil))) (pe_lc (own := [("sight", 18)]) rfl sc_law.nd (pi_seqK K (pv 12)) (blkOk_by (N := ["script", "k", "bag", "book", "found", "one", "other", "turn", "sights", "told", "many", "wide", "some", "tick", "total", "parts", "more", "number", "sight", "part"]) (sc := defScope s_law) (by decide +kernel)) (fun _ _ _ _ _ => (pg_name (i := 18) sc_law.nd rfl (by first | exact .inl rfl | exact .inr rfl))) (fun _ _ _ _ _ => pts_nil) (fun _ _ _ _ _ => (pe_slice (sl_K K) (pv 18) po_none (po_some pe_int)))) (by rfl))
        (pss_one (ps_if (pt_cmpR (op_neK K hr.units) (pe_callB (call_sumK K rfl) (by rfl) g.b_sum (by decide +kernel) (pa_cons (pe_lc (own := [("part", 19)]) rfl sc_law.nd (pi_seqK K (pv 15)) (blkOk_by (N := ["script", "k", "bag", "book", "found", "one", "other", "turn", "sights", "told", "many", "wide", "some", "tick", "total", "parts", "more", "number", "sight", "part"]) (sc := defScope s_law) (by decide +kernel)) (fun _ _ _ _ _ => (pg_name (i := 19) sc_law.nd rfl (by first | exact .inl rfl | exact .inr rfl))) (fun _ _ _ _ _ => pts_nil) (fun _ _ _ _ _ => (pe_call G_how_many (hr.mono (by decide)) (by rfl) g.g_how_many g.F_how_many.kp g.n_how_many .nil pass0 (pa_cons (pv 11) (pa_cons (pe_callTy (call_tupK K) (by rfl) g.b_tuple (by decide +kernel) (pa_cons (pe_callB (call_sortedQ K) (by rfl) g.b_sorted (by decide +kernel) (pa_cons (pe_op (op_addK K) (pv 12) (pe_tup (pa_cons (pv 19) pa_nil))) pa_nil)) pa_nil)) pa_nil))))) pa_nil)) (pv 14) (nomark _))
        (pss_one (ps_ret pe_bl)) pss_nil)) pss_nil)
      (pss_cons (ps_set (i := 16) sc_law.nd rfl (.inl rfl) (pe_call G__law_sight_of (hr.mono (by decide)) (by rfl) g.g__law_sight_of g.F__law_sight_of.kp g.n__law_sight_of .nil pass0 (pa_cons (pv 2) (pa_cons (pv 11) (pa_cons (pe_ix (ix_seqK K) (pe_call G__law_a_story (hr.mono (by decide)) (by rfl) g.g__law_a_story g.F__law_a_story.kp g.n__law_a_story .nil pass0 (pa_cons (pv 2) (pa_cons (pv 11) pa_nil))) pe_int (fun _ _ => rfl)) pa_nil)))))
      (pss_one (ps_if (PW.pt (pw_and (pt_cmpR (op_ninT K (units65 hr)) (pv 16) (pv 12) (by rfl)) (pw_and1 (pt_cmpR op_gtU (pe_call G_how_many (hr.mono (by decide)) (by rfl) g.g_how_many g.F_how_many.kp g.n_how_many .nil pass0 (pa_cons (pv 11) (pa_cons (pe_callTy (call_tupK K) (by rfl) g.b_tuple (by decide +kernel) (pa_cons (pe_callB (call_sortedQ K) (by rfl) g.b_sorted (by decide +kernel) (pa_cons (pe_op (op_addK K) (pv 12) (pe_tup (pa_cons (pv 16) pa_nil))) pa_nil)) pa_nil)) pa_nil))) (pv 14) (nomark _)))))
        (pss_one (ps_ret pe_bl)) pss_nil)))))))))))))))))
      (pss_one (ps_ret pe_bl))), ?_⟩)
  intro ns hl N H σ Q A k
  refine q_forT (S := Unit) (ts := [1]) (List.range (min ((ns.length : Nat) : Int) 4 + 2).toNat) (fun i => .int (0 + (i : Nat))) (fun _ => [])
    (fun _ => [scr K ns, .no, .no, .no, .no, .no, .no, .no, .no, .no, .no, .no, .no, .no, .no, .no, .no, .no, .no, .no]) (fun _ _ => True) ()
    (fun _ i => [scr K ns, .dat (.int (0 + (i : Nat))), .no, .no, .no, .no, .no, .no, .no, .no, .no, .no, .no, .no, .no, .no, .no, .no, .no, .no]) A (src_r1 (ea1 (e_add (e_min2 (e_lenS rfl) e_int) e_int)) (by omega)) trivial (fun _ _ _ _ _ => tg_n 1) ?_ ?_
  · rintro L i _ j σ1 H1 hi _ A1
    have hi2 := at_lt hi
    have ej : j = i := by
      rw [List.getElem?_eq_getElem hi2, List.getElem_range] at hi
      exact (Option.some.inj hi).symm
    subst ej
    rw [List.length_range] at hi2
    refine q_asgBag A1 rfl (e_var rfl) (by omega) (by omega) fun bg σ2 H2 A2 => ?_
    refine q_parBL A2 (eb_callE (Pre := P_book) (Rf := R_book) rfl (by simp) (ea1 e_int) (.mk 8 (by decide) (by decide))) el_newT fun d P p σ3 H3 z A3 => ?_
    obtain ⟨z, rfl⟩ := z
    obtain ⟨b, hb, rfl⟩ := z.inv
    have hlt := hb.lt
    have wb := hb.wb
    have hne : p ≠ bg := by
      obtain ⟨N2, a2⟩ := A3
      have := a2.nd
      simpa using this
    refine q_parBB A3 (R2 := fun _ _ d P => ∃ tk ps, Run b (b.fin + 1).toNat tk ps ∧ d = .lst (ps.map encPile) ∧ P = [(p, .dt []), (bg, .non)]) (eb_piles rfl (by simp) (e_var rfl) wb hb.fl) (fun d P ⟨_, _, _, _, z⟩ => by rw [z]; exact eb_piles rfl (by simp) (e_var rfl) wb hb.fl) fun d P e P2 σ4 H4 z z2 A4 => ?_
    obtain ⟨tk1, ps1, hr1, rfl, rfl⟩ := z
    obtain ⟨tk2, ps2, hr2, rfl, rfl⟩ := z2
    refine q_rngB A4 (RA := fun ds P => ∃ n : Int, ds = [.int n] ∧ 0 ≤ n ∧ n ≤ 6 ∧ P = [(p, .dt []), (bg, .non)]) (eba_mono (eba1 (eb_callE (Pre := P_take) (Rf := R_take) rfl (by simp) (ea1 e_int) (.mk 7 (by decide) (by decide)))) fun ds P z => ?_) (fun ds P ⟨n, z, n0, n1, _⟩ => ⟨n, z, by omega, by omega⟩) fun n P H5 z A5 => ?_
    · obtain ⟨d, rfl, z, rfl⟩ := z
      cases z with
      | mk _ r r0 r1 => exact ⟨r, rfl, r0, by omega, rfl⟩
    obtain ⟨n', e, n0, n1, rfl⟩ := z
    cases e
    refine q_forT (S := List (List Key × D)) (ts := [7]) (List.range n.toNat) (fun i => .int (0 + (i : Nat))) (fun kvs => [(p, .dt kvs), (bg, .non)])
      (fun _ => [scr K ns, .dat (.int (0 + (j : Nat))), .val (.ref bg), .dat (encBook b), .val (.ref p), .dat (.lst (ps1.map encPile)), .dat (.lst (ps2.map encPile)), .no, .no, .no, .no, .no, .no, .no, .no, .no, .no, .no, .no, .no]) (fun i kvs => SightKeys (WS1 b) kvs ∧ kvs.length ≤ i) []
      (fun _ i => [scr K ns, .dat (.int (0 + (j : Nat))), .val (.ref bg), .dat (encBook b), .val (.ref p), .dat (.lst (ps1.map encPile)), .dat (.lst (ps2.map encPile)), .dat (.int (0 + (i : Nat))), .no, .no, .no, .no, .no, .no, .no, .no, .no, .no, .no, .no]) A5 (src_r1 (ea1 e_int) (by omega)) ⟨fun p hp => by simp at hp, by simp⟩ (fun _ _ _ _ _ => tg_n 7) ?_ ?_
    · rintro L6 i6 kvs j6 σ6 H6 hi6 ⟨hJ, hkl⟩ A6
      have hi6b := at_lt hi6
      rw [List.length_range] at hi6b
      refine s_dputB A6 (i := 4) (j := 0) rfl e_bl rfl (R := fun d P => ∃ s, WS1 b s ∧ d = encSight s ∧ P = [(p, .dt kvs), (bg, .non)]) (eb_mono (eb_call (Pre := P_sight_of) (Rf := R_sight_of) (RA := fun ds P => ∃ tk ps, Run b (b.fin + 1).toNat tk ps ∧ ds = [encBook b, .lst (ps.map encPile)] ∧ P = [(p, .dt kvs), (bg, .non)]) rfl (fun ds P ⟨_, _, _, _, z⟩ => by rw [z]; simp)
        (eba_mono (eba_e (e_var rfl) (eba1 (eb_callE (Pre := P_of) (Rf := R_of) rfl (by simp) (ea1 (EL.e (el_lst (ea2 (e_var rfl) (e_var rfl))))) (.mk _ (by simp) (by simp))))) fun ds P z => ?_) (fun ds P ⟨tk, ps, hr, z, _⟩ => by rw [z]; exact .mk b tk ps wb hr)) fun d P z => ?_) (fun y P ⟨s, hs, z, z2⟩ => ⟨sightK s, by rw [encK_sight, z], by rw [z2]; rfl⟩) (by omega) fun key P H7 z A7 => ?_
      · obtain ⟨r, rfl, d, rfl, z, rfl⟩ := z
        cases z with
        | mk _ _ hd =>
          simp only [List.mem_cons, List.not_mem_nil, or_false] at hd
          rcases hd with rfl | rfl
          · exact ⟨tk1, ps1, hr1, rfl, rfl⟩
          · exact ⟨tk2, ps2, hr2, rfl, rfl⟩
      · obtain ⟨ds, ⟨tk, ps, hr, rfl, rfl⟩, z⟩ := z
        obtain ⟨s, hs, rfl⟩ := z.inv
        exact ⟨s, hs, rfl, rfl⟩
      · obtain ⟨s, hs, e, rfl⟩ := z
        have ek := encK_sight_inj e
        subst ek
        refine ⟨putD kvs (sightK s) (.bl true), ⟨hJ.put hs, Nat.le_trans (putD_len _ _ _) (by omega)⟩, ?_⟩
        exact A7.weak (.same (.same (.same (.same (.same (.same (.same (.drop (Wk.refl _)))))))))
    · rintro kvs σ6 H6 ⟨hJ, hkl⟩ A6
      rw [List.length_range] at hkl
      have A7 := A6.freeze (i := 4) rfl rfl (by simp)
      obtain ⟨ss, es, hws, hsl⟩ := hJ.sorted
      have ws : WS b ss := ⟨by omega, hws⟩
      refine q_asg A7 (e_is (e_tupL (EL.e (el_sortedT (e_var rfl) hJ.heads hJ.cmps))) (congrArg D.tup es)) fun σ8 H8 A8 => ?_
      refine q_parEE A8 (e_fn (ea2 (e_var rfl) (e_is (e_var rfl) (show _ = encSights ss from rfl))) (R_fewest_wrong.mk b ss wb ws)) (e_is (e_lenL (e_fn (ea2 (e_var rfl) (e_is (e_var rfl) (show _ = encSights ss from rfl))) (L_stories.mk b ss wb hb.fl ws (by omega)))) (by rw [List.length_map])) fun σ9 H9 A9 => ?_
      refine q_whenF A9 (et_or (p := false) (q := false) (et_T (e_neR (e_var rfl) (e_fn (ea2 (e_var rfl) (e_is (e_var rfl) (show _ = encSights ss from rfl))) (L_wrong_due.mk b ss wb hb.fl ws (by omega))) (okD_intsD _) (plain_ints _))) fun _ => et_is (et_T (e_neI (e_fn (ea2 (e_var rfl) (e_is (e_var rfl) (show _ = encSights ss from rfl))) (R_how_many.mk b ss wb ws)) (e_var rfl))) (by simp)) rfl fun H10 A10 => ?_
      refine q_whenF A10 (et_or (p := false) (q := false) (et_is (et_T (e_ne (e_eqT0 (e_var rfl) (e_tup ea_nil) (okD_intsD _)) (e_gt (e_var rfl) e_int) (ok_bl _) (ok_bl _))) (by rw [told_nil, many_pos, eqD_bl]; rfl)) fun _ => et_is (et_T (e_ne (e_gt (e_var rfl) e_int) (e_fn (ea2 (e_var rfl) (e_is (e_var rfl) (show _ = encSights ss from rfl))) (R_can_be.mk b ss wb ws (settled_ex (ring_out wb ws)))) (ok_bl _) (ok_bl _))) (by rw [can_iff wb ws, many_pos, eqD_bl]; rfl)) rfl fun H11 A11 => ?_
      refine q_asgB A11 (eb_callE (Pre := P_book) (Rf := R_book) rfl (by simp) (ea1 e_int) (.mk 15 (by decide) (by decide))) fun d P σ12 H12 z A12 => ?_
      obtain ⟨z, rfl⟩ := z
      obtain ⟨wd, hwd, rfl⟩ := z.inv
      have wlt := hwd.lt
      have wwb := hwd.wb
      have wlo := wwb.lo
      refine q_asgGB A12 (ts := [12, 13]) (R := fun d P => ∃ so t, WS wd so ∧ so.length ≤ 4 ∧ 0 ≤ t ∧ t ≤ wd.fin ∧ d = .tup [encSights so, .int t] ∧ P = [(bg, .non)]) (ρ1 := fun d => (([scr K ns, .dat (.int (0 + (j : Nat))), .val (.ref bg), .dat (encBook b), .dat (.dt kvs), .dat (.lst (ps1.map encPile)), .dat (.lst (ps2.map encPile)), .no, .dat (encSights ss), .dat (intsD (firstLot b ss)), .dat (.int ((storiesM b ss).length : Int)), .dat (encBook wd), .dat (match d with | .tup [x, _] => x | _ => .non), .dat (match d with | .tup [_, y] => y | _ => .non), .no, .no, .no, .no, .no, .no] : List Sl)))
        (eb_mono (eb_tup (RA := fun ds P => ∃ so t, WS wd so ∧ so.length ≤ 4 ∧ 0 ≤ t ∧ t ≤ wd.fin ∧ ds = [encSights so, .int t] ∧ P = [(bg, .non)]) (eba_mono (eba_cons (eb_callE (Pre := P_sights) (Rf := R_sights) rfl (by simp) (ea2 (e_var rfl) e_int) (.mk wd 4 wwb hwd.fl (by decide) (by decide))) (RA := fun d P ds P2 => ∃ t : Int, ds = [.int t] ∧ 0 ≤ t ∧ t ≤ wd.fin ∧ P2 = [(bg, .non)]) fun d P z => ?_) fun ds P z => ?_) fun ds P ⟨_, _, _, _, _, _, z, _⟩ => by rw [z]; show 2 ≤ 100000; decide) fun d P z => ?_) (fun d P z => ?_) fun d P σ13 H13 z A13 => ?_
      · rw [z.2]
        refine eba_mono (eba1 (eb_callE (Pre := P_take) (Rf := R_take) rfl (by simp) (ea1 (e_add (e_ixT (e_var rfl) e_int (atI_0 _ _)) e_int)) (.mk _ (by omega) (by omega)))) fun ds P z => ?_
        obtain ⟨d, rfl, z, rfl⟩ := z
        cases z with
        | mk _ r r0 r1 => exact ⟨r, rfl, r0, by omega, rfl⟩
      · obtain ⟨d, ds2, P1, rfl, ⟨z1, rfl⟩, ⟨t, rfl, t0, t1, rfl⟩⟩ := z
        obtain ⟨so, wso, hs4, rfl⟩ := z1.inv
        exact ⟨so, t, wso, by omega, t0, t1, rfl, rfl⟩
      · obtain ⟨ds, ⟨so, t, wso, hs4, t0, t1, rfl, rfl⟩, rfl⟩ := z
        exact ⟨so, t, wso, hs4, t0, t1, rfl, rfl⟩
      · obtain ⟨so, t, wso, hs4, t0, t1, rfl, rfl⟩ := z
        exact tg2 12 13
      obtain ⟨so, t, wso, hs4, t0, t1, rfl, rfl⟩ := z
      have A13 : At _ [(bg, .non)] [scr K ns, .dat (.int (0 + (j : Nat))), .val (.ref bg), .dat (encBook b), .dat (.dt kvs), .dat (.lst (ps1.map encPile)), .dat (.lst (ps2.map encPile)), .no, .dat (encSights ss), .dat (intsD (firstLot b ss)), .dat (.int ((storiesM b ss).length : Int)), .dat (encBook wd), .dat (encSights so), .dat (.int t), .no, .no, .no, .no, .no, .no] σ13 H13 := A13
      have hparts : ∀ i : Nat, i < 11 → WS1 wd (.high t (0 + ((i : Nat) : Int))) := fun i hi => ⟨t0, t1, by show 0 ≤ (0 + ((i : Nat) : Int)); omega, by show (0 + ((i : Nat) : Int)) ≤ 10; omega, fun _ _ _ e => by cases e⟩
      refine q_asg A13 (e_fn (ea2 (e_var rfl) (e_var rfl)) (R_how_many.mk wd so wwb wso)) fun σ14 H14 A14 => ?_
      refine q_asg A14 (EL.e (el_lc0 (ts := [17]) (vs := [17]) (List.range (11 : Int).toNat) (fun i => .int (0 + (i : Nat))) (fun i => encSight (.high t (0 + ((i : Nat) : Int)))) (fun i => [scr K ns, .dat (.int (0 + (j : Nat))), .val (.ref bg), .dat (encBook b), .dat (.dt kvs), .dat (.lst (ps1.map encPile)), .dat (.lst (ps2.map encPile)), .no, .dat (encSights ss), .dat (intsD (firstLot b ss)), .dat (.int ((storiesM b ss).length : Int)), .dat (encBook wd), .dat (encSights so), .dat (.int t), .dat (.int ((storiesM wd so).length : Int)), .no, .no, .dat (.int (0 + (i : Nat))), .no, .no])
        (src_r1 (ea1 e_int) (by decide)) (by decide) (by simp) (fun _ _ => tg_n 17) (fun i _ => e_tup (ea3 e_str (e_var rfl) (e_var rfl))))) fun σ15 H15 A15 => ?_
      refine q_whenN A15 (et_T (e_ninL (e_tup (ea2 e_str (e_var rfl))) (EL.e (el_lc0 (ts := [18]) (vs := [18]) so encSight headD (fun s => [scr K ns, .dat (.int (0 + (j : Nat))), .val (.ref bg), .dat (encBook b), .dat (.dt kvs), .dat (.lst (ps1.map encPile)), .dat (.lst (ps2.map encPile)), .no, .dat (encSights ss), .dat (intsD (firstLot b ss)), .dat (.int ((storiesM b ss).length : Int)), .dat (encBook wd), .dat (encSights so), .dat (.int t), .dat (.int ((storiesM wd so).length : Int)), .dat (.lst ((List.range (11 : Int).toNat).map fun i => encSight (.high t (0 + ((i : Nat) : Int))))), .no, .no, .dat (encSight s), .no])
        (src_T (e_var rfl)) (by omega) (by simp) (fun _ _ => tg_n 18) (fun s _ => e_head s (e_var rfl)))) (okD_head (.high t 0)).1 (okD_heads so))) (fun _ => et_is (et_T (e_neI (e_sumL (ns := (List.range 11).map fun i => (((storiesM wd (sortS (so ++ [Sight.high t (0 + ((i : Nat) : Int))]))).length : Nat) : Int)) (e_is (EL.e (el_lc0 (ts := [19]) (vs := [19]) (List.range (11 : Int).toNat) (fun i => encSight (.high t (0 + ((i : Nat) : Int)))) (fun i => .int (((storiesM wd (sortS (so ++ [Sight.high t (0 + ((i : Nat) : Int))]))).length : Nat) : Int)) (fun i => [scr K ns, .dat (.int (0 + (j : Nat))), .val (.ref bg), .dat (encBook b), .dat (.dt kvs), .dat (.lst (ps1.map encPile)), .dat (.lst (ps2.map encPile)), .no, .dat (encSights ss), .dat (intsD (firstLot b ss)), .dat (.int ((storiesM b ss).length : Int)), .dat (encBook wd), .dat (encSights so), .dat (.int t), .dat (.int ((storiesM wd so).length : Int)), .dat (.lst ((List.range (11 : Int).toNat).map fun i => encSight (.high t (0 + ((i : Nat) : Int))))), .no, .no, .no, .dat (encSight (.high t (0 + ((i : Nat) : Int))))])
        (src_L (e_var rfl)) (by decide) (by simp) (fun _ _ => tg_n 19) (fun i hi => e_fn (ea2 (e_var rfl) (e_sortMore (e_var rfl) (e_var rfl) (by omega))) (R_how_many.mk wd _ wwb (sortS_ws wso (by omega) (hparts i (by simpa using hi))))))) (by rw [List.map_map]; rfl))) (e_var rfl))) (by rw [sum11 wwb t0 t1]; simp)) fun H16 A16 => ?_
      refine q_asgB A16 (eb_mono (eb_call (Pre := P_sight_of) (Rf := R_sight_of) (RA := fun ds P => ∃ tk ps, Run wd (wd.fin + 1).toNat tk ps ∧ ds = [encBook wd, .lst (ps.map encPile)] ∧ P = [(bg, .non)]) rfl (fun ds P ⟨_, _, _, _, z⟩ => by rw [z]; simp) (eba_mono (eba_e (e_var rfl) (eba1 (eb_piles rfl (by simp) (e_var rfl) wwb hwd.fl))) fun ds P z => ?_) (fun ds P ⟨tk, ps, hr, z, _⟩ => by rw [z]; exact .mk wd tk ps wwb hr)) (R' := fun d P => ∃ s, WS1 wd s ∧ d = encSight s ∧ P = [(bg, .non)]) fun d P z => ?_) fun d P σ17 H17 z A17 => ?_
      · obtain ⟨r, rfl, d, rfl, tk, ps, hr, rfl, rfl⟩ := z
        exact ⟨tk, ps, hr, rfl, rfl⟩
      · obtain ⟨ds, ⟨tk, ps, hr, rfl, rfl⟩, z⟩ := z
        obtain ⟨s, hs, rfl⟩ := z.inv
        exact ⟨s, hs, rfl, rfl⟩
      obtain ⟨s, hs, rfl, rfl⟩ := z
      have hmore := fewer_more (b := wd) (sortS_perm (so ++ [s])) hs.lo hs.hi
      refine s_when A17 (b := false) (et_is (et_and (q := false) (et_T (e_ninD (e_var rfl) (e_var rfl) (okD_sight hs).1 (okD_sights wso))) fun _ => et_is (et_T (e_gt (e_fn (ea2 (e_var rfl) (e_sortMore (e_var rfl) (e_var rfl) (by omega))) (R_how_many.mk wd _ wwb (sortS_ws wso (by omega) hs))) (e_var rfl))) (decide_eq_false (by omega))) (by rw [Bool.and_false])) (fun hb2 => nomatch hb2) fun _ H18 A18 => ⟨(), trivial, ?_⟩
      exact A18.dropP.weak (.same (.drop (.drop (.drop (.drop (.drop (.drop (.same (.drop (.drop (.drop (.drop (.drop (.drop (.drop (.drop (.drop (.same (.same (.same .nil))))))))))))))))))))
  · rintro _ σ1 H1 _ A1
    exact s_ret A1 e_bl fun v N' H' _ r => by rw [r.inv_bl]; exact k H'
end

theorem all_mk {l : PySem.W.OpenLaw} {w : World} {K : PySem.W.Frag} {h : Heap} {mg : Str → Option Value} {fa : Addr} (X : K.In h) (G : h.Ns mainGlobals mg) (hfa : mg "law" = some (.ref fa))
    {od_own_tick an_own_tick : Option Addr} {sl_own_tick : Array (Option Value)} {oc_own_tick kV_own_tick dc_own_tick pm_own_tick cd_own_tick ct_own_tick : Value} {f_own_tick : Addr}
    {od_laid_at an_laid_at : Option Addr} {sl_laid_at : Array (Option Value)} {oc_laid_at kV_laid_at dc_laid_at pm_laid_at cd_laid_at ct_laid_at : Value} {f_laid_at : Addr}
    {od_behind an_behind : Option Addr} {sl_behind : Array (Option Value)} {oc_behind kV_behind dc_behind pm_behind cd_behind ct_behind : Value} {f_behind : Addr}
    {od_is_so an_is_so : Option Addr} {sl_is_so : Array (Option Value)} {oc_is_so kV_is_so dc_is_so pm_is_so cd_is_so ct_is_so : Value} {f_is_so : Addr}
    {od_laid an_laid : Option Addr} {sl_laid : Array (Option Value)} {oc_laid kV_laid dc_laid pm_laid cd_laid ct_laid : Value} {f_laid : Addr}
    {od_read_tick an_read_tick : Option Addr} {sl_read_tick : Array (Option Value)} {oc_read_tick kV_read_tick dc_read_tick pm_read_tick cd_read_tick ct_read_tick : Value} {f_read_tick : Addr}
    {od_read_fact an_read_fact : Option Addr} {sl_read_fact : Array (Option Value)} {oc_read_fact kV_read_fact dc_read_fact pm_read_fact cd_read_fact ct_read_fact : Value} {f_read_fact : Addr}
    {od_facts_of_sight an_facts_of_sight : Option Addr} {sl_facts_of_sight : Array (Option Value)} {oc_facts_of_sight kV_facts_of_sight dc_facts_of_sight pm_facts_of_sight cd_facts_of_sight ct_facts_of_sight : Value} {f_facts_of_sight : Addr}
    {od_facts_of an_facts_of : Option Addr} {sl_facts_of : Array (Option Value)} {oc_facts_of kV_facts_of dc_facts_of pm_facts_of cd_facts_of ct_facts_of : Value} {f_facts_of : Addr}
    {od_gone_back an_gone_back : Option Addr} {sl_gone_back : Array (Option Value)} {oc_gone_back kV_gone_back dc_gone_back pm_gone_back cd_gone_back ct_gone_back : Value} {f_gone_back : Addr}
    {od_settled an_settled : Option Addr} {sl_settled : Array (Option Value)} {oc_settled kV_settled dc_settled pm_settled cd_settled ct_settled : Value} {f_settled : Addr}
    {od_solved an_solved : Option Addr} {sl_solved : Array (Option Value)} {oc_solved kV_solved dc_solved pm_solved cd_solved ct_solved : Value} {f_solved : Addr}
    {od_can_be an_can_be : Option Addr} {sl_can_be : Array (Option Value)} {oc_can_be kV_can_be dc_can_be pm_can_be cd_can_be ct_can_be : Value} {f_can_be : Addr}
    {od_lots_of an_lots_of : Option Addr} {sl_lots_of : Array (Option Value)} {oc_lots_of kV_lots_of dc_lots_of pm_lots_of cd_lots_of ct_lots_of : Value} {f_lots_of : Addr}
    {od_fewest_wrong an_fewest_wrong : Option Addr} {sl_fewest_wrong : Array (Option Value)} {oc_fewest_wrong kV_fewest_wrong dc_fewest_wrong pm_fewest_wrong cd_fewest_wrong ct_fewest_wrong : Value} {f_fewest_wrong : Addr}
    {od_how_many an_how_many : Option Addr} {sl_how_many : Array (Option Value)} {oc_how_many kV_how_many dc_how_many pm_how_many cd_how_many ct_how_many : Value} {f_how_many : Addr}
    {od__law_bag an__law_bag : Option Addr} {sl__law_bag : Array (Option Value)} {oc__law_bag kV__law_bag dc__law_bag pm__law_bag cd__law_bag ct__law_bag : Value} {f__law_bag : Addr}
    {od__law_take an__law_take : Option Addr} {sl__law_take : Array (Option Value)} {oc__law_take kV__law_take dc__law_take pm__law_take cd__law_take ct__law_take : Value} {f__law_take : Addr}
    {od__law_of an__law_of : Option Addr} {sl__law_of : Array (Option Value)} {oc__law_of kV__law_of dc__law_of pm__law_of cd__law_of ct__law_of : Value} {f__law_of : Addr}
    {od__law_book an__law_book : Option Addr} {sl__law_book : Array (Option Value)} {oc__law_book kV__law_book dc__law_book pm__law_book cd__law_book ct__law_book : Value} {f__law_book : Addr}
    {od__law_next an__law_next : Option Addr} {sl__law_next : Array (Option Value)} {oc__law_next kV__law_next dc__law_next pm__law_next cd__law_next ct__law_next : Value} {f__law_next : Addr}
    {od__law_a_story an__law_a_story : Option Addr} {sl__law_a_story : Array (Option Value)} {oc__law_a_story kV__law_a_story dc__law_a_story pm__law_a_story cd__law_a_story ct__law_a_story : Value} {f__law_a_story : Addr}
    {od__law_sight_of an__law_sight_of : Option Addr} {sl__law_sight_of : Array (Option Value)} {oc__law_sight_of kV__law_sight_of dc__law_sight_of pm__law_sight_of cd__law_sight_of ct__law_sight_of : Value} {f__law_sight_of : Addr}
    {od__law_sights an__law_sights : Option Addr} {sl__law_sights : Array (Option Value)} {oc__law_sights kV__law_sights dc__law_sights pm__law_sights cd__law_sights ct__law_sights : Value} {f__law_sights : Addr}
    {od__law_is_so an__law_is_so : Option Addr} {sl__law_is_so : Array (Option Value)} {oc__law_is_so kV__law_is_so dc__law_is_so pm__law_is_so cd__law_is_so ct__law_is_so : Value} {f__law_is_so : Addr}
    {od__law_stories an__law_stories : Option Addr} {sl__law_stories : Array (Option Value)} {oc__law_stories kV__law_stories dc__law_stories pm__law_stories cd__law_stories ct__law_stories : Value} {f__law_stories : Addr}
    {od__law_lots an__law_lots : Option Addr} {sl__law_lots : Array (Option Value)} {oc__law_lots kV__law_lots dc__law_lots pm__law_lots cd__law_lots ct__law_lots : Value} {f__law_lots : Addr}
    {od__law_wrong_due an__law_wrong_due : Option Addr} {sl__law_wrong_due : Array (Option Value)} {oc__law_wrong_due kV__law_wrong_due dc__law_wrong_due pm__law_wrong_due cd__law_wrong_due ct__law_wrong_due : Value} {f__law_wrong_due : Addr}
    {od_law an_law : Option Addr} {sl_law : Array (Option Value)} {oc_law kV_law dc_law pm_law cd_law ct_law : Value} {f_law : Addr}
    {t_NOUGHT : Tok}
    (a_own_tick : PySem.W.nsIn K mainGlobals "own_tick" = some (some (.ref f_own_tick))) (l_own_tick : K.lookup f_own_tick = some ⟨oc_own_tick, od_own_tick, .func (PySem.W.fnOf "own_tick" "own_tick" (defArgs s_own_tick) (defBody s_own_tick) (defScope s_own_tick) .none kV_own_tick dc_own_tick pm_own_tick an_own_tick cd_own_tick ct_own_tick), sl_own_tick⟩) (c_own_tick : PySem.W.codeIn K cd_own_tick "own_tick" = true) (k_own_tick : PySem.W.keepIn K (.ref f_own_tick) = true)
    (a_laid_at : PySem.W.nsIn K mainGlobals "laid_at" = some (some (.ref f_laid_at))) (l_laid_at : K.lookup f_laid_at = some ⟨oc_laid_at, od_laid_at, .func (PySem.W.fnOf "laid_at" "laid_at" (defArgs s_laid_at) (defBody s_laid_at) (defScope s_laid_at) .none kV_laid_at dc_laid_at pm_laid_at an_laid_at cd_laid_at ct_laid_at), sl_laid_at⟩) (c_laid_at : PySem.W.codeIn K cd_laid_at "laid_at" = true) (k_laid_at : PySem.W.keepIn K (.ref f_laid_at) = true)
    (a_behind : PySem.W.nsIn K mainGlobals "behind" = some (some (.ref f_behind))) (l_behind : K.lookup f_behind = some ⟨oc_behind, od_behind, .func (PySem.W.fnOf "behind" "behind" (defArgs s_behind) (defBody s_behind) (defScope s_behind) .none kV_behind dc_behind pm_behind an_behind cd_behind ct_behind), sl_behind⟩) (c_behind : PySem.W.codeIn K cd_behind "behind" = true) (k_behind : PySem.W.keepIn K (.ref f_behind) = true)
    (a_is_so : PySem.W.nsIn K mainGlobals "is_so" = some (some (.ref f_is_so))) (l_is_so : K.lookup f_is_so = some ⟨oc_is_so, od_is_so, .func (PySem.W.fnOf "is_so" "is_so" (defArgs s_is_so) (defBody s_is_so) (defScope s_is_so) .none kV_is_so dc_is_so pm_is_so an_is_so cd_is_so ct_is_so), sl_is_so⟩) (c_is_so : PySem.W.codeIn K cd_is_so "is_so" = true) (k_is_so : PySem.W.keepIn K (.ref f_is_so) = true)
    (a_laid : PySem.W.nsIn K mainGlobals "laid" = some (some (.ref f_laid))) (l_laid : K.lookup f_laid = some ⟨oc_laid, od_laid, .func (PySem.W.fnOf "laid" "laid" (defArgs s_laid) (defBody s_laid) (defScope s_laid) .none kV_laid dc_laid pm_laid an_laid cd_laid ct_laid), sl_laid⟩) (c_laid : PySem.W.codeIn K cd_laid "laid" = true) (k_laid : PySem.W.keepIn K (.ref f_laid) = true)
    (a_read_tick : PySem.W.nsIn K mainGlobals "read_tick" = some (some (.ref f_read_tick))) (l_read_tick : K.lookup f_read_tick = some ⟨oc_read_tick, od_read_tick, .func (PySem.W.fnOf "read_tick" "read_tick" (defArgs s_read_tick) (defBody s_read_tick) (defScope s_read_tick) .none kV_read_tick dc_read_tick pm_read_tick an_read_tick cd_read_tick ct_read_tick), sl_read_tick⟩) (c_read_tick : PySem.W.codeIn K cd_read_tick "read_tick" = true) (k_read_tick : PySem.W.keepIn K (.ref f_read_tick) = true)
    (a_read_fact : PySem.W.nsIn K mainGlobals "read_fact" = some (some (.ref f_read_fact))) (l_read_fact : K.lookup f_read_fact = some ⟨oc_read_fact, od_read_fact, .func (PySem.W.fnOf "read_fact" "read_fact" (defArgs s_read_fact) (defBody s_read_fact) (defScope s_read_fact) .none kV_read_fact dc_read_fact pm_read_fact an_read_fact cd_read_fact ct_read_fact), sl_read_fact⟩) (c_read_fact : PySem.W.codeIn K cd_read_fact "read_fact" = true) (k_read_fact : PySem.W.keepIn K (.ref f_read_fact) = true)
    (a_facts_of_sight : PySem.W.nsIn K mainGlobals "facts_of_sight" = some (some (.ref f_facts_of_sight))) (l_facts_of_sight : K.lookup f_facts_of_sight = some ⟨oc_facts_of_sight, od_facts_of_sight, .func (PySem.W.fnOf "facts_of_sight" "facts_of_sight" (defArgs s_facts_of_sight) (defBody s_facts_of_sight) (defScope s_facts_of_sight) .none kV_facts_of_sight dc_facts_of_sight pm_facts_of_sight an_facts_of_sight cd_facts_of_sight ct_facts_of_sight), sl_facts_of_sight⟩) (c_facts_of_sight : PySem.W.codeIn K cd_facts_of_sight "facts_of_sight" = true) (k_facts_of_sight : PySem.W.keepIn K (.ref f_facts_of_sight) = true)
    (a_facts_of : PySem.W.nsIn K mainGlobals "facts_of" = some (some (.ref f_facts_of))) (l_facts_of : K.lookup f_facts_of = some ⟨oc_facts_of, od_facts_of, .func (PySem.W.fnOf "facts_of" "facts_of" (defArgs s_facts_of) (defBody s_facts_of) (defScope s_facts_of) .none kV_facts_of dc_facts_of pm_facts_of an_facts_of cd_facts_of ct_facts_of), sl_facts_of⟩) (c_facts_of : PySem.W.codeIn K cd_facts_of "facts_of" = true) (k_facts_of : PySem.W.keepIn K (.ref f_facts_of) = true)
    (a_gone_back : PySem.W.nsIn K mainGlobals "gone_back" = some (some (.ref f_gone_back))) (l_gone_back : K.lookup f_gone_back = some ⟨oc_gone_back, od_gone_back, .func (PySem.W.fnOf "gone_back" "gone_back" (defArgs s_gone_back) (defBody s_gone_back) (defScope s_gone_back) .none kV_gone_back dc_gone_back pm_gone_back an_gone_back cd_gone_back ct_gone_back), sl_gone_back⟩) (c_gone_back : PySem.W.codeIn K cd_gone_back "gone_back" = true) (k_gone_back : PySem.W.keepIn K (.ref f_gone_back) = true)
    (a_settled : PySem.W.nsIn K mainGlobals "settled" = some (some (.ref f_settled))) (l_settled : K.lookup f_settled = some ⟨oc_settled, od_settled, .func (PySem.W.fnOf "settled" "settled" (defArgs s_settled) (defBody s_settled) (defScope s_settled) .none kV_settled dc_settled pm_settled an_settled cd_settled ct_settled), sl_settled⟩) (c_settled : PySem.W.codeIn K cd_settled "settled" = true) (k_settled : PySem.W.keepIn K (.ref f_settled) = true)
    (a_solved : PySem.W.nsIn K mainGlobals "solved" = some (some (.ref f_solved))) (l_solved : K.lookup f_solved = some ⟨oc_solved, od_solved, .func (PySem.W.fnOf "solved" "solved" (defArgs s_solved) (defBody s_solved) (defScope s_solved) .none kV_solved dc_solved pm_solved an_solved cd_solved ct_solved), sl_solved⟩) (c_solved : PySem.W.codeIn K cd_solved "solved" = true) (k_solved : PySem.W.keepIn K (.ref f_solved) = true)
    (a_can_be : PySem.W.nsIn K mainGlobals "can_be" = some (some (.ref f_can_be))) (l_can_be : K.lookup f_can_be = some ⟨oc_can_be, od_can_be, .func (PySem.W.fnOf "can_be" "can_be" (defArgs s_can_be) (defBody s_can_be) (defScope s_can_be) .none kV_can_be dc_can_be pm_can_be an_can_be cd_can_be ct_can_be), sl_can_be⟩) (c_can_be : PySem.W.codeIn K cd_can_be "can_be" = true) (k_can_be : PySem.W.keepIn K (.ref f_can_be) = true)
    (a_lots_of : PySem.W.nsIn K mainGlobals "lots_of" = some (some (.ref f_lots_of))) (l_lots_of : K.lookup f_lots_of = some ⟨oc_lots_of, od_lots_of, .func (PySem.W.fnOf "lots_of" "lots_of" (defArgs s_lots_of) (defBody s_lots_of) (defScope s_lots_of) .none kV_lots_of dc_lots_of pm_lots_of an_lots_of cd_lots_of ct_lots_of), sl_lots_of⟩) (c_lots_of : PySem.W.codeIn K cd_lots_of "lots_of" = true) (k_lots_of : PySem.W.keepIn K (.ref f_lots_of) = true)
    (a_fewest_wrong : PySem.W.nsIn K mainGlobals "fewest_wrong" = some (some (.ref f_fewest_wrong))) (l_fewest_wrong : K.lookup f_fewest_wrong = some ⟨oc_fewest_wrong, od_fewest_wrong, .func (PySem.W.fnOf "fewest_wrong" "fewest_wrong" (defArgs s_fewest_wrong) (defBody s_fewest_wrong) (defScope s_fewest_wrong) .none kV_fewest_wrong dc_fewest_wrong pm_fewest_wrong an_fewest_wrong cd_fewest_wrong ct_fewest_wrong), sl_fewest_wrong⟩) (c_fewest_wrong : PySem.W.codeIn K cd_fewest_wrong "fewest_wrong" = true) (k_fewest_wrong : PySem.W.keepIn K (.ref f_fewest_wrong) = true)
    (a_how_many : PySem.W.nsIn K mainGlobals "how_many" = some (some (.ref f_how_many))) (l_how_many : K.lookup f_how_many = some ⟨oc_how_many, od_how_many, .func (PySem.W.fnOf "how_many" "how_many" (defArgs s_how_many) (defBody s_how_many) (defScope s_how_many) .none kV_how_many dc_how_many pm_how_many an_how_many cd_how_many ct_how_many), sl_how_many⟩) (c_how_many : PySem.W.codeIn K cd_how_many "how_many" = true) (k_how_many : PySem.W.keepIn K (.ref f_how_many) = true)
    (a__law_bag : PySem.W.nsIn K mainGlobals "_law_bag" = some (some (.ref f__law_bag))) (l__law_bag : K.lookup f__law_bag = some ⟨oc__law_bag, od__law_bag, .func (PySem.W.fnOf "_law_bag" "_law_bag" (defArgs s__law_bag) (defBody s__law_bag) (defScope s__law_bag) .none kV__law_bag dc__law_bag pm__law_bag an__law_bag cd__law_bag ct__law_bag), sl__law_bag⟩) (c__law_bag : PySem.W.codeIn K cd__law_bag "_law_bag" = true) (k__law_bag : PySem.W.keepIn K (.ref f__law_bag) = true)
    (a__law_take : PySem.W.nsIn K mainGlobals "_law_take" = some (some (.ref f__law_take))) (l__law_take : K.lookup f__law_take = some ⟨oc__law_take, od__law_take, .func (PySem.W.fnOf "_law_take" "_law_take" (defArgs s__law_take) (defBody s__law_take) (defScope s__law_take) .none kV__law_take dc__law_take pm__law_take an__law_take cd__law_take ct__law_take), sl__law_take⟩) (c__law_take : PySem.W.codeIn K cd__law_take "_law_take" = true) (k__law_take : PySem.W.keepIn K (.ref f__law_take) = true)
    (a__law_of : PySem.W.nsIn K mainGlobals "_law_of" = some (some (.ref f__law_of))) (l__law_of : K.lookup f__law_of = some ⟨oc__law_of, od__law_of, .func (PySem.W.fnOf "_law_of" "_law_of" (defArgs s__law_of) (defBody s__law_of) (defScope s__law_of) .none kV__law_of dc__law_of pm__law_of an__law_of cd__law_of ct__law_of), sl__law_of⟩) (c__law_of : PySem.W.codeIn K cd__law_of "_law_of" = true) (k__law_of : PySem.W.keepIn K (.ref f__law_of) = true)
    (a__law_book : PySem.W.nsIn K mainGlobals "_law_book" = some (some (.ref f__law_book))) (l__law_book : K.lookup f__law_book = some ⟨oc__law_book, od__law_book, .func (PySem.W.fnOf "_law_book" "_law_book" (defArgs s__law_book) (defBody s__law_book) (defScope s__law_book) .none kV__law_book dc__law_book pm__law_book an__law_book cd__law_book ct__law_book), sl__law_book⟩) (c__law_book : PySem.W.codeIn K cd__law_book "_law_book" = true) (k__law_book : PySem.W.keepIn K (.ref f__law_book) = true)
    (a__law_next : PySem.W.nsIn K mainGlobals "_law_next" = some (some (.ref f__law_next))) (l__law_next : K.lookup f__law_next = some ⟨oc__law_next, od__law_next, .func (PySem.W.fnOf "_law_next" "_law_next" (defArgs s__law_next) (defBody s__law_next) (defScope s__law_next) .none kV__law_next dc__law_next pm__law_next an__law_next cd__law_next ct__law_next), sl__law_next⟩) (c__law_next : PySem.W.codeIn K cd__law_next "_law_next" = true) (k__law_next : PySem.W.keepIn K (.ref f__law_next) = true)
    (a__law_a_story : PySem.W.nsIn K mainGlobals "_law_a_story" = some (some (.ref f__law_a_story))) (l__law_a_story : K.lookup f__law_a_story = some ⟨oc__law_a_story, od__law_a_story, .func (PySem.W.fnOf "_law_a_story" "_law_a_story" (defArgs s__law_a_story) (defBody s__law_a_story) (defScope s__law_a_story) .none kV__law_a_story dc__law_a_story pm__law_a_story an__law_a_story cd__law_a_story ct__law_a_story), sl__law_a_story⟩) (c__law_a_story : PySem.W.codeIn K cd__law_a_story "_law_a_story" = true) (k__law_a_story : PySem.W.keepIn K (.ref f__law_a_story) = true)
    (a__law_sight_of : PySem.W.nsIn K mainGlobals "_law_sight_of" = some (some (.ref f__law_sight_of))) (l__law_sight_of : K.lookup f__law_sight_of = some ⟨oc__law_sight_of, od__law_sight_of, .func (PySem.W.fnOf "_law_sight_of" "_law_sight_of" (defArgs s__law_sight_of) (defBody s__law_sight_of) (defScope s__law_sight_of) .none kV__law_sight_of dc__law_sight_of pm__law_sight_of an__law_sight_of cd__law_sight_of ct__law_sight_of), sl__law_sight_of⟩) (c__law_sight_of : PySem.W.codeIn K cd__law_sight_of "_law_sight_of" = true) (k__law_sight_of : PySem.W.keepIn K (.ref f__law_sight_of) = true)
    (a__law_sights : PySem.W.nsIn K mainGlobals "_law_sights" = some (some (.ref f__law_sights))) (l__law_sights : K.lookup f__law_sights = some ⟨oc__law_sights, od__law_sights, .func (PySem.W.fnOf "_law_sights" "_law_sights" (defArgs s__law_sights) (defBody s__law_sights) (defScope s__law_sights) .none kV__law_sights dc__law_sights pm__law_sights an__law_sights cd__law_sights ct__law_sights), sl__law_sights⟩) (c__law_sights : PySem.W.codeIn K cd__law_sights "_law_sights" = true) (k__law_sights : PySem.W.keepIn K (.ref f__law_sights) = true)
    (a__law_is_so : PySem.W.nsIn K mainGlobals "_law_is_so" = some (some (.ref f__law_is_so))) (l__law_is_so : K.lookup f__law_is_so = some ⟨oc__law_is_so, od__law_is_so, .func (PySem.W.fnOf "_law_is_so" "_law_is_so" (defArgs s__law_is_so) (defBody s__law_is_so) (defScope s__law_is_so) .none kV__law_is_so dc__law_is_so pm__law_is_so an__law_is_so cd__law_is_so ct__law_is_so), sl__law_is_so⟩) (c__law_is_so : PySem.W.codeIn K cd__law_is_so "_law_is_so" = true) (k__law_is_so : PySem.W.keepIn K (.ref f__law_is_so) = true)
    (a__law_stories : PySem.W.nsIn K mainGlobals "_law_stories" = some (some (.ref f__law_stories))) (l__law_stories : K.lookup f__law_stories = some ⟨oc__law_stories, od__law_stories, .func (PySem.W.fnOf "_law_stories" "_law_stories" (defArgs s__law_stories) (defBody s__law_stories) (defScope s__law_stories) .none kV__law_stories dc__law_stories pm__law_stories an__law_stories cd__law_stories ct__law_stories), sl__law_stories⟩) (c__law_stories : PySem.W.codeIn K cd__law_stories "_law_stories" = true) (k__law_stories : PySem.W.keepIn K (.ref f__law_stories) = true)
    (a__law_lots : PySem.W.nsIn K mainGlobals "_law_lots" = some (some (.ref f__law_lots))) (l__law_lots : K.lookup f__law_lots = some ⟨oc__law_lots, od__law_lots, .func (PySem.W.fnOf "_law_lots" "_law_lots" (defArgs s__law_lots) (defBody s__law_lots) (defScope s__law_lots) .none kV__law_lots dc__law_lots pm__law_lots an__law_lots cd__law_lots ct__law_lots), sl__law_lots⟩) (c__law_lots : PySem.W.codeIn K cd__law_lots "_law_lots" = true) (k__law_lots : PySem.W.keepIn K (.ref f__law_lots) = true)
    (a__law_wrong_due : PySem.W.nsIn K mainGlobals "_law_wrong_due" = some (some (.ref f__law_wrong_due))) (l__law_wrong_due : K.lookup f__law_wrong_due = some ⟨oc__law_wrong_due, od__law_wrong_due, .func (PySem.W.fnOf "_law_wrong_due" "_law_wrong_due" (defArgs s__law_wrong_due) (defBody s__law_wrong_due) (defScope s__law_wrong_due) .none kV__law_wrong_due dc__law_wrong_due pm__law_wrong_due an__law_wrong_due cd__law_wrong_due ct__law_wrong_due), sl__law_wrong_due⟩) (c__law_wrong_due : PySem.W.codeIn K cd__law_wrong_due "_law_wrong_due" = true) (k__law_wrong_due : PySem.W.keepIn K (.ref f__law_wrong_due) = true)
    (a_law : PySem.W.nsIn K mainGlobals "law" = some (some (.ref f_law))) (l_law : K.lookup f_law = some ⟨oc_law, od_law, .func (PySem.W.fnOf "law" "law" (defArgs s_law) (defBody s_law) (defScope s_law) .none kV_law dc_law pm_law an_law cd_law ct_law), sl_law⟩) (c_law : PySem.W.codeIn K cd_law "law" = true) (k_law : PySem.W.keepIn K (.ref f_law) = true)
    (v_NOUGHT : PySem.W.nsIn K mainGlobals "NOUGHT" = some (some (.int (-1) t_NOUGHT)))
    (z_len : PySem.W.nsIn K mainGlobals "len" = some none)
    (z_range : PySem.W.nsIn K mainGlobals "range" = some none)
    (z_max : PySem.W.nsIn K mainGlobals "max" = some none)
    (z_min : PySem.W.nsIn K mainGlobals "min" = some none)
    (z_sum : PySem.W.nsIn K mainGlobals "sum" = some none)
    (z_all : PySem.W.nsIn K mainGlobals "all" = some none)
    (z_sorted : PySem.W.nsIn K mainGlobals "sorted" = some none)
    (z_enumerate : PySem.W.nsIn K mainGlobals "enumerate" = some none)
    (z_tuple : PySem.W.nsIn K mainGlobals "tuple" = some none)
    (z_int : PySem.W.nsIn K mainGlobals "int" = some none)
    (z_dict : PySem.W.nsIn K mainGlobals "dict" = some none) :
    ∃ fd : FuncData, (∀ (s : Shared) (v : Value), BindsTo s fd ⟨[v], []⟩ [("script", v)]) ∧ ∀ base : Heap, K.In base → base.Ns mainGlobals mg → FnOk l.prog w K mg base CX0 8 fa fd ["script"] (LawSp K) := by
  have e := hfa.symm.trans (PySem.W.mg_of X G a_law)
  cases e
  have F_own_tick := fun_mk (st := s_own_tick) l_own_tick c_own_tick k_own_tick
  have n_own_tick := F_own_tick.binds (ps := ["book", "name"]) fun _ _ _ _ _ _ us hl => match us, hl with | [_, _], _ => rfl
  have F_laid_at := fun_mk (st := s_laid_at) l_laid_at c_laid_at k_laid_at
  have n_laid_at := F_laid_at.binds (ps := ["book"]) fun _ _ _ _ _ _ us hl => match us, hl with | [_], _ => rfl
  have F_behind := fun_mk (st := s_behind) l_behind c_behind k_behind
  have n_behind := F_behind.binds (ps := ["pile", "took", "name"]) fun _ _ _ _ _ _ us hl => match us, hl with | [_, _, _], _ => rfl
  have F_is_so := fun_mk (st := s_is_so) l_is_so c_is_so k_is_so
  have n_is_so := F_is_so.binds (ps := ["sight", "pile"]) fun _ _ _ _ _ _ us hl => match us, hl with | [_, _], _ => rfl
  have F_laid := fun_mk (st := s_laid) l_laid c_laid k_laid
  have n_laid := F_laid.binds (ps := ["book", "tick"]) fun _ _ _ _ _ _ us hl => match us, hl with | [_, _], _ => rfl
  have F_read_tick := fun_mk (st := s_read_tick) l_read_tick c_read_tick k_read_tick
  have n_read_tick := F_read_tick.binds (ps := ["book", "word", "tick"]) fun _ _ _ _ _ _ us hl => match us, hl with | [_, _, _], _ => rfl
  have F_read_fact := fun_mk (st := s_read_fact) l_read_fact c_read_fact k_read_fact
  have n_read_fact := F_read_fact.binds (ps := ["book", "sights", "fact"]) fun _ _ _ _ _ _ us hl => match us, hl with | [_, _, _], _ => rfl
  have F_facts_of_sight := fun_mk (st := s_facts_of_sight) l_facts_of_sight c_facts_of_sight k_facts_of_sight
  have n_facts_of_sight := F_facts_of_sight.binds (ps := ["book", "sights", "at"]) fun _ _ _ _ _ _ us hl => match us, hl with | [_, _, _], _ => rfl
  have F_facts_of := fun_mk (st := s_facts_of) l_facts_of c_facts_of k_facts_of
  have n_facts_of := F_facts_of.binds (ps := ["book", "sights"]) fun _ _ _ _ _ _ us hl => match us, hl with | [_, _], _ => rfl
  have F_gone_back := fun_mk (st := s_gone_back) l_gone_back c_gone_back k_gone_back
  have n_gone_back := F_gone_back.binds (ps := ["by", "last", "many"]) fun _ _ _ _ _ _ us hl => match us, hl with | [_, _, _], _ => rfl
  have F_settled := fun_mk (st := s_settled) l_settled c_settled k_settled
  have n_settled := F_settled.binds (ps := ["end", "says"]) fun _ _ _ _ _ _ us hl => match us, hl with | [_, _], _ => rfl
  have F_solved := fun_mk (st := s_solved) l_solved c_solved k_solved
  have n_solved := F_solved.binds (ps := ["book", "sights", "more"]) fun _ _ _ _ _ _ us hl => match us, hl with | [_, _, _], _ => rfl
  have F_can_be := fun_mk (st := s_can_be) l_can_be c_can_be k_can_be
  have n_can_be := F_can_be.binds (ps := ["book", "sights"]) fun _ _ _ _ _ _ us hl => match us, hl with | [_, _], _ => rfl
  have F_lots_of := fun_mk (st := s_lots_of) l_lots_of c_lots_of k_lots_of
  have n_lots_of := F_lots_of.binds (ps := ["many"]) fun _ _ _ _ _ _ us hl => match us, hl with | [_], _ => rfl
  have F_fewest_wrong := fun_mk (st := s_fewest_wrong) l_fewest_wrong c_fewest_wrong k_fewest_wrong
  have n_fewest_wrong := F_fewest_wrong.binds (ps := ["book", "sights"]) fun _ _ _ _ _ _ us hl => match us, hl with | [_, _], _ => rfl
  have F_how_many := fun_mk (st := s_how_many) l_how_many c_how_many k_how_many
  have n_how_many := F_how_many.binds (ps := ["book", "sights"]) fun _ _ _ _ _ _ us hl => match us, hl with | [_, _], _ => rfl
  have F__law_bag := fun_mk (st := s__law_bag) l__law_bag c__law_bag k__law_bag
  have n__law_bag := F__law_bag.binds (ps := ["script", "k"]) fun _ _ _ _ _ _ us hl => match us, hl with | [_, _], _ => rfl
  have F__law_take := fun_mk (st := s__law_take) l__law_take c__law_take k__law_take
  have n__law_take := F__law_take.binds (ps := ["bag", "count"]) fun _ _ _ _ _ _ us hl => match us, hl with | [_, _], _ => rfl
  have F__law_of := fun_mk (st := s__law_of) l__law_of c__law_of k__law_of
  have n__law_of := F__law_of.binds (ps := ["bag", "some"]) fun _ _ _ _ _ _ us hl => match us, hl with | [_, _], _ => rfl
  have F__law_book := fun_mk (st := s__law_book) l__law_book c__law_book k__law_book
  have n__law_book := F__law_book.binds (ps := ["bag", "most"]) fun _ _ _ _ _ _ us hl => match us, hl with | [_, _], _ => rfl
  have F__law_next := fun_mk (st := s__law_next) l__law_next c__law_next k__law_next
  have n__law_next := F__law_next.binds (ps := ["pile", "took", "name"]) fun _ _ _ _ _ _ us hl => match us, hl with | [_, _, _], _ => rfl
  have F__law_a_story := fun_mk (st := s__law_a_story) l__law_a_story c__law_a_story k__law_a_story
  have n__law_a_story := F__law_a_story.binds (ps := ["bag", "book"]) fun _ _ _ _ _ _ us hl => match us, hl with | [_, _], _ => rfl
  have F__law_sight_of := fun_mk (st := s__law_sight_of) l__law_sight_of c__law_sight_of k__law_sight_of
  have n__law_sight_of := F__law_sight_of.binds (ps := ["bag", "book", "piles"]) fun _ _ _ _ _ _ us hl => match us, hl with | [_, _, _], _ => rfl
  have F__law_sights := fun_mk (st := s__law_sights) l__law_sights c__law_sights k__law_sights
  have n__law_sights := F__law_sights.binds (ps := ["bag", "book", "most"]) fun _ _ _ _ _ _ us hl => match us, hl with | [_, _, _], _ => rfl
  have F__law_is_so := fun_mk (st := s__law_is_so) l__law_is_so c__law_is_so k__law_is_so
  have n__law_is_so := F__law_is_so.binds (ps := ["sight", "pile"]) fun _ _ _ _ _ _ us hl => match us, hl with | [_, _], _ => rfl
  have F__law_stories := fun_mk (st := s__law_stories) l__law_stories c__law_stories k__law_stories
  have n__law_stories := F__law_stories.binds (ps := ["book", "sights"]) fun _ _ _ _ _ _ us hl => match us, hl with | [_, _], _ => rfl
  have F__law_lots := fun_mk (st := s__law_lots) l__law_lots c__law_lots k__law_lots
  have n__law_lots := F__law_lots.binds (ps := ["many"]) fun _ _ _ _ _ _ us hl => match us, hl with | [_], _ => rfl
  have F__law_wrong_due := fun_mk (st := s__law_wrong_due) l__law_wrong_due c__law_wrong_due k__law_wrong_due
  have n__law_wrong_due := F__law_wrong_due.binds (ps := ["book", "sights"]) fun _ _ _ _ _ _ us hl => match us, hl with | [_, _], _ => rfl
  have F_law := fun_mk (st := s_law) l_law c_law k_law
  have n_law := F_law.binds (ps := ["script"]) fun _ _ _ _ _ _ us hl => match us, hl with | [_], _ => rfl
  exact ⟨PySem.W.fnOf "law" "law" (defArgs s_law) (defBody s_law) (defScope s_law) .none kV_law dc_law pm_law an_law cd_law ct_law, fun s v => .of_eq rfl, fun base _ _ => (ok_law ⟨f_own_tick, _, F_own_tick, PySem.W.mg_of X G a_own_tick, n_own_tick, f_laid_at, _, F_laid_at, PySem.W.mg_of X G a_laid_at, n_laid_at, f_behind, _, F_behind, PySem.W.mg_of X G a_behind, n_behind, f_is_so, _, F_is_so, PySem.W.mg_of X G a_is_so, n_is_so, f_laid, _, F_laid, PySem.W.mg_of X G a_laid, n_laid, f_read_tick, _, F_read_tick, PySem.W.mg_of X G a_read_tick, n_read_tick, f_read_fact, _, F_read_fact, PySem.W.mg_of X G a_read_fact, n_read_fact, f_facts_of_sight, _, F_facts_of_sight, PySem.W.mg_of X G a_facts_of_sight, n_facts_of_sight, f_facts_of, _, F_facts_of, PySem.W.mg_of X G a_facts_of, n_facts_of, f_gone_back, _, F_gone_back, PySem.W.mg_of X G a_gone_back, n_gone_back, f_settled, _, F_settled, PySem.W.mg_of X G a_settled, n_settled, f_solved, _, F_solved, PySem.W.mg_of X G a_solved, n_solved, f_can_be, _, F_can_be, PySem.W.mg_of X G a_can_be, n_can_be, f_lots_of, _, F_lots_of, PySem.W.mg_of X G a_lots_of, n_lots_of, f_fewest_wrong, _, F_fewest_wrong, PySem.W.mg_of X G a_fewest_wrong, n_fewest_wrong, f_how_many, _, F_how_many, PySem.W.mg_of X G a_how_many, n_how_many, f__law_bag, _, F__law_bag, PySem.W.mg_of X G a__law_bag, n__law_bag, f__law_take, _, F__law_take, PySem.W.mg_of X G a__law_take, n__law_take, f__law_of, _, F__law_of, PySem.W.mg_of X G a__law_of, n__law_of, f__law_book, _, F__law_book, PySem.W.mg_of X G a__law_book, n__law_book, f__law_next, _, F__law_next, PySem.W.mg_of X G a__law_next, n__law_next, f__law_a_story, _, F__law_a_story, PySem.W.mg_of X G a__law_a_story, n__law_a_story, f__law_sight_of, _, F__law_sight_of, PySem.W.mg_of X G a__law_sight_of, n__law_sight_of, f__law_sights, _, F__law_sights, PySem.W.mg_of X G a__law_sights, n__law_sights, f__law_is_so, _, F__law_is_so, PySem.W.mg_of X G a__law_is_so, n__law_is_so, f__law_stories, _, F__law_stories, PySem.W.mg_of X G a__law_stories, n__law_stories, f__law_lots, _, F__law_lots, PySem.W.mg_of X G a__law_lots, n__law_lots, f__law_wrong_due, _, F__law_wrong_due, PySem.W.mg_of X G a__law_wrong_due, n__law_wrong_due, fa, _, F_law, PySem.W.mg_of X G a_law, n_law, _, PySem.W.mg_of X G v_NOUGHT, ⟨_, rfl⟩, PySem.W.mg_none_of X G z_len, PySem.W.mg_none_of X G z_range, PySem.W.mg_none_of X G z_max, PySem.W.mg_none_of X G z_min, PySem.W.mg_none_of X G z_sum, PySem.W.mg_none_of X G z_all, PySem.W.mg_none_of X G z_sorted, PySem.W.mg_none_of X G z_enumerate, PySem.W.mg_none_of X G z_tuple, PySem.W.mg_none_of X G z_int, PySem.W.mg_none_of X G z_dict⟩ : FnOk l.prog w K mg base CX0 8 _ _ _ _)⟩
end T
open PySem PySem.W PyProof.Rows
set_option maxHeartbeats 0 in
theorem PySem.Challenge.cw_topseen_k06_whole_fewest_wrong_and_how_m_holds : PySem.Challenge.rw_topseen_k06_whole_fewest_wrong_and_how_m.Holds := by
  w_on; o_law; k_head; (case hw => w_witness2)
  k_fill
  refine L2.walk_of (l := PySem.Challenge.rw_topseen_k06_whole_fewest_wrong_and_how_m) (n := 63) (k := 8) (x := "script") (CX := fun _ => L2.CX0) (sp := fun w => T.LawSp _) rfl (by decide) rfl ⟨rfl, by decide, by decide⟩ (fun w h Y => PySem.W.kIn_of Y) ?F (fun _ _ a ns hl _ hS => ⟨a, ns, rfl, hS, hl, fun _ => rfl⟩) (fun _ _ _ _ _ h => h)
  case F =>
    intro w mg fa h KX G hmg
    refine' T.all_mk KX G hmg ?a_own_tick ?l_own_tick ?c_own_tick ?k_own_tick ?a_laid_at ?l_laid_at ?c_laid_at ?k_laid_at ?a_behind ?l_behind ?c_behind ?k_behind ?a_is_so ?l_is_so ?c_is_so ?k_is_so ?a_laid ?l_laid ?c_laid ?k_laid ?a_read_tick ?l_read_tick ?c_read_tick ?k_read_tick ?a_read_fact ?l_read_fact ?c_read_fact ?k_read_fact ?a_facts_of_sight ?l_facts_of_sight ?c_facts_of_sight ?k_facts_of_sight ?a_facts_of ?l_facts_of ?c_facts_of ?k_facts_of ?a_gone_back ?l_gone_back ?c_gone_back ?k_gone_back ?a_settled ?l_settled ?c_settled ?k_settled ?a_solved ?l_solved ?c_solved ?k_solved ?a_can_be ?l_can_be ?c_can_be ?k_can_be ?a_lots_of ?l_lots_of ?c_lots_of ?k_lots_of ?a_fewest_wrong ?l_fewest_wrong ?c_fewest_wrong ?k_fewest_wrong ?a_how_many ?l_how_many ?c_how_many ?k_how_many ?a__law_bag ?l__law_bag ?c__law_bag ?k__law_bag ?a__law_take ?l__law_take ?c__law_take ?k__law_take ?a__law_of ?l__law_of ?c__law_of ?k__law_of ?a__law_book ?l__law_book ?c__law_book ?k__law_book ?a__law_next ?l__law_next ?c__law_next ?k__law_next ?a__law_a_story ?l__law_a_story ?c__law_a_story ?k__law_a_story ?a__law_sight_of ?l__law_sight_of ?c__law_sight_of ?k__law_sight_of ?a__law_sights ?l__law_sights ?c__law_sights ?k__law_sights ?a__law_is_so ?l__law_is_so ?c__law_is_so ?k__law_is_so ?a__law_stories ?l__law_stories ?c__law_stories ?k__law_stories ?a__law_lots ?l__law_lots ?c__law_lots ?k__law_lots ?a__law_wrong_due ?l__law_wrong_due ?c__law_wrong_due ?k__law_wrong_due ?a_law ?l_law ?c_law ?k_law ?v_NOUGHT ?z_len ?z_range ?z_max ?z_min ?z_sum ?z_all ?z_sorted ?z_enumerate ?z_tuple ?z_int ?z_dict
    (case a_own_tick => k_is); (case l_own_tick => k_is); (case c_own_tick => k_is); (case k_own_tick => k_is); (case a_laid_at => k_is); (case l_laid_at => k_is)
    (case c_laid_at => k_is); (case k_laid_at => k_is); (case a_behind => k_is); (case l_behind => k_is); (case c_behind => k_is); (case k_behind => k_is)
    (case a_is_so => k_is); (case l_is_so => k_is); (case c_is_so => k_is); (case k_is_so => k_is); (case a_laid => k_is); (case l_laid => k_is)
    (case c_laid => k_is); (case k_laid => k_is); (case a_read_tick => k_is); (case l_read_tick => k_is); (case c_read_tick => k_is); (case k_read_tick => k_is)
    (case a_read_fact => k_is); (case l_read_fact => k_is); (case c_read_fact => k_is); (case k_read_fact => k_is); (case a_facts_of_sight => k_is); (case l_facts_of_sight => k_is)
    (case c_facts_of_sight => k_is); (case k_facts_of_sight => k_is); (case a_facts_of => k_is); (case l_facts_of => k_is); (case c_facts_of => k_is); (case k_facts_of => k_is)
    (case a_gone_back => k_is); (case l_gone_back => k_is); (case c_gone_back => k_is); (case k_gone_back => k_is); (case a_settled => k_is); (case l_settled => k_is)
    (case c_settled => k_is); (case k_settled => k_is); (case a_solved => k_is); (case l_solved => k_is); (case c_solved => k_is); (case k_solved => k_is)
    (case a_can_be => k_is); (case l_can_be => k_is); (case c_can_be => k_is); (case k_can_be => k_is); (case a_lots_of => k_is); (case l_lots_of => k_is)
    (case c_lots_of => k_is); (case k_lots_of => k_is); (case a_fewest_wrong => k_is); (case l_fewest_wrong => k_is); (case c_fewest_wrong => k_is); (case k_fewest_wrong => k_is)
    (case a_how_many => k_is); (case l_how_many => k_is); (case c_how_many => k_is); (case k_how_many => k_is); (case a__law_bag => k_is); (case l__law_bag => k_is)
    (case c__law_bag => k_is); (case k__law_bag => k_is); (case a__law_take => k_is); (case l__law_take => k_is); (case c__law_take => k_is); (case k__law_take => k_is)
    (case a__law_of => k_is); (case l__law_of => k_is); (case c__law_of => k_is); (case k__law_of => k_is); (case a__law_book => k_is); (case l__law_book => k_is)
    (case c__law_book => k_is); (case k__law_book => k_is); (case a__law_next => k_is); (case l__law_next => k_is); (case c__law_next => k_is); (case k__law_next => k_is)
    (case a__law_a_story => k_is); (case l__law_a_story => k_is); (case c__law_a_story => k_is); (case k__law_a_story => k_is); (case a__law_sight_of => k_is); (case l__law_sight_of => k_is)
    (case c__law_sight_of => k_is); (case k__law_sight_of => k_is); (case a__law_sights => k_is); (case l__law_sights => k_is); (case c__law_sights => k_is); (case k__law_sights => k_is)
    (case a__law_is_so => k_is); (case l__law_is_so => k_is); (case c__law_is_so => k_is); (case k__law_is_so => k_is); (case a__law_stories => k_is); (case l__law_stories => k_is)
    (case c__law_stories => k_is); (case k__law_stories => k_is); (case a__law_lots => k_is); (case l__law_lots => k_is); (case c__law_lots => k_is); (case k__law_lots => k_is)
    (case a__law_wrong_due => k_is); (case l__law_wrong_due => k_is); (case c__law_wrong_due => k_is); (case k__law_wrong_due => k_is); (case a_law => k_is); (case l_law => k_is)
    (case c_law => k_is); (case k_law => k_is); (case v_NOUGHT => k_is); (case z_len => k_is); (case z_range => k_is); (case z_max => k_is)
    (case z_min => k_is); (case z_sum => k_is); (case z_all => k_is); (case z_sorted => k_is); (case z_enumerate => k_is); (case z_tuple => k_is)
    (case z_int => k_is); (case z_dict => k_is)
