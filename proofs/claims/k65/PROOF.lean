import PyProof.Rows.All
import Wide.All
import OpenK.AllK
import Wide.FinOn
import HandS.ForMost
import HandS.Deep
import HandS.Wide
import HandS.Defaults
import HandS.MakeKwOnly
import HandS.TupAny
import PyProof.CollectIter
import PyProof.WalksMore
import HandS.NoneIn
import HandS.IsInst
import HandS.More
import HandS.RaiseMore
import HandS.TupLen
import HandS.Conv
import HandS.Flow
import HandS.Text
import HandS.Iter
import KE.SortData
import PyProof.ReprRoads
import PyProof.ReprDict
import HandS.DictEq
import KE.KDictDisplayH
import HandS.HeadEnd
import HandS.Head0
import HandS.Head1
import HandS.Head2
import HandS.HeadHook1
import HandS.HeadHook2
import KE.KStateDown
import PySem.Challenge.RW_plughall_k65_whole_never_oftener
set_option Elab.async false
set_option linter.all false
set_option maxRecDepth 100000
set_option maxHeartbeats 0
/-! Dl1: plain data, frozen heap, mutable objects; readings over plain data (lifted). -/
namespace Dl
open PySem L2

abbrev Frg := PySem.W.Frag
/-- plain data; ref: a thing that may change, or that is opaque -/
inductive Da where
  | non | bl (b : Bool) | int (i : Int) | str (x : Str) | tup (xs : List Da) | lst (xs : List Da) | dct (t : Bool) (kvs : List (Da × Da)) | ref (a : Addr)
  /-- a tuple of the module's own -/
  | kt (xs : List Da)
  /-- a list from outside -/
  | kl (xs : List Da)

def kD : Key → Da
  | .inl i => .int i
  | .inr x => .str x
def tD (ks : List Key) : Da := .tup (ks.map kD)

mutual
inductive DV (K : Frg) (F : Hp) : V → Da → Prop
  | non : DV K F .non .non
  | bl (b : Bool) : DV K F (.bl b) (.bl b)
  | int (i : Int) : DV K F (.int i) (.int i)
  | str (x : Str) : DV K F (.str x) (.str x)
  | tup {a : Addr} {xs : List V} {ds : List Da} : F a = some (.tup xs) → DVs K F xs ds → DV K F (.ref a) (.tup ds)
  | kt {a : Addr} {xs : List V} {ds : List Da} : SqT K (fun _ => none) a xs → DVs K F xs ds → DV K F (.ref a) (.kt ds)
  | kl {a : Addr} {xs : List V} {ds : List Da} : SqL K F a xs → DVs K F xs ds → DV K F (.ref a) (.kl ds)
  | lst {a : Addr} {xs : List V} {ds : List Da} : F a = some (.lst xs) → DVs K F xs ds → DV K F (.ref a) (.lst ds)
  | dK {a : Addr} {kvs : List (Key × V)} {ds : List Da} : F a = some (.dK kvs) → DVs K F (kvs.map (·.2)) ds → DV K F (.ref a) (.dct false (List.zip (kvs.map fun p => kD p.1) ds))
  | dT {a : Addr} {kvs : List (List Key × V)} {ds : List Da} : F a = some (.dT kvs) → DVs K F (kvs.map (·.2)) ds → DV K F (.ref a) (.dct true (List.zip (kvs.map fun p => tD p.1) ds))
  | ref (a : Addr) : DV K F (.ref a) (.ref a)
inductive DVs (K : Frg) (F : Hp) : List V → List Da → Prop
  | nil : DVs K F [] []
  | cons {v : V} {vs : List V} {d : Da} {ds : List Da} : DV K F v d → DVs K F vs ds → DVs K F (v :: vs) (d :: ds)
end

theorem rd_mono {F F' : Hp} {a : Addr} {u : HO} (e : Same F F') (h : Rd F a u) : Rd F' a u := by
  rcases h with h | ⟨o, h⟩
  · exact .inl (e _ _ h)
  · exact .inr ⟨o, e _ _ h⟩
theorem sqt_mono {K : Frg} {F F' : Hp} {a : Addr} {xs : List V} (e : Same F F') (h : SqT K F a xs) : SqT K F' a xs := by
  rcases h with h | h
  · exact .inl (rd_mono e h)
  · exact .inr h
mutual
theorem DV.mono {K : Frg} {F F' : Hp} (e : Same F F') : ∀ {v : V} {d : Da}, DV K F v d → DV K F' v d
  | _, _, .non => .non
  | _, _, .bl b => .bl b
  | _, _, .int i => .int i
  | _, _, .str x => .str x
  | _, _, .tup h hs => .tup (e _ _ h) (DVs.mono e hs)
  | _, _, .kt h hs => .kt h (DVs.mono e hs)
  | _, _, .kl h hs => .kl (e.seq h) (DVs.mono e hs)
  | _, _, .lst h hs => .lst (e _ _ h) (DVs.mono e hs)
  | _, _, .dK h hs => .dK (e _ _ h) (DVs.mono e hs)
  | _, _, .dT h hs => .dT (e _ _ h) (DVs.mono e hs)
  | _, _, .ref a => .ref a
theorem DVs.mono {K : Frg} {F F' : Hp} (e : Same F F') : ∀ {vs : List V} {ds : List Da}, DVs K F vs ds → DVs K F' vs ds
  | _, _, .nil => .nil
  | _, _, .cons h hs => .cons (DV.mono e h) (DVs.mono e hs)
end
section
variable {K : Frg} {F : Hp}
theorem DVs.length : ∀ {vs : List V} {ds : List Da}, DVs K F vs ds → vs.length = ds.length
  | _, _, .nil => rfl
  | _, _, .cons _ hs => congrArg (· + 1) (DVs.length hs)
theorem DVs.get : ∀ {vs : List V} {ds : List Da} {i : Nat} {v : V}, DVs K F vs ds → vs[i]? = some v → ∃ d, ds[i]? = some d ∧ DV K F v d
  | _, _, _, _, .nil, e => by simp at e
  | _, _, 0, _, .cons h _, e => by simp at e; subst e; exact ⟨_, rfl, h⟩
  | _, _, i + 1, v, .cons _ hs, e => by
    obtain ⟨d, h1, h2⟩ := DVs.get (i := i) (v := v) hs (by simpa using e)
    exact ⟨d, by simpa using h1, h2⟩
theorem DVs.get' : ∀ {vs : List V} {ds : List Da} {i : Nat} {d : Da}, DVs K F vs ds → ds[i]? = some d → ∃ v, vs[i]? = some v ∧ DV K F v d
  | _, _, _, _, .nil, e => by simp at e
  | _, _, 0, _, .cons h _, e => by simp at e; subst e; exact ⟨_, rfl, h⟩
  | _, _, i + 1, v, .cons _ hs, e => by
    obtain ⟨d, h1, h2⟩ := DVs.get' (i := i) (d := v) hs (by simpa using e)
    exact ⟨d, by simpa using h1, h2⟩
theorem DVs.append : ∀ {vs ws : List V} {ds es : List Da}, DVs K F vs ds → DVs K F ws es → DVs K F (vs ++ ws) (ds ++ es)
  | _, _, _, _, .nil, h => h
  | _, _, _, _, .cons a b, h => .cons a (DVs.append b h)
theorem DVs.take : ∀ {vs : List V} {ds : List Da} (n : Nat), DVs K F vs ds → DVs K F (vs.take n) (ds.take n)
  | _, _, 0, _ => .nil
  | _, _, _ + 1, .nil => .nil
  | _, _, n + 1, .cons a b => .cons a (DVs.take n b)
theorem DVs.drop : ∀ {vs : List V} {ds : List Da} (n : Nat), DVs K F vs ds → DVs K F (vs.drop n) (ds.drop n)
  | _, _, 0, h => h
  | _, _, _ + 1, .nil => .nil
  | _, _, n + 1, .cons _ b => DVs.drop n b
theorem DVs.reverse : ∀ {vs : List V} {ds : List Da}, DVs K F vs ds → DVs K F vs.reverse ds.reverse
  | _, _, .nil => .nil
  | _, _, .cons a b => by
    rw [List.reverse_cons, List.reverse_cons]
    exact DVs.append (DVs.reverse b) (.cons a .nil)
theorem DVs.set {v : V} {d : Da} (h : DV K F v d) : ∀ {vs : List V} {ds : List Da} (i : Nat), DVs K F vs ds → DVs K F (vs.set i v) (ds.set i d)
  | _, _, _, .nil => .nil
  | _, _, 0, .cons _ b => .cons h b
  | _, _, i + 1, .cons a b => .cons a (DVs.set h i b)
theorem DVs.dropLast : ∀ {vs : List V} {ds : List Da}, DVs K F vs ds → DVs K F vs.dropLast ds.dropLast := fun {vs ds} h => by
  rw [List.dropLast_eq_take, List.dropLast_eq_take, h.length]
  exact h.take _
theorem DVs.erase : ∀ {vs : List V} {ds : List Da} (i : Nat), DVs K F vs ds → DVs K F (vs.eraseIdx i) (ds.eraseIdx i)
  | _, _, _, .nil => .nil
  | _, _, 0, .cons _ b => b
  | _, _, i + 1, .cons a b => .cons a (DVs.erase i b)
theorem DVs.rep {vs : List V} {ds : List Da} (h : DVs K F vs ds) : ∀ n : Nat, DVs K F (List.flatten (List.replicate n vs)) (List.flatten (List.replicate n ds))
  | 0 => .nil
  | n + 1 => by
    rw [List.replicate_succ, List.replicate_succ, List.flatten_cons, List.flatten_cons]
    exact h.append (DVs.rep h n)
end

/-! ### what may change -/
inductive Mo where
  | lst (ds : List Da) | dK (kvs : List (Key × Da)) | dT (kvs : List (List Key × Da)) | ins (C : Addr) (fs : List (Str × Da)) | bag
  /-- a dict that is walked now: it may be read, not written -/
  | lkK (o : Obj) (ws : List (Key × V)) (kvs : List (Key × Da)) | lkT (o : Obj) (ws : List (List Key × V)) (kvs : List (List Key × Da))
abbrev Mu := Addr → Option Mo
def put (μ : Mu) (a : Addr) (m : Mo) : Mu := fun b => if b = a then some m else μ b
def del (μ : Mu) (a : Addr) : Mu := fun b => if b = a then none else μ b
theorem put_same {μ : Mu} {a : Addr} {m : Mo} : put μ a m a = some m := if_pos rfl
theorem put_ne {μ : Mu} {a b : Addr} {m : Mo} (h : b ≠ a) : put μ a m b = μ b := if_neg h
theorem del_same {μ : Mu} {a : Addr} : del μ a a = none := if_pos rfl
theorem del_ne {μ : Mu} {a b : Addr} (h : b ≠ a) : del μ a b = μ b := if_neg h
theorem put_put {μ : Mu} {a : Addr} {m n : Mo} : put (put μ a m) a n = put μ a n := by
  funext b; unfold put; split <;> rfl
theorem del_put {μ : Mu} {a : Addr} {m : Mo} (h : μ a = none) : del (put μ a m) a = μ := by
  funext b; unfold del put; split
  · rename_i e; rw [e, h]
  · rfl
theorem put_back {μ : Mu} {a : Addr} {m : Mo} (h : μ a = some m) : put μ a m = μ := by
  funext b; unfold put; split
  · rename_i e; rw [e, h]
  · rfl

def KDs {κ : Type} (K : Frg) (F : Hp) : List (κ × V) → List (κ × Da) → Prop := Paired fun p q => p.1 = q.1 ∧ DV K F p.2 q.2
theorem KDs.mono {κ : Type} {K : Frg} {F F' : Hp} (e : Same F F') {ws : List (κ × V)} {kvs : List (κ × Da)} (h : KDs K F ws kvs) : KDs K F' ws kvs := Paired.mapP h fun _ _ q => ⟨q.1, q.2.mono e⟩
/-- a bag of draws -/
def bagD (r s k : Int) (ns : List Int) : List Da := [.int r, .int s, .int k, .lst (ns.map Da.int)]
def BagOk (K : Frg) (F H : Hp) (a : Addr) : Prop := ∃ (r s k : Int) (ns : List Int) (xs : List V), H a = some (.lst xs) ∧ DVs K F xs (bagD r s k ns) ∧ 0 ≤ r ∧ 0 ≤ s ∧ 0 ≤ k ∧ ∀ n ∈ ns, 0 ≤ n
def MOk (K : Frg) (F H : Hp) (a : Addr) : Mo → Prop
  | .lst ds => ∃ xs, H a = some (.lst xs) ∧ DVs K F xs ds
  | .dK kvs => ∃ ws, H a = some (.dK ws) ∧ KDs K F ws kvs
  | .dT kvs => ∃ ws, H a = some (.dT ws) ∧ KDs K F ws kvs
  | .ins C fs => ∃ dx ws, H a = some (.ins C dx ws) ∧ KDs K F ws fs
  | .bag => BagOk K F H a
  | .lkK o ws kvs => H a = some (.frz o (.dK ws)) ∧ KDs K F ws kvs
  | .lkT o ws kvs => H a = some (.frz o (.dT ws)) ∧ KDs K F ws kvs
theorem MOk.move {K : Frg} {F F' H H' : Hp} {a : Addr} {m : Mo} (h : MOk K F H a m) (e : Same F F') (eh : H' a = H a) : MOk K F' H' a m := by
  cases m with
  | lst ds => obtain ⟨xs, h1, h2⟩ := h; exact ⟨xs, eh.trans h1, h2.mono e⟩
  | dK ds => obtain ⟨xs, h1, h2⟩ := h; exact ⟨xs, eh.trans h1, h2.mono e⟩
  | dT ds => obtain ⟨xs, h1, h2⟩ := h; exact ⟨xs, eh.trans h1, h2.mono e⟩
  | ins C ds => obtain ⟨dx, xs, h1, h2⟩ := h; exact ⟨dx, xs, eh.trans h1, h2.mono e⟩
  | bag => obtain ⟨r, s, k, ns, xs, h1, h2, h3, h4, h5, h6⟩ := h; exact ⟨r, s, k, ns, xs, eh.trans h1, h2.mono e, h3, h4, h5, h6⟩
  | lkK o ws kvs => exact ⟨eh.trans h.1, h.2.mono e⟩
  | lkT o ws kvs => exact ⟨eh.trans h.1, h.2.mono e⟩
theorem MOk.has {K : Frg} {F H : Hp} {a : Addr} {m : Mo} (h : MOk K F H a m) : ∃ o, H a = some o := by
  cases m with
  | lst ds => obtain ⟨xs, h1, _⟩ := h; exact ⟨_, h1⟩
  | dK ds => obtain ⟨xs, h1, _⟩ := h; exact ⟨_, h1⟩
  | dT ds => obtain ⟨xs, h1, _⟩ := h; exact ⟨_, h1⟩
  | ins C ds => obtain ⟨dx, xs, h1, _⟩ := h; exact ⟨_, h1⟩
  | bag => obtain ⟨r, s, k, ns, xs, h1, _⟩ := h; exact ⟨_, h1⟩
  | lkK o ws kvs => exact ⟨_, h.1⟩
  | lkT o ws kvs => exact ⟨_, h.1⟩
theorem MOk.notup {K : Frg} {F H : Hp} {a : Addr} {m : Mo} {xs : List V} (h : MOk K F H a m) (e : H a = some (.tup xs)) : False := by
  cases m with
  | lst ds => obtain ⟨xs, h1, _⟩ := h; rw [e] at h1; cases h1
  | dK ds => obtain ⟨xs, h1, _⟩ := h; rw [e] at h1; cases h1
  | dT ds => obtain ⟨xs, h1, _⟩ := h; rw [e] at h1; cases h1
  | ins C ds => obtain ⟨dx, xs, h1, _⟩ := h; rw [e] at h1; cases h1
  | bag => obtain ⟨r, s, k, ns, xs, h1, _⟩ := h; rw [e] at h1; cases h1
  | lkK o ws kvs => obtain ⟨h1, _⟩ := h; rw [e] at h1; cases h1
  | lkT o ws kvs => obtain ⟨h1, _⟩ := h; rw [e] at h1; cases h1

/-- the frozen part F, what may change μ, the heap H -/
structure Wd (K : Frg) (F : Hp) (μ : Mu) (H : Hp) : Prop where
  sub : Same F H
  chg : ∀ a m, μ a = some m → F a = none ∧ MOk K F H a m
section
variable {K : Frg} {F F' H H' : Hp} {μ μ' : Mu} {a p : Addr} {m m' : Mo} {o : HO}
theorem Wd.drop (W : Wd K F μ H) (h : ∀ a m, μ' a = some m → μ a = some m) : Wd K F μ' H := ⟨W.sub, fun a m e => W.chg a m (h a m e)⟩
theorem Wd.free (W : Wd K F μ H) (h : H p = none) : F p = none := W.sub.free h
theorem Wd.mnone (W : Wd K F μ H) (h : H p = none) : μ p = none := by
  cases e : μ p with
  | none => rfl
  | some m =>
    obtain ⟨o, q⟩ := (W.chg p m e).2.has
    rw [h] at q; cases q
theorem same_new (h : F p = none) : Same F (upd F p o) := fun b u e => by rw [upd_ne (ne_of_none e h)]; exact e
/-- a new frozen object -/
theorem Wd.froz (W : Wd K F μ H) (h : H p = none) : Wd K (upd F p o) μ (upd H p o) ∧ Same F (upd F p o) := by
  have hf := W.free h
  have hm := W.mnone h
  refine ⟨⟨fun b u e => ?_, fun b m e => ?_⟩, same_new hf⟩
  · by_cases hb : b = p
    · subst hb; rw [upd_same] at e ⊢; exact e
    · rw [upd_ne hb] at e ⊢; exact W.sub b u e
  · have hb : b ≠ p := fun q => by rw [q, hm] at e; cases e
    obtain ⟨h1, h2⟩ := W.chg b m e
    exact ⟨by rw [upd_ne hb]; exact h1, h2.move (same_new hf) (upd_ne hb)⟩
/-- an object that may change is laid or written -/
theorem Wd.write (W : Wd K F μ H) (h : F a = Option.none) (hm : MOk K F (upd H a o) a m) : Wd K F (put μ a m) (upd H a o) := by
  refine ⟨fun b u e => ?_, fun b n e => ?_⟩
  · rw [upd_ne (ne_of_none e h)]; exact W.sub b u e
  · by_cases hb : b = a
    · subst hb; rw [put_same] at e; cases e; exact ⟨h, hm⟩
    · rw [put_ne hb] at e
      obtain ⟨h1, h2⟩ := W.chg b n e
      exact ⟨h1, h2.move (Same.refl _) (upd_ne hb)⟩
theorem Wd.new (W : Wd K F μ H) (h : H p = Option.none) (hm : MOk K F (upd H p o) p m) : Wd K F (put μ p m) (upd H p o) := W.write (W.free h) hm
/-- a tuple that is there may be known -/
theorem Wd.see {xs : List V} (W : Wd K F μ H) (h : H p = some (.tup xs)) (hf : F p = Option.none) : Wd K (upd F p (.tup xs)) μ H ∧ Same F (upd F p (.tup xs)) := by
  refine ⟨⟨fun b u e => ?_, fun b m e => ?_⟩, same_new hf⟩
  · by_cases hb : b = p
    · subst hb; rw [upd_same] at e; cases e; exact h
    · rw [upd_ne hb] at e; exact W.sub b u e
  · have hb : b ≠ p := fun q => by subst q; exact (W.chg b m e).2.notup h
    obtain ⟨h1, h2⟩ := W.chg b m e
    exact ⟨by rw [upd_ne hb]; exact h1, h2.move (same_new hf) rfl⟩
/-- the same object, described otherwise -/
theorem Wd.same (W : Wd K F μ H) (h : F a = Option.none) (hm : MOk K F H a m) : Wd K F (put μ a m) H := by
  refine ⟨W.sub, fun b n e => ?_⟩
  by_cases hb : b = a
  · subst hb; rw [put_same] at e; cases e; exact ⟨h, hm⟩
  · rw [put_ne hb] at e; exact W.chg b n e
/-- from now on it stays as it is -/
theorem Wd.freeze (W : Wd K F μ H) (h : F a = Option.none) (ho : H a = some o) : Wd K (upd F a o) (del μ a) H ∧ Same F (upd F a o) := by
  refine ⟨⟨fun b u e => ?_, fun b n e => ?_⟩, same_new h⟩
  · by_cases hb : b = a
    · subst hb; rw [upd_same] at e; rw [ho]; exact e
    · rw [upd_ne hb] at e; exact W.sub b u e
  · have hb : b ≠ a := fun q => by rw [q, del_same] at e; cases e
    rw [del_ne hb] at e
    obtain ⟨h1, h2⟩ := W.chg b n e
    exact ⟨by rw [upd_ne hb]; exact h1, h2.move (same_new h) rfl⟩
end

/-! ### the names' values -/
abbrev Rho := List (Option Da)
def EnvR (K : Frg) (F : Hp) : L2.St → Rho → Prop
  | [], [] => True
  | s :: σ, r :: ρ => (∀ d, r = some d → ∃ v, s = some v ∧ DV K F v d) ∧ EnvR K F σ ρ
  | _, _ => False
section
variable {K : Frg} {F F' : Hp}
theorem EnvR.mono (e : Same F F') : ∀ {σ : L2.St} {ρ : Rho}, EnvR K F σ ρ → EnvR K F' σ ρ
  | [], [], _ => trivial
  | _ :: _, _ :: _, h => ⟨fun d q => let ⟨v, h1, h2⟩ := h.1 d q; ⟨v, h1, h2.mono e⟩, EnvR.mono e h.2⟩
  | [], _ :: _, h => h.elim
  | _ :: _, [], h => h.elim
theorem EnvR.length : ∀ {σ : L2.St} {ρ : Rho}, EnvR K F σ ρ → σ.length = ρ.length
  | [], [], _ => rfl
  | _ :: _, _ :: _, h => congrArg (· + 1) (EnvR.length h.2)
  | [], _ :: _, h => h.elim
  | _ :: _, [], h => h.elim
theorem EnvR.get : ∀ {σ : L2.St} {ρ : Rho} {i : Nat} {d : Da}, EnvR K F σ ρ → ρ[i]? = some (some d) → ∃ v, σ[i]? = some (some v) ∧ DV K F v d
  | [], [], _, _, _, e => by simp at e
  | s :: _, r :: _, 0, d, h, e => by
    have e' : r = some d := by simpa using e
    obtain ⟨v, h1, h2⟩ := h.1 d e'
    exact ⟨v, by simp [h1], h2⟩
  | _ :: _, _ :: _, i + 1, d, h, e => by
    obtain ⟨v, h1, h2⟩ := EnvR.get (i := i) (d := d) h.2 (by simpa using e)
    exact ⟨v, by simpa using h1, h2⟩
  | [], _ :: _, _, _, h, _ => h.elim
  | _ :: _, [], _, _, h, _ => h.elim
theorem EnvR.set {v : V} {d : Da} (hv : DV K F v d) : ∀ {σ : L2.St} {ρ : Rho} (i : Nat), EnvR K F σ ρ → EnvR K F (σ.set i (some v)) (ρ.set i (some d))
  | [], [], _, h => h
  | _ :: _, _ :: _, 0, h => ⟨fun d' q => by cases q; exact ⟨v, rfl, hv⟩, h.2⟩
  | _ :: _, _ :: _, i + 1, h => ⟨h.1, EnvR.set hv i h.2⟩
  | [], _ :: _, _, h => h.elim
  | _ :: _, [], _, h => h.elim
theorem EnvR.off : ∀ {σ : L2.St} {ρ : Rho} (i : Nat), EnvR K F σ ρ → EnvR K F (σ.set i none) (ρ.set i none)
  | [], [], _, h => h
  | _ :: _, _ :: _, 0, h => ⟨fun d' q => (nomatch q), h.2⟩
  | _ :: _, _ :: _, i + 1, h => ⟨h.1, EnvR.off i h.2⟩
  | [], _ :: _, _, h => h.elim
  | _ :: _, [], _, h => h.elim
def wipeR (ρ : Rho) : List Nat → Rho
  | [] => ρ
  | v :: vs => (wipeR ρ vs).set v none
theorem EnvR.wipe {σ : L2.St} {ρ : Rho} (h : EnvR K F σ ρ) : ∀ vs : List Nat, EnvR K F (L2.wipe σ vs) (wipeR ρ vs)
  | [] => h
  | v :: vs => EnvR.off v (EnvR.wipe h vs)
theorem EnvR.of_vals : ∀ {vs : List V} {ds : List Da} (n : Nat), DVs K F vs ds → EnvR K F (vs.map some ++ List.replicate n none) (ds.map some ++ List.replicate n none)
  | [], _, 0, .nil => trivial
  | [], _, n + 1, .nil => ⟨fun _ q => (nomatch q), EnvR.of_vals n .nil⟩
  | _ :: _, _, n, .cons h hs => ⟨fun d q => by cases q; exact ⟨_, rfl, h⟩, EnvR.of_vals n hs⟩
end
end Dl
/-! Dl2: lifted readings and the basic rules. -/
namespace Dl
open PySem L2

/-- one step of the world: what was frozen stays, what is known to nobody stays -/
structure Stp (K : Frg) (F : Hp) (μ : Mu) (H : Hp) (F' : Hp) (μ' : Mu) (H' : Hp) : Prop where
  same : Same F F'
  fram : ∀ a o, (∀ xs, o ≠ .tup xs) → H a = some o → F a = none → μ a = none → H' a = some o ∧ F' a = none ∧ μ' a = none
  wd : Wd K F' μ' H'
section
variable {K : Frg} {F F' F2 H H' H2 : Hp} {μ μ' μ2 : Mu}
theorem Stp.refl (W : Wd K F μ H) : Stp K F μ H F μ H := ⟨Same.refl F, fun _ _ _ h1 h2 h3 => ⟨h1, h2, h3⟩, W⟩
theorem Stp.trans (a : Stp K F μ H F' μ' H') (b : Stp K F' μ' H' F2 μ2 H2) : Stp K F μ H F2 μ2 H2 :=
  ⟨a.same.trans b.same, fun x o ht h1 h2 h3 => let ⟨q1, q2, q3⟩ := a.fram x o ht h1 h2 h3; b.fram x o ht q1 q2 q3, b.wd⟩
theorem Stp.froz {p : Addr} {o : HO} (W : Wd K F μ H) (h : H p = none) : Stp K F μ H (upd F p o) μ (upd H p o) :=
  ⟨(W.froz h).2, fun a u _ h1 h2 h3 => ⟨by rw [upd_ne (ne_of_none h1 h)]; exact h1, by rw [upd_ne (ne_of_none h1 h)]; exact h2, h3⟩, (W.froz h).1⟩
theorem Stp.new {p : Addr} {o : HO} {m : Mo} (W : Wd K F μ H) (h : H p = none) (hm : MOk K F (upd H p o) p m) : Stp K F μ H F (put μ p m) (upd H p o) :=
  ⟨Same.refl F, fun a u _ h1 h2 h3 => ⟨by rw [upd_ne (ne_of_none h1 h)]; exact h1, h2, by rw [put_ne (ne_of_none h1 h)]; exact h3⟩, W.new h hm⟩
theorem Stp.write {a : Addr} {o : HO} {m m' : Mo} (W : Wd K F μ H) (h : μ a = some m') (hm : MOk K F (upd H a o) a m) : Stp K F μ H F (put μ a m) (upd H a o) :=
  ⟨Same.refl F, fun b u _ h1 h2 h3 => by
    have ne : b ≠ a := fun q => by rw [q, h] at h3; cases h3
    exact ⟨by rw [upd_ne ne]; exact h1, h2, by rw [put_ne ne]; exact h3⟩, W.write (W.chg a m' h).1 hm⟩
theorem Stp.freeze {a : Addr} {o : HO} {m : Mo} (W : Wd K F μ H) (h : μ a = some m) (ho : H a = some o) : Stp K F μ H (upd F a o) (del μ a) H :=
  ⟨(W.freeze (W.chg a m h).1 ho).2, fun b u _ h1 h2 h3 => by
    have ne : b ≠ a := fun q => by rw [q, h] at h3; cases h3
    exact ⟨h1, by rw [upd_ne ne]; exact h2, by rw [del_ne ne]; exact h3⟩, (W.freeze (W.chg a m h).1 ho).1⟩
/-- a tuple that is there is known from now on -/
theorem Stp.see {p : Addr} {xs : List V} (W : Wd K F μ H) (h : H p = some (.tup xs)) : ∃ F', Stp K F μ H F' μ H ∧ F' p = some (.tup xs) := by
  cases e : F p with
  | some u =>
    have := W.sub _ _ e
    rw [h] at this
    cases this
    exact ⟨F, Stp.refl W, e⟩
  | none =>
    refine ⟨upd F p (.tup xs), ⟨(W.see h e).2, fun a u ht h1 h2 h3 => ⟨h1, ?_, h3⟩, (W.see h e).1⟩, upd_same⟩
    have ne : a ≠ p := fun q => by subst q; rw [h] at h1; cases h1; exact ht _ rfl
    rw [upd_ne ne]; exact h2
theorem Stp.drop (W : Wd K F μ H) (h : ∀ a m, μ' a = some m → μ a = some m) : Stp K F μ H F μ' H :=
  ⟨Same.refl F, fun a o _ h1 h2 h3 => ⟨h1, h2, by
    cases e : μ' a with
    | none => rfl
    | some m => rw [h a m e] at h3; cases h3⟩, W.drop h⟩
end

abbrev QD := Da → Mu → Prop
abbrev TE2 := Rho → Mu → QD → Prop
abbrev TT2 := Rho → Mu → (Bool → Mu → Prop) → Prop
abbrev TA2 := Rho → Mu → (List Da → Mu → Prop) → Prop
abbrev QS := Rho → Mu → Prop
structure Ends2 where
  nx : QS
  rt : QD
  bk : QS := fun _ _ => False
  ct : QS := fun _ _ => False
abbrev TS2 := Ends2 → Rho → Mu → Prop
abbrev R22 := Da → Da → Mu → QD → Prop
abbrev RC2 := List Da → Mu → QD → Prop

section
variable (K : Frg) (F : Hp) (μ : Mu) (H : Hp)
def Post (Q2 : QD) : VK := fun v H' => ∃ F' μ' d, Stp K F μ H F' μ' H' ∧ DV K F' v d ∧ Q2 d μ'
def PostT (Q2 : Bool → Mu → Prop) : Bool → Hp → Prop := fun b H' => ∃ F' μ', Stp K F μ H F' μ' H' ∧ Q2 b μ'
def PostA (Q2 : List Da → Mu → Prop) : List V → Hp → Prop := fun vs H' => ∃ F' μ' ds, Stp K F μ H F' μ' H' ∧ DVs K F' vs ds ∧ Q2 ds μ'
def PostS (Q2 : QS) : L2.St → Hp → Prop := fun σ' H' => ∃ F' μ' ρ', Stp K F μ H F' μ' H' ∧ EnvR K F' σ' ρ' ∧ Q2 ρ' μ'
structure EndsOk (D2 : Ends2) (D : Ends) : Prop where
  nx : ∀ σ' H', PostS K F μ H D2.nx σ' H' → D.nx σ' H'
  rt : ∀ v H', Post K F μ H D2.rt v H' → D.rt v H'
  bk : ∀ σ' H', PostS K F μ H D2.bk σ' H' → D.bk σ' H'
  ct : ∀ σ' H', PostS K F μ H D2.ct σ' H' → D.ct σ' H'
end
def LE (K : Frg) (t2 : TE2) : TE := fun σ H Q => ∃ F μ ρ Q2, Wd K F μ H ∧ EnvR K F σ ρ ∧ t2 ρ μ Q2 ∧ ∀ v H', Post K F μ H Q2 v H' → Q v H'
def LT (K : Frg) (t2 : TT2) : TT := fun σ H Q => ∃ F μ ρ Q2, Wd K F μ H ∧ EnvR K F σ ρ ∧ t2 ρ μ Q2 ∧ ∀ v H', PostT K F μ H Q2 v H' → Q v H'
def LA (K : Frg) (t2 : TA2) : TA := fun σ H Q => ∃ F μ ρ Q2, Wd K F μ H ∧ EnvR K F σ ρ ∧ t2 ρ μ Q2 ∧ ∀ v H', PostA K F μ H Q2 v H' → Q v H'
def LS (K : Frg) (t2 : TS2) : TS := fun D σ H => ∃ F μ ρ D2, Wd K F μ H ∧ EnvR K F σ ρ ∧ t2 D2 ρ μ ∧ EndsOk K F μ H D2 D
/-- operators by values -/
def LO (K : Frg) (r2 : R22) : R2 := fun x y H Q => ∃ F μ d e Q2, Wd K F μ H ∧ DV K F x d ∧ DV K F y e ∧ r2 d e μ Q2 ∧ ∀ v H', Post K F μ H Q2 v H' → Q v H'
def LU (K : Frg) (r2 : Da → Mu → QD → Prop) : V → Hp → VK → Prop := fun x H Q => ∃ F μ d Q2, Wd K F μ H ∧ DV K F x d ∧ r2 d μ Q2 ∧ ∀ v H', Post K F μ H Q2 v H' → Q v H'
def LC (K : Frg) (r2 : RC2) : List V → Hp → VK → Prop := fun vs H Q => ∃ F μ ds Q2, Wd K F μ H ∧ DVs K F vs ds ∧ r2 ds μ Q2 ∧ ∀ v H', Post K F μ H Q2 v H' → Q v H'
/-- a def's promise over plain data -/
def LF (K : Frg) (r2 : RC2) : Sp := fun vs H Q _ => LC K r2 vs H Q

section
variable {K : Frg} {F F' H H' : Hp} {μ μ' : Mu} {σ : L2.St} {ρ : Rho}
theorem EndsOk.step {D2 : Ends2} {D : Ends} (ok : EndsOk K F μ H D2 D) (S : Stp K F μ H F' μ' H') : EndsOk K F' μ' H' D2 D :=
  ⟨fun σ' H2 ⟨F2, μ2, ρ2, S2, q⟩ => ok.nx σ' H2 ⟨F2, μ2, ρ2, S.trans S2, q⟩, fun v H2 ⟨F2, μ2, d, S2, q⟩ => ok.rt v H2 ⟨F2, μ2, d, S.trans S2, q⟩,
   fun σ' H2 ⟨F2, μ2, ρ2, S2, q⟩ => ok.bk σ' H2 ⟨F2, μ2, ρ2, S.trans S2, q⟩, fun σ' H2 ⟨F2, μ2, ρ2, S2, q⟩ => ok.ct σ' H2 ⟨F2, μ2, ρ2, S.trans S2, q⟩⟩
theorem le_go {t2 : TE2} {R2 : QD} {R : VK} (W : Wd K F μ H) (E : EnvR K F σ ρ) (h : t2 ρ μ R2)
    (k : ∀ v H' F' μ' d, Stp K F μ H F' μ' H' → EnvR K F' σ ρ → DV K F' v d → R2 d μ' → R v H') : LE K t2 σ H R :=
  ⟨F, μ, ρ, R2, W, E, h, fun v H' ⟨F', μ', d, S, dv, q⟩ => k v H' F' μ' d S (E.mono S.same) dv q⟩
theorem lt_go {t2 : TT2} {R2 : Bool → Mu → Prop} {R : Bool → Hp → Prop} (W : Wd K F μ H) (E : EnvR K F σ ρ) (h : t2 ρ μ R2)
    (k : ∀ b H' F' μ', Stp K F μ H F' μ' H' → EnvR K F' σ ρ → R2 b μ' → R b H') : LT K t2 σ H R :=
  ⟨F, μ, ρ, R2, W, E, h, fun v H' ⟨F', μ', S, q⟩ => k v H' F' μ' S (E.mono S.same) q⟩
theorem la_go {t2 : TA2} {R2 : List Da → Mu → Prop} {R : List V → Hp → Prop} (W : Wd K F μ H) (E : EnvR K F σ ρ) (h : t2 ρ μ R2)
    (k : ∀ vs H' F' μ' ds, Stp K F μ H F' μ' H' → EnvR K F' σ ρ → DVs K F' vs ds → R2 ds μ' → R vs H') : LA K t2 σ H R :=
  ⟨F, μ, ρ, R2, W, E, h, fun v H' ⟨F', μ', d, S, dv, q⟩ => k v H' F' μ' d S (E.mono S.same) dv q⟩
theorem post_step {Q2 : QD} {v : V} {H2 : Hp} (S : Stp K F μ H F' μ' H') (h : Post K F' μ' H' Q2 v H2) : Post K F μ H Q2 v H2 :=
  let ⟨F2, μ2, d, S2, q⟩ := h; ⟨F2, μ2, d, S.trans S2, q⟩
theorem post_now {Q2 : QD} {v : V} {d : Da} (S : Stp K F μ H F' μ' H') (dv : DV K F' v d) (q : Q2 d μ') : Post K F μ H Q2 v H' := ⟨F', μ', d, S, dv, q⟩
end

theorem PE.imp {X : Cx} {e : Expr} {t t' : TE} (h : PE X e t) (i : ∀ σ H Q, t' σ H Q → t σ H Q) : PE X e t' := ⟨fun pins s σ H Q I q => h.run pins s σ H Q I (i σ H Q q)⟩
theorem PT.imp {X : Cx} {e : Expr} {t t' : TT} (h : PT X e t) (i : ∀ σ H Q, t' σ H Q → t σ H Q) : PT X e t' := ⟨fun pins s σ H Q I q => h.run pins s σ H Q I (i σ H Q q)⟩
theorem PW.imp {X : Cx} {e : Expr} {t t' : TT} (h : PW X e t) (i : ∀ σ H Q, t' σ H Q → t σ H Q) : PW X e t' := ⟨fun wh pins s σ H Q I q => h.run wh pins s σ H Q I (i σ H Q q)⟩
theorem PA.imp {X : Cx} {e : List Expr} {t t' : TA} (h : PA X e t) (i : ∀ σ H Q, t' σ H Q → t σ H Q) : PA X e t' := ⟨fun pos pins s σ H Q I q => h.run pos pins s σ H Q I (i σ H Q q)⟩
theorem PS.imp {X : Cx} {e : Stmt} {t t' : TS} (h : PS X e t) (i : ∀ D σ H, t' D σ H → t D σ H) : PS X e t' := ⟨fun pins s σ H D I q => h.run pins s σ H D I (i D σ H q)⟩
theorem PSs.imp {X : Cx} {e : List Stmt} {t t' : TS} (h : PSs X e t) (i : ∀ D σ H, t' D σ H → t D σ H) : PSs X e t' := ⟨fun pins s σ H D I q => h.run pins s σ H D I (i D σ H q)⟩
theorem PG.imp {X : Cx} {e : Expr} {t t' : TG} (h : PG X e t) (i : ∀ v σ H Q, t' v σ H Q → t v σ H Q) : PG X e t' := ⟨fun pins s σ H v u Q I r q => h.run pins s σ H v u Q I r (i v σ H Q q)⟩
theorem PGs.imp {X : Cx} {e : List Expr} {t t' : TGs} (h : PGs X e t) (i : ∀ v σ H Q, t' v σ H Q → t v σ H Q) : PGs X e t' := ⟨fun pins s σ H v u Q I r q => h.run pins s σ H v u Q I r (i v σ H Q q)⟩
theorem PTs.imp {X : Cx} {e : List Expr} {t t' : TT} (h : PTs X e t) (i : ∀ σ H Q, t' σ H Q → t σ H Q) : PTs X e t' := ⟨fun pins s σ H Q I q => h.run pins s σ H Q I (i σ H Q q)⟩

abbrev PE2 (X : Cx) (e : Expr) (t : TE2) := PE X e (LE X.K t)
abbrev PT2 (X : Cx) (e : Expr) (t : TT2) := PT X e (LT X.K t)
abbrev PW2 (X : Cx) (e : Expr) (t : TT2) := PW X e (LT X.K t)
abbrev PA2 (X : Cx) (e : List Expr) (t : TA2) := PA X e (LA X.K t)
abbrev PS2 (X : Cx) (e : Stmt) (t : TS2) := PS X e (LS X.K t)
abbrev PSs2 (X : Cx) (e : List Stmt) (t : TS2) := PSs X e (LS X.K t)

section
variable {X : Cx} {a b c e o : Expr} {es : List Expr} {pos : Pos} {ta tb te : TE2} {tt tu : TT2} {tas : TA2}
/-! ### names, constants -/
@[reducible] def dVar (i : Nat) : TE2 := fun ρ μ Q => ∃ d, ρ[i]? = some (some d) ∧ Q d μ
@[reducible] def dC (d : Da) : TE2 := fun _ μ Q => Q d μ
theorem d_var {i : Nat} (h : PE X e (tVar i)) : PE2 X e (dVar i) := PE.imp h fun σ H Q ⟨F, μ, ρ, Q2, W, E, ⟨d, h1, h2⟩, k⟩ => by
  obtain ⟨v, hv, dv⟩ := E.get h1
  exact ⟨v, hv, k v H ⟨F, μ, d, Stp.refl W, dv, h2⟩⟩
theorem d_c {v : V} {d : Da} (h : PE X e (tC v)) (hd : ∀ K F, DV K F v d) : PE2 X e (dC d) := PE.imp h fun σ H Q ⟨F, μ, ρ, Q2, W, E, h2, k⟩ => k v H ⟨F, μ, d, Stp.refl W, hd _ _, h2⟩
theorem d_int {i j} : PE2 X (.Constant (.int i) j pos) (dC (.int i)) := d_c pe_int fun _ _ => .int i
theorem d_bl {b j} : PE2 X (.Constant (.bool b) j pos) (dC (.bl b)) := d_c pe_bl fun _ _ => .bl b
theorem d_non {j} : PE2 X (.Constant .none j pos) (dC .non) := d_c pe_non fun _ _ => .non
theorem d_str {x j} : PE2 X (.Constant (.str x) j pos) (dC (.str x)) := d_c pe_str fun _ _ => .str x
/-! ### operators -/
@[reducible] def dOp (r : R22) (ta tb : TE2) : TE2 := fun ρ μ Q => ta ρ μ fun d μ1 => tb ρ μ1 fun e μ2 => r d e μ2 Q
@[reducible] def dUn (r : Da → Mu → QD → Prop) (ta : TE2) : TE2 := fun ρ μ Q => ta ρ μ fun d μ1 => r d μ1 Q
theorem op_lift {r : R22} {σ : L2.St} {H : Hp} {Q : VK} {K : Frg} (h : LE K (dOp r ta tb) σ H Q) : tOp (LO K r) (LE K ta) (LE K tb) σ H Q := by
  obtain ⟨F, μ, ρ, Q2, W, E, h, k⟩ := h
  refine le_go W E h fun v H1 F1 μ1 d S1 E1 dv q1 => le_go S1.wd E1 q1 fun u H2 F2 μ2 e S2 E2 du q2 => ?_
  exact ⟨F2, μ2, d, e, Q2, S2.wd, dv.mono S2.same, du, q2, fun w H3 p => k w H3 (post_step (S1.trans S2) p)⟩
theorem d_op {op : Operator} {r : R22} (ho : OpR X (binaryOp op) (LO X.K r)) (ha : PE2 X a ta) (hb : PE2 X b tb) : PE2 X (.BinOp a op b pos) (dOp r ta tb) :=
  PE.imp (pe_op ho ha hb) fun _ _ _ => op_lift
theorem d_un {op : UnaryOp} {r : Da → Mu → QD → Prop} (ho : UnR X (unaryOp op) (LU X.K r)) (ha : PE2 X a ta) : PE2 X (.UnaryOp op a pos) (dUn r ta) :=
  PE.imp (pe_un ho ha) fun σ H Q ⟨F, μ, ρ, Q2, W, E, h, k⟩ => le_go W E h fun v H1 F1 μ1 d S1 E1 dv q1 => ⟨F1, μ1, d, Q2, S1.wd, dv, q1, fun w H3 p => k w H3 (post_step S1 p)⟩
theorem d_cmp {op : CmpOp} {r : R22} (ho : OpR X (compareOp op) (LO X.K r)) (ha : PE2 X a ta) (hb : PE2 X b tb) (hm : behindInMarks op b = false := by first | exact nobehind _ (by decide) (by decide) | rfl) : PE2 X (.Compare a [op] [b] pos) (dOp r ta tb) :=
  PE.imp (pe_cmpR ho ha hb hm) fun _ _ _ => op_lift
/-- a value that is a truth, as a test -/
@[reducible] def dB (t : TE2) : TT2 := fun ρ μ Q => t ρ μ fun d μ1 => ∃ k, d = .bl k ∧ Q k μ1
theorem dv_bl {K : Frg} {F : Hp} {v : V} {k : Bool} (h : DV K F v (.bl k)) : v = .bl k := by cases h; rfl
theorem dv_int {K : Frg} {F : Hp} {v : V} {k : Int} (h : DV K F v (.int k)) : v = .int k := by cases h; rfl
theorem dv_str {K : Frg} {F : Hp} {v : V} {k : Str} (h : DV K F v (.str k)) : v = .str k := by cases h; rfl
theorem dv_non {K : Frg} {F : Hp} {v : V} (h : DV K F v .non) : v = .non := by cases h; rfl
theorem dv_ref {K : Frg} {F : Hp} {v : V} {p : Addr} (h : DV K F v (.ref p)) : v = .ref p := by cases h; rfl
theorem dv_tup {K : Frg} {F : Hp} {v : V} {ds : List Da} (h : DV K F v (.tup ds)) : ∃ p xs, v = .ref p ∧ F p = some (.tup xs) ∧ DVs K F xs ds := by
  cases h with
  | tup h1 h2 => exact ⟨_, _, rfl, h1, h2⟩
theorem dv_lst {K : Frg} {F : Hp} {v : V} {ds : List Da} (h : DV K F v (.lst ds)) : ∃ p xs, v = .ref p ∧ F p = some (.lst xs) ∧ DVs K F xs ds := by
  cases h with
  | lst h1 h2 => exact ⟨_, _, rfl, h1, h2⟩
theorem d_cmpT {op : CmpOp} {r : R22} (ho : OpR X (compareOp op) (LO X.K r)) (ha : PE2 X a ta) (hb : PE2 X b tb) (hm : behindInMarks op b = false := by first | exact nobehind _ (by decide) (by decide) | rfl) : PT2 X (.Compare a [op] [b] pos) (dB (dOp r ta tb)) :=
  PT.imp (pt_cmpR ho ha hb hm) fun σ H Q ⟨F, μ, ρ, Q2, W, E, h, k⟩ => op_lift ⟨F, μ, ρ, _, W, E, h, fun v H' ⟨F', μ', d, S, dv, j, ej, q⟩ => by
    subst ej
    obtain rfl := dv_bl dv
    exact ⟨j, rfl, k j H' ⟨F', μ', S, q⟩⟩⟩
theorem d_val (h : PE2 X e te) (he : ∀ whole, isTrue e X.env whole = (do let v ← whole; standAt e.pos; holding [v] (truthy v)) := by intro _; rfl) : PT2 X e (dB te) :=
  PT.imp (pt_val h he) fun σ H Q ⟨F, μ, ρ, Q2, W, E, h, k⟩ => ⟨F, μ, ρ, _, W, E, h, fun v H' ⟨F', μ', d, S, dv, j, ej, q⟩ => by
    subst ej
    obtain rfl := dv_bl dv
    exact ⟨j, rfl, k j H' ⟨F', μ', S, q⟩⟩⟩
/-! ### and, or, not, if -/
@[reducible] def dAnd (t u : TT2) : TT2 := fun ρ μ Q => t ρ μ fun c μ1 => if c = true then u ρ μ1 Q else Q false μ1
@[reducible] def dOr (t u : TT2) : TT2 := fun ρ μ Q => t ρ μ fun c μ1 => if c = true then Q true μ1 else u ρ μ1 Q
@[reducible] def dNot (t : TT2) : TT2 := fun ρ μ Q => t ρ μ fun c μ1 => Q (!c) μ1
@[reducible] def dAndV (ta tb : TE2) : TE2 := fun ρ μ Q => ta ρ μ fun x μ1 => ∃ c, x = .bl c ∧ if c = true then tb ρ μ1 Q else Q (.bl false) μ1
@[reducible] def dOrV (ta tb : TE2) : TE2 := fun ρ μ Q => ta ρ μ fun x μ1 => ∃ c, x = .bl c ∧ if c = true then Q (.bl true) μ1 else tb ρ μ1 Q
@[reducible] def dNotV (ta : TE2) : TE2 := fun ρ μ Q => ta ρ μ fun x μ1 => ∃ c, x = .bl c ∧ Q (.bl (!c)) μ1
@[reducible] def dIf (t : TT2) (ta tb : TE2) : TE2 := fun ρ μ Q => t ρ μ fun c μ1 => if c = true then ta ρ μ1 Q else tb ρ μ1 Q
variable {rest : List Expr}
theorem d_and1 (ha : PT2 X a tt) : PW2 X (.BoolOp .And [a] pos) tt := pw_and1 ha
theorem d_or1 (ha : PT2 X a tt) : PW2 X (.BoolOp .Or [a] pos) tt := pw_or1 ha
theorem d_andT (ha : PT2 X a tt) (hb : PW2 X (.BoolOp .And (b :: rest) pos) tu) : PW2 X (.BoolOp .And (a :: b :: rest) pos) (dAnd tt tu) :=
  PW.imp (pw_and ha hb) fun σ H Q ⟨F, μ, ρ, Q2, W, E, h, k⟩ => lt_go W E h fun c H1 F1 μ1 S1 E1 q1 => by
    cases c with
    | true => exact ⟨F1, μ1, ρ, Q2, S1.wd, E1, q1, fun b H' ⟨F', μ', S, q⟩ => k b H' ⟨F', μ', S1.trans S, q⟩⟩
    | false => exact k false H1 ⟨F1, μ1, S1, q1⟩
theorem d_orT (ha : PT2 X a tt) (hb : PW2 X (.BoolOp .Or (b :: rest) pos) tu) : PW2 X (.BoolOp .Or (a :: b :: rest) pos) (dOr tt tu) :=
  PW.imp (pw_or ha hb) fun σ H Q ⟨F, μ, ρ, Q2, W, E, h, k⟩ => lt_go W E h fun c H1 F1 μ1 S1 E1 q1 => by
    cases c with
    | false => exact ⟨F1, μ1, ρ, Q2, S1.wd, E1, q1, fun b H' ⟨F', μ', S, q⟩ => k b H' ⟨F', μ', S1.trans S, q⟩⟩
    | true => exact k true H1 ⟨F1, μ1, S1, q1⟩
theorem d_notT (ha : PT2 X a tt) : PT2 X (.UnaryOp .Not a pos) (dNot tt) :=
  PT.imp (pt_not ha) fun σ H Q ⟨F, μ, ρ, Q2, W, E, h, k⟩ => lt_go W E h fun c H1 F1 μ1 S1 E1 q1 => k (!c) H1 ⟨F1, μ1, S1, q1⟩
theorem d_one {op} (h : PE2 X a ta) : PE2 X (.BoolOp op [a] pos) ta := pe_one h
theorem d_and (ha : PE2 X a ta) (hb : PE2 X (.BoolOp .And (b :: rest) pos) tb) : PE2 X (.BoolOp .And (a :: b :: rest) pos) (dAndV ta tb) :=
  PE.imp (pe_and ha hb) fun σ H Q ⟨F, μ, ρ, Q2, W, E, h, k⟩ => le_go W E h fun v H1 F1 μ1 d S1 E1 dv ⟨c, ec, q1⟩ => by
    subst ec
    obtain rfl := dv_bl dv
    refine ⟨c, rfl, ?_⟩
    cases c with
    | true => exact ⟨F1, μ1, ρ, Q2, S1.wd, E1, q1, fun b H' p => k b H' (post_step S1 p)⟩
    | false => exact k _ H1 ⟨F1, μ1, _, S1, .bl false, q1⟩
theorem d_or (ha : PE2 X a ta) (hb : PE2 X (.BoolOp .Or (b :: rest) pos) tb) : PE2 X (.BoolOp .Or (a :: b :: rest) pos) (dOrV ta tb) :=
  PE.imp (pe_or ha hb) fun σ H Q ⟨F, μ, ρ, Q2, W, E, h, k⟩ => le_go W E h fun v H1 F1 μ1 d S1 E1 dv ⟨c, ec, q1⟩ => by
    subst ec
    obtain rfl := dv_bl dv
    refine ⟨c, rfl, ?_⟩
    cases c with
    | false => exact ⟨F1, μ1, ρ, Q2, S1.wd, E1, q1, fun b H' p => k b H' (post_step S1 p)⟩
    | true => exact k _ H1 ⟨F1, μ1, _, S1, .bl true, q1⟩
theorem d_not (ha : PE2 X a ta) : PE2 X (.UnaryOp .Not a pos) (dNotV ta) :=
  PE.imp (pe_not ha) fun σ H Q ⟨F, μ, ρ, Q2, W, E, h, k⟩ => le_go W E h fun v H1 F1 μ1 d S1 E1 dv ⟨c, ec, q1⟩ => by
    subst ec
    obtain rfl := dv_bl dv
    exact ⟨c, rfl, k _ H1 ⟨F1, μ1, _, S1, .bl _, q1⟩⟩
theorem d_ifx (hc : PT2 X c tt) (ha : PE2 X a ta) (hb : PE2 X b tb) : PE2 X (.IfExp c a b pos) (dIf tt ta tb) :=
  PE.imp (pe_ifExp hc ha hb) fun σ H Q ⟨F, μ, ρ, Q2, W, E, h, k⟩ => lt_go W E h fun c H1 F1 μ1 S1 E1 q1 => by
    cases c with
    | true => exact ⟨F1, μ1, ρ, Q2, S1.wd, E1, q1, fun b H' p => k b H' (post_step S1 p)⟩
    | false => exact ⟨F1, μ1, ρ, Q2, S1.wd, E1, q1, fun b H' p => k b H' (post_step S1 p)⟩
/-! ### arguments, displays -/
@[reducible] def dNil : TA2 := fun _ μ Q => Q [] μ
@[reducible] def dCons (ta : TE2) (tr : TA2) : TA2 := fun ρ μ Q => ta ρ μ fun x μ1 => tr ρ μ1 fun xs μ2 => Q (x :: xs) μ2
theorem da_nil : PA2 X [] dNil := PA.imp pa_nil fun σ H Q ⟨F, μ, ρ, Q2, W, E, h, k⟩ => k [] H ⟨F, μ, [], Stp.refl W, .nil, h⟩
theorem da_cons (ha : PE2 X e te) (hr : PA2 X es tas) (hs : starEach (e :: es) X.env = (false, eval e X.env) :: starEach es X.env := by rfl) : PA2 X (e :: es) (dCons te tas) :=
  PA.imp (pa_cons ha hr hs) fun σ H Q ⟨F, μ, ρ, Q2, W, E, h, k⟩ => le_go W E h fun v H1 F1 μ1 d S1 E1 dv q1 => la_go S1.wd E1 q1 fun vs H2 F2 μ2 ds S2 E2 dvs q2 =>
    k (v :: vs) H2 ⟨F2, μ2, d :: ds, S1.trans S2, .cons (dv.mono S2.same) dvs, q2⟩
@[reducible] def dTup (t : TA2) : TE2 := fun ρ μ Q => t ρ μ fun ds μ1 => ds.length ≤ sizeLine ∧ Q (.tup ds) μ1
/-- a list that stays | one that may change -/
@[reducible] def dLst (t : TA2) : TE2 := fun ρ μ Q => t ρ μ fun ds μ1 => ds.length ≤ sizeLine ∧ Q (.lst ds) μ1
@[reducible] def dLstM (t : TA2) : TE2 := fun ρ μ Q => t ρ μ fun ds μ1 => ds.length ≤ sizeLine ∧ ∀ p, μ1 p = none → Q (.ref p) (put μ1 p (.lst ds))
theorem d_tup {x1} (h : PA2 X es tas) : PE2 X (.Tuple es x1 pos) (dTup tas) :=
  PE.imp (pe_tup h) fun σ H Q ⟨F, μ, ρ, Q2, W, E, h, k⟩ => la_go W E h fun vs H1 F1 μ1 ds S1 E1 dvs ⟨hz, q1⟩ =>
    ⟨by rw [dvs.length]; exact hz, fun p hp => k _ _ ⟨_, _, .tup ds, S1.trans (Stp.froz S1.wd hp),   .tup upd_same (dvs.mono (same_new (S1.wd.free hp))), q1⟩⟩
theorem d_lst (h : PA2 X es tas) : PE2 X (.List es pos) (dLst tas) :=
  PE.imp (pe_lst h) fun σ H Q ⟨F, μ, ρ, Q2, W, E, h, k⟩ => la_go W E h fun vs H1 F1 μ1 ds S1 E1 dvs ⟨hz, q1⟩ =>
    ⟨by rw [dvs.length]; exact hz, fun p hp => k _ _ ⟨_, _, .lst ds, S1.trans (Stp.froz S1.wd hp), .lst upd_same (dvs.mono (same_new (S1.wd.free hp))), q1⟩⟩
theorem d_lstM (h : PA2 X es tas) : PE2 X (.List es pos) (dLstM tas) :=
  PE.imp (pe_lst h) fun σ H Q ⟨F, μ, ρ, Q2, W, E, h, k⟩ => la_go W E h fun vs H1 F1 μ1 ds S1 E1 dvs ⟨hz, q1⟩ =>
    ⟨by rw [dvs.length]; exact hz, fun p hp => k _ _ ⟨_, _, .ref p, S1.trans (Stp.new (m := .lst ds) S1.wd hp ⟨vs, upd_same, dvs⟩), .ref p, q1 p (S1.wd.mnone hp)⟩⟩
end
end Dl
/-! Dl3: targets, statements, loops, comprehensions over plain data. -/
namespace Dl
open PySem L2

abbrev TG2 := Da → Rho → Mu → QS → Prop
abbrev TGs2 := List Da → Rho → Mu → QS → Prop
def LG (K : Frg) (g2 : TG2) : TG := fun v σ H Q => ∃ F μ ρ d Q2, Wd K F μ H ∧ EnvR K F σ ρ ∧ DV K F v d ∧ g2 d ρ μ Q2 ∧ ∀ σ' H', PostS K F μ H Q2 σ' H' → Q σ' H'
def LGs (K : Frg) (g2 : TGs2) : TGs := fun vs σ H Q => ∃ F μ ρ ds Q2, Wd K F μ H ∧ EnvR K F σ ρ ∧ DVs K F vs ds ∧ g2 ds ρ μ Q2 ∧ ∀ σ' H', PostS K F μ H Q2 σ' H' → Q σ' H'
abbrev PG2 (X : Cx) (e : Expr) (t : TG2) := PG X e (LG X.K t)
abbrev PGs2 (X : Cx) (e : List Expr) (t : TGs2) := PGs X e (LGs X.K t)
abbrev PTs2 (X : Cx) (e : List Expr) (t : TT2) := PTs X e (LT X.K t)

section
variable {K : Frg} {F F' H H' : Hp} {μ μ' : Mu} {σ : L2.St} {ρ : Rho}
theorem postS_step {Q2 : QS} {σ' : L2.St} {H2 : Hp} (S : Stp K F μ H F' μ' H') (h : PostS K F' μ' H' Q2 σ' H2) : PostS K F μ H Q2 σ' H2 :=
  let ⟨F2, μ2, d, S2, q⟩ := h; ⟨F2, μ2, d, S.trans S2, q⟩
end
section
variable {X : Cx} {a b c e o : Expr} {es : List Expr} {pos : Pos} {ta tb te : TE2} {tt tu : TT2} {tas : TA2}
@[reducible] def gN (i : Nat) : TG2 := fun d ρ μ Q => Q (ρ.set i (some d)) μ
theorem dg_name {i : Nat} (h : PG X e (gName i)) : PG2 X e (gN i) := PG.imp h fun v σ H Q ⟨F, μ, ρ, d, Q2, W, E, dv, q, k⟩ => k _ H ⟨F, μ, ρ.set i (some d), Stp.refl W, E.set dv i, q⟩
@[reducible] def gNil2 : TGs2 := fun ds ρ μ Q => ds = [] ∧ Q ρ μ
@[reducible] def gCons2 (t : TG2) (u : TGs2) : TGs2 := fun ds ρ μ Q => ∃ d r, ds = d :: r ∧ t d ρ μ fun ρ' μ' => u r ρ' μ' Q
theorem dgs_nil : PGs2 X [] gNil2 := PGs.imp pgs_nil fun vs σ H Q ⟨F, μ, ρ, ds, Q2, W, E, dvs, ⟨e1, q⟩, k⟩ => by
  subst e1
  cases dvs
  exact ⟨rfl, k _ H ⟨F, μ, ρ, Stp.refl W, E, q⟩⟩
theorem dgs_cons {t : TG2} {u : TGs2} (h1 : PG2 X e t) (h2 : PGs2 X es u) (hs : (assignEach (e :: es) X.env).map (·.2) = assign e X.env :: (assignEach es X.env).map (·.2) := by rfl) : PGs2 X (e :: es) (gCons2 t u) :=
  PGs.imp (pgs_cons h1 h2 hs) fun vs σ H Q ⟨F, μ, ρ, ds, Q2, W, E, dvs, ⟨d, r, e1, q⟩, k⟩ => by
    subst e1
    cases dvs with
    | cons dv dvr =>
      refine ⟨_, _, rfl, F, μ, ρ, d, _, W, E, dv, q, fun σ' H' ⟨F1, μ1, ρ1, S1, E1, q1⟩ => ?_⟩
      exact ⟨F1, μ1, ρ1, r, Q2, S1.wd, E1, dvr.mono S1.same, q1, fun σ2 H2 p => k σ2 H2 (postS_step S1 p)⟩
@[reducible] def gT (n : Nat) (t : TGs2) : TG2 := fun d ρ μ Q => ∃ ds, d = .tup ds ∧ ds.length = n ∧ t ds ρ μ Q
theorem dg_tup {k n : Nat} {t : TGs2} (hc : X.calm = true) (h : PGs2 X es t) (hn : (assignEach es X.env).length = n := by rfl) (hst : (assignEach es X.env).findIdx? (·.1) = none := by rfl) : PG2 X (.Tuple es k pos) (gT n t) :=
  PG.imp (pg_tup hc h hn hst) fun v σ H Q ⟨F, μ, ρ, d, Q2, W, E, dv, ⟨ds, e1, hl, q⟩, k⟩ => by
    subst e1
    obtain ⟨p, xs, rfl, h1, h2⟩ := dv_tup dv
    exact ⟨p, xs, rfl, SqT.of (W.sub _ _ h1), by rw [h2.length]; exact hl, F, μ, ρ, ds, Q2, W, E, h2, q, k⟩

/-! ### statements -/
variable {st : Stmt} {rest sts sts' : List Stmt} {t u : TS2}
@[reducible] def sNext : TS2 := fun D ρ μ => D.nx ρ μ
@[reducible] def sSeq (t u : TS2) : TS2 := fun D ρ μ => t { D with nx := u D } ρ μ
theorem ds_nil : PSs2 X [] sNext := PSs.imp pss_nil fun D σ H ⟨F, μ, ρ, D2, W, E, h, ok⟩ => ok.nx σ H ⟨F, μ, ρ, Stp.refl W, E, h⟩
theorem ds_cons (h1 : PS2 X st t) (h2 : PSs2 X rest u) : PSs2 X (st :: rest) (sSeq t u) :=
  PSs.imp (pss_cons h1 h2) fun D σ H ⟨F, μ, ρ, D2, W, E, h, ok⟩ =>
    ⟨F, μ, ρ, _, W, E, h, ⟨fun σ' H' ⟨F1, μ1, ρ1, S1, E1, q⟩ => ⟨F1, μ1, ρ1, D2, S1.wd, E1, q, ok.step S1⟩, ok.rt, ok.bk, ok.ct⟩⟩
theorem ds_one (h1 : PS2 X st t) : PSs2 X [st] t := pss_one h1
theorem d_pass : PS2 X (.Pass pos) sNext := PS.imp ps_pass fun D σ H ⟨F, μ, ρ, D2, W, E, h, ok⟩ => ok.nx σ H ⟨F, μ, ρ, Stp.refl W, E, h⟩
@[reducible] def sBreak : TS2 := fun D ρ μ => D.bk ρ μ
@[reducible] def sCont : TS2 := fun D ρ μ => D.ct ρ μ
theorem d_break : PS2 X (.Break pos) sBreak := PS.imp ps_break fun D σ H ⟨F, μ, ρ, D2, W, E, h, ok⟩ => ok.bk σ H ⟨F, μ, ρ, Stp.refl W, E, h⟩
theorem d_continue : PS2 X (.Continue pos) sCont := PS.imp ps_continue fun D σ H ⟨F, μ, ρ, D2, W, E, h, ok⟩ => ok.ct σ H ⟨F, μ, ρ, Stp.refl W, E, h⟩
@[reducible] def sDrop (te : TE2) : TS2 := fun D ρ μ => te ρ μ fun _ μ1 => D.nx ρ μ1
theorem d_expr (he : PE2 X e te) (hs : swapsWith e none pos.line X.env = pure false := by rfl) : PS2 X (.Expr e pos) (sDrop te) :=
  PS.imp (ps_expr he hs) fun D σ H ⟨F, μ, ρ, D2, W, E, h, ok⟩ => le_go W E h fun v H1 F1 μ1 d S1 E1 dv q => ok.nx σ H1 ⟨F1, μ1, ρ, S1, E1, q⟩
@[reducible] def sRet (te : TE2) : TS2 := fun D ρ μ => te ρ μ D.rt
theorem d_ret (he : PE2 X e te) : PS2 X (.Return (some e) pos) (sRet te) :=
  PS.imp (ps_ret he) fun D σ H ⟨F, μ, ρ, D2, W, E, h, ok⟩ => le_go W E h fun v H1 F1 μ1 d S1 E1 dv q => ok.rt v H1 ⟨F1, μ1, d, S1, dv, q⟩
@[reducible] def sRetN : TS2 := fun D _ μ => D.rt .non μ
theorem d_retN : PS2 X (.Return none pos) sRetN := PS.imp ps_retN fun D σ H ⟨F, μ, ρ, D2, W, E, h, ok⟩ => ok.rt .non H ⟨F, μ, .non, Stp.refl W, .non, h⟩
@[reducible] def sIf (c : TT2) (t u : TS2) : TS2 := fun D ρ μ => c ρ μ fun b μ1 => if b = true then t D ρ μ1 else u D ρ μ1
theorem d_if (hc : PT2 X c tt) (ha : PSs2 X sts t) (hb : PSs2 X sts' u) : PS2 X (.If c sts sts' pos) (sIf tt t u) :=
  PS.imp (ps_if hc ha hb) fun D σ H ⟨F, μ, ρ, D2, W, E, h, ok⟩ => lt_go W E h fun b H1 F1 μ1 S1 E1 q => by
    cases b with
    | true => exact ⟨F1, μ1, ρ, D2, S1.wd, E1, q, ok.step S1⟩
    | false => exact ⟨F1, μ1, ρ, D2, S1.wd, E1, q, ok.step S1⟩
@[reducible] def sNever : TS2 := fun _ _ _ => False
theorem d_never : PS2 X st sNever := PS.imp ps_never fun D σ H ⟨F, μ, ρ, D2, W, E, h, ok⟩ => h
@[reducible] def sAsg (te : TE2) (g : TG2) : TS2 := fun D ρ μ => te ρ μ fun d μ1 => g d ρ μ1 D.nx
theorem asg_lift {K : Frg} {g : TG2} {D : Ends} {σ : L2.St} {H : Hp} (h : LS K (sAsg te g) D σ H) : tAsg (LE K te) (LG K g) D σ H := by
  obtain ⟨F, μ, ρ, D2, W, E, h, ok⟩ := h
  exact le_go W E h fun v H1 F1 μ1 d S1 E1 dv q => ⟨F1, μ1, ρ, d, _, S1.wd, E1, dv, q, fun σ' H' p => ok.nx σ' H' (postS_step S1 p)⟩
theorem asgN_lift {K : Frg} {i : Nat} {D : Ends} {σ : L2.St} {H : Hp} (h : LS K (sAsg te (gN i)) D σ H) : tAsg (LE K te) (gName i) D σ H := by
  obtain ⟨F, μ, ρ, D2, W, E, h, ok⟩ := h
  exact le_go W E h fun v H1 F1 μ1 d S1 E1 dv q => ok.nx _ H1 ⟨F1, μ1, _, S1, E1.set dv i, q⟩
theorem d_asg {tg : Expr} {g : TG2} (he : PE2 X e te) (hg : PG2 X tg g) (hs : swapsWithSole [tg] e pos.line X.env = pure false := by rfl) (hw : swappedStores [tg] e X.env = pure none := by rfl)
    (h1 : (assignEach [tg] X.env).map (·.2) = [assign tg X.env] := by rfl) : PS2 X (.Assign [tg] e pos) (sAsg te g) := PS.imp (ps_asg he hg hs hw h1) fun D σ H => asg_lift
theorem d_set {i : Nat} {x : Str} {pos' : Pos} (hN : X.N.Nodup) (hi : X.N[i]? = some x) (hx : Loc X.env.scope x) (he : PE2 X e te) (hs : swapsWith e (some (.Name x pos')) pos.line X.env = pure false := by rfl) (hf : X.fn x = true ∨ X.env.scope.names.lookup x = some .local := by first | exact .inl rfl | exact .inr rfl | assumption) :
    PS2 X (.Assign [.Name x pos'] e pos) (sAsg te (gN i)) := PS.imp (ps_set hN hi hx he hs hf) fun D σ H => asgN_lift
/-- a, b = x, y with plain local names -/
@[reducible] def sPar (i j : Nat) (ta : TA2) : TS2 := fun D ρ μ => ta ρ μ fun ds μ1 => ∃ d d', ds = [d, d'] ∧ D.nx ((ρ.set i (some d)).set j (some d')) μ1
theorem d_par {i j : Nat} {x y : Str} {px py pt : Pos} {kt k2 pt2} (hc : X.calm = true) (hN : X.N.Nodup) (hi : X.N[i]? = some x) (hj : X.N[j]? = some y) (hij : i ≠ j)
    (hx : X.env.scope.names.lookup x = some .local) (hy : X.env.scope.names.lookup y = some .local) (ha : PA2 X [a, b] tas)
    (hw : swappedStores [.Tuple [.Name x px, .Name y py] kt pt] (.Tuple [a, b] k2 pt2) X.env = pure (some [x, y]))
    (hs : swapsWithSole [.Tuple [.Name x px, .Name y py] kt pt] (.Tuple [a, b] k2 pt2) pos.line X.env = pure false := by rfl) :
    PS2 X (.Assign [.Tuple [.Name x px, .Name y py] kt pt] (.Tuple [a, b] k2 pt2) pos) (sPar i j tas) :=
  PS.imp (ps_par hc hN hi hj hij hx hy ha hw hs) fun D σ H ⟨F, μ, ρ, D2, W, E, h, ok⟩ => la_go W E h fun vs H1 F1 μ1 ds S1 E1 dvs ⟨d, d', e1, q⟩ => by
    subst e1
    cases dvs with
    | cons dv dvr =>
      cases dvr with
      | cons dv' dvn =>
        cases dvn
        exact ⟨_, _, rfl, ok.nx _ H1 ⟨F1, μ1, _, S1, (E1.set dv i).set dv' j, q⟩⟩
/-- name op= e -/
def LI2 (K : Frg) (r2 : R22) : TIp := LO K r2
@[reducible] def sAug (i : Nat) (te : TE2) (r : R22) : TS2 := fun D ρ μ => ∃ x, ρ[i]? = some (some x) ∧ te ρ μ fun y μ1 => r x y μ1 fun z μ2 => D.nx (ρ.set i (some z)) μ2
theorem d_aug {i : Nat} {x : Str} {op : Operator} {r : R22} {pos' : Pos} (hN : X.N.Nodup) (hi : X.N[i]? = some x) (hx : Loc X.env.scope x) (he : PE2 X e te) (ho : PIp X op (LI2 X.K r)) (hf : X.fn x = true ∨ X.env.scope.names.lookup x = some .local := by first | exact .inl rfl | exact .inr rfl | assumption) :
    PS2 X (.AugAssign (.Name x pos') op e pos) (sAug i te r) :=
  PS.imp (ps_aug hN hi hx he ho hf) fun D σ H ⟨F, μ, ρ, D2, W, E, ⟨d, h1, h⟩, ok⟩ => by
    obtain ⟨v, hv, dv⟩ := E.get h1
    refine ⟨v, hv, le_go W E h fun w H1 F1 μ1 d1 S1 E1 dv1 q => ⟨F1, μ1, d, d1, _, S1.wd, dv.mono S1.same, dv1, q, fun z H2 ⟨F2, μ2, d2, S2, dv2, q2⟩ => ?_⟩⟩
    exact ok.nx _ H2 ⟨F2, μ2, _, S1.trans S2, (E1.mono S2.same).set dv2 i, q2⟩

/-! ### while -/
@[reducible] def sWhile (c : TT2) (tb : TS2) : TS2 := fun D ρ μ => ∃ I : Nat → Rho → Mu → Prop, (∃ m, I m ρ μ) ∧ ∀ m ρ μ, I m ρ μ →
  c ρ μ fun b μ1 => if b = true then tb { D with nx := fun ρ' μ' => ∃ m', m' < m ∧ I m' ρ' μ', ct := fun ρ' μ' => ∃ m', m' < m ∧ I m' ρ' μ', bk := D.nx } ρ μ1 else D.nx ρ μ1
theorem d_while {body : List Stmt} {tb : TS2} (hp : PassesOwn (model X.prog X.w) X.A X.env X.xe) (hc : PT2 X c tt) (hb : PSs2 X body tb) : PS2 X (.While c body [] pos) (sWhile tt tb) :=
  PS.imp (ps_while hp hc hb) fun D σ H ⟨F, μ, ρ, D2, W, E, ⟨I, ⟨m0, i0⟩, turn⟩, ok⟩ => by
    refine ⟨fun m σ' H' => PostS X.K F μ H (I m) σ' H', ⟨m0, F, μ, ρ, Stp.refl W, E, i0⟩, fun m σ1 H1 ⟨F1, μ1, ρ1, S1, E1, q1⟩ => ?_⟩
    refine lt_go S1.wd E1 (turn m ρ1 μ1 q1) fun b H2 F2 μ2 S2 E2 q2 => ?_
    cases b with
    | false => exact ok.nx σ1 H2 ⟨F2, μ2, ρ1, S1.trans S2, E2, q2⟩
    | true =>
      refine ⟨fun σ' H' => PostS X.K F2 μ2 H2 (fun ρ' μ' => ∃ m', m' < m ∧ I m' ρ' μ') σ' H', fun σ' H' ⟨F3, μ3, ρ3, S3, E3, m', hm, q3⟩ => ⟨m', hm, F3, μ3, ρ3, (S1.trans S2).trans S3, E3, q3⟩, ?_⟩
      exact ⟨F2, μ2, ρ1, _, S2.wd, E2, q2, ⟨fun _ _ q => q, (ok.step (S1.trans S2)).rt, (ok.step (S1.trans S2)).nx, fun _ _ q => q⟩⟩

/-! ### what is walked -/
/-- st: what has to hold of what may change, at each turn -/
def ItOk (K : Frg) (F : Hp) (J : It) (ds : List Da) (st : Mu → Prop) : Prop := ∀ F1 μ1 H1, Same F F1 → Wd K F1 μ1 H1 → st μ1 →
  (∀ i d, ds[i]? = some d → J.go i H1 ∧ ∀ x H2, J.yld i H1 x H2 → ∃ F2, Stp K F1 μ1 H1 F2 μ1 H2 ∧ DV K F2 x d) ∧ ∀ i, ds.length ≤ i → J.stop i H1
abbrev QI := List Da → (Mu → Prop) → Mu → Prop
abbrev TI2 := Rho → Mu → QI → Prop
def LI (K : Frg) (t2 : TI2) : TI := fun σ H R => ∃ F μ ρ Q2, Wd K F μ H ∧ EnvR K F σ ρ ∧ t2 ρ μ Q2 ∧ ∀ J H' F' μ' ds st, Stp K F μ H F' μ' H' → ItOk K F' J ds st → Q2 ds st μ' → R J H'
abbrev PI2 (X : Cx) (tg e : Expr) (t : TI2) := PI X tg e (LI X.K t)
theorem PI.imp {tg e : Expr} {t t' : TI} (h : PI X tg e t) (i : ∀ σ H R, t' σ H R → t σ H R) : PI X tg e t' := ⟨fun pins s σ H R I q => h.run pins s σ H R I (i σ H R q)⟩
@[reducible] def sFor (it : TI2) (g : TG2) (tb : TS2) : TS2 := fun D ρ μ => it ρ μ fun ds st μ1 => ∃ I : Nat → Rho → Mu → Prop, I 0 ρ μ1 ∧
  (∀ i d ρ' μ', ds[i]? = some d → I i ρ' μ' → st μ' ∧ g d ρ' μ' fun ρ2 μ2 => tb { D with nx := I (i + 1), ct := I (i + 1), bk := D.nx } ρ2 μ2) ∧ ∀ ρ' μ', I ds.length ρ' μ' → st μ' ∧ D.nx ρ' μ'
theorem d_for {tg iter : Expr} {body : List Stmt} {it : TI2} {g : TG2} {tb : TS2} (hp : PassesOwn (model X.prog X.w) X.A X.env X.xe) (hc : X.calm = true) (hi : PI2 X tg iter it) (hg : PG2 X tg g) (hb : PSs2 X body tb)
    (hs : ∀ x, foldedSetIterable iter X.env x = pure x := by intro _; rfl) : PS2 X (.For tg iter body [] pos) (sFor it g tb) :=
  PS.imp (ps_for hp hc hi hg hb hs) fun D σ H ⟨F, μ, ρ, D2, W, E, h, ok⟩ => by
    refine ⟨F, μ, ρ, _, W, E, h, fun J H1 F1 μ1 ds st S1 iok ⟨I, i0, turn, fin⟩ => ?_⟩
    refine ⟨fun i m σ' H' => m = ds.length - i ∧ i ≤ ds.length ∧ PostS X.K F1 μ1 H1 (I i) σ' H', ⟨ds.length, by simp, Nat.zero_le _, F1, μ1, ρ, Stp.refl S1.wd, E.mono S1.same, i0⟩, ?_⟩
    rintro i m σ2 H2 ⟨rfl, hi, F2, μ2, ρ2, S2, E2, q2⟩
    by_cases hlt : i < ds.length
    · have hget : ds[i]? = some ds[i] := List.getElem?_eq_getElem hlt
      obtain ⟨hst, q3⟩ := turn i _ ρ2 μ2 hget q2
      obtain ⟨go, yl⟩ := (iok F2 μ2 H2 S2.same S2.wd hst).1 i _ hget
      refine .inr ⟨go, fun σ' H' => PostS X.K F1 μ1 H1 (I (i + 1)) σ' H', fun σ' H' p => ⟨ds.length - (i + 1), by omega, rfl, hlt, p⟩, fun x H3 y => ?_⟩
      obtain ⟨F3, S3, dv⟩ := yl x H3 y
      refine ⟨F3, μ2, ρ2, _, _, S3.wd, E2.mono S3.same, dv, q3, fun σ4 H4 ⟨F4, μ4, ρ4, S4, E4, q4⟩ => ?_⟩
      have S5 := (S2.trans S3).trans S4
      exact ⟨F4, μ4, ρ4, _, S4.wd, E4, q4, ⟨fun σ' H' p => postS_step S5 p, (ok.step (S1.trans S5)).rt, (ok.step (S1.trans S5)).nx, fun σ' H' p => postS_step S5 p⟩⟩
    · have e1 : i = ds.length := by omega
      subst e1
      obtain ⟨hst, q3⟩ := fin ρ2 μ2 q2
      exact .inl ⟨(iok F2 μ2 H2 S2.same S2.wd hst).2 _ (Nat.le_refl _), ok.nx σ2 H2 ⟨F2, μ2, ρ2, S1.trans S2, E2, q3⟩⟩

/-! ### comprehensions -/
@[reducible] def dYes : TT2 := fun _ μ Q => Q true μ
theorem dts_nil : PTs2 X [] dYes := PTs.imp pts_nil fun σ H Q ⟨F, μ, ρ, Q2, W, E, h, k⟩ => k true H ⟨F, μ, Stp.refl W, h⟩
theorem dts_one (h : PT2 X c tt) : PTs2 X [c] tt := pts_one h
/-- a list that stays (dLc), that may change (dLcM) -/
def lcI (it : TI2) (g : TG2) (tt : TT2) (te : TE2) (vs : List Nat) (fin : List Da → Mu → Prop) : Rho → Mu → Prop := fun ρ μ => it ρ μ fun ds st μ1 => ∃ I : Nat → List Da → Mu → Prop, I 0 [] μ1 ∧
  (∀ i d acc μ', ds[i]? = some d → I i acc μ' → st μ' ∧ acc.length < sizeLine ∧ g d (wipeR ρ vs) μ' fun ρ2 μ2 => tt ρ2 μ2 fun b μ3 => if b = true then te ρ2 μ3 fun y μ4 => I (i + 1) (acc ++ [y]) μ4 else I (i + 1) acc μ3) ∧
  ∀ acc μ', I ds.length acc μ' → st μ' ∧ fin acc μ'
@[reducible] def dLc (it : TI2) (g : TG2) (tt : TT2) (te : TE2) (vs : List Nat) : TE2 := fun ρ μ Q => lcI it g tt te vs (fun acc μ' => Q (.lst acc) μ') ρ μ
@[reducible] def dLcM (it : TI2) (g : TG2) (tt : TT2) (te : TE2) (vs : List Nat) : TE2 := fun ρ μ Q => lcI it g tt te vs (fun acc μ' => ∀ p, μ' p = none → Q (.ref p) (put μ' p (.lst acc))) ρ μ
end
end Dl
/-! Dl4: list comprehensions over plain data. -/
namespace Dl
open PySem L2

section
variable {K : Frg} {F F' H H' : Hp} {μ μ' : Mu} {p : Addr} {o : HO} {m : Mo}
theorem Wd.hid (W : Wd K F μ H) (f : F p = none) (hm : μ p = none) : Wd K F μ (upd H p o) :=
  ⟨fun b u e => by rw [upd_ne (ne_of_none e f)]; exact W.sub b u e, fun b n e => by
    have ne : b ≠ p := fun q => by rw [q, hm] at e; cases e
    obtain ⟨h1, h2⟩ := W.chg b n e
    exact ⟨h1, h2.move (Same.refl _) (upd_ne ne)⟩⟩
/-- an object that only the rule knows is written; it is handed on -/
theorem Stp.hid (S : Stp K F μ H F' μ' H') (h : H p = none) (f : F' p = none) (hm : μ' p = none) : Stp K F μ H F' μ' (upd H' p o) :=
  ⟨S.same, fun a u ht h1 h2 h3 => by
    obtain ⟨q1, q2, q3⟩ := S.fram a u ht h1 h2 h3
    exact ⟨by rw [upd_ne (ne_of_none h1 h)]; exact q1, q2, q3⟩, S.wd.hid f hm⟩
theorem Stp.take (S : Stp K F μ H F' μ' H') (h : H p = none) (f : F' p = none) (hm : μ' p = none) (ho : H' p = some o) : Stp K F μ H (upd F' p o) μ' H' := by
  refine ⟨S.same.trans (same_new f), fun a u ht h1 h2 h3 => ?_, ?_⟩
  · obtain ⟨q1, q2, q3⟩ := S.fram a u ht h1 h2 h3
    exact ⟨q1, by rw [upd_ne (ne_of_none h1 h)]; exact q2, q3⟩
  · have W := (S.wd.freeze f ho).1
    have e : del μ' p = μ' := by
      funext b; unfold del; split
      · rename_i e; rw [e, hm]
      · rfl
    rw [e] at W
    exact W
theorem Stp.hold (S : Stp K F μ H F' μ' H') (h : H p = none) (f : F' p = none) (hm : MOk K F' H' p m) : Stp K F μ H F' (put μ' p m) H' :=
  ⟨S.same, fun a u ht h1 h2 h3 => by
    obtain ⟨q1, q2, q3⟩ := S.fram a u ht h1 h2 h3
    exact ⟨q1, q2, by rw [put_ne (ne_of_none h1 h)]; exact q3⟩, S.wd.same f hm⟩
end

/-- a target over plain data that stores the comprehension's own names alone -/
def GOk (K : Frg) (g : TG) (g2 : TG2) (vs : List Nat) : Prop := ∀ F μ H σ ρ d v Q2 R, Wd K F μ H → EnvR K F σ ρ → DV K F v d → g2 d ρ μ Q2 →
  (∀ σ' H', PostS K F μ H Q2 σ' H' → L2.wipe σ' vs = L2.wipe σ vs → R σ' H') → g v σ H R
def GsOk (K : Frg) (g : TGs) (g2 : TGs2) (vs : List Nat) : Prop := ∀ F μ H σ ρ ds ws Q2 R, Wd K F μ H → EnvR K F σ ρ → DVs K F ws ds → g2 ds ρ μ Q2 →
  (∀ σ' H', PostS K F μ H Q2 σ' H' → L2.wipe σ' vs = L2.wipe σ vs → R σ' H') → g ws σ H R
theorem wipe_set {x : Option V} {i : Nat} : ∀ {vs : List Nat} {σ : L2.St}, i ∈ vs → L2.wipe (σ.set i x) vs = L2.wipe σ vs
  | v :: vs, σ, h => by
    show (L2.wipe (σ.set i x) vs).set v none = (L2.wipe σ vs).set v none
    by_cases hi : i ∈ vs
    · rw [wipe_set hi]
    · have e : i = v := by
        rcases List.mem_cons.mp h with e | e
        · exact e
        · exact absurd e hi
      subst e
      have go : ∀ (ws : List Nat) (τ : L2.St), i ∉ ws → L2.wipe (τ.set i x) ws = (L2.wipe τ ws).set i x := by
        intro ws
        induction ws with
        | nil => intro τ _; rfl
        | cons w ws ih =>
          intro τ hn
          show (L2.wipe (τ.set i x) ws).set w none = ((L2.wipe τ ws).set w none).set i x
          rw [ih τ (fun q => hn (List.mem_cons_of_mem _ q)), List.set_comm _ _ (fun q => hn (by rw [q]; exact List.mem_cons_self))]
      rw [go vs σ hi, List.set_set]
theorem wipe_sub {vs : List Nat} : ∀ {ws : List Nat} {σ : L2.St}, (∀ i ∈ ws, i ∈ vs) → L2.wipe (L2.wipe σ ws) vs = L2.wipe σ vs
  | [], _, _ => rfl
  | w :: ws, σ, h => by
    show L2.wipe ((L2.wipe σ ws).set w none) vs = _
    rw [wipe_set (h w List.mem_cons_self), wipe_sub fun i hi => h i (List.mem_cons_of_mem _ hi)]
theorem go_name {K : Frg} {i : Nat} {vs : List Nat} (h : i ∈ vs) : GOk K (gName i) (gN i) vs := fun F μ H σ ρ d v Q2 R W E dv q k =>
  k _ H ⟨F, μ, _, Stp.refl W, E.set dv i, q⟩ (wipe_set h)
theorem gos_nil {K : Frg} {vs : List Nat} : GsOk K gNil gNil2 vs := fun F μ H σ ρ ds ws Q2 R W E dvs ⟨e, q⟩ k => by
  subst e
  cases dvs
  exact ⟨rfl, k σ H ⟨F, μ, ρ, Stp.refl W, E, q⟩ rfl⟩
theorem gos_cons {K : Frg} {vs : List Nat} {g : TG} {g2 : TG2} {u : TGs} {u2 : TGs2} (h1 : GOk K g g2 vs) (h2 : GsOk K u u2 vs) : GsOk K (gCons g u) (gCons2 g2 u2) vs := fun F μ H σ ρ ds ws Q2 R W E dvs ⟨d, r, e, q⟩ k => by
  subst e
  cases dvs with
  | cons dv dvr =>
    refine ⟨_, _, rfl, h1 F μ H σ ρ d _ _ _ W E dv q fun σ' H' ⟨F1, μ1, ρ1, S1, E1, q1⟩ hw => ?_⟩
    exact h2 F1 μ1 H' σ' ρ1 r _ Q2 R S1.wd E1 (dvr.mono S1.same) q1 fun σ2 H2 p hw2 => k σ2 H2 (postS_step S1 p) (hw2.trans hw)
theorem go_tup {K : Frg} {vs : List Nat} {u : TGs} {u2 : TGs2} {n : Nat} (h : GsOk K u u2 vs) : GOk K (gTup K n u) (gT n u2) vs := fun F μ H σ ρ d v Q2 R W E dv ⟨ds, e, hl, q⟩ k => by
  subst e
  obtain ⟨p, xs, rfl, h1, h2⟩ := dv_tup dv
  exact ⟨p, xs, rfl, SqT.of (W.sub _ _ h1), by rw [h2.length]; exact hl, h F μ H σ ρ ds xs Q2 R W E h2 q k⟩

section
variable {K : Frg} {it : TI2} {g : TG} {g2 : TG2} {tt : TT2} {te : TE2} {vs : List Nat}
/-- what a comprehension's raw reading asks, from the one over plain data -/
theorem lc_lift {fin : List Da → Mu → Prop} {F : Hp} {μ : Mu} {ρ : Rho} {σ : L2.St} {H : Hp} {Q : VK} (gok : GOk K g g2 vs) (W : Wd K F μ H) (E : EnvR K F σ ρ) (h : lcI it g2 tt te vs fin ρ μ)
    (k : ∀ F1 μ1 H1, Stp K F μ H F1 μ1 H1 → ∀ D H' F' μ' acc xs, H1 D = none → Stp K F1 μ1 H1 F' μ' H' → H' D = some (.lst xs) → F' D = none → μ' D = none → DVs K F' xs acc → fin acc μ' → Q (.ref D) H') :
    tLc (LI K it) g (LT K tt) (LE K te) vs σ H Q := by
  refine ⟨F, μ, ρ, _, W, E, h, fun J H1 F1 μ1 ds st S1 iok ⟨I, i0, turn, fin'⟩ D hD => ?_⟩
  have E1 := (E.mono S1.same).wipe vs
  have fD := S1.wd.free hD
  have mD := S1.wd.mnone hD
  refine ⟨fun i m H2 => m = ds.length - i ∧ i ≤ ds.length ∧ ∃ F2 μ2 acc xs, Stp K F1 μ1 H1 F2 μ2 H2 ∧ H2 D = some (.lst xs) ∧ F2 D = none ∧ μ2 D = none ∧ DVs K F2 xs acc ∧ I i acc μ2,
    ⟨ds.length, by simp, Nat.zero_le _, F1, μ1, [], [], (Stp.refl S1.wd).hid hD fD mD, upd_same, fD, mD, .nil, i0⟩, ?_⟩
  rintro i m H2 ⟨rfl, hi, F2, μ2, acc, xs, S2, hx, f2, m2, dvs, q2⟩
  by_cases hlt : i < ds.length
  · have hget : ds[i]? = some ds[i] := List.getElem?_eq_getElem hlt
    obtain ⟨hst, hz, q3⟩ := turn i _ acc μ2 hget q2
    obtain ⟨go, yl⟩ := (iok F2 μ2 H2 S2.same S2.wd hst).1 i _ hget
    refine .inr ⟨go, fun H' => i + 1 ≤ ds.length ∧ ∃ F3 μ3 acc3 xs3, Stp K F1 μ1 H1 F3 μ3 H' ∧ H' D = some (.lst xs3) ∧ F3 D = none ∧ μ3 D = none ∧ DVs K F3 xs3 acc3 ∧ I (i + 1) acc3 μ3, fun H' p => ⟨ds.length - (i + 1), by omega, rfl, p⟩, fun x H3 y => ?_⟩
    obtain ⟨F3, S3, dv⟩ := yl x H3 y
    refine gok F3 μ2 H3 _ _ _ x _ _ S3.wd ((E1.mono S2.same).mono S3.same) dv q3 fun σ4 H4 ⟨F4, μ4, ρ4, S4, E4, q4⟩ hw => ⟨hw.trans (wipe_sub fun _ h => h), ?_⟩
    refine lt_go S4.wd E4 q4 fun b H5 F5 μ5 S5 E5 q5 => ?_
    have S6 := (S3.trans S4).trans S5
    obtain ⟨g1, g2', g3⟩ := S6.fram D _ (fun _ z => by cases z) hx f2 m2
    have S7 := S2.trans S6
    cases b with
    | false =>
      rw [if_neg Bool.false_ne_true]
      exact ⟨hlt, F5, μ5, acc, xs, S7, g1, g2', g3, dvs.mono S6.same, q5⟩
    | true =>
      rw [if_pos rfl]
      refine le_go S5.wd E5 q5 fun u H8 F8 μ8 d8 S8 E8 dv8 q8 => ?_
      obtain ⟨j1, j2, j3⟩ := S8.fram D _ (fun _ z => by cases z) g1 g2' g3
      refine ⟨xs, j1, by rw [dvs.length]; exact hz, hlt, F8, μ8, acc ++ [d8], xs ++ [u], (S7.trans S8).hid hD j2 j3, upd_same, j2, j3, ((dvs.mono S6.same).mono S8.same).append (.cons dv8 .nil), q8⟩
  · have e1 : i = ds.length := by omega
    subst e1
    obtain ⟨hst, q3⟩ := fin' acc μ2 q2
    exact .inl ⟨(iok F2 μ2 H2 S2.same S2.wd hst).2 _ (Nat.le_refl _), k F1 μ1 H1 S1 D H2 F2 μ2 acc xs hD S2 hx f2 m2 dvs q3⟩
theorem lcF_lift (gok : GOk K g g2 vs) {σ : L2.St} {H : Hp} {Q : VK} (h : LE K (dLc it g2 tt te vs) σ H Q) : tLc (LI K it) g (LT K tt) (LE K te) vs σ H Q := by
  obtain ⟨F, μ, ρ, Q2, W, E, h, k⟩ := h
  exact lc_lift gok W E h fun F1 μ1 H1 S1 D H' F' μ' acc xs hD S hx f m dvs q => k _ H' ⟨_, μ', .lst acc, S1.trans (S.take hD f m hx), .lst upd_same (dvs.mono (same_new f)), q⟩
theorem lcM_lift (gok : GOk K g g2 vs) {σ : L2.St} {H : Hp} {Q : VK} (h : LE K (dLcM it g2 tt te vs) σ H Q) : tLc (LI K it) g (LT K tt) (LE K te) vs σ H Q := by
  obtain ⟨F, μ, ρ, Q2, W, E, h, k⟩ := h
  exact lc_lift gok W E h fun F1 μ1 H1 S1 D H' F' μ' acc xs hD S hx f m dvs q => k _ H' ⟨F', _, .ref D, S1.trans (S.hold (m := .lst acc) hD f ⟨xs, hx, dvs⟩), .ref D, q D m⟩
end

section
variable {X : Cx} {elt tg iter : Expr} {ifs : List Expr} {scope : Scope} {own : List (Str × Nat)} {pos spos : Pos} {it : TI2} {g : TG} {g2 : TG2} {tt : TT2} {te : TE2}
theorem d_lc (hc : X.calm = true) (hN : X.N.Nodup) (hi : PI2 X tg iter it) (ok : BlkOk X.N X.env.scope scope own)
    (hg : ∀ (s : Shared) (H : Hp) (C : Addr) (cl : List (Str × Addr)) (fp : List Addr), PG (X.blk s H scope (compEnvC scope cl C X.env) fp) tg g) (gok : GOk X.K g g2 (own.map (·.2)))
    (ht : ∀ (s : Shared) (H : Hp) (C : Addr) (cl : List (Str × Addr)) (fp : List Addr), PTs2 (X.blk s H scope (compEnvC scope cl C X.env) fp) ifs tt)
    (he : ∀ (s : Shared) (H : Hp) (C : Addr) (cl : List (Str × Addr)) (fp : List Addr), PE2 (X.blk s H scope (compEnvC scope cl C X.env) fp) elt te) (hs : ∀ x, foldedSetIterable iter X.env x = pure x := by intro _; rfl) :
    PE2 X (.ListComp elt [⟨tg, iter, ifs, 0⟩] scope pos) (dLc it g2 tt te (own.map (·.2))) := PE.imp (pe_lc hc hN hi ok hg ht he hs) fun σ H Q => lcF_lift gok
theorem d_lcM (hc : X.calm = true) (hN : X.N.Nodup) (hi : PI2 X tg iter it) (ok : BlkOk X.N X.env.scope scope own)
    (hg : ∀ (s : Shared) (H : Hp) (C : Addr) (cl : List (Str × Addr)) (fp : List Addr), PG (X.blk s H scope (compEnvC scope cl C X.env) fp) tg g) (gok : GOk X.K g g2 (own.map (·.2)))
    (ht : ∀ (s : Shared) (H : Hp) (C : Addr) (cl : List (Str × Addr)) (fp : List Addr), PTs2 (X.blk s H scope (compEnvC scope cl C X.env) fp) ifs tt)
    (he : ∀ (s : Shared) (H : Hp) (C : Addr) (cl : List (Str × Addr)) (fp : List Addr), PE2 (X.blk s H scope (compEnvC scope cl C X.env) fp) elt te) (hs : ∀ x, foldedSetIterable iter X.env x = pure x := by intro _; rfl) :
    PE2 X (.ListComp elt [⟨tg, iter, ifs, 0⟩] scope pos) (dLcM it g2 tt te (own.map (·.2))) := PE.imp (pe_lc hc hN hi ok hg ht he hs) fun σ H Q => lcM_lift gok
/-- name = [..] on one line -/
theorem d_setLc {i : Nat} {y : Str} {py : Pos} (hc : X.calm = true) (hN : X.N.Nodup) (hy : X.N[i]? = some y) (hyl : X.env.scope.names.lookup y = some .local)
    (hsw : swapsWith (.ListComp elt [⟨tg, iter, ifs, 0⟩] scope pos) (some (.Name y py)) spos.line X.env = pure true) (hi : PI2 X tg iter it) (ok : BlkOk X.N X.env.scope scope own)
    (hg : ∀ (s : Shared) (H : Hp) (C : Addr) (cl : List (Str × Addr)) (fp : List Addr), PG (X.blk s H scope (compEnvC scope cl C X.env) fp) tg g) (gok : GOk X.K g g2 (own.map (·.2)))
    (ht : ∀ (s : Shared) (H : Hp) (C : Addr) (cl : List (Str × Addr)) (fp : List Addr), PTs2 (X.blk s H scope (compEnvC scope cl C X.env) fp) ifs tt)
    (he : ∀ (s : Shared) (H : Hp) (C : Addr) (cl : List (Str × Addr)) (fp : List Addr), PE2 (X.blk s H scope (compEnvC scope cl C X.env) fp) elt te) (hs : ∀ x, foldedSetIterable iter X.env x = pure x := by intro _; rfl) :
    PS2 X (.Assign [.Name y py] (.ListComp elt [⟨tg, iter, ifs, 0⟩] scope pos) spos) (sAsg (dLc it g2 tt te (own.map (·.2))) (gN i)) :=
  PS.imp (ps_setLc hc hN hy hyl hsw hi ok hg ht he hs) fun D σ H ⟨F, μ, ρ, D2, W, E, h, ok⟩ => lcF_lift gok ⟨F, μ, ρ, _, W, E, h, fun v H' ⟨F1, μ1, d, S1, dv, q⟩ => ok.nx _ H' ⟨F1, μ1, _, S1, (E.mono S1.same).set dv i, q⟩⟩
theorem d_setLcM {i : Nat} {y : Str} {py : Pos} (hc : X.calm = true) (hN : X.N.Nodup) (hy : X.N[i]? = some y) (hyl : X.env.scope.names.lookup y = some .local)
    (hsw : swapsWith (.ListComp elt [⟨tg, iter, ifs, 0⟩] scope pos) (some (.Name y py)) spos.line X.env = pure true) (hi : PI2 X tg iter it) (ok : BlkOk X.N X.env.scope scope own)
    (hg : ∀ (s : Shared) (H : Hp) (C : Addr) (cl : List (Str × Addr)) (fp : List Addr), PG (X.blk s H scope (compEnvC scope cl C X.env) fp) tg g) (gok : GOk X.K g g2 (own.map (·.2)))
    (ht : ∀ (s : Shared) (H : Hp) (C : Addr) (cl : List (Str × Addr)) (fp : List Addr), PTs2 (X.blk s H scope (compEnvC scope cl C X.env) fp) ifs tt)
    (he : ∀ (s : Shared) (H : Hp) (C : Addr) (cl : List (Str × Addr)) (fp : List Addr), PE2 (X.blk s H scope (compEnvC scope cl C X.env) fp) elt te) (hs : ∀ x, foldedSetIterable iter X.env x = pure x := by intro _; rfl) :
    PS2 X (.Assign [.Name y py] (.ListComp elt [⟨tg, iter, ifs, 0⟩] scope pos) spos) (sAsg (dLcM it g2 tt te (own.map (·.2))) (gN i)) :=
  PS.imp (ps_setLc hc hN hy hyl hsw hi ok hg ht he hs) fun D σ H ⟨F, μ, ρ, D2, W, E, h, ok⟩ => lcM_lift gok ⟨F, μ, ρ, _, W, E, h, fun v H' ⟨F1, μ1, d, S1, dv, q⟩ => ok.nx _ H' ⟨F1, μ1, _, S1, (E.mono S1.same).set dv i, q⟩⟩
end
end Dl
/-! Dl5: defs and calls. FnG: a def's promise where no repr is under way around. -/
namespace Dl
open PySem L2
open PyProof.Rows (envOfC)

structure FnG (P : Program) (w : World) (K : Frg) (mg : Str → Option Value) (base : Heap) (CX : CXT) (k : Nat) (f : Addr) (fd : FuncData) (ps : List Str) (sp : Sp) : Prop where
  len : ∀ vs H Q E, sp vs H Q E → vs.length = ps.length
  run : ∀ (A : Around) (outer : List Env) (s : Shared) (H : Hp) (args : Args) (us : List Value) (vs : List V) (Q : VK) (E : XK), Room k A → A.guards = some [] →
    Env0 P w K mg base A outer s H → BindsTo s fd args (ps.zip us) → Vals vs us → sp vs H Q E → codeAny (model P w) A (.call (.ref f) args) (CR CX outer P w H s Q E) s
section
variable {P : Program} {w : World} {K : Frg} {mg : Str → Option Value} {base : Heap} {CX : CXT} {j k : Nat} {f : Addr} {fd : FuncData} {ps : List Str} {sp : Sp}
theorem FnG.of (F : FnOk P w K mg base CX k f fd ps sp) : FnG P w K mg base CX k f fd ps sp := ⟨F.len, fun A outer s H args us vs Q E hr _ => F.run A outer s H args us vs Q E hr⟩
theorem FnG.mono (F : FnG P w K mg base CX j f fd ps sp) (h : j ≤ k) : FnG P w K mg base CX k f fd ps sp := ⟨F.len, fun A outer s H args us vs Q E hr => F.run A outer s H args us vs Q E (hr.mono h)⟩
/-- the rule for a def, the guards told -/
theorem def_g {x qual : Str} {params : Arguments} {body : List Stmt} {scope : Scope} {dvs : List V} {kws : List (Str × V)} {N : List Str}
    (F : FunD K x qual params body scope dvs kws f fd) (S : FnScope N ps scope) (len : ∀ vs H Q E, sp vs H Q E → vs.length = ps.length)
    (hbody : ∀ (cdv : Value) (A : Around) (outer : List Env) (s : Shared) (H : Hp) (vs : List V) (Q : VK) (E : XK), Room k (A.deeper (envOfC qual scope s.heap.objs.size f cdv)) → (A.deeper (envOfC qual scope s.heap.objs.size f cdv)).guards = some [] → sp vs H Q E →
      ∃ t, PSs (cxOf CX P w K mg base N qual scope f cdv A outer s H E) body t ∧ t { nx := fun _ H' => Q .non H', rt := Q } (L2.start N vs) H) :
    FnG P w K mg base CX (k + 1) f fd ps sp := by
  obtain ⟨oc, od, dV, kV, doc, pm, an, cdv, ct, osl, e0, lk, hcd, _, _⟩ := F.ex
  subst e0
  constructor
  · exact len
  intro A outer s H args us vs Q E hr hg env0 hb r hsp
  have lenV := len _ _ _ _ hsp
  have inK := env0.mod.kin.keeps fun b o e => (env0.bs b o e).1
  have kinds : ∀ y ∈ ps.zip us, scope.names.lookup y.1 = some .local ∨ (scope.names.lookup y.1 = some .cell ∧ ((cellsFrom (s.heap.objs.size + 1) scope.names []).lookup y.1).isSome = true) := by
    intro y hy
    have hy1 : y.1 ∈ ps := (List.of_mem_zip (a := y.1) (b := y.2) hy).1
    cases S.par y.1 hy1 with
    | inl q => exact Or.inl q
    | inr q => exact Or.inr ⟨q, PySem.W.cellsFrom_some _ _ _ (Or.inl q)⟩
  apply codeAny_call_function hr.depth (inK _ _ lk) rfl S.co S.gen rfl (PySem.W.codeRec_of inK hcd)
  apply hb
  apply wpAny_newFunctionEnv_cells S.kind kinds
  intro env he s1 x1
  subst he
  refine ⟨(env0.mod.nolimit.keeps fun b o e => (env0.bs b o e).1).keeps x1.toInCall.keep, codeAny_func ?_⟩
  obtain ⟨t, ht, hq⟩ := hbody cdv A outer s H vs Q E (hr.deeper _) hg hsp
  have I0 := inv_start (CX := CX) (E := E) S hr.hd env0 lenV r x1
  apply wpAny_mono (ht.run [] s1 (L2.start N vs) H _ I0 hq)
  · intro fl s' hs
    cases fl with
    | ret u => obtain ⟨v, σ', H', J, rv, q⟩ := hs; exact ⟨v, H', J.os, J.bare, J.base, J.hok, rv, q⟩
    | next => obtain ⟨σ', H', J, q⟩ := hs; exact ⟨V.non, H', J.os, J.bare, J.base, J.hok, rfl, q⟩
    | brk => exact hs.elim fun _ z => z.elim fun _ z2 => z2.2.elim
    | cont => exact hs.elim fun _ z => z.elim fun _ z2 => z2.2.elim
  · intro e s' hs
    exact hs
end

/-! ### a def over plain data that raises nothing -/
section
variable {P : Program} {w : World} {K : Frg} {mg : Str → Option Value} {base : Heap} {k : Nat} {f : Addr} {fd : FuncData} {ps N : List Str} {r2 : RC2} {x qual : Str} {params : Arguments} {body : List Stmt} {scope : Scope} {dvs : List V} {kws : List (Str × V)}
theorem lf_len (len : ∀ ds μ Q, r2 ds μ Q → ds.length = ps.length) : ∀ vs H Q E, LF K r2 vs H Q E → vs.length = ps.length := fun vs H Q E ⟨F, μ, ds, Q2, W, dvs, h, k⟩ => by rw [dvs.length]; exact len _ _ _ h
def startR (N : List Str) (ds : List Da) : Rho := ds.map some ++ List.replicate (N.length - ds.length) none
theorem lf_body {t2 : TS2} (h : ∀ ds μ Q2, r2 ds μ Q2 → t2 { nx := fun _ μ' => Q2 .non μ', rt := Q2 } (startR N ds) μ) {vs : List V} {H : Hp} {Q : VK} {E : XK} (hsp : LF K r2 vs H Q E) :
    LS K t2 { nx := fun _ H' => Q .non H', rt := Q } (L2.start N vs) H := by
  obtain ⟨F, μ, ds, Q2, W, dvs, hr, k⟩ := hsp
  refine ⟨F, μ, startR N ds, _, W, ?_, h ds μ Q2 hr, ⟨fun σ' H' ⟨F', μ', ρ', S, E', q⟩ => k _ H' ⟨F', μ', .non, S, .non, q⟩, k, fun σ' H' ⟨_, _, _, _, _, q⟩ => q.elim, fun σ' H' ⟨_, _, _, _, _, q⟩ => q.elim⟩⟩
  unfold L2.start startR
  rw [dvs.length]
  exact EnvR.of_vals _ dvs
/-- a def; the guards told -/
theorem def2g (F : FunD K x qual params body scope dvs kws f fd) (S : FnScope N ps scope) (len : ∀ ds μ Q, r2 ds μ Q → ds.length = ps.length)
    (hbody : ∀ (cdv : Value) (A : Around) (outer : List Env) (s : Shared) (H : Hp) (E : XK), Room k (A.deeper (envOfC qual scope s.heap.objs.size f cdv)) → (A.deeper (envOfC qual scope s.heap.objs.size f cdv)).guards = some [] →
      ∃ t2, PSs2 (cxOf CX0 P w K mg base N qual scope f cdv A outer s H E).nox body t2 ∧ ∀ ds μ Q2, r2 ds μ Q2 → t2 { nx := fun _ μ' => Q2 .non μ', rt := Q2 } (startR N ds) μ) :
    FnG P w K mg base CX0 (k + 1) f fd ps (LF K r2) :=
  def_g F S (lf_len len) fun cdv A outer s H vs Q E hr hg hsp => by
    obtain ⟨t2, h1, h2⟩ := hbody cdv A outer s H E hr hg
    exact ⟨_, PSs.nox h1, lf_body h2 hsp⟩
/-- a def that needs no guards -/
theorem def2 (F : FunD K x qual params body scope dvs kws f fd) (S : FnScope N ps scope) (len : ∀ ds μ Q, r2 ds μ Q → ds.length = ps.length)
    (hbody : ∀ (cdv : Value) (A : Around) (outer : List Env) (s : Shared) (H : Hp) (E : XK), Room k (A.deeper (envOfC qual scope s.heap.objs.size f cdv)) →
      ∃ t2, PSs2 (cxOf CX0 P w K mg base N qual scope f cdv A outer s H E).nox body t2 ∧ ∀ ds μ Q2, r2 ds μ Q2 → t2 { nx := fun _ μ' => Q2 .non μ', rt := Q2 } (startR N ds) μ) :
    FnOk P w K mg base CX0 (k + 1) f fd ps (LF K r2) :=
  FunD.ok F S (lf_len len) fun cdv A outer s H vs Q E hr hsp => by
    obtain ⟨t2, h1, h2⟩ := hbody cdv A outer s H E hr
    exact ⟨_, PSs.nox h1, lf_body h2 hsp⟩
end

/-! ### calls -/
section
variable {X : Cx} {CX : CXT} {k n : Nat} {f C : Addr} {fd : FuncData} {ps ks : List Str} {sp : Sp} {r2 : RC2} {dvs : List V} {dds : List Da} {ds : List Value} {E : XK} {x m : Str} {p pos apos : Pos} {e o : Expr} {es : List Expr} {tas tks : TA2} {te : TE2} {kws : List Keyword}
theorem run_g {pins : List (Addr × Obj)} {σ : L2.St} {H : Hp} {s : Shared} {Q : VK} {us : List Value} {vs : List V} (G : FnG X.prog X.w X.K X.mg X.base CX k f fd ps sp) (hr : Room k X.A) (hgd : X.A.guards = some []) (hb : Binds X.K fd ps ds) (hd : Vals dvs ds)
    (hx : Passes CX X E) (I : Inv X pins σ H s) (r : Vals vs us) (h : sp (vs ++ dvs) H Q E) : wpAny (model X.prog X.w) X.A (call (.ref f) us) (EP X pins σ Q) X.xe s := by
  have all := r.append hd
  have hl : (us ++ ds).length = ps.length := all.length.symm.trans (G.len _ _ _ _ h)
  apply wpAny_call
  apply codeAny_mono (G.run X.A X.stack s H ⟨us, []⟩ (us ++ ds) (vs ++ dvs) Q E hr hgd I.env0 (hb s us I.kIn hl) all h)
  intro res s' hq
  match res, hq with
  | .error e, hq => exact hx pins σ H s e s' I hq
  | .ok (.ret u), hq => exact I.after hq
theorem pe_callG {e : Expr} {es : List Expr} {t : TA} (G : FnG X.prog X.w X.K X.mg X.base CX k f fd ps sp) (hr : Room k X.A) (hgd : X.A.guards = some []) (hg : Gl X x) (hm : X.mg x = some (.ref f)) (hk : PySem.W.keepIn X.K (.ref f) = true) (hb : Binds X.K fd ps ds) (hd : Vals dvs ds)
    (hx : Passes CX X E) (ha : PA X (e :: es) t) (hdb : (x == ("__debug__" : Str)) = false := by decide) (he : starEach (e :: es) X.env = (false, eval e X.env) :: starEach es X.env := by rfl) (hpl : (backTo pos (starEach es X.env)).any (·.1) = false := by rfl) :
    PE X (.Call (.Name x p) (e :: es) [] pos) (tCall sp dvs E t) :=
  ⟨fun pins s σ H Q I h => wpAny_Call_Name_kw (ld_glob I hg hm (PySem.W.callWith_K (h₀ := X.base) I.ok.mod.kin hk (thn (ha.run pos pins s σ H _ I h) fun us s1 ⟨vs, H1, I1, r, q⟩ => ⟨I1.kIn, run_g G hr hgd hb hd hx I1 r q⟩) he hpl) hdb)⟩
/-- f(e, ..): its defaults dds fill up -/
@[reducible] def dCall (r2 : RC2) (dds : List Da) (ta : TA2) : TE2 := fun ρ μ Q => ta ρ μ fun ds μ1 => r2 (ds ++ dds) μ1 Q
theorem call_lift {K : Frg} {σ : L2.St} {H : Hp} {Q : VK} (hdd : ∀ F, DVs K F dvs dds) (h : LE K (dCall r2 dds tas) σ H Q) : tCall (LF K r2) dvs E0 (LA K tas) σ H Q := by
  obtain ⟨F, μ, ρ, Q2, W, E, h, k⟩ := h
  exact la_go W E h fun vs H1 F1 μ1 ds S1 E1 dvs q1 => ⟨F1, μ1, ds ++ dds, Q2, S1.wd, dvs.append (hdd F1), q1, fun v H2 p => k v H2 (post_step S1 p)⟩
theorem d_callG (G : FnG X.prog X.w X.K X.mg X.base CX0 k f fd ps (LF X.K r2)) (hr : Room k X.A) (hgd : X.A.guards = some []) (hg : Gl X x) (hm : X.mg x = some (.ref f)) (hk : PySem.W.keepIn X.K (.ref f) = true) (hb : Binds X.K fd ps ds) (hd : Vals dvs ds) (hdd : ∀ F, DVs X.K F dvs dds)
    (ha : PA2 X (e :: es) tas) (hdb : (x == ("__debug__" : Str)) = false := by decide) (he : starEach (e :: es) X.env = (false, eval e X.env) :: starEach es X.env := by rfl) (hpl : (backTo pos (starEach es X.env)).any (·.1) = false := by rfl) :
    PE2 X (.Call (.Name x p) (e :: es) [] pos) (dCall r2 dds tas) := PE.imp (pe_callG G hr hgd hg hm hk hb hd pass0 ha hdb he hpl) fun σ H Q => call_lift hdd
theorem d_call (G : FnOk X.prog X.w X.K X.mg X.base CX0 k f fd ps (LF X.K r2)) (hr : Room k X.A) (hg : Gl X x) (hm : X.mg x = some (.ref f)) (hk : PySem.W.keepIn X.K (.ref f) = true) (hb : Binds X.K fd ps ds) (hd : Vals dvs ds) (hdd : ∀ F, DVs X.K F dvs dds)
    (ha : PA2 X (e :: es) tas) (hdb : (x == ("__debug__" : Str)) = false := by decide) (he : starEach (e :: es) X.env = (false, eval e X.env) :: starEach es X.env := by rfl) (hpl : (backTo pos (starEach es X.env)).any (·.1) = false := by rfl) :
    PE2 X (.Call (.Name x p) (e :: es) [] pos) (dCall r2 dds tas) := PE.imp (pe_call G hr hg hm hk hb hd pass0 ha hdb he hpl) fun σ H Q => call_lift hdd

/-! ### instances -/
theorem kds_lookup {K : Frg} {F : Hp} {x : Str} : ∀ {ws : List (Str × V)} {fs : List (Str × Da)}, KDs K F ws fs → (∀ d, fs.lookup x = some d → ∃ v, ws.lookup x = some v ∧ DV K F v d) ∧ (fs.lookup x = none → ws.lookup x = none)
  | _, _, .nil => ⟨fun _ h => (nomatch h), fun _ => rfl⟩
  | (a, v) :: ws, (b, d) :: fs, .cons h t => by
    obtain ⟨e, dv⟩ := h
    have e' : a = b := e
    subst e'
    obtain ⟨i1, i2⟩ := kds_lookup (x := x) t
    by_cases hx : x = a
    · subst hx
      refine ⟨fun d' q => ?_, fun q => ?_⟩
      · rw [List.lookup_cons_self] at q
        cases q
        exact ⟨v, List.lookup_cons_self, dv⟩
      · rw [List.lookup_cons_self] at q
        cases q
    · have hb : (x == a) = false := beq_eq_false_iff_ne.mpr hx
      refine ⟨fun d' q => ?_, fun q => ?_⟩
      · rw [List.lookup_cons, hb] at q
        obtain ⟨v', h1, h2⟩ := i1 d' q
        exact ⟨v', by rw [List.lookup_cons, hb]; exact h1, h2⟩
      · rw [List.lookup_cons, hb] at q
        rw [List.lookup_cons, hb]
        exact i2 q
/-- x.f = v among attributes -/
def putD (x : Str) (v : Da) : List (Str × Da) → List (Str × Da)
  | [] => [(x, v)]
  | (y, u) :: l => if y = x then (y, v) :: l else (y, u) :: putD x v l
theorem kds_len {κ : Type} {K : Frg} {F : Hp} {ws : List (κ × V)} {fs : List (κ × Da)} (h : KDs K F ws fs) : ws.length = fs.length := Paired.length h
/-- o.f -/
@[reducible] def dFld (C : Addr) (f : Str) (te : TE2) : TE2 := fun ρ μ Q => te ρ μ fun d μ1 => ∃ a fs v, d = .ref a ∧ μ1 a = some (.ins C fs) ∧ fs.lookup f = some v ∧ Q v μ1
theorem d_fld {fn : Str} (he : PE2 X e te) (cl : Cls X.K C) (na : NoAttr X.K C fn) (hb : attributeBase e fn X.env (eval e X.env) = eval e X.env := by rfl) : PE2 X (.Attribute e fn pos) (dFld C fn te) :=
  PE.imp (pe_fld he hb) fun σ H Q ⟨F, μ, ρ, Q2, W, E, h, k⟩ => le_go W E h fun v H1 F1 μ1 d S1 E1 dv ⟨a, fs, u, e1, hm, hl, q⟩ => by
    subst e1
    obtain rfl := dv_ref dv
    obtain ⟨_, dx, ws, ho, hk⟩ := S1.wd.chg a _ hm
    obtain ⟨w', hw, dw⟩ := (kds_lookup hk).1 u hl
    exact ⟨a, C, dx, ws, w', rfl, ho, cl, na, hw, k _ H1 ⟨F1, μ1, u, S1, dw, q⟩⟩
theorem kds_put {K : Frg} {F : Hp} {x : Str} {v : V} {d : Da} (hd : DV K F v d) : ∀ {ws : List (Str × V)} {fs : List (Str × Da)}, KDs K F ws fs → KDs K F (putF x v ws) (putD x d fs)
  | _, _, .nil => .cons ⟨rfl, hd⟩ .nil
  | (a, u) :: ws, (b, e) :: fs, .cons h t => by
    obtain ⟨h1, h2⟩ := h
    have h1' : a = b := h1
    subst h1'
    show KDs K F (if a = x then (a, v) :: ws else (a, u) :: putF x v ws) (if a = x then (a, d) :: fs else (a, e) :: putD x d fs)
    by_cases hx : a = x
    · rw [if_pos hx, if_pos hx]; exact .cons ⟨rfl, hd⟩ t
    · rw [if_neg hx, if_neg hx]; exact .cons ⟨rfl, h2⟩ (kds_put hd t)
/-- o.f = v -/
@[reducible] def sFldD (C : Addr) (f : Str) (to tv : TE2) : TS2 := fun D ρ μ => tv ρ μ fun v μ1 => to ρ μ1 fun d μ2 => ∃ a fs, d = .ref a ∧ μ2 a = some (.ins C fs) ∧ fs.length < 1000 ∧ D.nx ρ (put μ2 a (.ins C (putD f v fs)))
theorem d_setfld {fn : Str} {value : Expr} {to tv : TE2} {pos' : Pos} (ho : PE2 X o to) (hv : PE2 X value tv) (cl : Cls X.K C) (na : NoAttr X.K C fn) (hs : swapsWith value (some (.Attribute o fn pos')) pos.line X.env = pure false := by rfl) :
    PS2 X (.Assign [.Attribute o fn pos'] value pos) (sFldD C fn to tv) :=
  PS.imp (ps_fld ho hv hs) fun D σ H ⟨F, μ, ρ, D2, W, E, h, ok⟩ => le_go W E h fun v H1 F1 μ1 d S1 E1 dv q1 => le_go S1.wd E1 q1 fun u H2 F2 μ2 d2 S2 E2 du ⟨a, fs, e1, hm, hz, q⟩ => by
    subst e1
    obtain rfl := dv_ref du
    obtain ⟨hF, dx, ws, ho, hk⟩ := S2.wd.chg a _ hm
    refine ⟨a, C, dx, ws, rfl, ho, cl, na, by rw [kds_len hk]; exact hz, ok.nx σ _ ⟨F2, _, ρ, (S1.trans S2).trans (Stp.write (m := .ins C (putD fn d fs)) S2.wd hm ⟨dx, _, upd_same, kds_put (dv.mono S2.same) hk⟩), E2, q⟩⟩
/-- o.m(e, ..) -/
@[reducible] def dMeth (C : Addr) (m : Str) (r2 : RC2) (dds : List Da) (to : TE2) (ta : TA2) : TE2 := fun ρ μ Q => to ρ μ fun d μ1 => ∃ a fs, d = .ref a ∧ μ1 a = some (.ins C fs) ∧ fs.lookup m = none ∧ ta ρ μ1 fun ds μ2 => r2 (d :: (ds ++ dds)) μ2 Q
theorem meth_lift {K : Frg} {to : TE2} {σ : L2.St} {H : Hp} {Q : VK} (hdd : ∀ F, DVs K F dvs dds) (h : LE K (dMeth C m r2 dds to tas) σ H Q) : tMeth C m (LF K r2) dvs E0 (LE K to) (LA K tas) σ H Q := by
  obtain ⟨F, μ, ρ, Q2, W, E, h, k⟩ := h
  refine le_go W E h fun v H1 F1 μ1 d S1 E1 dv ⟨a, fs, e1, hm, hl, q⟩ => ?_
  subst e1
  obtain rfl := dv_ref dv
  obtain ⟨_, dx, ws, ho, hk⟩ := S1.wd.chg a _ hm
  exact ⟨a, dx, ws, rfl, ho, (kds_lookup hk).2 hl, la_go S1.wd E1 q fun vs H2 F2 μ2 ds S2 E2 dvs' q2 => ⟨F2, μ2, _, Q2, S2.wd, .cons (.ref a) (dvs'.append (hdd F2)), q2, fun v H3 p => k v H3 (post_step (S1.trans S2) p)⟩⟩
theorem d_meth {to : TE2} {pl : Sem Bool} (ho : PE2 X o to) (c : Cls X.K C) (hm : Meth X.K C m f) (G : FnOk X.prog X.w X.K X.mg X.base CX0 k f fd ps (LF X.K r2)) (hr : Room k X.A) (hb : Binds X.K fd ps ds) (hd : Vals dvs ds) (hdd : ∀ F, DVs X.K F dvs dds) (ha : PA2 X (e :: es) tas)
    (hst : starEach (e :: es) X.env = (false, eval e X.env) :: starEach es X.env := by rfl) (hpl : (backTo pos (starEach es X.env)).any (·.1) = false := by rfl)
    (ht : eval (.Call (.Attribute o m apos) (e :: es) [] pos) X.env = (do
      let ov ← eval o X.env
      standAt apos.atName
      let (f, first) ← holding [ov] (getMethod ov m pl)
      callWith pos f first (backTo pos (starEach (e :: es) X.env)) (backToKw pos (keywordEach [] X.env))) := by rfl) :
    PE2 X (.Call (.Attribute o m apos) (e :: es) [] pos) (dMeth C m r2 dds to tas) := PE.imp (pe_meth (pl := pl) ho c hm G hr hb hd pass0 ha hst hpl ht) fun σ H Q => meth_lift hdd
theorem d_meth0 {to : TE2} {pl : Sem Bool} (ho : PE2 X o to) (c : Cls X.K C) (hm : Meth X.K C m f) (G : FnOk X.prog X.w X.K X.mg X.base CX0 k f fd ps (LF X.K r2)) (hr : Room k X.A) (hb : Binds X.K fd ps ds) (hd : Vals dvs ds) (hdd : ∀ F, DVs X.K F dvs dds)
    (ht : eval (.Call (.Attribute o m apos) [] [] pos) X.env = (do
      let ov ← eval o X.env
      standAt apos.atName
      let (f, first) ← holding [ov] (getMethod ov m pl)
      callWith pos f first (backTo pos (starEach [] X.env)) (backToKw pos (keywordEach [] X.env))) := by rfl) :
    PE2 X (.Call (.Attribute o m apos) [] [] pos) (dMeth C m r2 dds to dNil) := PE.imp (pe_meth0 (pl := pl) ho c hm G hr hb hd pass0 ht) fun σ H Q h => by
  obtain ⟨F, μ, ρ, Q2, W, E, h, k⟩ := h
  refine le_go W E h fun v H1 F1 μ1 d S1 E1 dv ⟨a, fs, e1, hm, hl, q⟩ => ?_
  subst e1
  obtain rfl := dv_ref dv
  obtain ⟨_, dx, ws, ho, hk⟩ := S1.wd.chg a _ hm
  exact ⟨a, dx, ws, rfl, ho, (kds_lookup hk).2 hl, F1, μ1, _, Q2, S1.wd, .cons (.ref a) (hdd F1), q, fun v H3 p => k v H3 (post_step S1 p)⟩
/-! ### making -/
theorem make_step {K : Frg} {F H : Hp} {μ : Mu} {x dx : Addr} (W : Wd K F μ H) (hx : H x = none) (hdx : H dx = none) (ne : dx ≠ x) : Stp K F μ H F (put μ x (.ins C [])) (upd (upd H dx (.own x)) x (.ins C dx [])) := by
  have S1 : Stp K F μ H F μ (upd H dx (.own x)) := (Stp.refl W).hid hdx (W.free hdx) (W.mnone hdx)
  exact S1.trans (Stp.new (m := .ins C []) S1.wd (by rw [upd_ne ne.symm]; exact hx) ⟨dx, [], upd_same, .nil⟩)
/-- C(e, ..): the promise of __init__ at a new instance -/
@[reducible] def dMake (C : Addr) (r2 : RC2) (dds : List Da) (ta : TA2) : TE2 := fun ρ μ Q => ta ρ μ fun ds μ1 => ∀ x, μ1 x = none → r2 (.ref x :: (ds ++ dds)) (put μ1 x (.ins C [])) fun v μ2 => v = .non ∧ Q (.ref x) μ2
theorem make_lift {K : Frg} {F H : Hp} {μ : Mu} {σ : L2.St} {ρ : Rho} {Q : VK} {Q2 : QD} {F1 H1 : Hp} {μ1 : Mu} {vs : List V} {ds' : List Da} {x dx : Addr} (k : ∀ v H', Post K F μ H Q2 v H' → Q v H') (S1 : Stp K F μ H F1 μ1 H1) (hx : H1 x = none) (hdx : H1 dx = none) (ne : dx ≠ x)
    (dv : DVs K F1 vs ds') (q : r2 (.ref x :: ds') (put μ1 x (.ins C [])) fun v μ2 => v = .non ∧ Q2 (.ref x) μ2) : LF K r2 (.ref x :: vs) (upd (upd H1 dx (.own x)) x (.ins C dx [])) (fun v H2 => v = .non ∧ Q (.ref x) H2) E0 := by
  have S2 := make_step (C := C) S1.wd hx hdx ne
  refine ⟨F1, _, _, _, S2.wd, .cons (.ref x) dv, q, fun v H3 ⟨F3, μ3, d3, S3, dv3, e3, q3⟩ => ?_⟩
  subst e3
  exact ⟨dv_non dv3, k _ H3 ⟨F3, μ3, .ref x, (S1.trans S2).trans S3, .ref x, q3⟩⟩
theorem d_make (M : Mk X.K C f) (G : FnOk X.prog X.w X.K X.mg X.base CX0 k f fd ps (LF X.K r2)) (hr : Room (k + 1) X.A) (hg : Gl X x) (hm : X.mg x = some (.ref C)) (hb : Binds X.K fd ps ds) (hd : Vals dvs ds) (hdd : ∀ F, DVs X.K F dvs dds) (ha : PA2 X (e :: es) tas)
    (hdb : (x == ("__debug__" : Str)) = false := by decide) (he : starEach (e :: es) X.env = (false, eval e X.env) :: starEach es X.env := by rfl) (hpl : (backTo pos (starEach es X.env)).any (·.1) = false := by rfl) :
    PE2 X (.Call (.Name x p) (e :: es) [] pos) (dMake C r2 dds tas) := PE.imp (pe_make M G hr hg hm hb hd pass0 ha hdb he hpl) fun σ H Q ⟨F, μ, ρ, Q2, W, E, h, k⟩ =>
      la_go W E h fun vs H1 F1 μ1 ds S1 E1 dvs q y dy hy hdy ne => make_lift (ρ := ρ) (σ := σ) k S1 hy hdy ne (dvs.append (hdd F1)) (q y (S1.wd.mnone hy))
/-- keywords' values -/
abbrev PK2 (X : Cx) (kws : List Keyword) (t : TA2) := PK X kws (LA X.K t)
theorem PK.imp {kws : List Keyword} {t t' : TA} (h : PK X kws t) (i : ∀ σ H Q, t' σ H Q → t σ H Q) : PK X kws t' := ⟨fun pos pins s σ H Q I q => h.run pos pins s σ H Q I (i σ H Q q)⟩
theorem dk_nil : PK2 X [] dNil := PK.imp pk_nil fun σ H Q ⟨F, μ, ρ, Q2, W, E, h, k⟩ => k [] H ⟨F, μ, [], Stp.refl W, .nil, h⟩
theorem dk_cons {nm : Option Str} {kpos : Pos} (ha : PE2 X e te) (hr : PK2 X kws tas) : PK2 X (⟨nm, e, kpos⟩ :: kws) (dCons te tas) :=
  PK.imp (pk_cons ha hr) fun σ H Q ⟨F, μ, ρ, Q2, W, E, h, k⟩ => le_go W E h fun v H1 F1 μ1 d S1 E1 dv q1 => la_go S1.wd E1 q1 fun vs H2 F2 μ2 ds S2 E2 dvs q2 =>
    k (v :: vs) H2 ⟨F2, μ2, d :: ds, S1.trans S2, .cons (dv.mono S2.same) dvs, q2⟩
/-- C(e, .., k = v, ..): gD puts the values in the parameters' order -/
@[reducible] def dMakeK (C : Addr) (n m : Nat) (r2 : RC2) (gD : List Da → List Da → List Da) (ta tk : TA2) : TE2 := fun ρ μ Q => ta ρ μ fun ds μ1 => tk ρ μ1 fun es μ2 => ds.length = n ∧ es.length = m ∧
  ∀ x, μ2 x = none → r2 (.ref x :: gD ds es) (put μ2 x (.ins C [])) fun v μ3 => v = .non ∧ Q (.ref x) μ3
theorem d_makeK {g : List Value → List Value → List Value} {gV : List V → List V → List V} {gD : List Da → List Da → List Da} (M : Mk X.K C f) (G : FnOk X.prog X.w X.K X.mg X.base CX0 k f fd ps (LF X.K r2)) (hr : Room (k + 1) X.A) (hg : Gl X x) (hm : X.mg x = some (.ref C)) (hb : KBn X.K fd ps (n + 1) ks g gV)
    (hgd : ∀ F x vs zs ds es, DVs X.K F vs ds → DVs X.K F zs es → ∃ ws, gV (.ref x :: vs) zs = .ref x :: ws ∧ DVs X.K F ws (gD ds es)) (ha : PA2 X (e :: es) tas) (hkw : PK2 X kws tks)
    (hall : (backToKw pos (keywordEach kws X.env)).all (·.1.isSome) = true := by rfl) (hks : (backToKw pos (keywordEach kws X.env)).filterMap (·.1) = ks := by rfl) (hdb : (x == ("__debug__" : Str)) = false := by decide)
    (he : starEach (e :: es) X.env = (false, eval e X.env) :: starEach es X.env := by rfl) (hpl : ((backTo pos (starEach (e :: es) X.env)).any (·.1) || (backToKw pos (keywordEach kws X.env)).any (·.1.isNone)) = false := by rfl) :
    PE2 X (.Call (.Name x p) (e :: es) kws pos) (dMakeK C n ks.length r2 gD tas tks) := PE.imp (pe_makeK M G hr hg hm hb pass0 ha hkw hall hks hdb he hpl) fun σ H Q ⟨F, μ, ρ, Q2, W, E, h, k⟩ =>
      la_go W E h fun vs H1 F1 μ1 ds S1 E1 dvs q => la_go S1.wd E1 q fun zs H2 F2 μ2 es S2 E2 dzs ⟨l1, l2, q2⟩ => ⟨by rw [dvs.length]; exact l1, by rw [dzs.length]; exact l2, fun y dy hy hdy ne => by
        obtain ⟨ws, e1, d1⟩ := hgd F2 y vs zs ds es (dvs.mono S2.same) dzs
        rw [e1]
        exact make_lift (ρ := ρ) (σ := σ) k (S1.trans S2) hy hdy ne d1 (q2 y (S2.wd.mnone hy))⟩
end
end Dl
/-! Dl6: operators by values over plain data. -/
namespace Dl
open PySem L2
open Classical

theorem OpR.lift {X : Cx} {f : Value → Value → Sem Value} {r2 : R22} (h : ∀ x y H Q, LO X.K r2 x y H Q → ∃ r, OpR X f r ∧ r x y H Q) : OpR X f (LO X.K r2) :=
  fun pins s σ H x y v u Q I rx ry q => let ⟨_, ho, q'⟩ := h x y H Q q; ho pins s σ H x y v u Q I rx ry q'

/-! ### what a thing shows now -/
def dK (kvs : List (Key × Da)) : Da := .dct false (kvs.map fun p => (kD p.1, p.2))
def dT (kvs : List (List Key × Da)) : Da := .dct true (kvs.map fun p => (tD p.1, p.2))
def viewM (a : Addr) : Option Mo → Da
  | some (.lst ds) => .lst ds
  | some (.dK kvs) => dK kvs
  | some (.dT kvs) => dT kvs
  | _ => .ref a
def view (μ : Mu) : Da → Da
  | .ref a => viewM a (μ a)
  | d => d
section
variable {K : Frg} {F H : Hp} {μ : Mu} {v : V} {d : Da}
@[simp] theorem view_non : view μ .non = .non := rfl
@[simp] theorem view_bl {b : Bool} : view μ (.bl b) = .bl b := rfl
@[simp] theorem view_int {i : Int} : view μ (.int i) = .int i := rfl
@[simp] theorem view_str {x : Str} : view μ (.str x) = .str x := rfl
@[simp] theorem view_tup {xs : List Da} : view μ (.tup xs) = .tup xs := rfl
@[simp] theorem view_lst {xs : List Da} : view μ (.lst xs) = .lst xs := rfl
@[simp] theorem view_dct {t : Bool} {xs : List (Da × Da)} : view μ (.dct t xs) = .dct t xs := rfl
@[simp] theorem view_kt {xs : List Da} : view μ (.kt xs) = .kt xs := rfl
@[simp] theorem view_kl {xs : List Da} : view μ (.kl xs) = .kl xs := rfl
theorem view_refL {a : Addr} {ds : List Da} (h : μ a = some (.lst ds)) : view μ (.ref a) = .lst ds := by
  show viewM a (μ a) = _
  rw [h] <;> rfl
theorem view_refK {a : Addr} {kvs : List (Key × Da)} (h : μ a = some (.dK kvs)) : view μ (.ref a) = dK kvs := by
  show viewM a (μ a) = _
  rw [h] <;> rfl
theorem view_refT {a : Addr} {kvs : List (List Key × Da)} (h : μ a = some (.dT kvs)) : view μ (.ref a) = dT kvs := by
  show viewM a (μ a) = _
  rw [h] <;> rfl
theorem view_cases (μ : Mu) (d : Da) : view μ d = d ∨ ∃ a, d = .ref a ∧ ((∃ ds, μ a = some (.lst ds) ∧ view μ d = .lst ds) ∨ (∃ kvs, μ a = some (.dK kvs) ∧ view μ d = dK kvs) ∨ ∃ kvs, μ a = some (.dT kvs) ∧ view μ d = dT kvs) := by
  cases d with
  | ref a =>
    cases e : μ a with
    | none => exact .inl (by show viewM a (μ a) = _; rw [e] <;> rfl)
    | some m =>
      cases m with
      | lst ds => exact .inr ⟨a, rfl, .inl ⟨ds, e, view_refL e⟩⟩
      | dK kvs => exact .inr ⟨a, rfl, .inr (.inl ⟨kvs, e, view_refK e⟩)⟩
      | dT kvs => exact .inr ⟨a, rfl, .inr (.inr ⟨kvs, e, view_refT e⟩)⟩
      | ins C fs => exact .inl (by show viewM a (μ a) = _; rw [e] <;> rfl)
      | bag => exact .inl (by show viewM a (μ a) = _; rw [e] <;> rfl)
      | lkK o ws kvs => exact .inl (by show viewM a (μ a) = _; rw [e] <;> rfl)
      | lkT o ws kvs => exact .inl (by show viewM a (μ a) = _; rw [e] <;> rfl)
  | _ => exact .inl rfl
/-- what is seen, but a list or a dict, is the thing itself -/
theorem view_self {e : Da} (h : view μ d = e) (hl : ∀ ds, e ≠ .lst ds) (hd : ∀ t ks, e ≠ .dct t ks) : d = e := by
  rcases view_cases μ d with q | ⟨a, _, ⟨ds, _, q⟩ | ⟨ks, _, q⟩ | ⟨ks, _, q⟩⟩
  · exact q.symm.trans h
  · exact absurd (h.symm.trans q) (hl ds)
  · exact absurd (h.symm.trans q) (hd _ _)
  · exact absurd (h.symm.trans q) (hd _ _)
theorem seen_int {i : Int} (dv : DV K F v d) (h : view μ d = .int i) : v = .int i := by
  have e := view_self h (fun _ q => by cases q) (fun _ _ q => by cases q)
  subst e
  exact dv_int dv
theorem seen_str {i : Str} (dv : DV K F v d) (h : view μ d = .str i) : v = .str i := by
  have e := view_self h (fun _ q => by cases q) (fun _ _ q => by cases q)
  subst e
  exact dv_str dv
theorem seen_bl {i : Bool} (dv : DV K F v d) (h : view μ d = .bl i) : v = .bl i := by
  have e := view_self h (fun _ q => by cases q) (fun _ _ q => by cases q)
  subst e
  exact dv_bl dv
theorem seen_non (dv : DV K F v d) (h : view μ d = .non) : v = .non := by
  have e := view_self h (fun _ q => by cases q) (fun _ _ q => by cases q)
  subst e
  exact dv_non dv
theorem seen_tup {ds : List Da} (dv : DV K F v d) (h : view μ d = .tup ds) : d = .tup ds ∧ ∃ p xs, v = .ref p ∧ F p = some (.tup xs) ∧ DVs K F xs ds := by
  have e := view_self h (fun _ q => by cases q) (fun _ _ q => by cases q)
  subst e
  exact ⟨rfl, dv_tup dv⟩
theorem seen_kt {ds : List Da} (dv : DV K F v d) (h : view μ d = .kt ds) : d = .kt ds ∧ ∃ p xs, v = .ref p ∧ SqT K (fun _ => none) p xs ∧ DVs K F xs ds := by
  have e := view_self h (fun _ q => by cases q) (fun _ _ q => by cases q)
  subst e
  refine ⟨rfl, ?_⟩
  cases dv with
  | kt h1 h2 => exact ⟨_, _, rfl, h1, h2⟩
theorem seen_lst {ds : List Da} (W : Wd K F μ H) (dv : DV K F v d) (h : view μ d = .lst ds) : ∃ p xs, v = .ref p ∧ H p = some (.lst xs) ∧ DVs K F xs ds := by
  rcases view_cases μ d with q | ⟨a, e, ⟨es, hm, q⟩ | ⟨ks, _, q⟩ | ⟨ks, _, q⟩⟩
  · rw [q] at h
    subst h
    obtain ⟨p, xs, e1, h1, h2⟩ := dv_lst dv
    exact ⟨p, xs, e1, W.sub _ _ h1, h2⟩
  · rw [q] at h
    cases h
    subst e
    obtain ⟨_, xs, h1, h2⟩ := W.chg a _ hm
    exact ⟨a, xs, dv_ref dv, h1, h2⟩
  · rw [q] at h; cases h
  · rw [q] at h; cases h
theorem seen_kl {ds : List Da} (W : Wd K F μ H) (dv : DV K F v d) (h : view μ d = .kl ds) : ∃ p xs, v = .ref p ∧ SqL K H p xs ∧ DVs K F xs ds := by
  have e := view_self h (fun _ q => by cases q) (fun _ _ q => by cases q)
  subst e
  cases dv with
  | kl h1 h2 => exact ⟨_, _, rfl, W.sub.seq h1, h2⟩
theorem sqt_any {a : Addr} {xs : List V} (h : SqT K (fun _ => none) a xs) : SqT K H a xs := by
  rcases h with (h | ⟨_, h⟩) | h
  · cases h
  · cases h
  · exact .inr h
/-- a tuple, of the call's own or of the module's -/
theorem seen_seqT {ds : List Da} (W : Wd K F μ H) (dv : DV K F v d) (h : view μ d = .tup ds ∨ view μ d = .kt ds) : ∃ p xs, v = .ref p ∧ SqT K H p xs ∧ DVs K F xs ds := by
  rcases h with h | h
  · obtain ⟨_, p, xs, e, h1, h2⟩ := seen_tup dv h
    exact ⟨p, xs, e, SqT.of (W.sub _ _ h1), h2⟩
  · obtain ⟨_, p, xs, e, h1, h2⟩ := seen_kt dv h
    exact ⟨p, xs, e, sqt_any h1, h2⟩
end

/-! ### + -/
def add2 : R22 := fun d e μ Q => match view μ d, view μ e with
  | .int i, .int j => Q (.int (i + j)) μ
  | .str x, .str y => x.length + y.length ≤ sizeLine ∧ Q (.str (x ++ y)) μ
  | .lst xs, .lst ys => xs.length + ys.length ≤ sizeLine ∧ Q (.lst (xs ++ ys)) μ
  | .tup xs, .tup ys => xs.length + ys.length ≤ sizeLine ∧ Q (.tup (xs ++ ys)) μ
  | .kt xs, .kt ys => xs.length + ys.length ≤ sizeLine ∧ xs ≠ [] ∧ ys ≠ [] ∧ Q (.tup (xs ++ ys)) μ
  | _, _ => False
section
variable {X : Cx}
theorem post_lst {K : Frg} {F H : Hp} {μ : Mu} {Q2 : QD} {p : Addr} {xs : List V} {ds : List Da} (W : Wd K F μ H) (hp : H p = none) (dvs : DVs K F xs ds) (q : Q2 (.lst ds) μ) : Post K F μ H Q2 (.ref p) (upd H p (.lst xs)) :=
  ⟨_, _, .lst ds, Stp.froz W hp, .lst upd_same (dvs.mono (same_new (W.free hp))), q⟩
theorem post_tup {K : Frg} {F H : Hp} {μ : Mu} {Q2 : QD} {p : Addr} {xs : List V} {ds : List Da} (W : Wd K F μ H) (hp : H p = none) (dvs : DVs K F xs ds) (q : Q2 (.tup ds) μ) : Post K F μ H Q2 (.ref p) (upd H p (.tup xs)) :=
  ⟨_, _, .tup ds, Stp.froz W hp, .tup upd_same (dvs.mono (same_new (W.free hp))), q⟩
theorem post_lstM {K : Frg} {F H : Hp} {μ : Mu} {Q2 : QD} {p : Addr} {xs : List V} {ds : List Da} (W : Wd K F μ H) (hp : H p = none) (dvs : DVs K F xs ds) (q : ∀ p, μ p = none → Q2 (.ref p) (put μ p (.lst ds))) : Post K F μ H Q2 (.ref p) (upd H p (.lst xs)) :=
  ⟨_, _, .ref p, Stp.new (m := .lst ds) W hp ⟨xs, upd_same, dvs⟩, .ref p, q p (W.mnone hp)⟩
theorem post_same {K : Frg} {F H : Hp} {μ : Mu} {Q2 : QD} {v : V} {d : Da} (W : Wd K F μ H) (dv : DV K F v d) (q : Q2 d μ) : Post K F μ H Q2 v H := ⟨F, μ, d, Stp.refl W, dv, q⟩
theorem o_add : OpR X (binaryOp .Add) (LO X.K add2) := OpR.lift fun x y H Q ⟨F, μ, d, e, Q2, W, dx, dy, h, k⟩ => by
  unfold add2 at h
  split at h
  · rename_i i j h1 h2
    exact ⟨_, op_add, i, j, seen_int dx h1, seen_int dy h2, k _ _ (post_same W (.int _) h)⟩
  · rename_i i j h1 h2
    exact ⟨_, op_add_str, i, j, seen_str dx h1, seen_str dy h2, h.1, k _ _ (post_same W (.str _) h.2)⟩
  · rename_i xs ys h1 h2
    obtain ⟨p, us, e1, g1, g2⟩ := seen_lst W dx h1
    obtain ⟨p', us', e1', g1', g2'⟩ := seen_lst W dy h2
    exact ⟨_, op_cat, p, p', us, us', e1, e1', g1, g1', by rw [g2.length, g2'.length]; exact h.1, fun q hq => k _ _ (post_lst W hq (g2.append g2') h.2)⟩
  · rename_i xs ys h1 h2
    obtain ⟨ed, p, us, e1, g1, g2⟩ := seen_tup dx h1
    obtain ⟨ee, p', us', e1', g1', g2'⟩ := seen_tup dy h2
    subst ed ee
    refine ⟨_, op_catA, p, p', us, us', e1, e1', SqT.of (W.sub _ _ g1), SqT.of (W.sub _ _ g1'), by rw [g2.length, g2'.length]; exact h.1, fun z => ?_, fun _ z => ?_, fun _ _ q hq => k _ _ (post_tup W hq (g2.append g2') h.2)⟩
    · subst z
      cases g2
      rw [← e1']
      exact k _ _ (post_same W dy h.2)
    · subst z
      cases g2'
      rw [← e1]
      exact k _ _ (post_same W dx (by have q := h.2; rw [List.append_nil] at q; exact q))
  · rename_i xs ys h1 h2
    obtain ⟨ed, p, us, e1, g1, g2⟩ := seen_kt dx h1
    obtain ⟨ee, p', us', e1', g1', g2'⟩ := seen_kt dy h2
    refine ⟨_, op_catA, p, p', us, us', e1, e1', sqt_any g1, sqt_any g1', by rw [g2.length, g2'.length]; exact h.1, fun z => ?_, fun _ z => ?_, fun _ _ q hq => k _ _ (post_tup W hq (g2.append g2') h.2.2.2)⟩
    · subst z
      cases g2
      exact absurd rfl h.2.1
    · subst z
      cases g2'
      exact absurd rfl h.2.2.1
  · exact h.elim
/-! ### the other reckonings -/
def sub2 : R22 := fun d e μ Q => ∃ i j, d = .int i ∧ e = .int j ∧ Q (.int (i - j)) μ
theorem o_sub : OpR X (binaryOp .Sub) (LO X.K sub2) := OpR.lift fun x y H Q ⟨F, μ, d, e, Q2, W, dx, dy, ⟨i, j, e1, e2, q⟩, k⟩ => by
  subst e1 e2
  exact ⟨_, op_sub, i, j, dv_int dx, dv_int dy, k _ _ (post_same W (.int _) q)⟩
def mul2 : R22 := fun d e μ Q => match view μ d, e with
  | .int i, .int j => ((-(2 ^ 64) < i ∧ i < 2 ^ 64) ∨ (-(2 ^ 64) < j ∧ j < 2 ^ 64)) ∧ Q (.int (i * j)) μ
  | .lst xs, .int k => -(2 ^ 63) ≤ k ∧ k < 2 ^ 63 ∧ xs.length * k.toNat ≤ sizeLine ∧ Q (.lst (List.replicate k.toNat xs).flatten) μ
  | _, _ => False
theorem o_mul : OpR X (binaryOp .Mult) (LO X.K mul2) := OpR.lift fun x y H Q ⟨F, μ, d, e, Q2, W, dx, dy, h, k⟩ => by
  unfold mul2 at h
  split at h
  · rename_i i j h1
    exact ⟨_, op_mul, i, j, seen_int dx h1, dv_int dy, h.1, k _ _ (post_same W (.int _) h.2)⟩
  · rename_i xs n h1
    obtain ⟨p, us, e1, g1, g2⟩ := seen_lst W dx h1
    exact ⟨_, op_rep, p, n, us, e1, dv_int dy, g1, h.1, h.2.1, by rw [g2.length]; exact h.2.2.1, fun q hq => k _ _ (post_lst W hq (g2.rep _) h.2.2.2)⟩
  · exact h.elim
def fdiv2 : R22 := fun d e μ Q => ∃ i j, d = .int i ∧ e = .int j ∧ 0 < j ∧ j < 2 ^ 64 ∧ Q (.int (i / j)) μ
theorem o_fdiv : OpR X (binaryOp .FloorDiv) (LO X.K fdiv2) := OpR.lift fun x y H Q ⟨F, μ, d, e, Q2, W, dx, dy, ⟨i, j, e1, e2, h0, h1, q⟩, k⟩ => by
  subst e1 e2
  exact ⟨_, op_fdivW, i, j, dv_int dx, dv_int dy, wide_div (b := 64) h0 (by omega) (by decide) (by decide), k _ _ (post_same W (.int _) q)⟩
def mod2 : R22 := fun d e μ Q => ∃ i j, d = .int i ∧ e = .int j ∧ 0 < j ∧ Q (.int (i % j)) μ
theorem o_mod : OpR X (binaryOp .Mod) (LO X.K mod2) := OpR.lift fun x y H Q ⟨F, μ, d, e, Q2, W, dx, dy, ⟨i, j, e1, e2, h0, q⟩, k⟩ => by
  subst e1 e2
  exact ⟨_, op_mod, i, j, dv_int dx, dv_int dy, h0, k _ _ (post_same W (.int _) q)⟩
def pow2 : R22 := fun d e μ Q => ∃ i j, d = .int i ∧ e = .int j ∧ 0 ≤ j ∧ j ≤ 1000000 ∧ i.natAbs < 2 ^ 64 ∧ Q (.int (i ^ j.toNat)) μ
theorem o_pow : OpR X (binaryOp .Pow) (LO X.K pow2) := OpR.lift fun x y H Q ⟨F, μ, d, e, Q2, W, dx, dy, ⟨i, j, e1, e2, h0, h1, h2, q⟩, k⟩ => by
  subst e1 e2
  exact ⟨_, op_pow, i, j, dv_int dx, dv_int dy, ⟨h0, h1, h2⟩, k _ _ (post_same W (.int _) q)⟩
def neg2 : Da → Mu → QD → Prop := fun d μ Q => ∃ i, d = .int i ∧ Q (.int (-i)) μ
theorem o_neg : UnR X (unaryOp .USub) (LU X.K neg2) := fun pins s σ H x v Q I rx ⟨F, μ, d, Q2, W, dx, ⟨i, e1, q⟩, k⟩ => by
  subst e1
  exact un_neg pins s σ H x v Q I rx ⟨i, dv_int dx, k _ _ (post_same W (.int _) q)⟩
/-! ### order of ints -/
def cmp2 (p : Int → Int → Bool) : R22 := fun d e μ Q => ∃ i j, d = .int i ∧ e = .int j ∧ Q (.bl (p i j)) μ
theorem o_cmp {op : CmpOp} {p : Int → Int → Bool} (ho : OpR X (compareOp op) (rI0 fun i j => .bl (p i j))) : OpR X (compareOp op) (LO X.K (cmp2 p)) := OpR.lift fun x y H Q ⟨F, μ, d, e, Q2, W, dx, dy, ⟨i, j, e1, e2, q⟩, k⟩ => by
  subst e1 e2
  exact ⟨_, ho, i, j, dv_int dx, dv_int dy, k _ _ (post_same W (.bl _) q)⟩
abbrev lt2 : R22 := cmp2 fun i j => decide (i < j)
abbrev le2 : R22 := cmp2 fun i j => decide (i ≤ j)
abbrev gt2 : R22 := cmp2 fun i j => decide (j < i)
abbrev ge2 : R22 := cmp2 fun i j => decide (j ≤ i)
theorem o_lt : OpR X (compareOp .Lt) (LO X.K lt2) := o_cmp op_lt
theorem o_le : OpR X (compareOp .LtE) (LO X.K le2) := o_cmp op_le
theorem o_gt : OpR X (compareOp .Gt) (LO X.K gt2) := o_cmp op_gt
theorem o_ge : OpR X (compareOp .GtE) (LO X.K ge2) := o_cmp op_ge
/-! ### is None -/
def isNon : Da → Bool
  | .non => true
  | _ => false
theorem isNon_dv {K : Frg} {F : Hp} {v : V} {d : Da} (h : DV K F v d) : decide (v = .non) = isNon d := by
  cases h <;> first | rfl | exact decide_eq_false (fun q => by cases q)
def is2 : R22 := fun d e μ Q => match e with
  | .non => Q (.bl (isNon d)) μ
  | _ => False
def isnot2 : R22 := fun d e μ Q => match e with
  | .non => Q (.bl (!isNon d)) μ
  | _ => False
theorem o_is : OpR X (compareOp .Is) (LO X.K is2) := OpR.lift fun x y H Q ⟨F, μ, d, e, Q2, W, dx, dy, h, k⟩ => by
  unfold is2 at h
  split at h
  · refine ⟨_, op_isN, dv_non dy, ?_⟩
    rw [isNon_dv dx]
    exact k _ _ (post_same W (.bl _) h)
  · exact h.elim
theorem o_isnot : OpR X (compareOp .IsNot) (LO X.K isnot2) := OpR.lift fun x y H Q ⟨F, μ, d, e, Q2, W, dx, dy, h, k⟩ => by
  unfold isnot2 at h
  split at h
  · refine ⟨_, op_notN, dv_non dy, ?_⟩
    rw [isNon_dv dx]
    exact k _ _ (post_same W (.bl _) h)
  · exact h.elim
end
end Dl
/-! Dl7: ==, in, subscripts, slices over plain data. -/
namespace Dl
open PySem L2
open Classical

mutual
/-- as the library's own data (refs and dicts: nothing) -/
def py : Da → PyData
  | .non => .none
  | .bl b => .bool b
  | .int i => .int i
  | .str x => .str x
  | .tup xs => .tuple (pys xs)
  | .lst xs => .list (pys xs)
  | .dct _ _ => .none
  | .ref _ => .none
  | .kt _ => .none
  | .kl _ => .none
def pys : List Da → List PyData
  | [] => []
  | x :: xs => py x :: pys xs
end
mutual
/-- what may be compared as data: no truths, no refs; small ints -/
def okD : Da → Bool
  | .non => true
  | .int i => decide (i.natAbs < 10 ^ 12)
  | .str x => PyData.strOk x
  | .tup xs => okDs xs
  | .lst xs => okDs xs
  | _ => false
def okDs : List Da → Bool
  | [] => true
  | x :: xs => okD x && okDs xs
end
mutual
/-- what may be shown: truths too -/
def okR : Da → Bool
  | .non => true
  | .bl _ => true
  | .int i => decide (i.natAbs < 10 ^ 12)
  | .str x => PyData.strOk x
  | .tup xs => okRs xs
  | .lst xs => okRs xs
  | _ => false
def okRs : List Da → Bool
  | [] => true
  | x :: xs => okR x && okRs xs
end
mutual
def szD : Da → Nat
  | .int _ => 41
  | .str x => x.length
  | .tup xs => szDs xs
  | .lst xs => szDs xs
  | _ => 0
def szDs : List Da → Nat
  | [] => 0
  | x :: xs => szD x + 1 + szDs xs
end
mutual
def dpD : Da → Nat
  | .tup xs => dpDs xs + 1
  | .lst xs => dpDs xs + 1
  | _ => 0
def dpDs : List Da → Nat
  | [] => 0
  | x :: xs => max (dpD x) (dpDs xs)
end
theorem okDs_iff : ∀ {xs : List Da}, okDs xs = true ↔ ∀ x ∈ xs, okD x = true
  | [] => by simp [okDs]
  | x :: xs => by rw [okDs, Bool.and_eq_true, okDs_iff]; simp
theorem okRs_iff : ∀ {xs : List Da}, okRs xs = true ↔ ∀ x ∈ xs, okR x = true
  | [] => by simp [okRs]
  | x :: xs => by rw [okRs, Bool.and_eq_true, okRs_iff]; simp
mutual
theorem okR_of : ∀ {d : Da}, okD d = true → okR d = true
  | .non, _ => by simp only [okR]
  | .bl _, h => by simp [okD] at h
  | .int i, h => by simpa only [okR, okD] using h
  | .str x, h => by simpa only [okR, okD] using h
  | .tup xs, h => by rw [okR]; rw [okD] at h; exact okRs_of h
  | .lst xs, h => by rw [okR]; rw [okD] at h; exact okRs_of h
  | .dct _ _, h => by simp [okD] at h
  | .ref _, h => by simp [okD] at h
  | .kt _, h => by simp [okD] at h
  | .kl _, h => by simp [okD] at h
theorem okRs_of : ∀ {ds : List Da}, okDs ds = true → okRs ds = true
  | [], _ => by simp only [okRs]
  | x :: xs, h => by
    rw [okDs, Bool.and_eq_true] at h
    rw [okRs, Bool.and_eq_true]
    exact ⟨okR_of h.1, okRs_of h.2⟩
end
mutual
theorem lay_of : ∀ {d : Da}, okR d = true → (py d).canLay0 = true
  | .non, _ => by simp only [py, PyData.canLay0]
  | .bl _, _ => by simp only [py, PyData.canLay0]
  | .int i, _ => by simp only [py, PyData.canLay0]
  | .str x, h => by
    rw [okR] at h
    simp only [py, PyData.canLay0, h]
  | .tup xs, h => by rw [okR] at h; simp only [py, PyData.canLay0]; exact lays_of h
  | .lst xs, h => by rw [okR] at h; simp only [py, PyData.canLay0]; exact lays_of h
  | .dct _ _, h => by simp [okR] at h
  | .ref _, h => by simp [okR] at h
  | .kt _, h => by simp [okR] at h
  | .kl _, h => by simp [okR] at h
theorem lays_of : ∀ {ds : List Da}, okRs ds = true → PyData.canLayAll0 (pys ds) = true
  | [], _ => by simp only [pys, PyData.canLayAll0]
  | x :: xs, h => by
    rw [okRs, Bool.and_eq_true] at h
    simp only [pys, PyData.canLayAll0, Bool.and_eq_true]
    exact ⟨lay_of h.1, lays_of h.2⟩
end
mutual
theorem short_of : ∀ {d : Da}, okR d = true → (py d).intsShort 13 = true ∧ (py d).showable = true
  | .non, _ => by simp only [py, PyData.intsShort, PyData.showable, and_self]
  | .bl _, _ => by simp only [py, PyData.intsShort, PyData.showable, and_self]
  | .int i, h => by
    rw [okR, decide_eq_true_eq] at h
    simp only [py, PyData.intsShort, PyData.showable, decide_eq_true_eq]
    refine ⟨PyData.shown_int_le h, ?_⟩
    refine (Nat.lt_trans (PySem.Flt.log2_lt_of (by decide : 0 < 40) (Nat.lt_trans h (by decide))) (by decide))
  | .str x, _ => by simp only [py, PyData.intsShort, PyData.showable, and_self]
  | .tup xs, h => by rw [okR] at h; simp only [py, PyData.intsShort, PyData.showable]; exact shorts_of h
  | .lst xs, h => by rw [okR] at h; simp only [py, PyData.intsShort, PyData.showable]; exact shorts_of h
  | .dct _ _, h => by simp [okR] at h
  | .ref _, h => by simp [okR] at h
  | .kt _, h => by simp [okR] at h
  | .kl _, h => by simp [okR] at h
theorem shorts_of : ∀ {ds : List Da}, okRs ds = true → PyData.intsShortAll 13 (pys ds) = true ∧ PyData.showableAll (pys ds) = true
  | [], _ => by simp only [pys, PyData.intsShortAll, PyData.showableAll, and_self]
  | x :: xs, h => by
    rw [okRs, Bool.and_eq_true] at h
    have h1 := short_of h.1
    have h2 := shorts_of h.2
    simp only [pys, PyData.intsShortAll, PyData.showableAll, Bool.and_eq_true]
    exact ⟨⟨h1.1, h2.1⟩, h1.2, h2.2⟩
end
mutual
theorem depth_py : ∀ d : Da, (py d).depth = dpD d
  | .non => rfl
  | .bl _ => rfl
  | .int _ => rfl
  | .str _ => rfl
  | .tup xs => by simp only [py, PyData.depth, dpD, depths_py xs]
  | .lst xs => by simp only [py, PyData.depth, dpD, depths_py xs]
  | .dct _ _ => rfl
  | .ref _ => rfl
  | .kt _ => rfl
  | .kl _ => rfl
theorem depths_py : ∀ ds : List Da, PyData.depthAll (pys ds) = dpDs ds
  | [] => rfl
  | x :: xs => by simp only [pys, PyData.depthAll, dpDs, depth_py x, depths_py xs]
end
mutual
theorem weight_py : ∀ {d : Da}, okR d = true → (py d).weight ≤ szD d
  | .non, _ => Nat.le_refl _
  | .bl _, _ => Nat.le_refl _
  | .int i, h => by
    rw [okR, decide_eq_true_eq] at h
    simp only [py, PyData.weight, szD]
    split
    · omega
    · have h2 : i.natAbs < 2 ^ 40 := Nat.lt_trans h (by decide)
      have h3 := PySem.Flt.log2_lt_of (by decide : 0 < 40) h2
      omega
  | .str x, _ => Nat.le_refl _
  | .tup xs, h => by rw [okR] at h; simp only [py, PyData.weight, szD]; exact weights_py h
  | .lst xs, h => by rw [okR] at h; simp only [py, PyData.weight, szD]; exact weights_py h
  | .dct _ _, h => by simp [okR] at h
  | .ref _, h => by simp [okR] at h
  | .kt _, h => by simp [okR] at h
  | .kl _, h => by simp [okR] at h
theorem weights_py : ∀ {ds : List Da}, okRs ds = true → PyData.weightAll (pys ds) ≤ szDs ds
  | [], _ => Nat.le_refl _
  | x :: xs, h => by
    rw [okRs, Bool.and_eq_true] at h
    have h1 := weight_py h.1
    have h2 := weights_py h.2
    simp only [pys, PyData.weightAll, szDs]
    omega
end
mutual
theorem dp_of {K : Frg} {F H : Hp} (e : Same F H) : ∀ {v : V} {d : Da}, DV K F v d → okR d = true → Dp K H v (py d)
  | _, _, .non, _ => by rw [py]; exact .non
  | _, _, .bl b, _ => by rw [py]; exact .bl b
  | _, _, .int i, _ => by rw [py]; exact .int i
  | _, _, .str x, _ => by rw [py]; exact .str x
  | _, _, .tup h hs, q => by rw [okR] at q; rw [py]; exact .tup (SqT.of (e _ _ h)) (dps_of e hs q)
  | _, _, .lst h hs, q => by rw [okR] at q; rw [py]; exact .lst (SqL.of (e _ _ h)) (dps_of e hs q)
  | _, _, .kt h hs, q => by simp [okR] at q
  | _, _, .kl h hs, q => by simp [okR] at q
  | _, _, .dK h hs, q => by simp [okR] at q
  | _, _, .dT h hs, q => by simp [okR] at q
  | _, _, .ref a, q => by simp [okR] at q
theorem dps_of {K : Frg} {F H : Hp} (e : Same F H) : ∀ {vs : List V} {ds : List Da}, DVs K F vs ds → okRs ds = true → DpAll K H vs (pys ds)
  | _, _, .nil, _ => by rw [pys]; exact .nil
  | _, _, .cons h hs, q => by
    rw [okRs, Bool.and_eq_true] at q
    rw [pys]
    exact .cons (dp_of e h q.1) (dps_of e hs q.2)
end
mutual
theorem eqv_py : ∀ {d e : Da}, okD d = true → okD e = true → PyData.eqv (py d) (py e) = decide (d = e)
  | .non, e, h1, h2 => by cases e <;> simp [okD, py, PyData.eqv] at h2 ⊢
  | .bl _, _, h1, _ => by simp [okD] at h1
  | .int i, e, h1, h2 => by
    cases e <;> simp [okD, py, PyData.eqv] at h2 ⊢
    exact Bool.beq_eq_decide_eq ..
  | .str x, e, h1, h2 => by
    cases e <;> simp [okD, py, PyData.eqv] at h2 ⊢
    exact Bool.beq_eq_decide_eq ..
  | .tup xs, e, h1, h2 => by
    cases e with
    | tup ys =>
      rw [okD] at h1 h2
      simp only [py, PyData.eqv]
      rw [eqvs_py h1 h2]
      simp
    | _ => simp [okD, py, PyData.eqv] at h2 ⊢
  | .lst xs, e, h1, h2 => by
    cases e with
    | lst ys =>
      rw [okD] at h1 h2
      simp only [py, PyData.eqv]
      rw [eqvs_py h1 h2]
      simp
    | _ => simp [okD, py, PyData.eqv] at h2 ⊢
  | .dct _ _, _, h1, _ => by simp [okD] at h1
  | .ref _, _, h1, _ => by simp [okD] at h1
  | .kt _, _, h1, _ => by simp [okD] at h1
  | .kl _, _, h1, _ => by simp [okD] at h1
theorem eqvs_py : ∀ {xs ys : List Da}, okDs xs = true → okDs ys = true → PyData.eqvAll (pys xs) (pys ys) = decide (xs = ys)
  | [], [], _, _ => by simp [pys, PyData.eqvAll]
  | [], _ :: _, _, _ => by simp [pys, PyData.eqvAll]
  | _ :: _, [], _, _ => by simp [pys, PyData.eqvAll]
  | x :: xs, y :: ys, h1, h2 => by
    rw [okDs, Bool.and_eq_true] at h1 h2
    simp only [pys, PyData.eqvAll]
    rw [eqv_py h1.1 h2.1, eqvs_py h1.2 h2.2]
    by_cases a : x = y <;> by_cases b : xs = ys <;> simp [a, b]
end
/-- comparable -/
def cmpOk (d : Da) : Prop := okD d = true ∧ dpD d ≤ 64
theorem shaped_of {d : Da} (h : cmpOk d) : SeqAt.shaped (py d) = true := by
  unfold SeqAt.shaped
  rw [lay_of (okR_of h.1), depth_py, Bool.true_and, decide_eq_true_eq]
  exact h.2
/-- data that is seen, read as the library's -/
theorem seen_dp {K : Frg} {F H : Hp} {μ : Mu} {v : V} {d : Da} (W : Wd K F μ H) (dv : DV K F v d) (h : okR (view μ d) = true) : Dp K H v (py (view μ d)) := by
  rcases view_cases μ d with q | ⟨a, e, ⟨es, hm, q⟩ | ⟨ks, _, q⟩ | ⟨ks, _, q⟩⟩
  · rw [q] at h ⊢; exact dp_of W.sub dv h
  · obtain ⟨p, xs, e1, h1, h2⟩ := seen_lst W dv q
    rw [q] at h ⊢
    rw [okR] at h
    subst e1
    rw [py]
    exact .lst (SqL.of h1) (dps_of W.sub h2 h)
  · rw [q] at h; simp [okR, dK] at h
  · rw [q] at h; simp [okR, dT] at h

section
variable {X : Cx}
def eqOk (d e : Da) : Prop := (cmpOk d ∧ cmpOk e) ∨ (∃ a b, d = .bl a ∧ e = .bl b) ∨ (∃ a b, d = .int a ∧ e = .int b) ∨ ∃ a b, d = .str a ∧ e = .str b
noncomputable def eq2 : R22 := fun d e μ Q => eqOk (view μ d) (view μ e) ∧ Q (.bl (decide (view μ d = view μ e))) μ
noncomputable def ne2 : R22 := fun d e μ Q => eqOk (view μ d) (view μ e) ∧ Q (.bl (!decide (view μ d = view μ e))) μ
theorem o_eq (hu : X.A.units + 64 < cLine) : OpR X (compareOp .Eq) (LO X.K eq2) := OpR.lift fun x y H Q ⟨F, μ, d, e, Q2, W, dx, dy, ⟨h, q⟩, k⟩ => by
  rcases h with ⟨h1, h2⟩ | ⟨a, b, h1, h2⟩ | ⟨a, b, h1, h2⟩ | ⟨a, b, h1, h2⟩
  · refine ⟨_, op_eqD hu, _, _, seen_dp W dx (okR_of h1.1), seen_dp W dy (okR_of h2.1), shaped_of h1, shaped_of h2, ?_⟩
    rw [eqv_py h1.1 h2.1]
    exact k _ _ (post_same W (.bl _) q)
  · have e1 := seen_bl dx h1
    have e2 := seen_bl dy h2
    subst e1 e2
    refine ⟨_, op_eq, rfl, ?_⟩
    rw [h1, h2] at q
    have e3 : decide (V.bl a = V.bl b) = decide (Da.bl a = Da.bl b) := by by_cases z : a = b <;> simp [z]
    rw [e3]
    exact k _ _ (post_same W (.bl _) q)
  · have e1 := seen_int dx h1
    have e2 := seen_int dy h2
    subst e1 e2
    refine ⟨_, op_eq, rfl, ?_⟩
    rw [h1, h2] at q
    have e3 : decide (V.int a = V.int b) = decide (Da.int a = Da.int b) := by by_cases z : a = b <;> simp [z]
    rw [e3]
    exact k _ _ (post_same W (.bl _) q)
  · have e1 := seen_str dx h1
    have e2 := seen_str dy h2
    subst e1 e2
    refine ⟨_, op_eq, rfl, ?_⟩
    rw [h1, h2] at q
    have e3 : decide (V.str a = V.str b) = decide (Da.str a = Da.str b) := by by_cases z : a = b <;> simp [z]
    rw [e3]
    exact k _ _ (post_same W (.bl _) q)
theorem o_ne (hu : X.A.units + 64 < cLine) : OpR X (compareOp .NotEq) (LO X.K ne2) := OpR.lift fun x y H Q ⟨F, μ, d, e, Q2, W, dx, dy, ⟨h, q⟩, k⟩ => by
  rcases h with ⟨h1, h2⟩ | ⟨a, b, h1, h2⟩ | ⟨a, b, h1, h2⟩ | ⟨a, b, h1, h2⟩
  · refine ⟨_, op_neD hu, _, _, seen_dp W dx (okR_of h1.1), seen_dp W dy (okR_of h2.1), shaped_of h1, shaped_of h2, ?_⟩
    rw [eqv_py h1.1 h2.1]
    exact k _ _ (post_same W (.bl _) q)
  · have e1 := seen_bl dx h1
    have e2 := seen_bl dy h2
    subst e1 e2
    refine ⟨_, op_ne, rfl, ?_⟩
    rw [h1, h2] at q
    have e3 : decide (V.bl a = V.bl b) = decide (Da.bl a = Da.bl b) := by by_cases z : a = b <;> simp [z]
    rw [e3]
    exact k _ _ (post_same W (.bl _) q)
  · have e1 := seen_int dx h1
    have e2 := seen_int dy h2
    subst e1 e2
    refine ⟨_, op_ne, rfl, ?_⟩
    rw [h1, h2] at q
    have e3 : decide (V.int a = V.int b) = decide (Da.int a = Da.int b) := by by_cases z : a = b <;> simp [z]
    rw [e3]
    exact k _ _ (post_same W (.bl _) q)
  · have e1 := seen_str dx h1
    have e2 := seen_str dy h2
    subst e1 e2
    refine ⟨_, op_ne, rfl, ?_⟩
    rw [h1, h2] at q
    have e3 : decide (V.str a = V.str b) = decide (Da.str a = Da.str b) := by by_cases z : a = b <;> simp [z]
    rw [e3]
    exact k _ _ (post_same W (.bl _) q)

/-! ### in -/
/-- a plain flat thing: None, an int, a text -/
def flatD : Da → Bool
  | .non => true
  | .int _ => true
  | .str _ => true
  | _ => false
theorem flat_dv {K : Frg} {F : Hp} {v : V} {d : Da} (h : DV K F v d) (f : flatD d = true) : flatV v = true := by
  cases h <;> first | rfl | (simp [flatD] at f)
theorem eqV_dv {K : Frg} {F : Hp} {v u : V} {d e : Da} (h : DV K F v d) (h' : DV K F u e) (f : flatD d = true) (f' : flatD e = true) : eqV v u = decide (d = e) := by
  cases h <;> first | (simp [flatD] at f; done) | skip
  all_goals (cases h' <;> first | (simp [flatD] at f'; done) | skip)
  all_goals first
    | (simp [eqV]; done)
    | (simp [eqV]; exact Bool.beq_eq_decide_eq ..)
theorem flats_dv {K : Frg} {F : Hp} : ∀ {vs : List V} {ds : List Da}, DVs K F vs ds → ds.all flatD = true → vs.all flatV = true
  | _, _, .nil, _ => rfl
  | _, _, .cons h hs, f => by
    rw [List.all_cons, Bool.and_eq_true] at f
    rw [List.all_cons, flat_dv h f.1, flats_dv hs f.2]; rfl
theorem inV_dv {K : Frg} {F : Hp} {u : V} {e : Da} (h' : DV K F u e) (f' : flatD e = true) : ∀ {vs : List V} {ds : List Da}, DVs K F vs ds → ds.all flatD = true → inV u vs = decide (e ∈ ds)
  | _, _, .nil, _ => by simp [inV]
  | _, _, .cons (d := d) (ds := ds) h hs, f => by
    rw [List.all_cons, Bool.and_eq_true] at f
    have i := inV_dv h' f' hs f.2
    unfold inV at i ⊢
    rw [List.any_cons, eqV_dv h h' f.1 f', i]
    by_cases a : d = e
    · subst a; simp
    · have a' : ¬ e = d := fun q => a q.symm
      simp [a, a', List.mem_cons]
noncomputable def dlook : List (Da × Da) → Da → Option Da
  | [], _ => none
  | p :: l, k => if p.1 = k then some p.2 else dlook l k
theorem kD_inj {a b : Key} (h : kD a = kD b) : a = b := by
  cases a <;> cases b <;> simp [kD] at h <;> rw [h]
theorem kDs_inj : ∀ {a b : List Key}, a.map kD = b.map kD → a = b
  | [], [], _ => rfl
  | [], _ :: _, h => by simp at h
  | _ :: _, [], h => by simp at h
  | a :: as, b :: bs, h => by
    rw [List.map_cons, List.map_cons, List.cons.injEq] at h
    rw [kD_inj h.1, kDs_inj h.2]
theorem tD_inj {a b : List Key} (h : tD a = tD b) : a = b := by
  unfold tD at h
  injection h with h
  exact kDs_inj h
theorem dv_key {K : Frg} {F : Hp} {v : V} {k : Key} (h : DV K F v (kD k)) : v = kV k := by
  cases k with
  | inl i => exact dv_int h
  | inr x => exact dv_str h
theorem dvs_key {K : Frg} {F : Hp} : ∀ {vs : List V} {ks : List Key}, DVs K F vs (ks.map kD) → vs = ks.map kV
  | _, [], .nil => rfl
  | _, k :: ks, .cons h hs => by rw [List.map_cons, dv_key h, dvs_key hs]
theorem look_valV {κ : Type} [DecidableEq κ] {K : Frg} {F : Hp} {f : κ → Da} (inj : ∀ a b, f a = f b → a = b) {k : κ} : ∀ {ws : List (κ × V)} {kvs : List (κ × Da)}, KDs K F ws kvs →
    (∀ d, dlook (kvs.map fun p => (f p.1, p.2)) (f k) = some d → ∃ v, valV ws k = some v ∧ DV K F v d) ∧ (dlook (kvs.map fun p => (f p.1, p.2)) (f k) = none → valV ws k = none)
  | _, _, .nil => ⟨fun d h => by simp [dlook] at h, fun _ => rfl⟩
  | p :: ws, q :: kvs, .cons h t => by
    obtain ⟨e, dv⟩ := h
    obtain ⟨i1, i2⟩ := look_valV inj (k := k) t
    by_cases hk : p.1 = k
    · have hk' : f q.1 = f k := by rw [← e, hk]
      refine ⟨fun d z => ?_, fun z => ?_⟩
      · rw [List.map_cons, dlook, if_pos hk'] at z
        cases z
        exact ⟨p.2, valV_pos hk, dv⟩
      · rw [List.map_cons, dlook, if_pos hk'] at z
        cases z
    · have hk' : ¬ f q.1 = f k := fun z => hk (by rw [e]; exact inj _ _ z)
      refine ⟨fun d z => ?_, fun z => ?_⟩
      · rw [List.map_cons, dlook, if_neg hk'] at z
        rw [valV_neg hk]
        exact i1 d z
      · rw [List.map_cons, dlook, if_neg hk'] at z
        rw [valV_neg hk]
        exact i2 z
/-- a dict that is seen: which kind, and what stands there -/
theorem zip_kds {κ : Type} {K : Frg} {F : Hp} {f : κ → Da} : ∀ {ws : List (κ × V)} {ds : List Da}, DVs K F (ws.map (·.2)) ds → ∃ kvs : List (κ × Da), KDs K F ws kvs ∧ List.zip (ws.map fun p => f p.1) ds = kvs.map fun p => (f p.1, p.2)
  | [], _, .nil => ⟨[], .nil, rfl⟩
  | p :: ws, _, .cons (d := d) h hs => by
    obtain ⟨kvs, h1, h2⟩ := zip_kds (f := f) hs
    exact ⟨(p.1, d) :: kvs, .cons ⟨rfl, h⟩ h1, by rw [List.map_cons, List.zip_cons_cons, h2]; rfl⟩
theorem seen_dctK {K : Frg} {F H : Hp} {μ : Mu} {v : V} {d : Da} {es : List (Da × Da)} (W : Wd K F μ H) (dv : DV K F v d) (h : view μ d = .dct false es) :
    ∃ a ws kvs, v = .ref a ∧ H a = some (.dK ws) ∧ KDs K F ws kvs ∧ es = kvs.map fun p => (kD p.1, p.2) := by
  rcases view_cases μ d with q | ⟨a, e, ⟨es, hm, q⟩ | ⟨ks, hm, q⟩ | ⟨ks, hm, q⟩⟩
  · rw [q] at h
    subst h
    cases dv with
    | dK h1 h2 =>
      obtain ⟨kvs, g1, g2⟩ := zip_kds (f := kD) h2
      exact ⟨_, _, kvs, rfl, W.sub _ _ h1, g1, g2⟩
  · rw [q] at h; cases h
  · rw [q] at h
    cases h
    subst e
    obtain ⟨_, ws, h1, h2⟩ := W.chg a _ hm
    exact ⟨a, ws, ks, dv_ref dv, h1, h2, rfl⟩
  · rw [q] at h; cases h
theorem seen_dctT {K : Frg} {F H : Hp} {μ : Mu} {v : V} {d : Da} {es : List (Da × Da)} (W : Wd K F μ H) (dv : DV K F v d) (h : view μ d = .dct true es) :
    ∃ a ws kvs, v = .ref a ∧ H a = some (.dT ws) ∧ KDs K F ws kvs ∧ es = kvs.map fun p => (tD p.1, p.2) := by
  rcases view_cases μ d with q | ⟨a, e, ⟨es, hm, q⟩ | ⟨ks, hm, q⟩ | ⟨ks, hm, q⟩⟩
  · rw [q] at h
    subst h
    cases dv with
    | dT h1 h2 =>
      obtain ⟨kvs, g1, g2⟩ := zip_kds (f := tD) h2
      exact ⟨_, _, kvs, rfl, W.sub _ _ h1, g1, g2⟩
  · rw [q] at h; cases h
  · rw [q] at h; cases h
  · rw [q] at h
    cases h
    subst e
    obtain ⟨_, ws, h1, h2⟩ := W.chg a _ hm
    exact ⟨a, ws, ks, dv_ref dv, h1, h2, rfl⟩
/-- a key: an int, a text (t false), a tuple of such (t true) -/
def isKey : Da → Bool
  | .int _ => true
  | .str _ => true
  | _ => false
def isTKey : Da → Bool
  | .tup xs => xs.all isKey
  | _ => false
def keyB (t : Bool) (k : Da) : Bool := if t then isTKey k else isKey k
theorem isKey_of {k : Da} (h : isKey k = true) : ∃ j, k = kD j := by
  cases k with
  | int i => exact ⟨.inl i, rfl⟩
  | str x => exact ⟨.inr x, rfl⟩
  | _ => simp [isKey] at h
theorem isKeys_of : ∀ {ks : List Da}, ks.all isKey = true → ∃ js : List Key, ks = js.map kD
  | [], _ => ⟨[], rfl⟩
  | k :: ks, h => by
    rw [List.all_cons, Bool.and_eq_true] at h
    obtain ⟨j, e⟩ := isKey_of h.1
    obtain ⟨js, e2⟩ := isKeys_of h.2
    exact ⟨j :: js, by rw [e, e2]; rfl⟩
theorem isTKey_of {k : Da} (h : isTKey k = true) : ∃ j, k = tD j := by
  cases k with
  | tup xs =>
    obtain ⟨js, e⟩ := isKeys_of h
    exact ⟨js, by rw [e]; rfl⟩
  | _ => simp [isTKey] at h
/-- what a dict has at a key: DGet of the raw layer -/
theorem dget_at {K : Frg} {F H : Hp} {μ : Mu} {v u : V} {d k : Da} {t : Bool} {es : List (Da × Da)} (W : Wd K F μ H) (dv : DV K F v d) (h : view μ d = .dct t es) (dk : DV K F u k) (hk : keyB t k = true) :
    ∃ a o, v = .ref a ∧ DGet H a u o ∧ (∀ x, dlook es k = some x → ∃ y, o = some y ∧ DV K F y x) ∧ (dlook es k = none → o = none) ∧ o.isSome = (dlook es k).isSome := by
  cases t with
  | false =>
    obtain ⟨j, ej⟩ := isKey_of hk
    subst ej
    obtain ⟨a, ws, kvs, e1, h1, h2, e3⟩ := seen_dctK W dv h
    obtain rfl := dv_key dk
    obtain ⟨i1, i2⟩ := look_valV (f := kD) (fun _ _ => kD_inj) (k := j) h2
    rw [← e3] at i1 i2
    refine ⟨a, _, e1, DGet.k h1, i1, i2, ?_⟩
    cases q : dlook es (kD j) with
    | none => rw [i2 q]; rfl
    | some x => obtain ⟨y, hy, _⟩ := i1 x q; rw [hy]; rfl
  | true =>
    obtain ⟨j, ej⟩ := isTKey_of hk
    subst ej
    obtain ⟨a, ws, kvs, e1, h1, h2, e3⟩ := seen_dctT W dv h
    obtain ⟨b, xs, rfl, hb, hxs⟩ := dv_tup dk
    have ex := dvs_key hxs
    subst ex
    obtain ⟨i1, i2⟩ := look_valV (f := tD) (fun _ _ => tD_inj) (k := j) h2
    rw [← e3] at i1 i2
    refine ⟨a, _, e1, DGet.t h1 (W.sub _ _ hb), i1, i2, ?_⟩
    cases q : dlook es (tD j) with
    | none => rw [i2 q]; rfl
    | some x => obtain ⟨y, hy, _⟩ := i1 x q; rw [hy]; rfl

/-- x in ..: a list, a tuple of flat things or of data; a dict -/
noncomputable def inB (d e : Da) (μ : Mu) (Q : Bool → Prop) : Prop := match view μ e with
  | .lst xs => cmpOk d ∧ cmpOk (.lst xs) ∧ Q (decide (d ∈ xs))
  | .tup xs => flatD d = true ∧ xs.all flatD = true ∧ Q (decide (d ∈ xs))
  | .kt xs => flatD d = true ∧ xs.all flatD = true ∧ Q (decide (d ∈ xs))
  | .dct t es => keyB t d = true ∧ Q (dlook es d).isSome
  | _ => False
theorem any_eqv {d : Da} (h : okD d = true) : ∀ {xs : List Da}, okDs xs = true → ((pys xs).any fun z => PyData.eqv z (py d)) = decide (d ∈ xs)
  | [], _ => by simp [pys]
  | x :: xs, hx => by
    rw [okDs, Bool.and_eq_true] at hx
    rw [pys, List.any_cons, any_eqv h hx.2, eqv_py hx.1 h]
    by_cases a : x = d
    · subst a; simp
    · have a' : ¬ d = x := fun q => a q.symm
      simp [a, a']
theorem in_cases {K : Frg} {F H : Hp} {μ : Mu} {x y : V} {d e : Da} {Q : Bool → Prop} (W : Wd K F μ H) (dx : DV K F x d) (dy : DV K F y e) (h : inB d e μ Q) :
    (∃ c, Q c ∧ ∃ xs ds, Dp K H x xs ∧ Dp K H y (.list ds) ∧ SeqAt.shaped xs = true ∧ SeqAt.shaped (.list ds) = true ∧ (ds.any fun z => PyData.eqv z xs) = c) ∨
    (∃ c, Q c ∧ ∃ p xs, y = .ref p ∧ SqT K H p xs ∧ flatV x = true ∧ xs.all flatV = true ∧ inV x xs = c) ∨ ∃ a o, Q o.isSome ∧ y = .ref a ∧ DGet H a x o := by
  unfold inB at h
  split at h
  · rename_i xs hv
    obtain ⟨h1, h2, q⟩ := h
    have dp1 := dp_of W.sub dx (okR_of h1.1)
    have dp2 := seen_dp W dy (by rw [hv]; exact okR_of h2.1)
    rw [hv] at dp2
    rw [py] at dp2
    have s2 := shaped_of h2
    rw [py] at s2
    refine .inl ⟨_, q, _, _, dp1, dp2, shaped_of h1, s2, any_eqv h1.1 ?_⟩
    have := h2.1
    rwa [okD] at this
  · rename_i xs hv
    obtain ⟨p, us, e1, g1, g2⟩ := seen_seqT W dy (.inl hv)
    exact .inr (.inl ⟨_, h.2.2, p, us, e1, g1, flat_dv dx h.1, flats_dv g2 h.2.1, inV_dv dx h.1 g2 h.2.1⟩)
  · rename_i xs hv
    obtain ⟨p, us, e1, g1, g2⟩ := seen_seqT W dy (.inr hv)
    exact .inr (.inl ⟨_, h.2.2, p, us, e1, g1, flat_dv dx h.1, flats_dv g2 h.2.1, inV_dv dx h.1 g2 h.2.1⟩)
  · rename_i t es hv
    obtain ⟨a, o, e1, g, _, _, eo⟩ := dget_at W dy hv dx h.1
    exact .inr (.inr ⟨a, o, by rw [eo]; exact h.2, e1, g⟩)
  · exact h.elim
noncomputable def in2 : R22 := fun d e μ Q => inB d e μ fun c => Q (.bl c) μ
noncomputable def notin2 : R22 := fun d e μ Q => inB d e μ fun c => Q (.bl (!c)) μ
theorem op_inDict (hu : X.A.units + 1 < cLine) : OpR X (compareOp .In) (fun x y H Q => ∃ a o, y = .ref a ∧ DGet H a x o ∧ Q (.bl o.isSome) H) := fun pins s σ H x y v u Q I rx ry ⟨a, o, e, g, q⟩ => by
  subst e
  obtain rfl : u = Value.ref a := ry
  exact d_in hu I g rx fun s' I' => ⟨.bl _, H, I', rfl, q⟩
theorem op_notInDict (hu : X.A.units + 1 < cLine) : OpR X (compareOp .NotIn) (fun x y H Q => ∃ a o, y = .ref a ∧ DGet H a x o ∧ Q (.bl (!o.isSome)) H) := fun pins s σ H x y v u Q I rx ry ⟨a, o, e, g, q⟩ => by
  subst e
  obtain rfl : u = Value.ref a := ry
  exact d_notIn hu I g rx fun s' I' => ⟨.bl _, H, I', rfl, q⟩
theorem o_in (hu : X.A.units + 65 < cLine) : OpR X (compareOp .In) (LO X.K in2) := OpR.lift fun x y H Q ⟨F, μ, d, e, Q2, W, dx, dy, h, k⟩ => by
  rcases in_cases W dx dy h with ⟨c, q, xs, ds, g1, g2, g3, g4, ec⟩ | ⟨c, q, p, xs, e1, g1, g2, g3, ec⟩ | ⟨a, o, q, e1, g⟩
  · exact ⟨_, op_inD hu, xs, ds, g1, g2, g3, g4, by rw [ec]; exact k _ _ (post_same W (.bl _) q)⟩
  · exact ⟨_, op_in_seq, p, xs, e1, .inr g1, g2, g3, by rw [ec]; exact k _ _ (post_same W (.bl _) q)⟩
  · exact ⟨_, op_inDict (by omega), a, o, e1, g, k _ _ (post_same W (.bl _) q)⟩
theorem o_notin (hu : X.A.units + 65 < cLine) : OpR X (compareOp .NotIn) (LO X.K notin2) := OpR.lift fun x y H Q ⟨F, μ, d, e, Q2, W, dx, dy, h, k⟩ => by
  rcases in_cases W dx dy h with ⟨c, q, xs, ds, g1, g2, g3, g4, ec⟩ | ⟨c, q, p, xs, e1, g1, g2, g3, ec⟩ | ⟨a, o, q, e1, g⟩
  · exact ⟨_, op_notInD hu, xs, ds, g1, g2, g3, g4, by rw [ec]; exact k _ _ (post_same W (.bl _) q)⟩
  · exact ⟨_, op_notIn_seq, p, xs, e1, .inr g1, g2, g3, by rw [ec]; exact k _ _ (post_same W (.bl _) q)⟩
  · exact ⟨_, op_notInDict (by omega), a, o, e1, g, k _ _ (post_same W (.bl _) q)⟩

/-! ### subscripts -/
theorem ix_dict (hu : X.A.units + 1 < cLine) : IxR X (fun x y H Q => ∃ a v, x = .ref a ∧ DGet H a y (some v) ∧ Q v H) := fun value slice pins s σ H x y v u Q I rx ry ⟨a, z, e, g, q⟩ hs => by
  subst e
  obtain rfl : v = Value.ref a := rx
  exact PyProof.Rows.tail_any (dict_typeIs I g) PySem.F.slot_dict_getitem.lookup (d_getItem hu I g ry fun w' s' I' rw' => ⟨z, H, I', rw', q⟩) hs
/-- a dict that is walked now, read -/
def lkD (μ : Mu) (a : Addr) : Option (Bool × List (Da × Da)) := match μ a with
  | some (.lkK _ _ kvs) => some (false, kvs.map fun p => (kD p.1, p.2))
  | some (.lkT _ _ kvs) => some (true, kvs.map fun p => (tD p.1, p.2))
  | _ => none
theorem dget_lk {K : Frg} {F H : Hp} {μ : Mu} {u : V} {a : Addr} {k : Da} {t : Bool} {es : List (Da × Da)} (W : Wd K F μ H) (h : lkD μ a = some (t, es)) (dk : DV K F u k) (hk : keyB t k = true) :
    ∃ o, DGet H a u o ∧ ∀ x, dlook es k = some x → ∃ y, o = some y ∧ DV K F y x := by
  unfold lkD at h
  split at h
  · rename_i o ws kvs hm
    cases h
    obtain ⟨j, ej⟩ := isKey_of hk
    subst ej
    obtain ⟨_, h1, h2⟩ := W.chg a _ hm
    obtain rfl := dv_key dk
    obtain ⟨i1, _⟩ := look_valV (f := kD) (fun _ _ => kD_inj) (k := j) h2
    exact ⟨_, .inl ⟨ws, j, .inr ⟨o, h1⟩, rfl, rfl⟩, i1⟩
  · rename_i o ws kvs hm
    cases h
    obtain ⟨j, ej⟩ := isTKey_of hk
    subst ej
    obtain ⟨_, h1, h2⟩ := W.chg a _ hm
    obtain ⟨b, xs, rfl, hb, hxs⟩ := dv_tup dk
    have ex := dvs_key hxs
    subst ex
    obtain ⟨i1, _⟩ := look_valV (f := tD) (fun _ _ => tD_inj) (k := j) h2
    exact ⟨_, .inr ⟨ws, j, b, .inr ⟨o, h1⟩, rfl, W.sub _ _ hb, rfl⟩, i1⟩
  · cases h
noncomputable def ix2 : R22 := fun d e μ Q => match view μ d with
  | .lst xs => ∃ i x, e = .int i ∧ atI xs i = some x ∧ Q x μ
  | .tup xs => ∃ i x, e = .int i ∧ atI xs i = some x ∧ Q x μ
  | .kt xs => ∃ i x, e = .int i ∧ atI xs i = some x ∧ Q x μ
  | .str z => ∃ i c, e = .int i ∧ z.length ≤ sizeLine ∧ atI z.cps.toList i = some c ∧ Q (.str ⟨#[c]⟩) μ
  | .dct t es => keyB t e = true ∧ ∃ x, dlook es e = some x ∧ Q x μ
  | .ref a => ∃ t es, lkD μ a = some (t, es) ∧ keyB t e = true ∧ ∃ x, dlook es e = some x ∧ Q x μ
  | _ => False
theorem atI_dv {K : Frg} {F : Hp} {vs : List V} {ds : List Da} {i : Int} {d : Da} (h : DVs K F vs ds) (e : atI ds i = some d) : ∃ v, atI vs i = some v ∧ DV K F v d := by
  unfold atI at e ⊢
  rw [h.length]
  cases q : ixN ds.length i with
  | none => rw [q] at e; cases e
  | some j =>
    rw [q] at e
    obtain ⟨v, h1, h2⟩ := h.get' (i := j) (d := d) e
    exact ⟨v, h1, h2⟩
theorem IxR.lift {r2 : R22} (h : ∀ x y H Q, LO X.K r2 x y H Q → ∃ r, IxR X r ∧ r x y H Q) : IxR X (LO X.K r2) :=
  fun value slice pins s σ H x y v u Q I rx ry q hs => let ⟨_, ho, q'⟩ := h x y H Q q; ho value slice pins s σ H x y v u Q I rx ry q' hs
theorem o_ix (hu : X.A.units + 1 < cLine) : IxR X (LO X.K ix2) := IxR.lift fun x y H Q ⟨F, μ, d, e, Q2, W, dx, dy, h, k⟩ => by
  unfold ix2 at h
  split at h
  · rename_i xs hv
    obtain ⟨i, z, e1, e2, q⟩ := h
    subst e1
    obtain ⟨p, us, e3, g1, g2⟩ := seen_lst W dx hv
    obtain ⟨w, hw, dw⟩ := atI_dv g2 e2
    exact ⟨_, ix_list, p, us, i, w, e3, dv_int dy, SqL.of g1, hw, k _ _ (post_same W dw q)⟩
  · rename_i xs hv
    obtain ⟨i, z, e1, e2, q⟩ := h
    subst e1
    obtain ⟨p, us, e3, g1, g2⟩ := seen_seqT W dx (.inl hv)
    obtain ⟨w, hw, dw⟩ := atI_dv g2 e2
    exact ⟨_, ix_tup, p, us, i, w, e3, dv_int dy, g1, hw, k _ _ (post_same W dw q)⟩
  · rename_i xs hv
    obtain ⟨i, z, e1, e2, q⟩ := h
    subst e1
    obtain ⟨p, us, e3, g1, g2⟩ := seen_seqT W dx (.inr hv)
    obtain ⟨w, hw, dw⟩ := atI_dv g2 e2
    exact ⟨_, ix_tup, p, us, i, w, e3, dv_int dy, g1, hw, k _ _ (post_same W dw q)⟩
  · rename_i z hv
    obtain ⟨i, c, e1, hz, e2, q⟩ := h
    subst e1
    exact ⟨_, ix_str, z, i, c, seen_str dx hv, dv_int dy, hz, e2, k _ _ (post_same W (.str _) q)⟩
  · rename_i t es hv
    obtain ⟨hk, z, e2, q⟩ := h
    obtain ⟨a, o, e1, g, i1, _, _⟩ := dget_at W dx hv dy hk
    obtain ⟨w, ew, dw⟩ := i1 z e2
    subst ew
    exact ⟨_, ix_dict hu, a, w, e1, g, k _ _ (post_same W dw q)⟩
  · rename_i a hv
    obtain ⟨t, es, hl, hk, z, e2, q⟩ := h
    have ed := view_self hv (fun _ q => by cases q) (fun _ _ q => by cases q)
    subst ed
    obtain ⟨o, g, i1⟩ := dget_lk W hl dy hk
    obtain ⟨w, ew, dw⟩ := i1 z e2
    subst ew
    exact ⟨_, ix_dict hu, a, w, dv_ref dx, g, k _ _ (post_same W dw q)⟩
  · exact h.elim
theorem d_ix {a b : Expr} {pos : Pos} {ta tb : TE2} {r : R22} (hr : IxR X (LO X.K r)) (ha : PE2 X a ta) (hb : PE2 X b tb) (hs : PlainIx b := by exact fun _ _ => rfl) : PE2 X (.Subscript a b pos) (dOp r ta tb) :=
  PE.imp (pe_ix hr ha hb hs) fun _ _ _ => op_lift
end
end Dl
/-! Dl8: a star in a target: a, b, *rest = a tuple. -/
namespace Dl
open PySem L2
open PyProof.Rows (IsTup IsTupIter iter_tuple draw_tuple)

section
variable {prog : Program} {w : World} {A : Around} {E : Value → Shared → Prop} {s : Shared}
theorem walks_from {t I : Addr} {i : Nat} {items : Array Value} (hh : A.handled = none) (hne : t ≠ I) (hi : i ≤ items.size) :
    Walks prog w A I [I, t] [I] (items.size - i) (fun j v => items[i + j]? = some v) (fun j h => h.IsTupleIter I t (i + j) ∧ h.IsTuple t items) where
  sub := fun b hb => by simp at hb; simp [hb]
  frame := fun j h h' st hk => (Walks.tuple (prog := prog) (w := w) hh I t hne items).frame (i + j) h h' st hk
  item := fun j s Q E hj st hQ => (Walks.tuple (prog := prog) (w := w) hh I t hne items).item (i + j) s Q E (by omega) st fun v h' tk hv st' hk => hQ v h' tk hv st' hk
  done := fun s Q E st hQ => by
    have e : i + (items.size - i) = items.size := by omega
    rw [e] at st
    exact (Walks.tuple (prog := prog) (w := w) hh I t hne items).done s Q E st hQ
  self := fun j s Q E st hQ => (Walks.tuple (prog := prog) (w := w) hh I t hne items).self (i + j) s Q E st hQ
theorem typeIs_it {h : Heap} {I t : Addr} {j : Nat} {s : Shared} (x : s.heap.IsTupleIter I t j) : s.TypeIs (.ref I) "tuple_iterator" := by
  obtain ⟨o, e, c, _⟩ := x
  exact ⟨o, e, c⟩
/-- the items ahead of the star, then a new list of the rest -/
theorem unpack_star {t : Addr} {items : Array Value} {targets : List (Bool × (Value → Sem Unit))} {i : Nat} {Q : Unit → Shared → Prop} (hh : A.handled = none) (ht : IsTup s.heap t items) (hsz : items.size ≤ sizeLine)
    (hn : targets.length = i + 1) (hi : i ≤ items.size) (hstar : targets.findIdx? (·.1) = some i)
    (h : ∀ (s' : Shared), (∀ b o, s.heap.get? b = some o → s'.heap.get? b = some o) → s'.gens = s.gens → s'.os = s.os →
      wpAny (model prog w) A (assignInOrder (targets.map (·.2)) (items.toList.take i ++ [.ref s'.heap.objs.size])) Q E { s' with heap := s'.heap.push { cls := .type "list", data := .seq (items.toList.drop i).toArray } }) :
    wpAny (model prog w) A (unpack (.ref t) targets) Q E s := by
  have hlt : t ≠ s.heap.objs.size := by obtain ⟨o, ho, _⟩ := ht; exact Nat.ne_of_lt (Heap.lt_size ho)
  have htlt : t < s.heap.objs.size := by obtain ⟨o, ho, _⟩ := ht; exact Heap.lt_size ho
  unfold unpack
  rw [hn, hstar]
  refine wpAny_bind (wpAny_holding ?_)
  unfold unpackItems
  refine wpAny_bind ?_
  unfold notIterableAtAll
  refine wpAny_bind (wpAny_specialOf ht.typeIs PyProof.Rows.slot_tuple_iter.lookup ?_)
  refine wpAny_pure ?_
  simp only [Bool.false_eq_true, if_false]
  refine wpAny_bind (wpAny_holding (iter_tuple ht ?_))
  refine wpAny_bind (wpAny_holding (draw_tuple hlt i 0 _ _ ⟨_, Heap.get?_push_size _ rfl, rfl, rfl⟩ (ht.push _) (by omega) fun h₁ hit₁ hs₁ => ?_))
  have ht₁ : IsTup h₁ t items := (ht.push _).extBut hs₁.extBut hlt
  have k1 : ∀ b o, s.heap.get? b = some o → h₁.get? b = some o := fun b o e => hs₁.extBut b o (Nat.ne_of_lt (Heap.lt_size e)) (Heap.get?_push_of_some _ e)
  have e0 : (items.toList.drop 0).take i = items.toList.take i := by rw [List.drop_zero]
  rw [e0]
  have hl : (items.toList.take i).length = i := by rw [List.length_take, Array.length_toList]; omega
  rw [if_neg (by rw [hl]; omega)]
  have W := (walks_from (prog := prog) (w := w) (A := A.in1) (t := t) (I := s.heap.objs.size) (i := i) (items := items) hh hlt hi).toS
  have hit2 : h₁.IsTupleIter s.heap.objs.size t (i + 0) := by
    have q := hit₁
    rw [Nat.zero_add] at q
    exact q
  have lt1 : s.heap.objs.size < h₁.objs.size := by obtain ⟨o, e, _⟩ := hit2; exact Heap.lt_size e
  refine wpAny_bind (wpAny_holding (wpAny_collect_iter (T := "tuple_iterator") (.inr (.inr (.inr rfl))) W (fun j s' st => typeIs_it (h := s'.heap) st.1) ⟨hit2, ht₁⟩ (fun b hb => ?_) (by simp) (fun s' acc mv it => ?_) (by omega)))
  · simp at hb
    rcases hb with rfl | rfl
    · exact lt1
    · exact Nat.lt_trans htlt lt1
  · have eacc : acc.toList = items.toList.drop i := by
      apply List.ext_getElem?
      intro j
      rw [List.getElem?_drop, Array.getElem?_toList, Array.getElem?_toList]
      by_cases hj : j < acc.size
      · have e1 : acc[j]? = some acc[j] := by simp [hj]
        rw [e1]
        exact (it.2 j _ e1).symm
      · have e2 : items.size ≤ i + j := by have := it.1; omega
        rw [Array.getElem?_eq_none (by omega), Array.getElem?_eq_none e2]
    have hz : ¬ (acc.toList.length < i + 1 - 1 - i) := by omega
    show wpAny _ _ (if acc.toList.length < i + 1 - 1 - i then _ else _) _ _ _
    rw [if_neg hz]
    have em : acc.toList.length - (i + 1 - 1 - i) = acc.toList.length := by omega
    rw [em, List.take_length, List.drop_length, eacc]
    refine wpAny_bind (wpAny_newObj_type ?_ (by show (List.drop i items.toList).toArray.size ≤ sizeLine; rw [List.size_toArray, List.length_drop, Array.length_toList]; omega))
    refine wpAny_pure ?_
    rw [List.append_nil]
    refine h s' (fun b o e => mv.heap b o ?_ (k1 b o e)) mv.gens mv.os
    simp
    exact Nat.ne_of_lt (Heap.lt_size e)
end
section
variable {X : Cx} {es : List Expr} {e : Expr} {pos pos' : Pos}
theorem pgs_starred {t : TG} {u : TGs} (h1 : PG X e t) (h2 : PGs X es u) : PGs X (.Starred e pos' :: es) (gCons t u) := by
  refine ⟨fun pins s σ H vs us Q I r h => ?_⟩
  obtain ⟨v, vr, e1, h⟩ := h
  subst e1
  cases r with
  | cons r rr =>
    show wpAny _ _ (assignInOrder (assign e X.env :: (assignEach es X.env).map (·.2)) _) _ _ _
    refine PyProof.Rows.assignInOrder_cons (thn (h1.run pins s σ H _ _ _ I r h) fun _ s1 ⟨σ1, H1, I1, q1⟩ => ?_)
    exact h2.run pins s1 σ1 H1 _ _ Q I1 rr q1
/-- (a, .., *rest) = a tuple: i names, then the rest as a new list -/
def gStar (K : Frg) (i : Nat) (t : TGs) : TG := fun v σ H Q => ∃ a xs, v = .ref a ∧ SqT K H a xs ∧ i ≤ xs.length ∧ ∀ p, H p = none → t (xs.take i ++ [.ref p]) σ (upd H p (.lst (xs.drop i))) Q
theorem pg_star {k i : Nat} {t : TGs} (hc : X.calm = true) (h : PGs X es t) (hn : (assignEach es X.env).length = i + 1 := by rfl) (hst : (assignEach es X.env).findIdx? (·.1) = some i := by rfl) : PG X (.Tuple es k pos) (gStar X.K i t) := by
  refine ⟨fun pins s σ H v u Q I r hw => ?_⟩
  obtain ⟨a, xs, e1, hq, hl, hw⟩ := hw
  subst e1
  cases r
  obtain ⟨its, rv, ht, hz⟩ := I.tuple hq
  rw [PyProof.Rows.assign_Tuple]
  have hlen := rv.length
  refine wpAny_bind (wpAny_standAt (unpack_star (I.ok.hd hc) ht (by simp; omega) hn (by simp; omega) hst fun s' hk hg ho => ?_))
  obtain ⟨hp, g, d, tk, os⟩ := s'
  obtain rfl : g = s.gens := hg
  obtain rfl : os = s.os := ho
  have I1 : Inv X pins σ H { s with heap := hp, drawn := d, toks := tk } := by
    have := I.call (g' := s.gens) (h' := hp) (t' := tk) (d' := d) (ch := []) (Un.kept hk) (HOk.kept I.hok hk) I.bare (fun b z => absurd z (by simp))
    exact this
  have hf : H hp.objs.size = none := I1.hok.fresh (Nat.le_refl _)
  have I2 : Inv X pins σ (upd H hp.objs.size (.lst (xs.drop i))) { s with heap := hp.push { cls := .type "list", data := .seq ((its.toArray).toList.drop i).toArray }, drawn := d, toks := tk } :=
    I1.laid (t' := tk) (fun b u e => Heap.get?_push_of_some _ e) (Nat.le_refl _) ⟨by rw [List.length_drop]; omega, its.drop i, 0, rv.drop i, by simpa using Heap.get?_push_size hp rfl⟩
  have hv : Vals (xs.take i ++ [.ref hp.objs.size]) ((its.toArray).toList.take i ++ [Value.ref hp.objs.size]) := Vals.append (by simpa using rv.take i) (.cons rfl .nil)
  exact h.run pins _ σ _ _ _ Q I2 hv (hw _ hf)
/-- over plain data: the rest is a list that stays -/
@[reducible] def gS (i : Nat) (t : TGs2) : TG2 := fun d ρ μ Q => ∃ ds, d = .tup ds ∧ i ≤ ds.length ∧ t (ds.take i ++ [.lst (ds.drop i)]) ρ μ Q
theorem dgs_starred {t : TG2} {u : TGs2} (h1 : PG2 X e t) (h2 : PGs2 X es u) : PGs2 X (.Starred e pos' :: es) (gCons2 t u) :=
  PGs.imp (pgs_starred h1 h2) fun vs σ H Q ⟨F, μ, ρ, ds, Q2, W, E, dvs, ⟨d, r, e1, q⟩, k⟩ => by
    subst e1
    cases dvs with
    | cons dv dvr =>
      refine ⟨_, _, rfl, F, μ, ρ, d, _, W, E, dv, q, fun σ' H' ⟨F1, μ1, ρ1, S1, E1, q1⟩ => ?_⟩
      exact ⟨F1, μ1, ρ1, r, Q2, S1.wd, E1, dvr.mono S1.same, q1, fun σ2 H2 p => k σ2 H2 (postS_step S1 p)⟩
theorem star_lift {K : Frg} {i : Nat} {t : TGs2} {v : V} {σ : L2.St} {H : Hp} {Q : L2.St → Hp → Prop} (h : LG K (gS i t) v σ H Q) : gStar K i (LGs K t) v σ H Q := by
  obtain ⟨F, μ, ρ, d, Q2, W, E, dv, ⟨ds, e1, hl, q⟩, k⟩ := h
  subst e1
  obtain ⟨p, xs, rfl, h1, h2⟩ := dv_tup dv
  refine ⟨p, xs, rfl, SqT.of (W.sub _ _ h1), by rw [h2.length]; exact hl, fun a ha => ?_⟩
  have S := Stp.froz (o := .lst (xs.drop i)) W ha
  refine ⟨_, μ, ρ, _, Q2, S.wd, E.mono S.same, ((h2.take i).mono S.same).append (.cons (.lst upd_same ((h2.drop i).mono S.same)) .nil), q, fun σ' H' p => k σ' H' (postS_step S p)⟩
theorem dg_star {k i : Nat} {t : TGs2} (hc : X.calm = true) (h : PGs2 X es t) (hn : (assignEach es X.env).length = i + 1 := by rfl) (hst : (assignEach es X.env).findIdx? (·.1) = some i := by rfl) : PG2 X (.Tuple es k pos) (gS i t) :=
  PG.imp (pg_star hc h hn hst) fun v σ H Q => star_lift
end
end Dl
/-! Dl9: built-in calls, methods, stores, what is walked. -/
namespace Dl
open PySem L2
open Classical

section
variable {X : Cx} {e o : Expr} {es : List Expr} {pos : Pos} {te to : TE2} {tas : TA2}
theorem PG.or {e : Expr} {t t' : TG} (h : PG X e t) (h' : PG X e t') : PG X e (fun v σ H Q => t v σ H Q ∨ t' v σ H Q) := ⟨fun pins s σ H v u Q I r q => q.elim (h.run pins s σ H v u Q I r) (h'.run pins s σ H v u Q I r)⟩
/-- (a, b, ..) = a tuple or a list of that many -/
@[reducible] def gU (n : Nat) (t : TGs2) : TG2 := fun d ρ μ Q => match view μ d with
  | .tup ds => ds.length = n ∧ t ds ρ μ Q
  | .lst ds => ds.length = n ∧ t ds ρ μ Q
  | _ => False
theorem dg_un {k n : Nat} {t : TGs2} (hc : X.calm = true) (h : PGs2 X es t) (hn : (assignEach es X.env).length = n := by rfl) (hst : (assignEach es X.env).findIdx? (·.1) = none := by rfl) : PG2 X (.Tuple es k pos) (gU n t) :=
  PG.imp (PG.or (pg_tup hc h hn hst) (pg_unl hc h hn hst)) fun v σ H Q ⟨F, μ, ρ, d, Q2, W, E, dv, h, k⟩ => by
    unfold gU at h
    split at h
    · rename_i ds hv
      obtain ⟨p, xs, e1, h1, h2⟩ := seen_seqT W dv (.inl hv)
      exact .inl ⟨p, xs, e1, h1, by rw [h2.length]; exact h.1, F, μ, ρ, ds, Q2, W, E, h2, h.2, k⟩
    · rename_i ds hv
      obtain ⟨p, xs, e1, h1, h2⟩ := seen_lst W dv hv
      exact .inr ⟨p, xs, e1, SqL.of h1, by rw [h2.length]; exact h.1, F, μ, ρ, ds, Q2, W, E, h2, h.2, k⟩
    · exact h.elim
theorem go_un {K : Frg} {vs : List Nat} {u : TGs} {u2 : TGs2} {n : Nat} (h : GsOk K u u2 vs) : GOk K (fun v σ H Q => gTup K n u v σ H Q ∨ gUnl K n u v σ H Q) (gU n u2) vs := fun F μ H σ ρ d v Q2 R W E dv h1 k => by
  unfold gU at h1
  split at h1
  · rename_i ds hv
    obtain ⟨p, xs, rfl, g1, g2⟩ := seen_seqT W dv (.inl hv)
    exact .inl ⟨p, xs, rfl, g1, by rw [g2.length]; exact h1.1, h F μ H σ ρ ds xs Q2 R W E g2 h1.2 k⟩
  · rename_i ds hv
    obtain ⟨p, xs, rfl, g1, g2⟩ := seen_lst W dv hv
    exact .inr ⟨p, xs, rfl, SqL.of g1, by rw [g2.length]; exact h1.1, h F μ H σ ρ ds xs Q2 R W E g2 h1.2 k⟩
  · exact h1.elim

/-! ### built-in calls -/
@[reducible] def dCB (r : RC2) (ta : TA2) : TE2 := fun ρ μ Q => ta ρ μ fun ds μ1 => r ds μ1 Q
theorem cb_lift {K : Frg} {r : RC2} {σ : L2.St} {H : Hp} {Q : VK} (h : LE K (dCB r tas) σ H Q) : tCB (LC K r) (LA K tas) σ H Q := by
  obtain ⟨F, μ, ρ, Q2, W, E, h, k⟩ := h
  exact la_go W E h fun vs H1 F1 μ1 ds S1 E1 dvs q => ⟨F1, μ1, ds, Q2, S1.wd, dvs, q, fun v H2 p => k v H2 (post_step S1 p)⟩
theorem d_cb {id : String} {r : RC2} {x : Str} {p : Pos} (hc : CallR X (.builtin id) (LC X.K r)) (hg : Gl X x) (hm : X.mg x = none) (hv : bootBuiltins x = some (.builtin id)) (ha : PA2 X (e :: es) tas) (hn : x ≠ "__name__" := by decide) (hdb : (x == ("__debug__" : Str)) = false := by decide)
    (he : starEach (e :: es) X.env = (false, eval e X.env) :: starEach es X.env := by rfl) (hpl : (backTo pos (starEach es X.env)).any (·.1) = false := by rfl) : PE2 X (.Call (.Name x p) (e :: es) [] pos) (dCB r tas) :=
  PE.imp (pe_callB hc hg hm hv ha hn hdb he hpl) fun _ _ _ => cb_lift
theorem d_ct {T : String} {r : RC2} {x : Str} {p : Pos} (hc : CallR X (.type T) (LC X.K r)) (hg : Gl X x) (hm : X.mg x = none) (hv : bootBuiltins x = some (.type T)) (ha : PA2 X (e :: es) tas) (hn : x ≠ "__name__" := by decide) (hdb : (x == ("__debug__" : Str)) = false := by decide)
    (he : starEach (e :: es) X.env = (false, eval e X.env) :: starEach es X.env := by rfl) (hpl : (backTo pos (starEach es X.env)).any (·.1) = false := by rfl) : PE2 X (.Call (.Name x p) (e :: es) [] pos) (dCB r tas) :=
  PE.imp (pe_callTy hc hg hm hv ha hn hdb he hpl) fun _ _ _ => cb_lift
theorem CallR.lift {f : Value} {r2 : RC2} (h : ∀ vs H Q, LC X.K r2 vs H Q → ∃ r, CallR X f r ∧ r vs H Q) : CallR X f (LC X.K r2) :=
  fun pins s σ H xs us Q I rs q => let ⟨_, ho, q'⟩ := h xs H Q q; ho pins s σ H xs us Q I rs q'
theorem dvs1 {K : Frg} {F : Hp} {vs : List V} {d : Da} (h : DVs K F vs [d]) : ∃ v, vs = [v] ∧ DV K F v d := by
  cases h with
  | cons a b => cases b; exact ⟨_, rfl, a⟩
theorem dvs2 {K : Frg} {F : Hp} {vs : List V} {d e : Da} (h : DVs K F vs [d, e]) : ∃ v u, vs = [v, u] ∧ DV K F v d ∧ DV K F u e := by
  cases h with
  | cons a b =>
    obtain ⟨u, rfl, q⟩ := dvs1 b
    exact ⟨_, u, rfl, a, q⟩
def len2 : RC2 := fun ds μ Q => match ds with
  | [d] => (match view μ d with
    | .lst xs => Q (.int (xs.length : Int)) μ
    | .tup xs => Q (.int (xs.length : Int)) μ
    | .kt xs => Q (.int (xs.length : Int)) μ
    | .dct _ xs => Q (.int (xs.length : Int)) μ
    | .str z => z.length ≤ sizeLine ∧ Q (.int (z.length : Int)) μ
    | _ => False)
  | _ => False
theorem c_len : CallR X (.builtin "len") (LC X.K len2) := CallR.lift fun vs H Q ⟨F, μ, ds, Q2, W, dvs, h, k⟩ => by
  unfold len2 at h
  split at h
  · rename_i d
    obtain ⟨v, rfl, dv⟩ := dvs1 dvs
    split at h
    · rename_i xs hv
      obtain ⟨p, us, rfl, g1, g2⟩ := seen_lst W dv hv
      exact ⟨_, call_len_seq, p, us, rfl, .inl (SqL.of g1), by rw [g2.length]; exact k _ _ (post_same W (.int _) h)⟩
    · rename_i xs hv
      obtain ⟨p, us, rfl, g1, g2⟩ := seen_seqT W dv (.inl hv)
      exact ⟨_, call_len_seq, p, us, rfl, .inr g1, by rw [g2.length]; exact k _ _ (post_same W (.int _) h)⟩
    · rename_i xs hv
      obtain ⟨p, us, rfl, g1, g2⟩ := seen_seqT W dv (.inr hv)
      exact ⟨_, call_len_seq, p, us, rfl, .inr g1, by rw [g2.length]; exact k _ _ (post_same W (.int _) h)⟩
    · rename_i t xs hv
      cases t with
      | false =>
        obtain ⟨a, ws, kvs, rfl, g1, g2, e3⟩ := seen_dctK W dv hv
        refine ⟨_, call_lenD, a, ws, rfl, g1, k _ _ (post_same W (.int _) ?_)⟩
        rw [e3, List.length_map] at h
        rw [kds_len g2]; exact h
      | true =>
        obtain ⟨a, ws, kvs, rfl, g1, g2, e3⟩ := seen_dctT W dv hv
        refine ⟨_, call_len_dT, a, ws, rfl, g1, k _ _ (post_same W (.int _) ?_)⟩
        rw [e3, List.length_map] at h
        rw [kds_len g2]; exact h
    · rename_i z hv
      obtain rfl := seen_str dv hv
      exact ⟨_, call_len_str, z, rfl, h.1, k _ _ (post_same W (.int _) h.2)⟩
    · exact h.elim
  · exact h.elim
def b2iD (b : Bool) : Int := if b then 1 else 0
def int2 : RC2 := fun ds μ Q => match ds with
  | [.int i] => Q (.int i) μ
  | [.bl b] => Q (.int (b2iD b)) μ
  | _ => False
theorem c_int : CallR X (.type "int") (LC X.K int2) := CallR.lift fun vs H Q ⟨F, μ, ds, Q2, W, dvs, h, k⟩ => by
  unfold int2 at h
  split at h
  · rename_i i
    obtain ⟨v, rfl, dv⟩ := dvs1 dvs
    obtain rfl := dv_int dv
    exact ⟨_, call_int1, .inl ⟨i, rfl, k _ _ (post_same W (.int _) h)⟩⟩
  · rename_i b
    obtain ⟨v, rfl, dv⟩ := dvs1 dvs
    obtain rfl := dv_bl dv
    exact ⟨_, call_int1, .inr ⟨b, rfl, k _ _ (post_same W (.int _) h)⟩⟩
  · exact h.elim
def abs2 : RC2 := fun ds μ Q => ∃ i, ds = [.int i] ∧ Q (.int (if i < 0 then -i else i)) μ
theorem c_abs : CallR X (.builtin "abs") (LC X.K abs2) := CallR.lift fun vs H Q ⟨F, μ, ds, Q2, W, dvs, ⟨i, e1, h⟩, k⟩ => by
  subst e1
  obtain ⟨v, rfl, dv⟩ := dvs1 dvs
  obtain rfl := dv_int dv
  exact ⟨_, call_abs, i, rfl, k _ _ (post_same W (.int _) h)⟩
/-- min, max of two ints -/
def min2 : RC2 := fun ds μ Q => ∃ i j, ds = [.int i, .int j] ∧ Q (.int (if j < i then j else i)) μ
def max2 : RC2 := fun ds μ Q => ∃ i j, ds = [.int i, .int j] ∧ Q (.int (if j > i then j else i)) μ
theorem c_min2 (hc : X.calm = true) : CallR X (.builtin "min") (LC X.K min2) := CallR.lift fun vs H Q ⟨F, μ, ds, Q2, W, dvs, ⟨i, j, e1, h⟩, k⟩ => by
  subst e1
  obtain ⟨v, u, rfl, dv, du⟩ := dvs2 dvs
  obtain rfl := dv_int dv
  obtain rfl := dv_int du
  exact ⟨_, call_min2 hc, i, j, rfl, k _ _ (post_same W (.int _) h)⟩
theorem c_max2 (hc : X.calm = true) : CallR X (.builtin "max") (LC X.K max2) := CallR.lift fun vs H Q ⟨F, μ, ds, Q2, W, dvs, ⟨i, j, e1, h⟩, k⟩ => by
  subst e1
  obtain ⟨v, u, rfl, dv, du⟩ := dvs2 dvs
  obtain rfl := dv_int dv
  obtain rfl := dv_int du
  exact ⟨_, call_max2 hc, i, j, rfl, k _ _ (post_same W (.int _) h)⟩
/-- list(xs): a new list that stays | that may change; tuple(xs) -/
def list2 : RC2 := fun ds μ Q => match ds with
  | [d] => (match view μ d with
    | .lst xs => Q (.lst xs) μ
    | .tup xs => Q (.lst xs) μ
    | .kt xs => Q (.lst xs) μ
    | _ => False)
  | _ => False
def listM2 : RC2 := fun ds μ Q => match ds with
  | [d] => (match view μ d with
    | .lst xs => ∀ p, μ p = none → Q (.ref p) (put μ p (.lst xs))
    | .tup xs => ∀ p, μ p = none → Q (.ref p) (put μ p (.lst xs))
    | .kt xs => ∀ p, μ p = none → Q (.ref p) (put μ p (.lst xs))
    | _ => False)
  | _ => False
def tuple2 : RC2 := fun ds μ Q => match ds with
  | [d] => (match view μ d with
    | .lst xs => Q (.tup xs) μ
    | .tup xs => Q (.tup xs) μ
    | _ => False)
  | _ => False
theorem c_list : CallR X (.type "list") (LC X.K list2) := CallR.lift fun vs H Q ⟨F, μ, ds, Q2, W, dvs, h, k⟩ => by
  unfold list2 at h
  split at h
  · obtain ⟨v, rfl, dv⟩ := dvs1 dvs
    split at h
    · rename_i xs hv
      obtain ⟨p, us, rfl, g1, g2⟩ := seen_lst W dv hv
      exact ⟨_, call_list_of, p, us, rfl, .inl (SqL.of g1), fun l hl => k _ _ (post_lst W hl g2 h)⟩
    · rename_i xs hv
      obtain ⟨p, us, rfl, g1, g2⟩ := seen_seqT W dv (.inl hv)
      exact ⟨_, call_list_of, p, us, rfl, .inr g1, fun l hl => k _ _ (post_lst W hl g2 h)⟩
    · rename_i xs hv
      obtain ⟨p, us, rfl, g1, g2⟩ := seen_seqT W dv (.inr hv)
      exact ⟨_, call_list_of, p, us, rfl, .inr g1, fun l hl => k _ _ (post_lst W hl g2 h)⟩
    · exact h.elim
  · exact h.elim
theorem c_listM : CallR X (.type "list") (LC X.K listM2) := CallR.lift fun vs H Q ⟨F, μ, ds, Q2, W, dvs, h, k⟩ => by
  unfold listM2 at h
  split at h
  · obtain ⟨v, rfl, dv⟩ := dvs1 dvs
    split at h
    · rename_i xs hv
      obtain ⟨p, us, rfl, g1, g2⟩ := seen_lst W dv hv
      exact ⟨_, call_list_of, p, us, rfl, .inl (SqL.of g1), fun l hl => k _ _ (post_lstM W hl g2 h)⟩
    · rename_i xs hv
      obtain ⟨p, us, rfl, g1, g2⟩ := seen_seqT W dv (.inl hv)
      exact ⟨_, call_list_of, p, us, rfl, .inr g1, fun l hl => k _ _ (post_lstM W hl g2 h)⟩
    · rename_i xs hv
      obtain ⟨p, us, rfl, g1, g2⟩ := seen_seqT W dv (.inr hv)
      exact ⟨_, call_list_of, p, us, rfl, .inr g1, fun l hl => k _ _ (post_lstM W hl g2 h)⟩
    · exact h.elim
  · exact h.elim
theorem c_tuple : CallR X (.type "tuple") (LC X.K tuple2) := CallR.lift fun vs H Q ⟨F, μ, ds, Q2, W, dvs, h, k⟩ => by
  unfold tuple2 at h
  split at h
  · obtain ⟨v, rfl, dv⟩ := dvs1 dvs
    split at h
    · rename_i xs hv
      obtain ⟨p, us, rfl, g1, g2⟩ := seen_lst W dv hv
      exact ⟨_, call_tuple_of, p, us, rfl, .inl ⟨SqL.of g1, fun l hl => k _ _ (post_tup W hl g2 h)⟩⟩
    · rename_i xs hv
      obtain ⟨ed, p, us, rfl, g1, g2⟩ := seen_tup dv hv
      subst ed
      exact ⟨_, call_tuple_of, p, us, rfl, .inr ⟨SqT.of (W.sub _ _ g1), k _ _ (post_same W dv h)⟩⟩
    · exact h.elim
  · exact h.elim
/-- all, any of a list of truths -/
def bools : List Da → Option (List Bool)
  | [] => some []
  | .bl b :: xs => (bools xs).map (b :: ·)
  | _ :: _ => none
theorem bools_dv {K : Frg} {F : Hp} : ∀ {vs : List V} {ds : List Da} {bs : List Bool}, DVs K F vs ds → bools ds = some bs → vs = bs.map V.bl
  | _, _, bs, .nil, h => by
    rw [bools] at h
    cases h; rfl
  | _, _, bs, .cons (d := d) a t, h => by
    cases d with
    | bl b =>
      rw [bools] at h
      obtain ⟨cs, h1, h2⟩ := Option.map_eq_some_iff.mp h
      subst h2
      rw [dv_bl a, bools_dv t h1]; rfl
    | _ => simp [bools] at h
theorem bools_map {α : Type} (f : α → Bool) : ∀ xs : List α, bools (xs.map fun x => .bl (f x)) = some (xs.map f)
  | [] => rfl
  | x :: xs => by rw [List.map_cons, bools, bools_map f xs]; rfl
theorem bools_bl : ∀ bs : List Bool, bools (bs.map Da.bl) = some bs
  | [] => rfl
  | x :: xs => by rw [List.map_cons, bools, bools_bl xs]; rfl
def any2 : RC2 := fun ds μ Q => ∃ d xs bs, ds = [d] ∧ view μ d = .lst xs ∧ bools xs = some bs ∧ Q (.bl (bs.any id)) μ
def all2 : RC2 := fun ds μ Q => ∃ d xs bs, ds = [d] ∧ view μ d = .lst xs ∧ bools xs = some bs ∧ Q (.bl (bs.all id)) μ
theorem c_any (hc : X.calm = true) : CallR X (.builtin "any") (LC X.K any2) := CallR.lift fun vs H Q ⟨F, μ, ds, Q2, W, dvs, ⟨d, xs, bs, e1, hv, hb, h⟩, k⟩ => by
  subst e1
  obtain ⟨v, rfl, dv⟩ := dvs1 dvs
  obtain ⟨p, us, rfl, g1, g2⟩ := seen_lst W dv hv
  exact ⟨_, cr_any hc, p, bs, rfl, by rw [← bools_dv g2 hb]; exact SqL.of g1, k _ _ (post_same W (.bl _) h)⟩
theorem c_all (hc : X.calm = true) : CallR X (.builtin "all") (LC X.K all2) := CallR.lift fun vs H Q ⟨F, μ, ds, Q2, W, dvs, ⟨d, xs, bs, e1, hv, hb, h⟩, k⟩ => by
  subst e1
  obtain ⟨v, rfl, dv⟩ := dvs1 dvs
  obtain ⟨p, us, rfl, g1, g2⟩ := seen_lst W dv hv
  exact ⟨_, cr_all hc, p, bs, rfl, by rw [← bools_dv g2 hb]; exact SqL.of g1, k _ _ (post_same W (.bl _) h)⟩
/-- texts -/
def txts : List Da → Option (List Str)
  | [] => some []
  | .str b :: xs => (txts xs).map (b :: ·)
  | _ :: _ => none
theorem txts_dv {K : Frg} {F : Hp} : ∀ {vs : List V} {ds : List Da} {bs : List Str}, DVs K F vs ds → txts ds = some bs → vs = bs.map V.str
  | _, _, bs, .nil, h => by
    rw [txts] at h
    cases h; rfl
  | _, _, bs, .cons (d := d) a t, h => by
    cases d with
    | str b =>
      rw [txts] at h
      obtain ⟨cs, h1, h2⟩ := Option.map_eq_some_iff.mp h
      subst h2
      rw [dv_str a, txts_dv t h1]; rfl
    | _ => simp [txts] at h
theorem txts_map : ∀ xs : List Str, txts (xs.map Da.str) = some xs
  | [] => rfl
  | x :: xs => by rw [List.map_cons, txts, txts_map xs]; rfl
theorem txts_inv : ∀ {ds : List Da} {xs : List Str}, txts ds = some xs → ds = xs.map Da.str
  | [], xs, h => by rw [txts] at h; cases h; rfl
  | d :: ds, xs, h => by
    cases d with
    | str b =>
      rw [txts] at h
      obtain ⟨cs, h1, h2⟩ := Option.map_eq_some_iff.mp h
      subst h2
      rw [txts_inv h1]; rfl
    | _ => simp [txts] at h
theorem dvs_txts {K : Frg} {F : Hp} : ∀ xs : List Str, DVs K F (xs.map V.str) (xs.map Da.str)
  | [] => .nil
  | x :: xs => .cons (.str x) (dvs_txts xs)
/-- sorted of fewer than 64 texts: some arrangement, in order -/
def sortedS2 : RC2 := fun ds μ Q => ∃ d xs ss, ds = [d] ∧ view μ d = .lst xs ∧ txts xs = some ss ∧ ss.length < 64 ∧ ∀ ys : List Str, ys.Perm ss → PyProof.Rows.sortedS ys = true → Q (.lst (ys.map Da.str)) μ
theorem c_sortedS : CallR X (.builtin "sorted") (LC X.K sortedS2) := CallR.lift fun vs H Q ⟨F, μ, ds, Q2, W, dvs, ⟨d, xs, ss, e1, hv, hb, hl, h⟩, k⟩ => by
  subst e1
  obtain ⟨v, rfl, dv⟩ := dvs1 dvs
  obtain ⟨p, us, rfl, g1, g2⟩ := seen_lst W dv hv
  have e2 := txts_dv g2 hb
  subst e2
  exact ⟨_, cr_sortedS, p, ss, rfl, SqL.of g1, hl, fun ys q hp hs hq => k _ _ (post_lst W hq (dvs_txts ys) (h ys hp hs))⟩

/-! ### methods of built-in types -/
def LM (K : Frg) (r2 : Da → List Da → Mu → QD → Prop) : V → List V → Hp → VK → Prop := fun x vs H Q => ∃ F μ d ds Q2, Wd K F μ H ∧ DV K F x d ∧ DVs K F vs ds ∧ r2 d ds μ Q2 ∧ ∀ v H', Post K F μ H Q2 v H' → Q v H'
/-- the kind that a method wants -/
def tyD (T : String) (d : Da) (μ : Mu) : Prop := match view μ d with
  | .lst _ => T = "list"
  | .dct _ _ => T = "dict"
  | .str _ => T = "str"
  | _ => False
theorem tyD_tyV {K : Frg} {F H : Hp} {μ : Mu} {v : V} {d : Da} {T : String} (W : Wd K F μ H) (dv : DV K F v d) (h : tyD T d μ) : tyV K T v H := by
  unfold tyD at h
  split at h
  · rename_i xs hv
    obtain ⟨p, us, rfl, g1, g2⟩ := seen_lst W dv hv
    exact .inl ⟨h, us, SqL.of g1⟩
  · rename_i t xs hv
    cases t with
    | false =>
      obtain ⟨a, ws, kvs, rfl, g1, _⟩ := seen_dctK W dv hv
      exact .inr (.inr (.inl ⟨h, .inl ⟨ws, g1⟩⟩))
    | true =>
      obtain ⟨a, ws, kvs, rfl, g1, _⟩ := seen_dctT W dv hv
      exact .inr (.inr (.inl ⟨h, .inr ⟨ws, g1⟩⟩))
  · rename_i z hv
    obtain rfl := seen_str dv hv
    exact h
  · exact h.elim
@[reducible] def dBM (T : String) (r : Da → List Da → Mu → QD → Prop) (to : TE2) (ta : TA2) : TE2 := fun ρ μ Q => to ρ μ fun d μ1 => tyD T d μ1 ∧ ta ρ μ1 fun ds μ2 => r d ds μ2 Q
section
variable {name : Str} {apos cpos : Pos} {T id : String} {r : Da → List Da → Mu → QD → Prop}
theorem d_bm (pa : PlainAttrs T) (slot : Slot T name id) (hty : typeOf (.builtin id) = pure (.type "method_descriptor")) (hm : MtR X id (LM X.K r)) (ho : PE2 X o to) (ha : PA2 X (e :: es) tas)
    (hbase : attributeBase o name X.env (eval o X.env) = eval o X.env := by rfl)
    (hfew : ((backTo cpos (starEach (e :: es) X.env)).all (fun x => !x.1) && (backToKw cpos (keywordEach [] X.env)).all (fun x => x.1.isSome)
      && decide ((e :: es).length + ([] : List Keyword).length + (if ([] : List Keyword).isEmpty then 0 else 1) < 30)) = true := by rfl)
    (hline : (apos.endLine == cpos.line) = true := by rfl) (hs : starEach (e :: es) X.env = (false, eval e X.env) :: starEach es X.env := by rfl) (hplain : (backTo cpos (starEach es X.env)).any (·.1) = false := by rfl) :
    PE2 X (.Call (.Attribute o name apos) (e :: es) [] cpos) (dBM T r to tas) :=
  PE.imp (pe_bm pa slot hty hm ho ha hbase hfew hline hs hplain) fun σ H Q ⟨F, μ, ρ, Q2, W, E, h, k⟩ => le_go W E h fun v H1 F1 μ1 d S1 E1 dv ⟨ty, q⟩ => ⟨tyD_tyV S1.wd dv ty, la_go S1.wd E1 q fun vs H2 F2 μ2 ds S2 E2 dvs q2 =>
    ⟨F2, μ2, d, ds, Q2, S2.wd, dv.mono S2.same, dvs, q2, fun w H3 p => k w H3 (post_step (S1.trans S2) p)⟩⟩
theorem d_bm0 (pa : PlainAttrs T) (slot : Slot T name id) (hty : typeOf (.builtin id) = pure (.type "method_descriptor")) (hm : MtR X id (LM X.K r)) (ho : PE2 X o to)
    (hbase : attributeBase o name X.env (eval o X.env) = eval o X.env := by rfl) (hline : (apos.endLine == cpos.line) = true := by rfl) : PE2 X (.Call (.Attribute o name apos) [] [] cpos) (dBM T r to dNil) :=
  PE.imp (pe_bm0 pa slot hty hm ho hbase hline) fun σ H Q ⟨F, μ, ρ, Q2, W, E, h, k⟩ => le_go W E h fun v H1 F1 μ1 d S1 E1 dv ⟨ty, q⟩ => ⟨tyD_tyV S1.wd dv ty, F1, μ1, d, [], Q2, S1.wd, dv, .nil, q, fun w H3 p => k w H3 (post_step S1 p)⟩
end
theorem MtR.lift {id : String} {r2 : Da → List Da → Mu → QD → Prop} (h : ∀ x vs H Q, LM X.K r2 x vs H Q → ∃ r, MtR X id r ∧ r x vs H Q) : MtR X id (LM X.K r2) :=
  fun pins s σ H x xs v us Q I rx rs q => let ⟨_, ho, q'⟩ := h x xs H Q q; ho pins s σ H x xs v us Q I rx rs q'
/-- a list that may change, at its address -/
theorem chg_lst {K : Frg} {F H : Hp} {μ : Mu} {a : Addr} {ds : List Da} (W : Wd K F μ H) (h : μ a = some (.lst ds)) : ∃ xs, H a = some (.lst xs) ∧ DVs K F xs ds := (W.chg a _ h).2
theorem post_put {K : Frg} {F H : Hp} {μ : Mu} {Q2 : QD} {v : V} {d : Da} {a : Addr} {o : HO} {m m' : Mo} (W : Wd K F μ H) (h : μ a = some m') (hm : MOk K F (upd H a o) a m) (dv : DV K F v d) (q : Q2 d (put μ a m)) : Post K F μ H Q2 v (upd H a o) :=
  ⟨F, _, d, Stp.write W h hm, dv, q⟩
def append2 : Da → List Da → Mu → QD → Prop := fun d vs μ Q => ∃ a ds x, d = .ref a ∧ vs = [x] ∧ μ a = some (.lst ds) ∧ ds.length < sizeLine ∧ Q .non (put μ a (.lst (ds ++ [x])))
theorem m_append : MtR X "list.append" (LM X.K append2) := MtR.lift fun x vs H Q ⟨F, μ, d, ds, Q2, W, dx, dvs, ⟨a, es, y, e1, e2, hm, hz, q⟩, k⟩ => by
  subst e1 e2
  obtain rfl := dv_ref dx
  obtain ⟨u, rfl, du⟩ := dvs1 dvs
  obtain ⟨xs, h1, h2⟩ := chg_lst W hm
  exact ⟨_, mt_append, a, xs, u, rfl, rfl, h1, by rw [h2.length]; exact hz, k _ _ (post_put (m := .lst (es ++ [y])) W hm ⟨_, upd_same, h2.append (.cons du .nil)⟩ .non q)⟩
/-- xs.insert(i, y), i not below 0 -/
def insert2 : Da → List Da → Mu → QD → Prop := fun d vs μ Q => ∃ a ds i x, d = .ref a ∧ vs = [.int i, x] ∧ μ a = some (.lst ds) ∧ ds.length < sizeLine ∧ 0 ≤ i ∧ i < 2 ^ 63 ∧ Q .non (put μ a (.lst (ds.take (min i.toNat ds.length) ++ x :: ds.drop (min i.toNat ds.length))))
def pop2 : Da → List Da → Mu → QD → Prop := fun d vs μ Q => ∃ a ds x, d = .ref a ∧ vs = [] ∧ μ a = some (.lst ds) ∧ ds[ds.length - 1]? = some x ∧ Q x (put μ a (.lst ds.dropLast))
theorem m_pop : MtR X "list.pop" (LM X.K pop2) := MtR.lift fun x vs H Q ⟨F, μ, d, ds, Q2, W, dx, dvs, ⟨a, es, y, e1, e2, hm, hy, q⟩, k⟩ => by
  subst e1 e2
  obtain rfl := dv_ref dx
  cases dvs
  obtain ⟨xs, h1, h2⟩ := chg_lst W hm
  obtain ⟨u, hu, du⟩ := h2.get' hy
  exact ⟨_, mt_pop, a, xs, u, rfl, rfl, h1, by rw [h2.length]; exact hu, k _ _ (post_put (m := .lst es.dropLast) W hm ⟨_, upd_same, h2.dropLast⟩ du q)⟩
def reverse2 : Da → List Da → Mu → QD → Prop := fun d vs μ Q => ∃ a ds, d = .ref a ∧ vs = [] ∧ μ a = some (.lst ds) ∧ Q .non (put μ a (.lst ds.reverse))
theorem m_reverse : MtR X "list.reverse" (LM X.K reverse2) := MtR.lift fun x vs H Q ⟨F, μ, d, ds, Q2, W, dx, dvs, ⟨a, es, e1, e2, hm, q⟩, k⟩ => by
  subst e1 e2
  obtain rfl := dv_ref dx
  cases dvs
  obtain ⟨xs, h1, h2⟩ := chg_lst W hm
  exact ⟨_, mt_reverse, a, xs, rfl, rfl, h1, k _ _ (post_put (m := .lst es.reverse) W hm ⟨_, upd_same, h2.reverse⟩ .non q)⟩
def clear2 : Da → List Da → Mu → QD → Prop := fun d vs μ Q => ∃ a ds, d = .ref a ∧ vs = [] ∧ μ a = some (.lst ds) ∧ Q .non (put μ a (.lst []))
theorem m_clear : MtR X "list.clear" (LM X.K clear2) := MtR.lift fun x vs H Q ⟨F, μ, d, ds, Q2, W, dx, dvs, ⟨a, es, e1, e2, hm, q⟩, k⟩ => by
  subst e1 e2
  obtain rfl := dv_ref dx
  cases dvs
  obtain ⟨xs, h1, h2⟩ := chg_lst W hm
  exact ⟨_, mt_clear, a, xs, rfl, rfl, h1, k _ _ (post_put (m := .lst []) W hm ⟨_, upd_same, .nil⟩ .non q)⟩
/-- d.get(k), d.get(k, x) -/
noncomputable def get2 : Da → List Da → Mu → QD → Prop := fun d vs μ Q => ∃ t es, view μ d = .dct t es ∧ ((∃ k, vs = [k] ∧ keyB t k = true ∧ Q ((dlook es k).getD .non) μ) ∨ ∃ k x, vs = [k, x] ∧ keyB t k = true ∧ Q ((dlook es k).getD x) μ)
theorem m_get (hu : X.A.units + 1 < cLine) : MtR X "dict.get" (LM X.K get2) := fun pins s σ H x xs v us Q I rx rs ⟨F, μ, d, ds, Q2, W, dx, dvs, ⟨t, es, hv, h⟩, k⟩ => by
  rcases h with ⟨key, e1, hk, q⟩ | ⟨key, z, e1, hk, q⟩
  · subst e1
    obtain ⟨u, rfl, du⟩ := dvs1 dvs
    obtain ⟨a, o, rfl, g, i1, i2, _⟩ := dget_at W dx hv du hk
    obtain rfl : v = Value.ref a := rx
    cases rs with
    | cons r1 r2 =>
      cases r2
      refine d_get1 hu I g r1 fun w' s' I' rw' => ⟨o.getD .non, H, I', rw', k _ _ (post_same W ?_ q)⟩
      cases e : dlook es key with
      | none => rw [i2 e]; exact .non
      | some y => obtain ⟨y', hy, dy⟩ := i1 y e; rw [hy]; exact dy
  · subst e1
    obtain ⟨u, w, rfl, du, dw⟩ := dvs2 dvs
    obtain ⟨a, o, rfl, g, i1, i2, _⟩ := dget_at W dx hv du hk
    obtain rfl : v = Value.ref a := rx
    cases rs with
    | cons r1 r2 =>
      cases r2 with
      | cons r3 r4 =>
        cases r4
        refine d_get2 hu I g r1 r3 fun w' s' I' rw' => ⟨o.getD w, H, I', rw', k _ _ (post_same W ?_ q)⟩
        cases e : dlook es key with
        | none => rw [i2 e]; exact dw
        | some y => obtain ⟨y', hy, dy⟩ := i1 y e; rw [hy]; exact dy
/-! ### o[i] = v -/
def putKD {κ : Type} [DecidableEq κ] (kvs : List (κ × Da)) (k : κ) (v : Da) : List (κ × Da) :=
  if kvs.any (fun kv => decide (kv.1 = k)) then kvs.map (fun kv => if kv.1 = k then (kv.1, v) else kv) else kvs ++ [(k, v)]
theorem kds_put2 {κ : Type} [DecidableEq κ] {K : Frg} {F : Hp} {ws : List (κ × V)} {kvs : List (κ × Da)} (h : KDs K F ws kvs) (k : κ) {v : V} {d : Da} (hd : DV K F v d) : KDs K F (putK ws k v) (putKD kvs k d) := by
  have hany : (ws.any fun kv => decide (kv.1 = k)) = kvs.any fun kv => decide (kv.1 = k) := by
    induction h with
    | nil => rfl
    | cons a t ih => rw [List.any_cons, List.any_cons, ih, a.1]
  unfold putK putKD
  rw [hany]
  split
  · clear hany
    rename_i hx
    clear hx
    induction h with
    | nil => exact .nil
    | @cons p q ws' kvs' a t ih =>
      rw [List.map_cons, List.map_cons]
      refine .cons ?_ ih
      by_cases e : p.1 = k
      · rw [if_pos e, if_pos (by rw [← a.1]; exact e)]
        exact ⟨a.1, hd⟩
      · rw [if_neg e, if_neg (by rw [← a.1]; exact e)]
        exact a
  · clear hany
    rename_i hx
    clear hx
    induction h with
    | nil => exact .cons ⟨rfl, hd⟩ .nil
    | cons a t ih => exact .cons a ih
abbrev TSet2 := Da → Da → Da → Mu → (Mu → Prop) → Prop
def LST (K : Frg) (r2 : TSet2) : TSet := fun o i v H Q => ∃ F μ d j e Q2, Wd K F μ H ∧ DV K F o d ∧ DV K F i j ∧ DV K F v e ∧ r2 d j e μ Q2 ∧ ∀ F' μ' H', Stp K F μ H F' μ' H' → Q2 μ' → Q H'
def set2 : TSet2 := fun o i v μ Q => ∃ a, o = .ref a ∧ match μ a with
  | some (.lst ds) => ∃ k j, i = .int k ∧ ixN ds.length k = some j ∧ Q (put μ a (.lst (ds.set j v)))
  | some (.dK kvs) => ∃ j, i = kD j ∧ kvs.length < sizeLine ∧ Q (put μ a (.dK (putKD kvs j v)))
  | some (.dT kvs) => ∃ j, i = tD j ∧ kvs.length < sizeLine ∧ Q (put μ a (.dT (putKD kvs j v)))
  | _ => False
theorem s_set (hu : X.A.units + 1 < cLine) : PSet X (LST X.K set2) := fun pins s σ H o i v ov iv u Q I ro ri rv ⟨F, μ, d, j, e, Q2, W, dO, dI, dE, ⟨a, e1, h⟩, k⟩ => by
  subst e1
  obtain rfl := dv_ref dO
  split at h
  · rename_i ds hm
    obtain ⟨n, m, e2, hi, q⟩ := h
    subst e2
    obtain ⟨xs, h1, h2⟩ := chg_lst W hm
    exact set_list pins s σ H _ i v ov iv u Q I ro ri rv ⟨a, xs, n, m, rfl, dv_int dI, h1, by rw [h2.length]; exact hi, k _ _ _ (Stp.write (m := .lst (ds.set m e)) W hm ⟨_, upd_same, h2.set dE m⟩) q⟩
  · rename_i kvs hm
    obtain ⟨n, e2, hz, q⟩ := h
    subst e2
    obtain ⟨_, ws, h1, h2⟩ := W.chg a _ hm
    obtain rfl : ov = Value.ref a := ro
    have ei := dv_key dI
    subst ei
    refine d_setItem hu I (DPut.k h1 (by rw [kds_len h2]; exact hz)) ri rv fun s' I' => ⟨_, I', k _ _ _ (Stp.write (m := .dK (putKD kvs n e)) W hm ⟨_, upd_same, kds_put2 h2 n dE⟩) q⟩
  · rename_i kvs hm
    obtain ⟨n, e2, hz, q⟩ := h
    subst e2
    obtain ⟨_, ws, h1, h2⟩ := W.chg a _ hm
    obtain rfl : ov = Value.ref a := ro
    obtain ⟨b, xs, rfl, hb, hxs⟩ := dv_tup dI
    have ex := dvs_key hxs
    subst ex
    refine d_setItem hu I (DPut.t h1 (W.sub _ _ hb) (by rw [kds_len h2]; exact hz)) ri rv fun s' I' => ⟨_, I', k _ _ _ (Stp.write (m := .dT (putKD kvs n e)) W hm ⟨_, upd_same, kds_put2 h2 n dE⟩) q⟩
  · exact h.elim
@[reducible] def gSet (to ti : TE2) (t : TSet2) : TG2 := fun v ρ μ Q => to ρ μ fun o μ1 => ti ρ μ1 fun i μ2 => t o i v μ2 fun μ3 => Q ρ μ3
theorem dg_sub {i : Expr} {ti : TE2} {t : TSet2} (ho : PE2 X o to) (hi : PE2 X i ti) (hs : PSet X (LST X.K t))
    (ha : ∀ v, assign (.Subscript o i pos) X.env v = (do
      let ov ← holding [v] (eval o X.env)
      let iv ← holding [v, ov] (eval i X.env)
      standAt pos
      holding [v, ov, iv] (setItem ov iv v)
      release [v, ov, iv] []) := by intro _; rfl) : PG2 X (.Subscript o i pos) (gSet to ti t) :=
  PG.imp (pg_sub ho hi hs ha) fun v σ H Q ⟨F, μ, ρ, d, Q2, W, E, dv, h, k⟩ => le_go W E h fun x H1 F1 μ1 d1 S1 E1 dx q1 => le_go S1.wd E1 q1 fun y H2 F2 μ2 d2 S2 E2 dy q2 =>
    ⟨F2, μ2, d1, d2, d, _, S2.wd, dx.mono S2.same, dy, dv.mono (S1.trans S2).same, q2, fun F3 μ3 H3 S3 q3 => k σ H3 ⟨F3, μ3, ρ, (S1.trans S2).trans S3, E2.mono S3.same, q3⟩⟩
/-! ### new dicts -/
@[reducible] def dNewK : TE2 := fun _ μ Q => ∀ p, μ p = none → Q (.ref p) (put μ p (.dK []))
@[reducible] def dNewT : TE2 := fun _ μ Q => ∀ p, μ p = none → Q (.ref p) (put μ p (.dT []))
theorem d_newK : PE2 X (.Dict [] [] pos) dNewK := PE.imp pe_dnewK fun σ H Q ⟨F, μ, ρ, Q2, W, E, h, k⟩ p hp => k _ _ ⟨F, _, .ref p, Stp.new (m := .dK []) W hp ⟨[], upd_same, .nil⟩, .ref p, h p (W.mnone hp)⟩
theorem d_newT : PE2 X (.Dict [] [] pos) dNewT := PE.imp pe_dnewT fun σ H Q ⟨F, μ, ρ, Q2, W, E, h, k⟩ p hp => k _ _ ⟨F, _, .ref p, Stp.new (m := .dT []) W hp ⟨[], upd_same, .nil⟩, .ref p, h p (W.mnone hp)⟩
/-! ### a name's list from now on stays -/
@[reducible] def dVarF (i : Nat) : TE2 := fun ρ μ Q => ∃ a ds, ρ[i]? = some (some (.ref a)) ∧ μ a = some (.lst ds) ∧ Q (.lst ds) (del μ a)
theorem d_varF {i : Nat} (h : PE X e (tVar i)) : PE2 X e (dVarF i) := PE.imp h fun σ H Q ⟨F, μ, ρ, Q2, W, E, ⟨a, ds, h1, hm, h2⟩, k⟩ => by
  obtain ⟨v, hv, dv⟩ := E.get h1
  obtain rfl := dv_ref dv
  obtain ⟨xs, g1, g2⟩ := chg_lst W hm
  have S := Stp.freeze W hm g1
  exact ⟨_, hv, k _ H ⟨_, _, .lst ds, S, .lst upd_same (g2.mono S.same), h2⟩⟩
/-! ### what is walked -/
@[reducible] def iSeq (te : TE2) : TI2 := fun ρ μ R => te ρ μ fun d μ1 => ∃ a ds, d = .ref a ∧ μ1 a = some (.lst ds) ∧ R ds (fun μ' => μ' a = some (.lst ds)) μ1
@[reducible] def iLst (te : TE2) : TI2 := fun ρ μ R => te ρ μ fun d μ1 => ∃ ds, d = .lst ds ∧ R ds (fun _ => True) μ1
@[reducible] def iTupD (te : TE2) : TI2 := fun ρ μ R => te ρ μ fun d μ1 => ∃ ds, (d = .tup ds ∨ d = .kt ds) ∧ R ds (fun _ => True) μ1
theorem ok_lst {K : Frg} {F : Hp} {a : Addr} {xs : List V} {ds : List Da} (h : F a = some (.lst xs)) (dvs : DVs K F xs ds) : ItOk K F (Itl K a) ds (fun _ => True) := fun F1 μ1 H1 s W _ => by
  have h1 := W.sub _ _ (s _ _ h)
  refine ⟨fun i d e => ?_, fun i hi => ⟨xs, SqL.of h1, by rw [dvs.length]; exact hi⟩⟩
  obtain ⟨v, hv, dv⟩ := dvs.get' e
  refine ⟨⟨xs, v, SqL.of h1, hv⟩, fun x H2 ⟨e1, hy⟩ => ?_⟩
  subst e1
  have := hy xs (SqL.of h1)
  rw [hv] at this
  cases this
  exact ⟨F1, Stp.refl W, dv.mono s⟩
theorem ok_seq {K : Frg} {F : Hp} {a : Addr} {ds : List Da} : ItOk K F (Itl K a) ds (fun μ' => μ' a = some (.lst ds)) := fun F1 μ1 H1 s W hm => by
  obtain ⟨xs, h1, dvs⟩ := chg_lst W hm
  refine ⟨fun i d e => ?_, fun i hi => ⟨xs, SqL.of h1, by rw [dvs.length]; exact hi⟩⟩
  obtain ⟨v, hv, dv⟩ := dvs.get' e
  refine ⟨⟨xs, v, SqL.of h1, hv⟩, fun x H2 ⟨e1, hy⟩ => ?_⟩
  subst e1
  have := hy xs (SqL.of h1)
  rw [hv] at this
  cases this
  exact ⟨F1, Stp.refl W, dv⟩
theorem ok_tup {K : Frg} {F : Hp} {a : Addr} {xs : List V} {ds : List Da} (h : ∀ F1 μ1 H1, Same F F1 → Wd K F1 μ1 H1 → SqT K H1 a xs) (dvs : DVs K F xs ds) : ItOk K F (Itt K a) ds (fun _ => True) := fun F1 μ1 H1 s W _ => by
  have h1 := h F1 μ1 H1 s W
  refine ⟨fun i d e => ?_, fun i hi => ⟨xs, h1, by rw [dvs.length]; exact hi⟩⟩
  obtain ⟨v, hv, dv⟩ := dvs.get' e
  refine ⟨⟨xs, v, h1, hv⟩, fun x H2 ⟨e1, hy⟩ => ?_⟩
  subst e1
  have := hy xs h1
  rw [hv] at this
  cases this
  exact ⟨F1, Stp.refl W, dv.mono s⟩
variable {tg : Expr}
theorem di_lst (h : PE2 X e te) : PI2 X tg e (iLst te) := PI.imp (pi_list h) fun σ H R ⟨F, μ, ρ, Q2, W, E, h, k⟩ => le_go W E h fun v H1 F1 μ1 d S1 E1 dv ⟨ds, e1, q⟩ => by
  subst e1
  obtain ⟨p, xs, rfl, h1, h2⟩ := dv_lst dv
  exact ⟨p, rfl, ⟨xs, SqL.of (S1.wd.sub _ _ h1)⟩, k _ H1 F1 μ1 ds _ S1 (ok_lst h1 h2) q⟩
theorem di_seq (h : PE2 X e te) : PI2 X tg e (iSeq te) := PI.imp (pi_list h) fun σ H R ⟨F, μ, ρ, Q2, W, E, h, k⟩ => le_go W E h fun v H1 F1 μ1 d S1 E1 dv ⟨a, ds, e1, hm, q⟩ => by
  subst e1
  obtain rfl := dv_ref dv
  obtain ⟨xs, h1, h2⟩ := chg_lst S1.wd hm
  exact ⟨a, rfl, ⟨xs, SqL.of h1⟩, k _ H1 F1 μ1 ds _ S1 ok_seq q⟩
theorem di_tup (h : PE2 X e te) : PI2 X tg e (iTupD te) := PI.imp (pi_tup h) fun σ H R ⟨F, μ, ρ, Q2, W, E, h, k⟩ => le_go W E h fun v H1 F1 μ1 d S1 E1 dv ⟨ds, e1, q⟩ => by
  rcases e1 with e1 | e1
  · subst e1
    obtain ⟨p, xs, rfl, h1, h2⟩ := dv_tup dv
    exact ⟨p, rfl, ⟨xs, SqT.of (S1.wd.sub _ _ h1)⟩, k _ H1 F1 μ1 ds _ S1 (ok_tup (fun F2 μ2 H2 s W2 => SqT.of (W2.sub _ _ (s _ _ h1))) h2) q⟩
  · subst e1
    obtain ⟨_, p, xs, rfl, h1, h2⟩ := seen_kt (μ := μ1) dv rfl
    exact ⟨p, rfl, ⟨xs, sqt_any h1⟩, k _ H1 F1 μ1 ds _ S1 (ok_tup (fun F2 μ2 H2 s W2 => sqt_any h1) h2) q⟩
/-- range(n), range(a, b) -/
def rng (lo : Int) (n : Nat) : List Da := (List.range n).map fun i => .int (lo + (i : Nat))
theorem rng_get {lo : Int} {n i : Nat} {d : Da} (h : (rng lo n)[i]? = some d) : i < n ∧ d = .int (lo + (i : Nat)) := by
  unfold rng at h
  rw [List.getElem?_map] at h
  cases e : (List.range n)[i]? with
  | none => rw [e] at h; cases h
  | some j =>
    rw [e] at h
    obtain ⟨h1, h2⟩ := List.getElem?_eq_some_iff.mp e
    rw [List.length_range] at h1
    have : i = j := by simpa using h2
    subst this
    exact ⟨h1, (Option.some.inj h).symm⟩
theorem rng_len {lo : Int} {n : Nat} : (rng lo n).length = n := by unfold rng; rw [List.length_map, List.length_range]
theorem ok_rng {K : Frg} {F : Hp} {lo : Int} {n : Nat} : ItOk K F (Itr lo n) (rng lo n) (fun _ => True) := fun F1 μ1 H1 s W _ => by
  refine ⟨fun i d e => ?_, fun i hi => by rw [rng_len] at hi; exact hi⟩
  obtain ⟨h1, rfl⟩ := rng_get e
  refine ⟨h1, fun x H2 ⟨e1, e2⟩ => ?_⟩
  subst e1 e2
  exact ⟨F1, Stp.refl W, .int _⟩
@[reducible] def iRng (ta : TA2) : TI2 := fun ρ μ R => ta ρ μ fun ds μ1 => ∃ j : Int, ds = [.int j] ∧ -(2 ^ 62) ≤ j ∧ j < 2 ^ 62 ∧ R (rng 0 j.toNat) (fun _ => True) μ1
theorem di_rng {p : Pos} (hg : Gl X "range") (hm : X.mg "range" = none) (ha : PA2 X [e] tas) (hs : starEach [e] X.env = [(false, eval e X.env)] := by rfl) : PI2 X tg (.Call (.Name "range" p) [e] [] pos) (iRng tas) :=
  PI.imp (pi_range1 hg hm ha hs) fun σ H R ⟨F, μ, ρ, Q2, W, E, h, k⟩ => la_go W E h fun vs H1 F1 μ1 ds S1 E1 dvs ⟨j, e1, h1, h2, q⟩ => by
    subst e1
    obtain ⟨v, rfl, dv⟩ := dvs1 dvs
    obtain rfl := dv_int dv
    exact ⟨j, rfl, h1, h2, k _ H1 F1 μ1 _ _ S1 ok_rng q⟩
end
end Dl
/-! Dl10: slices, further methods, or by truth, enumerate. -/
namespace Dl
open PySem L2
open Classical

/-! ### slices -/
abbrev TO2 := Rho → Mu → (Option Int → Mu → Prop) → Prop
def PostO (K : Frg) (F : Hp) (μ : Mu) (H : Hp) (Q2 : Option Int → Mu → Prop) : Option Int → Hp → Prop := fun o H' => ∃ F' μ', Stp K F μ H F' μ' H' ∧ Q2 o μ'
def LP (K : Frg) (t2 : TO2) : TO := fun σ H Q => ∃ F μ ρ Q2, Wd K F μ H ∧ EnvR K F σ ρ ∧ t2 ρ μ Q2 ∧ ∀ o H', PostO K F μ H Q2 o H' → Q o H'
abbrev PO2 (X : Cx) (e : Option Expr) (t : TO2) := PO X e (LP X.K t)
theorem PO.imp {X : Cx} {e : Option Expr} {t t' : TO} (h : PO X e t) (i : ∀ σ H Q, t' σ H Q → t σ H Q) : PO X e t' := ⟨fun pins s σ H Q I q => h.run pins s σ H Q I (i σ H Q q)⟩
section
variable {X : Cx} {a b e o : Expr} {es rest : List Expr} {pos p2 : Pos} {te to ta tb : TE2} {tas : TA2} {lo hi : Option Expr} {tl th : TO2}
@[reducible] def dNoPart : TO2 := fun _ μ Q => Q none μ
@[reducible] def dPart (te : TE2) : TO2 := fun ρ μ Q => te ρ μ fun d μ1 => ∃ i, d = .int i ∧ Q (some i) μ1
theorem dp_none : PO2 X none dNoPart := PO.imp po_none fun σ H Q ⟨F, μ, ρ, Q2, W, E, h, k⟩ => k none H ⟨F, μ, Stp.refl W, h⟩
theorem dp_some (h : PE2 X e te) : PO2 X (some e) (dPart te) := PO.imp (po_some h) fun σ H Q ⟨F, μ, ρ, Q2, W, E, h, k⟩ => le_go W E h fun v H1 F1 μ1 d S1 E1 dv ⟨i, e1, q⟩ => by
  subst e1
  exact ⟨i, dv_int dv, k _ H1 ⟨F1, μ1, S1, q⟩⟩
def cutD {α : Type} (xs : List α) (lo hi : Option Int) : List α := (xs.drop (HT.sIx xs.length 0 lo)).take (HT.sIx xs.length xs.length hi - HT.sIx xs.length 0 lo)
theorem dvs_cut {K : Frg} {F : Hp} {vs : List V} {ds : List Da} (h : DVs K F vs ds) (lo hi : Option Int) : DVs K F (cutV vs lo hi) (cutD ds lo hi) := by
  unfold cutV cutD
  rw [h.length]
  exact (h.drop _).take _
theorem cut_whole {α : Type} {xs : List α} {lo hi : Option Int} (h : HT.sIx xs.length 0 lo = 0 ∧ HT.sIx xs.length xs.length hi = xs.length) : cutD xs lo hi = xs := by
  unfold cutD
  rw [h.1, h.2]
  simp
abbrev RS2 := Da → Option Int → Option Int → Mu → QD → Prop
def LSl (K : Frg) (r2 : RS2) : V → Option Int → Option Int → Hp → VK → Prop := fun x lo hi H Q => ∃ F μ d Q2, Wd K F μ H ∧ DV K F x d ∧ r2 d lo hi μ Q2 ∧ ∀ v H', Post K F μ H Q2 v H' → Q v H'
theorem SlR.lift {r2 : RS2} (h : ∀ x lo hi H Q, LSl X.K r2 x lo hi H Q → ∃ r, SlR X r ∧ r x lo hi H Q) : SlR X (LSl X.K r2) :=
  fun pins s σ H x v vl vu lo hi sl Q I rx hs pl pu q => let ⟨_, ho, q'⟩ := h x lo hi H Q q; ho pins s σ H x v vl vu lo hi sl Q I rx hs pl pu q'
/-- x[lo:hi]: of a list a new one that stays, of a tuple, of a text -/
def sl2 : RS2 := fun d lo hi μ Q => match view μ d with
  | .lst xs => Q (.lst (cutD xs lo hi)) μ
  | .tup xs => Q (.tup (cutD xs lo hi)) μ
  | .str z => z.length ≤ sizeLine ∧ Q (.str (cutS z lo hi)) μ
  | .kl xs => Q (.lst (cutD xs lo hi)) μ
  | _ => False
theorem o_sl : SlR X (LSl X.K sl2) := SlR.lift fun x lo hi H Q ⟨F, μ, d, Q2, W, dx, h, k⟩ => by
  unfold sl2 at h
  split at h
  · rename_i xs hv
    obtain ⟨p, us, e1, g1, g2⟩ := seen_lst W dx hv
    exact ⟨_, sl_list, p, us, e1, SqL.of g1, fun q hq => k _ _ (post_lst W hq (dvs_cut g2 lo hi) h)⟩
  · rename_i xs hv
    obtain ⟨ed, p, us, e1, g1, g2⟩ := seen_tup dx hv
    subst ed
    refine ⟨_, sl_tupA, p, us, e1, SqT.of (W.sub _ _ g1), fun w => ?_, fun _ q hq => k _ _ (post_tup W hq (dvs_cut g2 lo hi) h)⟩
    rw [g2.length] at w
    rw [cut_whole w] at h
    rw [← e1]
    exact k _ _ (post_same W dx h)
  · rename_i z hv
    exact ⟨_, sl_str, z, seen_str dx hv, h.1, k _ _ (post_same W (.str _) h.2)⟩
  · rename_i xs hv
    obtain ⟨p, us, e1, g1, g2⟩ := seen_kl W dx hv
    exact ⟨_, sl_list, p, us, e1, g1, fun q hq => k _ _ (post_lst W hq (dvs_cut g2 lo hi) h)⟩
  · exact h.elim
@[reducible] def dSl (r : RS2) (te : TE2) (tl th : TO2) : TE2 := fun ρ μ Q => te ρ μ fun d μ1 => tl ρ μ1 fun l μ2 => th ρ μ2 fun u μ3 => r d l u μ3 Q
theorem d_slice (he : PE2 X e te) (hl : PO2 X lo tl) (hu : PO2 X hi th) : PE2 X (.Subscript e (.Slice lo hi none p2) pos) (dSl sl2 te tl th) :=
  PE.imp (pe_slice o_sl he hl hu) fun σ H Q ⟨F, μ, ρ, Q2, W, E, h, k⟩ => le_go W E h fun v H1 F1 μ1 d S1 E1 dv q1 =>
    ⟨F1, μ1, ρ, _, S1.wd, E1, q1, fun l H2 ⟨F2, μ2, S2, q2⟩ => ⟨F2, μ2, ρ, _, S2.wd, E1.mono S2.same, q2, fun u H3 ⟨F3, μ3, S3, q3⟩ =>
      ⟨F3, μ3, d, Q2, S3.wd, (dv.mono S2.same).mono S3.same, q3, fun w H4 p => k w H4 (post_step ((S1.trans S2).trans S3) p)⟩⟩⟩

/-! ### further methods -/
theorem m_insert : MtR X "list.insert" (LM X.K insert2) := MtR.lift fun x vs H Q ⟨F, μ, d, ds, Q2, W, dx, dvs, ⟨a, es, i, y, e1, e2, hm, hz, h0, h1, q⟩, k⟩ => by
  subst e1 e2
  obtain rfl := dv_ref dx
  obtain ⟨u, w, rfl, du, dw⟩ := dvs2 dvs
  obtain rfl := dv_int du
  obtain ⟨xs, g1, g2⟩ := chg_lst W hm
  refine ⟨_, mt_insert, a, xs, i, w, rfl, rfl, g1, by rw [g2.length]; exact hz, h0, h1, k _ _ (post_put (m := .lst (es.take (min i.toNat es.length) ++ y :: es.drop (min i.toNat es.length))) W hm ⟨_, upd_same, ?_⟩ .non q)⟩
  have e3 : ∀ {α : Type} (l : List α) (j : Nat), l.take (min j l.length) = l.take j := fun l j => by
    rcases Nat.le_total j l.length with z | z
    · rw [Nat.min_eq_left z]
    · rw [Nat.min_eq_right z, List.take_length, List.take_of_length_le z]
  have e4 : ∀ {α : Type} (l : List α) (j : Nat), l.drop (min j l.length) = l.drop j := fun l j => by
    rcases Nat.le_total j l.length with z | z
    · rw [Nat.min_eq_left z]
    · rw [Nat.min_eq_right z, List.drop_length, List.drop_of_length_le z]
  rw [e3, e4, List.append_assoc]
  exact (g2.take _).append (.cons dw (g2.drop _))
/-- xs.pop(i), i a place -/
def popAt2 : Da → List Da → Mu → QD → Prop := fun d vs μ Q => ∃ a ds i x, d = .ref a ∧ vs = [.int ((i : Nat) : Int)] ∧ μ a = some (.lst ds) ∧ ds[i]? = some x ∧ ds.length ≤ sizeLine ∧ Q x (put μ a (.lst (ds.eraseIdx i)))
theorem m_popAt : MtR X "list.pop" (LM X.K popAt2) := MtR.lift fun x vs H Q ⟨F, μ, d, ds, Q2, W, dx, dvs, ⟨a, es, i, y, e1, e2, hm, hy, hz, q⟩, k⟩ => by
  subst e1 e2
  obtain rfl := dv_ref dx
  obtain ⟨u, rfl, du⟩ := dvs1 dvs
  obtain rfl := dv_int du
  obtain ⟨xs, g1, g2⟩ := chg_lst W hm
  obtain ⟨w, hw, dw⟩ := g2.get' hy
  have hi : i < es.length := (List.getElem?_eq_some_iff.mp hy).1
  have hs : (sizeLine : Nat) < 2 ^ 63 := line63
  refine ⟨_, mt_popAt, a, xs, (i : Int), i, w, rfl, rfl, g1, by omega, by omega, ?_, hw, k _ _ (post_put (m := .lst (es.eraseIdx i)) W hm ⟨_, upd_same, g2.erase i⟩ dw q)⟩
  rw [g2.length]
  unfold seqIndex?
  simp
  omega
def join2 : Da → List Da → Mu → QD → Prop := fun d vs μ Q => ∃ a e xs ss, d = .str a ∧ vs = [e] ∧ view μ e = .lst xs ∧ txts xs = some ss ∧ (ss.map (·.length)).sum + ss.length * a.length ≤ 16777216 ∧ Q (.str (Txt.join a ss)) μ
theorem m_join : MtR X "str.join" (LM X.K join2) := MtR.lift fun x vs H Q ⟨F, μ, d, ds, Q2, W, dx, dvs, ⟨a, e, xs, ss, e1, e2, hv, ht, hz, q⟩, k⟩ => by
  subst e1 e2
  obtain rfl := dv_str dx
  obtain ⟨u, rfl, du⟩ := dvs1 dvs
  obtain ⟨p, us, rfl, g1, g2⟩ := seen_lst W du hv
  have e3 := txts_dv g2 ht
  subst e3
  exact ⟨_, mt_join, a, p, ss, rfl, rfl, .inl (SqL.of g1), hz, k _ _ (post_same W (.str _) q)⟩

/-! ### truth -/
/-- the truth of a thing, where it has one -/
def truD (μ : Mu) (d : Da) : Option Bool := match view μ d with
  | .non => some false
  | .bl b => some b
  | .int i => some (i != 0)
  | .str y => if y.length ≤ sizeLine then some ((y.length : Int) != 0) else none
  | .lst xs => some (!xs.isEmpty)
  | .tup xs => some (!xs.isEmpty)
  | _ => none
theorem empty_dvs {K : Frg} {F : Hp} {vs : List V} {ds : List Da} (h : DVs K F vs ds) : ds.isEmpty = vs.isEmpty := by cases h <;> rfl
theorem truD_tru {K : Frg} {F H : Hp} {μ : Mu} {v : V} {d : Da} {c : Bool} (W : Wd K F μ H) (dv : DV K F v d) (h : truD μ d = some c) : TruV K v H c := by
  unfold truD at h
  split at h
  · rename_i hv; cases h; obtain rfl := seen_non dv hv; rfl
  · rename_i b hv; cases h; obtain rfl := seen_bl dv hv; rfl
  · rename_i i hv; cases h; obtain rfl := seen_int dv hv; rfl
  · rename_i y hv
    obtain rfl := seen_str dv hv
    split at h
    · rename_i hz; cases h; exact ⟨hz, rfl⟩
    · cases h
  · rename_i xs hv
    cases h
    obtain ⟨p, us, rfl, g1, g2⟩ := seen_lst W dv hv
    exact .inl ⟨us, SqL.of g1, by rw [empty_dvs g2]⟩
  · rename_i xs hv
    cases h
    obtain ⟨p, us, rfl, g1, g2⟩ := seen_seqT W dv (.inl hv)
    exact .inr (.inl ⟨us, g1, by rw [empty_dvs g2]⟩)
  · cases h
/-- x or y, by x's truth -/
@[reducible] def dOrT (ta tb : TE2) : TE2 := fun ρ μ Q => ta ρ μ fun x μ1 => ∃ c, truD μ1 x = some c ∧ if c = true then Q x μ1 else tb ρ μ1 Q
theorem d_orV (ha : PE2 X a ta) (hb : PE2 X (.BoolOp .Or (b :: rest) pos) tb) : PE2 X (.BoolOp .Or (a :: b :: rest) pos) (dOrT ta tb) :=
  PE.imp (pe_orT ha hb) fun σ H Q ⟨F, μ, ρ, Q2, W, E, h, k⟩ => le_go W E h fun v H1 F1 μ1 d S1 E1 dv ⟨c, ec, q1⟩ => by
    refine ⟨c, truD_tru S1.wd dv ec, ?_⟩
    cases c with
    | false => exact ⟨F1, μ1, ρ, Q2, S1.wd, E1, q1, fun b H' p => k b H' (post_step S1 p)⟩
    | true => exact k _ H1 ⟨F1, μ1, _, S1, dv, q1⟩

/-! ### enumerate of a list -/
def enumD (ds : List Da) : List Da := ds.mapIdx fun i d => .tup [.int ((i : Nat) : Int), d]
theorem enum_get {ds : List Da} {i : Nat} {d : Da} (h : (enumD ds)[i]? = some d) : ∃ x, ds[i]? = some x ∧ d = .tup [.int ((i : Nat) : Int), x] := by
  unfold enumD at h
  rw [List.getElem?_mapIdx] at h
  cases e : ds[i]? with
  | none => rw [e] at h; cases h
  | some x => rw [e] at h; exact ⟨x, rfl, (Option.some.inj h).symm⟩
theorem enum_len {ds : List Da} : (enumD ds).length = ds.length := by unfold enumD; rw [List.length_mapIdx]
theorem ok_enum {K : Frg} {F : Hp} {a : Addr} {xs : List V} {ds : List Da} {st : Mu → Prop} (h : ∀ F1 μ1 H1, Same F F1 → Wd K F1 μ1 H1 → st μ1 → ∃ xs, H1 a = some (.lst xs) ∧ DVs K F1 xs ds) : ItOk K F (Ite K a) (enumD ds) st := fun F1 μ1 H1 s W hs => by
  obtain ⟨xs, h1, dvs⟩ := h F1 μ1 H1 s W hs
  refine ⟨fun i d e => ?_, fun i hi => ⟨xs, SqL.of h1, by rw [dvs.length, ← enum_len]; exact hi⟩⟩
  obtain ⟨y, hy, rfl⟩ := enum_get e
  obtain ⟨v, hv, dv⟩ := dvs.get' hy
  refine ⟨⟨xs, v, SqL.of h1, hv⟩, fun x H2 ⟨T, z, e1, hT, e2, hz⟩ => ?_⟩
  subst e1 e2
  have q := hz xs (SqL.of h1)
  rw [hv] at q
  cases q
  exact ⟨_, Stp.froz W hT, .tup upd_same (.cons (.int _) (.cons (dv.mono (same_new (W.free hT))) .nil))⟩
@[reducible] def iEnumL (te : TA2) : TI2 := fun ρ μ R => te ρ μ fun ds μ1 => ∃ xs, ds = [.lst xs] ∧ R (enumD xs) (fun _ => True) μ1
theorem di_enum {p tpos : Pos} {elts : List Expr} {kk : Nat} (hg : Gl X "enumerate") (hm : X.mg "enumerate" = none) (ha : PA2 X [e] tas) (hs : starEach [e] X.env = [(false, eval e X.env)] := by rfl) : PI2 X (.Tuple elts kk tpos) (.Call (.Name "enumerate" p) [e] [] pos) (iEnumL tas) :=
  PI.imp (pi_enum hg hm ha hs) fun σ H R ⟨F, μ, ρ, Q2, W, E, h, k⟩ => la_go W E h fun vs H1 F1 μ1 ds S1 E1 dvs ⟨ys, e1, q⟩ => by
    subst e1
    obtain ⟨v, rfl, dv⟩ := dvs1 dvs
    obtain ⟨p, us, rfl, h1, h2⟩ := dv_lst dv
    exact ⟨p, us, rfl, SqL.of (S1.wd.sub _ _ h1), k _ H1 F1 μ1 _ _ S1 (ok_enum (xs := us) fun F2 μ2 H2 s W2 _ => ⟨us, W2.sub _ _ (s _ _ h1), h2.mono s⟩) q⟩
end
end Dl
/-! Dl11: a dict walked, list of a dict, sorting of data, repr, == of dicts with tuple keys. -/
namespace Dl
open PySem L2
open Classical

theorem put_ne' {μ : Mu} {a b : Addr} {m : Mo} (h : a ≠ b) : put μ a m b = μ b := put_ne (Ne.symm h)
section
variable {K : Frg} {F H : Hp} {μ : Mu} {a : Addr}
theorem Stp.lockT {kvs : List (List Key × Da)} {ws : List (List Key × V)} (W : Wd K F μ H) (h : μ a = some (.dT kvs)) (hk : KDs K F ws kvs) (od : Obj) : Stp K F μ H F (put μ a (.lkT od ws kvs)) (upd H a (.frz od (.dT ws))) := Stp.write W h ⟨upd_same, hk⟩
theorem Stp.lockK {kvs : List (Key × Da)} {ws : List (Key × V)} (W : Wd K F μ H) (h : μ a = some (.dK kvs)) (hk : KDs K F ws kvs) (od : Obj) : Stp K F μ H F (put μ a (.lkK od ws kvs)) (upd H a (.frz od (.dK ws))) := Stp.write W h ⟨upd_same, hk⟩
theorem Stp.openT {kvs : List (List Key × Da)} {ws : List (List Key × V)} {od : Obj} (W : Wd K F μ H) (h : μ a = some (.lkT od ws kvs)) : H a = some (.frz od (.dT ws)) ∧ Stp K F μ H F (put μ a (.dT kvs)) (upd H a (.dT ws)) :=
  ⟨(W.chg a _ h).2.1, Stp.write W h ⟨ws, upd_same, (W.chg a _ h).2.2⟩⟩
theorem Stp.openK {kvs : List (Key × Da)} {ws : List (Key × V)} {od : Obj} (W : Wd K F μ H) (h : μ a = some (.lkK od ws kvs)) : H a = some (.frz od (.dK ws)) ∧ Stp K F μ H F (put μ a (.dK kvs)) (upd H a (.dK ws)) :=
  ⟨(W.chg a _ h).2.1, Stp.write W h ⟨ws, upd_same, (W.chg a _ h).2.2⟩⟩
end
/-- a dict a that is locked as m while t runs, m0 behind it -/
def lkEnds (a : Addr) (m m0 : Mo) (D : Ends2) : Ends2 := ⟨fun ρ μ => μ a = some m ∧ D.nx ρ (put μ a m0), fun d μ => μ a = some m ∧ D.rt d (put μ a m0), fun ρ μ => μ a = some m ∧ D.bk ρ (put μ a m0), fun ρ μ => μ a = some m ∧ D.ct ρ (put μ a m0)⟩
@[reducible] def sLock (t : TS2) : TS2 := fun D ρ μ => ∃ a, (∃ kvs, μ a = some (.dT kvs) ∧ ∀ o ws, t (lkEnds a (.lkT o ws kvs) (.dT kvs) D) ρ (put μ a (.lkT o ws kvs))) ∨
  ∃ kvs, μ a = some (.dK kvs) ∧ ∀ o ws, t (lkEnds a (.lkK o ws kvs) (.dK kvs) D) ρ (put μ a (.lkK o ws kvs))
@[reducible] def dLock (t : TE2) : TE2 := fun ρ μ Q => ∃ a, (∃ kvs, μ a = some (.dT kvs) ∧ ∀ o ws, t ρ (put μ a (.lkT o ws kvs)) fun d μ' => μ' a = some (.lkT o ws kvs) ∧ Q d (put μ' a (.dT kvs))) ∨
  ∃ kvs, μ a = some (.dK kvs) ∧ ∀ o ws, t ρ (put μ a (.lkK o ws kvs)) fun d μ' => μ' a = some (.lkK o ws kvs) ∧ Q d (put μ' a (.dK kvs))
section
variable {X : Cx} {e : Expr} {es : List Expr} {pos : Pos} {st : Stmt} {te : TE2} {t : TS2} {tas : TA2}
theorem d_lockE (h : PE2 X e te) : PE2 X e (dLock te) := PE.imp (pe_lock h) fun σ H Q ⟨F, μ, ρ, Q2, W, E, ⟨a, h⟩, k⟩ => by
  rcases h with ⟨kvs, hm, h⟩ | ⟨kvs, hm, h⟩
  · obtain ⟨_, ws, h1, h2⟩ := W.chg a _ hm
    refine ⟨a, _, h1, trivial, fun od => ?_⟩
    have S := Stp.lockT W hm h2 od
    refine ⟨F, _, ρ, _, S.wd, E, h od ws, fun v H' ⟨F', μ', d, S', dv, e1, q⟩ => ?_⟩
    obtain ⟨g1, g2⟩ := Stp.openT S'.wd e1
    exact ⟨g1, k _ _ ⟨F', _, d, (S.trans S').trans g2, dv, q⟩⟩
  · obtain ⟨_, ws, h1, h2⟩ := W.chg a _ hm
    refine ⟨a, _, h1, trivial, fun od => ?_⟩
    have S := Stp.lockK W hm h2 od
    refine ⟨F, _, ρ, _, S.wd, E, h od ws, fun v H' ⟨F', μ', d, S', dv, e1, q⟩ => ?_⟩
    obtain ⟨g1, g2⟩ := Stp.openK S'.wd e1
    exact ⟨g1, k _ _ ⟨F', _, d, (S.trans S').trans g2, dv, q⟩⟩
theorem d_lock (h : PS2 X st t) : PS2 X st (sLock t) := PS.imp (ps_lock h) fun D σ H ⟨F, μ, ρ, D2, W, E, ⟨a, h⟩, ok⟩ => by
  rcases h with ⟨kvs, hm, h⟩ | ⟨kvs, hm, h⟩
  · obtain ⟨_, ws, h1, h2⟩ := W.chg a _ hm
    refine ⟨a, _, h1, trivial, fun od => ?_⟩
    have S := Stp.lockT W hm h2 od
    exact ⟨F, _, ρ, _, S.wd, E, h od ws, ⟨
      fun σ' H' ⟨F', μ', ρ', S', E', e1, q⟩ => let ⟨g1, g2⟩ := Stp.openT S'.wd e1; ⟨g1, ok.nx _ _ ⟨F', _, ρ', (S.trans S').trans g2, E', q⟩⟩,
      fun v H' ⟨F', μ', d, S', dv, e1, q⟩ => let ⟨g1, g2⟩ := Stp.openT S'.wd e1; ⟨g1, ok.rt _ _ ⟨F', _, d, (S.trans S').trans g2, dv, q⟩⟩,
      fun σ' H' ⟨F', μ', ρ', S', E', e1, q⟩ => let ⟨g1, g2⟩ := Stp.openT S'.wd e1; ⟨g1, ok.bk _ _ ⟨F', _, ρ', (S.trans S').trans g2, E', q⟩⟩,
      fun σ' H' ⟨F', μ', ρ', S', E', e1, q⟩ => let ⟨g1, g2⟩ := Stp.openT S'.wd e1; ⟨g1, ok.ct _ _ ⟨F', _, ρ', (S.trans S').trans g2, E', q⟩⟩⟩⟩
  · obtain ⟨_, ws, h1, h2⟩ := W.chg a _ hm
    refine ⟨a, _, h1, trivial, fun od => ?_⟩
    have S := Stp.lockK W hm h2 od
    exact ⟨F, _, ρ, _, S.wd, E, h od ws, ⟨
      fun σ' H' ⟨F', μ', ρ', S', E', e1, q⟩ => let ⟨g1, g2⟩ := Stp.openK S'.wd e1; ⟨g1, ok.nx _ _ ⟨F', _, ρ', (S.trans S').trans g2, E', q⟩⟩,
      fun v H' ⟨F', μ', d, S', dv, e1, q⟩ => let ⟨g1, g2⟩ := Stp.openK S'.wd e1; ⟨g1, ok.rt _ _ ⟨F', _, d, (S.trans S').trans g2, dv, q⟩⟩,
      fun σ' H' ⟨F', μ', ρ', S', E', e1, q⟩ => let ⟨g1, g2⟩ := Stp.openK S'.wd e1; ⟨g1, ok.bk _ _ ⟨F', _, ρ', (S.trans S').trans g2, E', q⟩⟩,
      fun σ' H' ⟨F', μ', ρ', S', E', e1, q⟩ => let ⟨g1, g2⟩ := Stp.openK S'.wd e1; ⟨g1, ok.ct _ _ ⟨F', _, ρ', (S.trans S').trans g2, E', q⟩⟩⟩⟩

/-! ### its keys walked -/
theorem dvs_keys {K : Frg} {F : Hp} : ∀ ks : List Key, DVs K F (ks.map kV) (ks.map kD)
  | [] => .nil
  | .inl i :: ks => .cons (.int i) (dvs_keys ks)
  | .inr x :: ks => .cons (.str x) (dvs_keys ks)
theorem dv_kD {K : Frg} {F : Hp} : ∀ k : Key, DV K F (kV k) (kD k)
  | .inl i => .int i
  | .inr x => .str x
theorem kds_keys {κ : Type} {K : Frg} {F : Hp} {f : κ → Da} {ws : List (κ × V)} {kvs : List (κ × Da)} (h : KDs K F ws kvs) : (kvs.map fun p => f p.1) = ws.map fun p => f p.1 := by
  induction h with
  | nil => rfl
  | cons a t ih => rw [List.map_cons, List.map_cons, ih, a.1]
theorem ok_keysT {K : Frg} {F : Hp} {a : Addr} {od : Obj} {ws : List (List Key × V)} {kvs : List (List Key × Da)} (hk : KDs K F ws kvs) : ItOk K F (Itkt a od ws) (kvs.map fun p => tD p.1) (fun μ' => μ' a = some (.lkT od ws kvs)) := fun F1 μ1 H1 s W hm => by
  obtain ⟨_, h1, h2⟩ := W.chg a _ hm
  rw [kds_keys (f := tD) hk]
  refine ⟨fun i d e => ?_, fun i hi => ⟨h1, by rw [List.length_map] at hi; exact hi⟩⟩
  rw [List.getElem?_map] at e
  obtain ⟨p, hp, e1⟩ := Option.map_eq_some_iff.mp e
  subst e1
  refine ⟨⟨h1, (List.getElem?_eq_some_iff.mp hp).1⟩, fun x H2 ⟨e1, k, v, q, hq, e2, ht⟩ => ?_⟩
  subst e1 e2
  rw [hp] at hq
  cases hq
  obtain ⟨F2, S2, g⟩ := Stp.see W ht
  exact ⟨F2, S2, .tup g (dvs_keys k)⟩
theorem ok_keysK {K : Frg} {F : Hp} {a : Addr} {od : Obj} {ws : List (Key × V)} {kvs : List (Key × Da)} (hk : KDs K F ws kvs) : ItOk K F (Itk a od ws) (kvs.map fun p => kD p.1) (fun μ' => μ' a = some (.lkK od ws kvs)) := fun F1 μ1 H1 s W hm => by
  obtain ⟨_, h1, h2⟩ := W.chg a _ hm
  rw [kds_keys (f := kD) hk]
  refine ⟨fun i d e => ?_, fun i hi => ⟨h1, by rw [List.length_map] at hi; exact hi⟩⟩
  rw [List.getElem?_map] at e
  obtain ⟨p, hp, e1⟩ := Option.map_eq_some_iff.mp e
  subst e1
  refine ⟨⟨h1, (List.getElem?_eq_some_iff.mp hp).1⟩, fun x H2 ⟨e1, k, v, hq, e2⟩ => ?_⟩
  subst e1 e2
  rw [hp] at hq
  cases hq
  exact ⟨F1, Stp.refl W, dv_kD k⟩
@[reducible] def iKeysD (te : TE2) : TI2 := fun ρ μ R => te ρ μ fun d μ1 => ∃ a, d = .ref a ∧ ((∃ o ws kvs, μ1 a = some (.lkT o ws kvs) ∧ R (kvs.map fun p => tD p.1) (fun μ' => μ' a = some (.lkT o ws kvs)) μ1) ∨
  ∃ o ws kvs, μ1 a = some (.lkK o ws kvs) ∧ R (kvs.map fun p => kD p.1) (fun μ' => μ' a = some (.lkK o ws kvs)) μ1)
theorem di_keys {tg : Expr} (h : PE2 X e te) : PI2 X tg e (iKeysD te) := PI.imp (pi_keys h) fun σ H R ⟨F, μ, ρ, Q2, W, E, h, k⟩ => le_go W E h fun v H1 F1 μ1 d S1 E1 dv ⟨a, e1, q⟩ => by
  subst e1
  obtain rfl := dv_ref dv
  rcases q with ⟨o, ws, kvs, hm, q⟩ | ⟨o, ws, kvs, hm, q⟩
  · obtain ⟨_, h1, h2⟩ := S1.wd.chg a _ hm
    exact ⟨a, o, rfl, .inr ⟨ws, h1, k _ H1 F1 μ1 _ _ S1 (ok_keysT h2) q⟩⟩
  · obtain ⟨_, h1, h2⟩ := S1.wd.chg a _ hm
    exact ⟨a, o, rfl, .inl ⟨ws, h1, k _ H1 F1 μ1 _ _ S1 (ok_keysK h2) q⟩⟩

/-! ### list(d) -/
theorem see_all {K : Frg} {H : Hp} {kvs : List (List Key × V)} {bs : List Addr} (h : IsKeys H kvs bs) : ∀ {F : Hp} {μ : Mu}, Wd K F μ H → ∃ F', Stp K F μ H F' μ H ∧ DVs K F' (bs.map V.ref) (kvs.map fun p => tD p.1) := by
  unfold IsKeys at h
  induction h with
  | nil => intro F μ W; exact ⟨F, Stp.refl W, .nil⟩
  | @cons p q ps qs a t ih =>
    intro F μ W
    obtain ⟨F1, S1, g1⟩ := Stp.see W a
    obtain ⟨F2, S2, g2⟩ := ih S1.wd
    exact ⟨F2, S1.trans S2, .cons (.tup (S2.same _ _ g1) (dvs_keys _)) g2⟩
def listD2 : RC2 := fun ds μ Q => ∃ d t es, ds = [d] ∧ view μ d = .dct t es ∧ Q (.lst (es.map (·.1))) μ
theorem c_listD (hc : X.calm = true) : CallR X (.type "list") (LC X.K listD2) := CallR.lift fun vs H Q ⟨F, μ, ds, Q2, W, dvs, ⟨d, t, es, e1, hv, q⟩, k⟩ => by
  subst e1
  obtain ⟨v, rfl, dv⟩ := dvs1 dvs
  cases t with
  | false =>
    obtain ⟨a, ws, kvs, rfl, g1, g2, e3⟩ := seen_dctK W dv hv
    refine ⟨_, call_listD hc, a, ws, rfl, .inl g1, fun p hp => k _ _ (post_lst W hp (ds := es.map (·.1)) ?_ q)⟩
    rw [e3, List.map_map]
    have e4 : kvs.map ((·.1) ∘ fun p : Key × Da => (kD p.1, p.2)) = ws.map fun p => kD p.1 := (List.map_congr_left fun _ _ => rfl).trans (kds_keys (f := kD) g2)
    rw [e4]
    clear g1 g2 e4 e3 hv q
    induction ws with
    | nil => exact .nil
    | cons w ws ih => exact .cons (dv_kD w.1) ih
  | true =>
    obtain ⟨a, ws, kvs, rfl, g1, g2, e3⟩ := seen_dctT W dv hv
    refine ⟨_, call_list_dT hc, a, ws, rfl, .inl g1, fun p bs hp hb => ?_⟩
    obtain ⟨F1, S1, g3⟩ := see_all hb W
    refine k _ _ (post_step S1 (post_lst S1.wd hp (ds := es.map (·.1)) ?_ q))
    rw [e3, List.map_map]
    have e4 : kvs.map ((·.1) ∘ fun p : List Key × Da => (tD p.1, p.2)) = ws.map fun p => tD p.1 := (List.map_congr_left fun _ _ => rfl).trans (kds_keys (f := tD) g2)
    rw [e4]
    exact g3

/-! ### sorted(xs), by the order of data -/
def srtR (K : Frg) (F : Hp) (v : Value) (d : Da) : Prop := ∃ x : V, RelV x v ∧ DV K F x d
theorem each_of {K : Frg} {F : Hp} : ∀ {xs : List V} {us : List Value} {ds : List Da}, Vals xs us → DVs K F xs ds → PySem.W.EachIs (srtR K F) us ds
  | _, _, _, .nil, .nil => .nil
  | _, _, _, .cons r rs, .cons d dd => .cons ⟨_, r, d⟩ (each_of rs dd)
theorem of_each {K : Frg} {F : Hp} {us : List Value} {ds : List Da} (h : PySem.W.EachIs (srtR K F) us ds) : ∃ xs : List V, Vals xs us ∧ DVs K F xs ds := by
  induction h with
  | nil => exact ⟨[], .nil, .nil⟩
  | cons a t ih =>
    obtain ⟨x, h1, h2⟩ := a
    obtain ⟨xs, h3, h4⟩ := ih
    exact ⟨x :: xs, .cons h1 h3, .cons h2 h4⟩
def SortOk (k : Da → PyData) (xs : List Da) : Prop := (∀ x ∈ xs, ∀ y ∈ xs, PySem.W.alike (k x) (k y) = true) ∧ PySem.W.Sortable (xs.map k) ∧ xs.length ≤ sizeLine ∧ ∀ x ∈ xs, (k x).depth ≤ 60
def sortD2 : RC2 := fun ds μ Q => ∃ d xs, ds = [d] ∧ view μ d = .lst xs ∧ okRs xs = true ∧ SortOk py xs ∧ Q (.lst (xs.mergeSort (PySem.W.dataLe false py))) μ
theorem okRs_mem {xs : List Da} (h : okRs xs = true) : ∀ x ∈ xs, okR x = true := okRs_iff.mp h
theorem c_sortD (hu : X.A.units + 64 < cLine) : CallR X (.builtin "sorted") (LC X.K sortD2) := fun pins s σ H vs us Q I r ⟨F, μ, ds, Q2, W, dvs, ⟨d, xs, e1, hv, ok, ⟨al, so, hz, dp⟩, q⟩, k⟩ => by
  subst e1
  obtain ⟨v, rfl, dv⟩ := dvs1 dvs
  obtain ⟨p, ys, rfl, g1, g2⟩ := seen_lst W dv hv
  obtain rfl := Vals.ref1 r
  obtain ⟨its, rv, hl, lz0⟩ := I.list (SqL.of g1)
  have er : PySem.W.EachIs (fun v b => ∃ as, Reads s.heap v (py b) as) its xs := by
    clear q hz so dp al hl g1 hv lz0
    induction rv generalizing xs with
    | nil => cases g2; exact .nil
    | cons h t ih =>
      cases g2 with
      | cons d1 d2 =>
        rw [okRs, Bool.and_eq_true] at ok
        exact .cons (Dp.reads I _ _ _ (dp_of W.sub d1 ok.1) h) (ih _ ok.2 d2)
  refine PySem.W.sorted_data (R := srtR X.K F) (enc := py) hl.isList (each_of rv g2) er (fun x hx y hy => ?_) so hz (fun b hb => ?_) fun out hlo eo => ?_
  · obtain ⟨x', hx', rfl⟩ := List.mem_map.mp hx
    obtain ⟨y', hy', rfl⟩ := List.mem_map.mp hy
    exact al x' hx' y' hy'
  · have := dp b hb
    omega
  · obtain ⟨zs, h1, h2⟩ := of_each eo
    obtain ⟨e, he⟩ := PyProof.Rows.sortedAll_at s.heap its out.toArray
    have hp : s.heap.objs.size ≤ s.heap.objs.size + 1 := Nat.le_succ _
    have lz : zs.length ≤ sizeLine := by rw [h1.length, hlo]; exact hz
    exact ⟨.ref (s.heap.objs.size + 1), _, I.laid (t' := s.toks) (o := .lst zs) (fun _ _ => PyProof.Rows.sortedAll_old) hp ⟨lz, out, e, h1, he⟩, rfl, k _ _ (post_lst W (I.hok.fresh hp) h2 q)⟩
end
end Dl
/-! Dl12: repr; == of dicts with tuple keys. -/
namespace Dl
open PySem L2
open Classical

/-- may be shown -/
structure ShowOk (d : Da) : Prop where
  ok : okR d = true
  dp : dpD d ≤ 60
  sz : szD d ≤ 2 ^ 20
theorem ShowOk.fits {d : Da} (h : ShowOk d) : (py d).shown.length ≤ sizeLine := PyData.shown_fits_of_layable0 (B := 13) (by decide) (by decide) (by
  unfold PyData.layable0
  rw [Bool.and_eq_true, Bool.and_eq_true, decide_eq_true_eq, decide_eq_true_eq, depth_py]
  exact ⟨⟨lay_of h.ok, Nat.le_trans h.dp (by decide)⟩, Nat.le_trans (weight_py h.ok) h.sz⟩) (short_of h.ok).1
mutual
theorem noDict_py : ∀ d : Da, (py d).hasDict = false
  | .non => rfl
  | .bl _ => rfl
  | .int _ => rfl
  | .str _ => rfl
  | .tup xs => by simp only [py, PyData.hasDict]; exact noDicts_py xs
  | .lst xs => by simp only [py, PyData.hasDict]; exact noDicts_py xs
  | .dct _ _ => rfl
  | .ref _ => rfl
  | .kt _ => rfl
  | .kl _ => rfl
theorem noDicts_py : ∀ ds : List Da, PyData.hasDictAll (pys ds) = false
  | [] => rfl
  | x :: xs => by simp only [pys, PyData.hasDictAll, noDict_py x, noDicts_py xs, Bool.or_self]
end
def isSeq : Da → Bool
  | .tup _ => true
  | .lst _ => true
  | _ => false
section
variable {X : Cx}
theorem seen_ref {K : Frg} {F H : Hp} {μ : Mu} {v : V} {d : Da} (W : Wd K F μ H) (dv : DV K F v d) (h : isSeq (view μ d) = true) : ∃ p, v = .ref p := by
  cases hv : view μ d with
  | tup ds => obtain ⟨p, _, e, _⟩ := seen_seqT W dv (.inl hv); exact ⟨p, e⟩
  | lst ds => obtain ⟨p, _, e, _⟩ := seen_lst W dv hv; exact ⟨p, e⟩
  | _ => rw [hv] at h; simp [isSeq] at h
/-- repr of a tuple, of a list -/
def repr2 : RC2 := fun ds μ Q => ∃ d, ds = [d] ∧ isSeq (view μ d) = true ∧ ShowOk (view μ d) ∧ Q (.str (py (view μ d)).shown) μ
theorem c_repr (hgd : X.A.guards = some []) (hu : X.A.units + 65 < cLine) : CallR X (.builtin "repr") (LC X.K repr2) := fun pins s σ H vs us Q I r ⟨F, μ, ds, Q2, W, dvs, ⟨d, e1, hs, ok, q⟩, k⟩ => by
  subst e1
  obtain ⟨v, rfl, dv⟩ := dvs1 dvs
  obtain ⟨p, rfl⟩ := seen_ref W dv hs
  obtain rfl := Vals.ref1 r
  obtain ⟨as, rd⟩ := Dp.reads I _ _ _ (seen_dp W dv ok.ok) (show RelV (.ref p) (.ref p) from rfl)
  have hd := depth_py (view μ d)
  have hdp := ok.dp
  refine repr_of_reads' rd (short_of ok.ok).2 (fun z => by rw [noDict_py] at z; cases z) hgd (by omega) (fun _ _ e => e) (fun h' u tk kp => ?_) ok.fits
  exact ⟨.str _, H, I.kept (t' := tk) kp, ⟨_, rfl⟩, k _ _ (post_same W (.str _) q)⟩

/-! ### a dict with tuple keys -/
def pyKvs (kvs : List (List Key × Da)) : List (PyData × PyData) := kvs.map fun p => (py (tD p.1), py p.2)
structure ShowKv (kvs : List (List Key × Da)) : Prop where
  ok : ∀ p ∈ kvs, okR (tD p.1) = true ∧ okR p.2 = true
  dp : ∀ p ∈ kvs, dpD p.2 ≤ 60
  fits : (PyData.dict (pyKvs kvs)).shown.length ≤ sizeLine
theorem reads_kv {pins : List (Addr × Obj)} {σ : L2.St} {H F : Hp} {s : Shared} (I : Inv X pins σ H s) (sub : Same F H) {ws : List (List Key × V)} {xs : List (List Key × Addr × Value)} (hk : KT H ws xs) : ∀ {kvs : List (List Key × Da)}, KDs X.K F ws kvs → (∀ p ∈ kvs, okR (tD p.1) = true ∧ okR p.2 = true) →
    (∃ as, ReadsAll s.heap (xs.map fun x => Value.ref x.2.1) ((pyKvs kvs).map (·.1)) as) ∧ ∃ bs, ReadsAll s.heap (xs.map fun x => x.2.2) ((pyKvs kvs).map (·.2)) bs := by
  unfold KT at hk
  induction hk with
  | nil =>
    intro kvs h _
    cases h
    exact ⟨⟨_, .nil⟩, _, .nil⟩
  | @cons p x ps qs a t ih =>
    intro kvs h ok
    cases h with
    | @cons p' q ps' kvs' b u =>
      obtain ⟨⟨as, i1⟩, bs, i2⟩ := ih u fun r hr => ok r (List.mem_cons_of_mem _ hr)
      obtain ⟨o1, o2⟩ := ok q List.mem_cons_self
      obtain ⟨b1, b2⟩ := b
      have hq : H x.2.1 = some (.tup (q.1.map kV)) := by rw [← b1]; exact a.2.1
      have d1 : Dp X.K H (.ref x.2.1) (py (tD q.1)) := by
        rw [tD, okR] at o1
        rw [tD, py]
        exact .tup (SqT.of hq) (dps_of sub (dvs_keys q.1) o1)
      obtain ⟨as1, r1⟩ := Dp.reads I _ _ _ d1 (show RelV (.ref x.2.1) (.ref x.2.1) from rfl)
      obtain ⟨bs1, r2⟩ := Dp.reads I _ _ _ (dp_of sub b2 o2) a.2.2
      exact ⟨⟨_, .cons r1 i1⟩, _, .cons r2 i2⟩
theorem show_kv : ∀ {kvs : List (List Key × Da)}, (∀ p ∈ kvs, okR (tD p.1) = true ∧ okR p.2 = true) → PyData.showableAll ((pyKvs kvs).map (·.1)) = true ∧ PyData.showableAll ((pyKvs kvs).map (·.2)) = true
  | [], _ => ⟨rfl, rfl⟩
  | p :: ps, h => by
    obtain ⟨i1, i2⟩ := show_kv (kvs := ps) fun q hq => h q (List.mem_cons_of_mem _ hq)
    obtain ⟨o1, o2⟩ := h p List.mem_cons_self
    refine ⟨?_, ?_⟩
    · show ((py (tD p.1)).showable && PyData.showableAll ((pyKvs ps).map (·.1))) = true
      rw [i1, (short_of o1).2]; rfl
    · show ((py p.2).showable && PyData.showableAll ((pyKvs ps).map (·.2))) = true
      rw [i2, (short_of o2).2]; rfl
theorem flat_kv : ∀ kvs : List (List Key × Da), PyData.hasDictAll ((pyKvs kvs).map (·.1)) = false ∧ PyData.hasDictAll ((pyKvs kvs).map (·.2)) = false
  | [] => ⟨rfl, rfl⟩
  | p :: ps => by
    obtain ⟨i1, i2⟩ := flat_kv ps
    refine ⟨?_, ?_⟩
    · show ((py (tD p.1)).hasDict || PyData.hasDictAll ((pyKvs ps).map (·.1))) = false
      rw [i1, noDict_py]; rfl
    · show ((py p.2).hasDict || PyData.hasDictAll ((pyKvs ps).map (·.2))) = false
      rw [i2, noDict_py]; rfl
theorem depth_key (k : List Key) : dpD (tD k) ≤ 1 := by
  show dpDs (k.map kD) + 1 ≤ 1
  have : ∀ l : List Key, dpDs (l.map kD) = 0 := fun l => by
    induction l with
    | nil => rfl
    | cons x l ih => cases x <;> simp only [List.map_cons, dpDs, kD, dpD, ih, Nat.max_self]
  rw [this]
  exact Nat.le_refl _
theorem depth_kv : ∀ {kvs : List (List Key × Da)}, (∀ p ∈ kvs, dpD p.2 ≤ 60) → PyData.depthKv (pyKvs kvs) ≤ 60
  | [], _ => Nat.zero_le _
  | p :: ps, h => by
    have i := depth_kv (kvs := ps) fun q hq => h q (List.mem_cons_of_mem _ hq)
    have h1 := h p List.mem_cons_self
    have h2 := depth_key p.1
    show max (max (py (tD p.1)).depth (py p.2).depth) (PyData.depthKv (pyKvs ps)) ≤ 60
    rw [depth_py, depth_py]
    omega
def reprT2 : RC2 := fun ds μ Q => ∃ a kvs, ds = [.ref a] ∧ μ a = some (.dT kvs) ∧ ShowKv kvs ∧ Q (.str (PyData.dict (pyKvs kvs)).shown) μ
theorem c_reprT (hgd : X.A.guards = some []) (hu : X.A.units + 65 < cLine) : CallR X (.builtin "repr") (LC X.K reprT2) := fun pins s σ H vs us Q I r ⟨F, μ, ds, Q2, W, dvs, ⟨a, kvs, e1, hm, sh, q⟩, k⟩ => by
  subst e1
  obtain ⟨v, rfl, dv⟩ := dvs1 dvs
  obtain rfl := dv_ref dv
  obtain rfl := Vals.ref1 r
  obtain ⟨_, ws, h1, h2⟩ := W.chg a _ hm
  obtain ⟨_, hsys, xs, hk, o, es, ep, ho, hx, hdt, he, _, _⟩ := dt_of I.hok h1
  obtain ⟨⟨as, r1⟩, bs, r2⟩ := reads_kv I W.sub hk h2 sh.ok
  have ek : es.toList.map (·.key) = xs.map fun x => Value.ref x.2.1 := by rw [he, List.map_map]; rfl
  have ev : es.toList.map (·.val) = xs.map fun x => x.2.2 := by rw [he, List.map_map]; rfl
  rw [← ek] at r1
  rw [← ev] at r2
  obtain ⟨hs1, hs2⟩ := show_kv sh.ok
  obtain ⟨n1, n2⟩ := flat_kv kvs
  have hz' : (dictText (PyData.shownKv (pyKvs kvs))).length ≤ sizeLine := by have := sh.fits; simpa only [PyData.shown] using this
  obtain ⟨b1, hb1, k1⟩ := ReprAllK.of_readsAll (prog := X.prog) (w := X.w) r1 hs1 (fun z => by rw [n1] at z; cases z) (fun t ht => let ⟨p, hp, hl⟩ := PyData.shownKv_key_le _ t ht; Nat.le_trans hl (Nat.le_trans (dictText_mem_le hp) hz'))
  obtain ⟨b2, hb2, k2⟩ := ReprAllK.of_readsAll (prog := X.prog) (w := X.w) r2 hs2 (fun z => by rw [n2] at z; cases z) (fun t ht => let ⟨p, hp, hl⟩ := PyData.shownKv_val_le _ t ht; Nat.le_trans hl (Nat.le_trans (dictText_mem_le hp) hz'))
  have hb : ReadAtMost s.heap (PyData.depthKv (pyKvs kvs)) (b1 ++ b2) := (hb1.mono (PyData.depthAll_keys_le _)).append (hb2.mono (PyData.depthAll_vals_le _))
  have hna : a ∉ b1 ++ b2 := not_mem_of_deeper (.dict ho hx.1 hdt r1 r2) (by simp only [PyData.depth]; omega) hb
  have hd := depth_kv sh.dp
  refine call_repr_slot (T := "dict") (idr := "dict.__repr__") (by omega) ⟨o, ho, hx.1⟩ PySem.F.slot_dict_repr (call_dict_reprK ho hx.1 hdt hsys hna (ReprEntriesK.of_two es.toList _ _
    (k1.more_le (fun b hb => List.mem_append_left _ hb) (PyData.depthAll_keys_le _)) (k2.more_le (fun b hb => List.mem_append_right _ hb) (PyData.depthAll_vals_le _))) hgd (fun b _ => Clear.nil b) (by show X.A.units + 1 + _ < cLine; omega) (fun _ _ e => e) (fun h' u tk kp => ?_) (by rw [← PyData.shownKv_eq]; exact hz'))
  rw [← PyData.shownKv_eq]
  refine ⟨_, _, rfl, .str _, H, I.kept (t' := tk) kp, ⟨_, rfl⟩, k _ _ (post_same W (.str _) ?_)⟩
  simpa only [PyData.shown] using q
end
end Dl
/-! Dl13: two dicts with tuple keys that hold the same are equal. -/
namespace Dl
open PySem L2
open Classical

/-- each entry of ka stands in kb too -/
def SameKv (ka kb : List (List Key × Da)) : Prop := ka.length = kb.length ∧ ∀ p ∈ ka, cmpOk p.2 ∧ (∃ q ∈ kb, q.1 = p.1) ∧ ∀ q ∈ kb, q.1 = p.1 → q.2 = p.2
theorem kt_get {H : Hp} {ws : List (List Key × V)} {xs : List (List Key × Addr × Value)} (h : KT H ws xs) : ∀ (i : Nat), (∀ w, ws[i]? = some w → ∃ x, xs[i]? = some x ∧ w.1 = x.1 ∧ RelV w.2 x.2.2) ∧ ∀ x, xs[i]? = some x → ∃ w, ws[i]? = some w ∧ w.1 = x.1 ∧ RelV w.2 x.2.2 := by
  unfold KT at h
  induction h with
  | nil => intro i; exact ⟨fun w e => by simp at e, fun w e => by simp at e⟩
  | @cons p x ps xs a t ih =>
    intro i
    cases i with
    | zero =>
      refine ⟨fun w e => ?_, fun w e => ?_⟩
      · have : p = w := by simpa using e
        subst this
        exact ⟨x, rfl, a.1, a.2.2⟩
      · have : x = w := by simpa using e
        subst this
        exact ⟨p, rfl, a.1, a.2.2⟩
    | succ i =>
      refine ⟨fun w e => ?_, fun w e => ?_⟩
      · simpa using (ih i).1 w (by simpa using e)
      · simpa using (ih i).2 w (by simpa using e)
theorem kds_get {κ : Type} {K : Frg} {F : Hp} {ws : List (κ × V)} {kvs : List (κ × Da)} (h : KDs K F ws kvs) : ∀ (i : Nat) (w : κ × V), ws[i]? = some w → ∃ p, kvs[i]? = some p ∧ w.1 = p.1 ∧ DV K F w.2 p.2 := by
  unfold KDs at h
  induction h with
  | nil => intro i w e; simp at e
  | @cons p x ps xs a t ih =>
    intro i w e
    cases i with
    | zero =>
      have : p = w := by simpa using e
      subst this
      exact ⟨x, rfl, a.1, a.2⟩
    | succ i => simpa using ih i w (by simpa using e)
theorem kds_get' {κ : Type} {K : Frg} {F : Hp} {ws : List (κ × V)} {kvs : List (κ × Da)} (h : KDs K F ws kvs) : ∀ (i : Nat) (p : κ × Da), kvs[i]? = some p → ∃ w, ws[i]? = some w ∧ w.1 = p.1 ∧ DV K F w.2 p.2 := by
  unfold KDs at h
  induction h with
  | nil => intro i w e; simp at e
  | @cons p x ps xs a t ih =>
    intro i w e
    cases i with
    | zero =>
      have : x = w := by simpa using e
      subst this
      exact ⟨p, rfl, a.1, a.2⟩
    | succ i => simpa using ih i w (by simpa using e)
section
variable {X : Cx}
theorem run_same {nm : String} {pins : List (Addr × Obj)} {σ : L2.St} {H F : Hp} {s : Shared} {a b : Addr} {wa wb : List (List Key × V)} {ka kb : List (List Key × Da)} {A : Around} {E : Value → Shared → Prop} {Q : Bool → Shared → Prop}
    (I : Inv X pins σ H s) (sub : Same F H) (ha : H a = some (.dT wa)) (hb : H b = some (.dT wb)) (da : KDs X.K F wa ka) (db : KDs X.K F wb kb) (sm : SameKv ka kb) (hr : (tupleKind (mixKind X.prog X.w)).room A) (hu : A.units + 64 < cLine) (hq : Q true s) :
    wpAny (model X.prog X.w) A (Builtin.Dict.samePairs nm a b) Q E s := by
  obtain ⟨_, ma, xs, ta, oa, es, ep, hoa, _, hda, hea, hia, _⟩ := dt_of I.hok ha
  obtain ⟨_, mb, ys, tb, ob, es', ep', hob, _, hdb, heb, hib, hnb⟩ := dt_of I.hok hb
  have la : es.size = ka.length := (size_of_entries hea).trans ((Paired.length ta).symm.trans (kds_len da))
  have lb : es'.size = kb.length := (size_of_entries heb).trans ((Paired.length tb).symm.trans (kds_len db))
  have lab : es.size = es'.size := by rw [la, lb]; exact sm.1
  unfold Builtin.Dict.samePairs Builtin.Dict.showsAll
  rw [if_neg (by rw [ma]; decide), if_neg (by rw [mb]; decide)]
  refine wpAny_bind (wpAny_pure (wpAny_bind (wpAny_pure (wpAny_bind (wpAny_dictEntries hoa hda ?_)))))
  dsimp only
  refine wpAny_bind (wpAny_dictEntries hob hdb ?_)
  rw [if_neg (by rw [lab]; simp)]
  refine wpAny_bind (wpAny_dictEpoch hoa hda (wpAny_bind ?_))
  rw [Std.Legacy.Range.forIn_eq_forIn_range']
  simp only [Std.Legacy.Range.size, Nat.sub_zero, Nat.add_sub_cancel, Nat.div_one]
  refine wpAny_forIn_list _ (fun rest q s' => s' = s ∧ q = (none, ()) ∧ ∀ x ∈ rest, x < es.size) _ ?_ ?_ _ _ ⟨rfl, rfl, fun x hx => by have := (List.mem_range'.mp hx); obtain ⟨i, h1, h2⟩ := this; omega⟩
  · rintro x rest q s' ⟨rfl, rfl, hr'⟩
    have hlt : x < es.size := hr' x List.mem_cons_self
    obtain ⟨p, hp⟩ : ∃ p, ka[x]? = some p := ⟨_, List.getElem?_eq_getElem (by rw [← la]; exact hlt)⟩
    obtain ⟨w, hw, w1, dw⟩ := kds_get' da x p hp
    obtain ⟨z, hz, z1, rz⟩ := (kt_get ta x).1 w hw
    have hex : es[x] = entryOfKey (tupleKind (mixKind X.prog X.w)) z := by
      have e := entry_at hea x
      rw [hz, Array.getElem?_eq_getElem hlt] at e
      exact Option.some.inj e
    obtain ⟨cm, ⟨g, hg, g1⟩, uq⟩ := sm.2 p (List.mem_of_getElem? hp)
    refine wpAny_bind (wpAny_dictEntries hoa hda ?_)
    rw [Array.getElem?_eq_getElem hlt]
    show wpAny _ _ (holding [es[x].key, es[x].val] _ >>= _) _ _ _
    rw [hex]
    refine wpAny_bind (wpAny_holding (wpAny_bind (wpAny_dictFind_heap (k := z.1) (xs := ys) hr (hia z (List.mem_of_getElem? hz)) hob hdb heb hib hnb (fun none' => ?_) fun j v hj => ?_)))
    · exfalso
      obtain ⟨j, hjlt, hj⟩ := List.getElem_of_mem hg
      obtain ⟨w', hw', w1', _⟩ := kds_get' db j g (by rw [List.getElem?_eq_getElem hjlt, hj])
      obtain ⟨z', hz', z1', _⟩ := (kt_get tb j).1 w' hw'
      have ek : z'.1 = z.1 := by rw [← z1', w1', g1, ← w1, z1]
      exact none' j z'.2 (by rw [hz', ← ek])
    · obtain ⟨w', hw', w1', rz'⟩ := (kt_get tb j).2 _ hj
      obtain ⟨g', hg', g1', dw'⟩ := kds_get db j w' hw'
      have ek : g'.1 = p.1 := by rw [← g1', w1', ← z1, w1]
      have ed := uq g' (List.mem_of_getElem? hg') ek
      have hjlt : j < es'.size := by rw [lb]; exact (List.getElem?_eq_some_iff.mp hg').1
      have hej : es'[j] = entryOfKey (tupleKind (mixKind X.prog X.w)) (z.1, v) := by
        have e := entry_at heb j
        rw [hj, Array.getElem?_eq_getElem hjlt] at e
        exact Option.some.inj e
      refine wpAny_bind (wpAny_dictEntries hob hdb ?_)
      rw [Array.getElem?_eq_getElem hjlt]
      obtain ⟨as, r1⟩ := Dp.reads I _ _ _ (dp_of sub dw (okR_of cm.1)) rz
      rw [ed] at dw'
      obtain ⟨bs, r2⟩ := Dp.reads I _ _ _ (dp_of sub dw' (okR_of cm.1)) rz'
      have hc := PySem.SeqAt.canLay_of_shaped (shaped_of cm)
      have eq := PySem.SeqAt.eqAt_reads _ _ A s' _ _ as bs r1 r2 hc hc (PySem.SeqAt.room_of_shaped (shaped_of cm) hu) X.prog X.w E
      rw [eqv_py cm.1 cm.1, decide_eq_true rfl] at eq
      show wpAny _ _ (holding [es'[j].val] (eqBool _ es'[j].val)) _ _ _
      rw [hej]
      refine wpAny_holding (eq _ ?_)
      show wpAny _ _ (if (!true) = true then _ else _) _ _ _
      rw [if_neg (by decide)]
      refine wpAny_bind (wpAny_dictEpoch hoa hda ?_)
      rw [if_neg (by simp)]
      exact wpAny_pure ⟨rfl, rfl, fun y hy => hr' y (List.mem_cons_of_mem _ hy)⟩
  · rintro q s' ⟨rfl, rfl, _⟩
    exact wpAny_pure hq
noncomputable def eqT2 : R22 := fun d e μ Q => ∃ a b ka kb, d = .ref a ∧ e = .ref b ∧ μ a = some (.dT ka) ∧ μ b = some (.dT kb) ∧ SameKv ka kb ∧ Q (.bl true) μ
theorem o_eqT (hu : X.A.units + 65 < cLine) : OpR X (compareOp .Eq) (LO X.K eqT2) := fun pins s σ H x y v u Q I rx ry ⟨F, μ, d, e, Q2, W, dx, dy, ⟨a, b, ka, kb, e1, e2, m1, m2, sm, q⟩, k⟩ => by
  subst e1 e2
  obtain rfl := dv_ref dx
  obtain rfl := dv_ref dy
  obtain rfl : v = Value.ref a := rx
  obtain rfl : u = Value.ref b := ry
  obtain ⟨_, wa, ha, da⟩ := W.chg a _ m1
  obtain ⟨_, wb, hb, db⟩ := W.chg b _ m2
  obtain ⟨_, _, _, _, oa, _, _, hoa, xa, _⟩ := dt_of I.hok ha
  obtain ⟨_, _, _, _, ob, _, _, hob, xb, _⟩ := dt_of I.hok hb
  have tya : s.TypeIs (.ref a) "dict" := ⟨oa, hoa, xa.1⟩
  have tyb : s.TypeIs (.ref b) "dict" := ⟨ob, hob, xb.1⟩
  show wpAny _ _ (richCompare .Eq (.ref a) (.ref b)) _ _ _
  refine wpAny_richCompare_same_room (op := .Eq) tya tyb PySem.F.slot_dict_eq (wpAny_call_entry PySem.F.slot_dict_eq tya PySem.F.entry_dict_eq ?_ (PySem.F.args_dict_eq_2 _ _)) (by omega)
  show wpAny _ _ (Builtin.Dict.dictSlotArgs "__eq__" ⟨[.ref a, .ref b], []⟩ >>= _) _ _ s
  refine wpAny_bind ?_
  unfold Builtin.Dict.dictSlotArgs
  refine wpAny_bind (wpAny_notOrdered_dict tya ?_)
  show wpAny _ _ (pure (Value.ref a, Value.ref b)) _ _ s
  refine wpAny_pure ?_
  refine wpAny_bind (wpAny_isInstance (T := "dict") tyb PySem.F.sub_dict_dict ?_)
  simp only [Bool.not_true, Bool.false_eq_true, if_false]
  refine wpAny_bind (wpAny_pure (wpAny_bind (wpAny_pure ?_)))
  refine wpAny_bind (run_same I W.sub ha hb da db sm (tupleKind_room_in1 (by omega)) (by show X.A.units + 1 + 64 < cLine; omega) ?_)
  exact wpAny_pure ⟨_, rfl, ⟨(fun x => nomatch x), ⟨.bl true, H, I, rfl, k _ _ (post_same W (.bl _) q)⟩⟩⟩
end
end Dl
/-! Dl14: defs by name, bags of draws, further small rules. -/
namespace Dl
open PySem L2
open Classical
open PyProof.Rows (envOfC)

/-- an end from which what nobody knows any more may be dropped -/
def trim (Q : QD) : QD := fun d μ => ∃ μ', (∀ a m, μ' a = some m → μ a = some m) ∧ Q d μ'
theorem trim_of {Q : QD} {d : Da} {μ : Mu} (h : Q d μ) : trim Q d μ := ⟨μ, fun _ _ e => e, h⟩
theorem post_trim {K : Frg} {F H : Hp} {μ : Mu} {Q : QD} {v : V} {H' : Hp} (h : Post K F μ H (trim Q) v H') : Post K F μ H Q v H' :=
  let ⟨F', μ', d, S, dv, μ2, sub, q⟩ := h; ⟨F', μ2, d, S.trans (Stp.drop S.wd sub), dv, q⟩
theorem sub_put {μ : Mu} {p : Addr} {m : Mo} (h : μ p = none) : ∀ a n, μ a = some n → put μ p m a = some n := fun a n e => by
  rw [put_ne (fun q => by rw [q, h] at e; cases e)]; exact e

section
variable {P : Program} {w : World} {K : Frg} {mg : Str → Option Value} {base : Heap}
/-- a def of the module, by its text -/
def Tx (K : Frg) (mg : Str → Option Value) (x : Str) (st : Stmt) : Prop := ∃ (f : Addr) (fd : FuncData), FunD K x x (defArgs st) (defBody st) (defScope st) [] [] f fd ∧ mg x = some (.ref f)
/-- a def of the module that keeps a promise -/
structure Gf (P : Program) (w : World) (K : Frg) (mg : Str → Option Value) (base : Heap) (k : Nat) (x : Str) (ps : List Str) (r2 : RC2) : Prop where
  ex : ∃ (f : Addr) (fd : FuncData), FnG P w K mg base CX0 k f fd ps (LF K r2) ∧ mg x = some (.ref f) ∧ PySem.W.keepIn K (.ref f) = true ∧ Binds K fd ps []
theorem Gf.mono {j k : Nat} {x : Str} {ps : List Str} {r2 : RC2} (G : Gf P w K mg base j x ps r2) (h : j ≤ k) : Gf P w K mg base k x ps r2 := let ⟨f, fd, a, b⟩ := G.ex; ⟨⟨f, fd, a.mono h, b⟩⟩
theorem lf_trim {N : List Str} {r2 : RC2} {t2 : TS2} (h : ∀ ds μ Q2, r2 ds μ Q2 → t2 { nx := fun _ μ' => trim Q2 .non μ', rt := trim Q2 } (startR N ds) μ) {vs : List V} {H : Hp} {Q : VK} {E : XK} (hsp : LF K r2 vs H Q E) :
    LS K t2 { nx := fun _ H' => Q .non H', rt := Q } (L2.start N vs) H := by
  obtain ⟨F, μ, ds, Q2, W, dvs, hr, k⟩ := hsp
  refine ⟨F, μ, startR N ds, _, W, ?_, h ds μ Q2 hr, ⟨fun σ' H' ⟨F', μ', ρ', S, E', q⟩ => k _ H' (post_trim ⟨F', μ', .non, S, .non, q⟩), fun v H' p => k v H' (post_trim p), fun σ' H' ⟨_, _, _, _, _, q⟩ => q.elim, fun σ' H' ⟨_, _, _, _, _, q⟩ => q.elim⟩⟩
  unfold L2.start startR
  rw [dvs.length]
  exact EnvR.of_vals _ dvs
/-- THE RULE for a def of the module -/
theorem gf {x : Str} {st : Stmt} {N ps : List Str} {r2 : RC2} {k : Nat} {t2 : TS2} (T : Tx K mg x st) (S : FnScope N ps (defScope st))
    (hb : ∀ (kV doc pm : Value) (an : Option Addr) (cdv ct : Value) (us : List Value), us.length = ps.length → bindArgs (PySem.W.fnOf x x (defArgs st) (defBody st) (defScope st) .none kV doc pm an cdv ct) ⟨us, []⟩ = pure (ps.zip us))
    (len : ∀ ds μ Q, r2 ds μ Q → ds.length = ps.length)
    (hbody : ∀ (f : Addr) (cdv : Value) (A : Around) (outer : List Env) (s : Shared) (H : Hp) (E : XK), Room k (A.deeper (envOfC x (defScope st) s.heap.objs.size f cdv)) → (A.deeper (envOfC x (defScope st) s.heap.objs.size f cdv)).guards = some [] →
      PSs2 (cxOf CX0 P w K mg base N x (defScope st) f cdv A outer s H E).nox (defBody st) t2)
    (rd : ∀ ds μ Q2, r2 ds μ Q2 → t2 { nx := fun _ μ' => trim Q2 .non μ', rt := trim Q2 } (startR N ds) μ) : Gf P w K mg base (k + 1) x ps r2 := by
  obtain ⟨f, fd, F, hm⟩ := T
  exact ⟨⟨f, fd, def_g F S (lf_len len) fun cdv A outer s H vs Q E hr hg hsp => ⟨_, PSs.nox (hbody f cdv A outer s H E hr hg), lf_trim rd hsp⟩, hm, F.kp, F.bindsN hb⟩⟩
end
section
variable {X : Cx} {k : Nat} {x : Str} {ps : List Str} {r2 : RC2} {e a : Expr} {es : List Expr} {pos p : Pos} {tas : TA2} {te ta : TE2} {st : Stmt} {sts : List Stmt} {t : TS2}
@[reducible] def dG (r2 : RC2) (ta : TA2) : TE2 := fun ρ μ Q => ta ρ μ fun ds μ1 => r2 ds μ1 Q
theorem d_g (G : Gf X.prog X.w X.K X.mg X.base k x ps r2) (hr : Room k X.A) (hgd : X.A.guards = some []) (hg : Gl X x) (ha : PA2 X (e :: es) tas) (hdb : (x == ("__debug__" : Str)) = false := by decide)
    (he : starEach (e :: es) X.env = (false, eval e X.env) :: starEach es X.env := by rfl) (hpl : (backTo pos (starEach es X.env)).any (·.1) = false := by rfl) : PE2 X (.Call (.Name x p) (e :: es) [] pos) (dG r2 tas) := by
  obtain ⟨f, fd, F, hm, hk, hb⟩ := G.ex
  have h := d_callG (p := p) F hr hgd hg hm hk hb .nil (fun _ => .nil) ha hdb he hpl
  have e1 : dCall r2 [] tas = dG r2 tas := by funext ρ μ Q; simp only [dCall, dG, List.append_nil]
  rw [e1] at h
  exact h
/-- a test by truth -/
@[reducible] def dTru (te : TE2) : TT2 := fun ρ μ Q => te ρ μ fun d μ1 => ∃ c, truD μ1 d = some c ∧ Q c μ1
theorem d_truth (h : PE2 X e te) (he : ∀ whole, isTrue e X.env whole = (do let v ← whole; standAt e.pos; holding [v] (truthy v)) := by intro _; rfl) : PT2 X e (dTru te) :=
  PT.imp (pt_truth h he) fun σ H Q ⟨F, μ, ρ, Q2, W, E, h, k⟩ => le_go W E h fun v H1 F1 μ1 d S1 E1 dv ⟨c, ec, q⟩ => ⟨c, truD_tru S1.wd dv ec, k c H1 ⟨F1, μ1, S1, q⟩⟩
/-- a name of the module that is an int, a text -/
theorem d_gstr {z : Str} {tk : Tok} (hg : Gl X x) (hm : X.mg x = some (.str z tk)) (hd : (x == ("__debug__" : Str)) = false := by decide) : PE2 X (.Name x pos) (dC (.str z)) := d_c (pe_glob (v := .str z) hg hm ⟨tk, rfl⟩ hd) fun _ _ => .str z
theorem d_gint {z : Int} {tk : Tok} (hg : Gl X x) (hm : X.mg x = some (.int z tk)) (hd : (x == ("__debug__" : Str)) = false := by decide) : PE2 X (.Name x pos) (dC (.int z)) := d_c (pe_glob (v := .int z) hg hm ⟨tk, rfl⟩ hd) fun _ _ => .int z

/-! ### bags -/
theorem bag_open {K : Frg} {F H : Hp} {μ : Mu} {b : Addr} (W : Wd K F μ H) (h : μ b = some .bag) : ∃ r s k ns, 0 ≤ r ∧ 0 ≤ s ∧ 0 ≤ k ∧ (∀ n ∈ ns, 0 ≤ n) ∧ Stp K F μ H F (put μ b (.lst (bagD r s k ns))) H := by
  obtain ⟨hF, r, s, k, ns, xs, h1, h2, h3, h4, h5, h6⟩ := W.chg b _ h
  refine ⟨r, s, k, ns, h3, h4, h5, h6, Same.refl F, fun a o _ g1 g2 g3 => ⟨g1, g2, ?_⟩, W.same hF ⟨xs, h1, h2⟩⟩
  rw [put_ne (fun q => by rw [q, h] at g3; cases g3)]; exact g3
theorem bag_close {K : Frg} {F H : Hp} {μ : Mu} {b : Addr} {r s k : Int} {ns : List Int} (W : Wd K F μ H) (h : μ b = some (.lst (bagD r s k ns))) (h3 : 0 ≤ r) (h4 : 0 ≤ s) (h5 : 0 ≤ k) (h6 : ∀ n ∈ ns, 0 ≤ n) : Stp K F μ H F (put μ b .bag) H := by
  obtain ⟨hF, xs, h1, h2⟩ := W.chg b _ h
  refine ⟨Same.refl F, fun a o _ g1 g2 g3 => ⟨g1, g2, ?_⟩, W.same hF ⟨r, s, k, ns, xs, h1, h2, h3, h4, h5, h6⟩⟩
  rw [put_ne (fun q => by rw [q, h] at g3; cases g3)]; exact g3
def isBag (μ : Mu) (b : Addr) : Prop := ∃ r s k ns, μ b = some (.lst (bagD r s k ns)) ∧ 0 ≤ r ∧ 0 ≤ s ∧ 0 ≤ k ∧ ∀ n ∈ ns, 0 ≤ n
/-- what follows sees the bag's parts; at each end it is a bag again -/
@[reducible] def sBag (i : Nat) (t : TS2) : TS2 := fun D ρ μ => ∃ b, ρ[i]? = some (some (.ref b)) ∧ μ b = some .bag ∧ ∀ r s k ns, 0 ≤ r → 0 ≤ s → 0 ≤ k → (∀ n ∈ ns, 0 ≤ n) →
  t ⟨fun _ _ => False, fun d μ' => isBag μ' b ∧ D.rt d (put μ' b .bag), fun _ _ => False, fun _ _ => False⟩ ρ (put μ b (.lst (bagD r s k ns)))
theorem ds_bag {i : Nat} (h : PSs2 X sts t) : PSs2 X sts (sBag i t) := PSs.imp h fun D σ H ⟨F, μ, ρ, D2, W, E, ⟨b, hb, hm, q⟩, ok⟩ => by
  obtain ⟨r, s, k, ns, h3, h4, h5, h6, S⟩ := bag_open W hm
  refine ⟨F, _, ρ, _, S.wd, E, q r s k ns h3 h4 h5 h6, ⟨fun σ' H' ⟨_, _, _, _, _, z⟩ => z.elim, fun v H' ⟨F', μ', d, S', dv, ⟨r', s', k', ns', e1, g3, g4, g5, g6⟩, z⟩ => ?_, fun σ' H' ⟨_, _, _, _, _, z⟩ => z.elim, fun σ' H' ⟨_, _, _, _, _, z⟩ => z.elim⟩⟩
  exact ok.rt v H' ⟨F', _, d, (S.trans S').trans (bag_close S'.wd e1 g3 g4 g5 g6), dv, z⟩
/-- return e, e a new list that from now on is a bag -/
@[reducible] def sRetB (te : TE2) : TS2 := fun D ρ μ => te ρ μ fun d μ' => ∃ b, d = .ref b ∧ isBag μ' b ∧ D.rt d (put μ' b .bag)
theorem d_retB (he : PE2 X e te) : PS2 X (.Return (some e) pos) (sRetB te) :=
  PS.imp (d_ret he) fun D σ H ⟨F, μ, ρ, D2, W, E, h, ok⟩ => ⟨F, μ, ρ, { D2 with rt := fun d μ' => ∃ b, d = .ref b ∧ isBag μ' b ∧ D2.rt d (put μ' b .bag) }, W, E, h, ⟨ok.nx, fun v H' ⟨F', μ', d, S', dv, b, e0, ⟨r', s', k', ns', e1, g3, g4, g5, g6⟩, z⟩ => by
    subst e0
    exact ok.rt v H' ⟨F', _, _, S'.trans (bag_close S'.wd e1 g3 g4 g5 g6), dv, z⟩, ok.bk, ok.ct⟩⟩
end
/-! ### the promises of a law's bag -/
def rBag : RC2 := fun ds μ Q => ∃ ns : List Int, ds = [.kl (ns.map Da.int)] ∧ ns.length ≤ 63 ∧ ∀ p, μ p = none → Q (.ref p) (put μ p .bag)
def rTake : RC2 := fun ds μ Q => ∃ b m, ds = [.ref b, .int m] ∧ μ b = some .bag ∧ 0 < m ∧ m < 2 ^ 63 ∧ ∀ i : Int, 0 ≤ i → i < m → Q (.int i) μ
end Dl
/-! Dl15: xs[i] op= e; any iteration; a dict display with one tuple key. -/
namespace Dl
open PySem L2
open Classical

section
variable {X : Cx} {e o i k v : Expr} {es : List Expr} {pos p tpos : Pos} {tas : TA2} {te to ti tk tv : TE2}
def ipI2 (f : Int → Int → Int) : R22 := fun d e μ Q => ∃ i j, d = .int i ∧ e = .int j ∧ Q (.int (f i j)) μ
theorem p_ip {op : Operator} {f : Int → Int → Int} (h : PIp X op (ipI f)) : PIp X op (LO X.K (ipI2 f)) := fun pins s σ H x y v u Q I rx ry ⟨F, μ, d, e, Q2, W, dx, dy, ⟨a, b, e1, e2, q⟩, k⟩ => by
  subst e1 e2
  exact h pins s σ H x y v u Q I rx ry ⟨a, b, dv_int dx, dv_int dy, k _ _ (post_same W (.int _) q)⟩
theorem p_add : PIp X .Add (LO X.K (ipI2 fun i j => i + j)) := p_ip ip_add
theorem p_sub : PIp X .Sub (LO X.K (ipI2 fun i j => i - j)) := p_ip ip_sub
/-- xs[i], i a place -/
def getL2 : R22 := fun o i μ Q => ∃ ds j x, view μ o = .lst ds ∧ i = .int ((j : Nat) : Int) ∧ ds[j]? = some x ∧ ds.length ≤ sizeLine ∧ Q x μ
theorem p_getL : PGet X (LO X.K getL2) := fun pins s σ H x y v u Q I rx ry ⟨F, μ, d, e, Q2, W, dx, dy, ⟨ds, j, z, h1, h2, h3, h4, q⟩, k⟩ => by
  subst h2
  obtain ⟨p, xs, rfl, g1, g2⟩ := seen_lst W dx h1
  obtain rfl := dv_int dy
  obtain rfl : v = Value.ref p := rx
  obtain ⟨t, rfl⟩ := ry
  obtain ⟨its, rv, hl, hz⟩ := I.list (SqL.of g1)
  obtain ⟨w, hw, dw⟩ := g2.get' h3
  obtain ⟨w', hw', rw'⟩ := rv.get hw
  have hj : j < ds.length := (List.getElem?_eq_some_iff.mp h3).1
  have hs : (sizeLine : Nat) < 2 ^ 63 := line63
  exact wpAny_getItem_list hl.isList (by omega) (by omega) (by rw [Int.toNat_natCast, List.getElem?_toArray]; exact hw') ⟨w, H, I, rw', k _ _ (post_same W dw q)⟩
@[reducible] def sAugS (to ti te : TE2) (g : R22) (r : R22) (t : TSet2) : TS2 := fun D ρ μ => to ρ μ fun o μ1 => ti ρ μ1 fun i μ2 => g o i μ2 fun x μ3 => te ρ μ3 fun y μ4 => r x y μ4 fun z μ5 => t o i z μ5 fun μ6 => D.nx ρ μ6
theorem d_augS {op : Operator} {r g : R22} {t : TSet2} (ho : PE2 X o to) (hi : PE2 X i ti) (hg : PGet X (LO X.K g)) (he : PE2 X e te) (hp : PIp X op (LO X.K r)) (hs : PSet X (LST X.K t))
    (ha : ∀ ov iv new, augStore i ov iv new = (do holding [new, ov, iv] (setItem ov iv new); release [new, ov, iv] []; pure .next) := by intros; rfl) : PS2 X (.AugAssign (.Subscript o i tpos) op e pos) (sAugS to ti te g r t) :=
  PS.imp (ps_augS ho hi hg he hp hs ha) fun D σ H ⟨F, μ, ρ, D2, W, E, h, ok⟩ => le_go W E h fun x H1 F1 μ1 d1 S1 E1 dx q1 => le_go S1.wd E1 q1 fun y H2 F2 μ2 d2 S2 E2 dy q2 =>
    ⟨F2, μ2, d1, d2, _, S2.wd, dx.mono S2.same, dy, q2, fun z H3 ⟨F3, μ3, d3, S3, dz, q3⟩ => le_go S3.wd (E2.mono S3.same) q3 fun u H4 F4 μ4 d4 S4 E4 du q4 =>
      ⟨F4, μ4, d3, d4, _, S4.wd, dz.mono S4.same, du, q4, fun w H5 ⟨F5, μ5, d5, S5, dw, q5⟩ =>
        ⟨F5, μ5, d1, d2, d5, _, S5.wd, (((dx.mono S2.same).mono S3.same).mono S4.same).mono S5.same, ((dy.mono S3.same).mono S4.same).mono S5.same, dw, q5, fun F6 μ6 H6 S6 q6 =>
          ok.nx σ H6 ⟨F6, μ6, ρ, ((((S1.trans S2).trans S3).trans S4).trans S5).trans S6, (E4.mono S5.same).mono S6.same, q6⟩⟩⟩⟩

/-! ### {k: v}, k a tuple -/
@[reducible] def dDisp1 (tk tv : TE2) : TE2 := fun ρ μ Q => ∀ p, μ p = none → tk ρ (put μ p (.dT [])) fun k μ1 => tv ρ μ1 fun v μ2 => μ2 p = some (.dT []) ∧ ∃ j, k = tD j ∧ Q (.ref p) (put μ2 p (.dT [(j, v)]))
theorem d_disp1 (hu : X.A.units + 2 < cLine) (hk : PE2 X k tk) (hv : PE2 X v tv) : PE2 X (.Dict [some k] [v] pos) (dDisp1 tk tv) := ⟨fun pins s σ H Q I ⟨F, μ, ρ, Q2, W, E, h, kq⟩ => by
  have fr : H s.heap.objs.size = none := I.hok.fresh (Nat.le_refl _)
  have I1 := I.laid (a := s.heap.objs.size) (o := .dT []) (h' := s.heap.push { cls := .type "dict", data := .dict #[] }) (t' := s.toks) (fun _ _ q => Heap.get?_push_of_some _ q) (Nat.le_refl _) (dt_empty s.heap I.big)
  have S0 : Stp X.K F μ H F (put μ s.heap.objs.size (.dT [])) (upd H s.heap.objs.size (.dT [])) := Stp.new W fr ⟨[], upd_same, .nil⟩
  have ln : (pairTrees [some k] [v] X.env pos).length = 1 := pairTrees_length _ _ _ _ rfl rfl
  rw [arm_eval_Dict, zip_pairTrees _ _ X.env pos rfl rfl, dictDisplay_pairs _ (fun z => by rw [z] at ln; cases ln) (by omega)]
  refine wpAny_bind (wpAny_standAt (wpAny_bind (wpAny_subDictH (knd := tupleKind (mixKind X.prog X.w)) (Q := fun d s' => wpAny (model X.prog X.w) X.A (pure (Value.ref d)) (EP X pins σ Q) X.xe s') (show X.A.units < cLine by omega) (by omega) ?_)))
  refine thn ((pps_cons (pos := pos) hk hv pps_nil).run pins _ σ _ (fun ps H2 => ∃ a b F2 μ2 d1 d2, ps = [(a, b)] ∧ Stp X.K F μ H F2 μ2 H2 ∧ DV X.K F2 a d1 ∧ DV X.K F2 b d2 ∧ μ2 s.heap.objs.size = some (.dT []) ∧ ∃ j, d1 = tD j ∧ Q2 (.ref s.heap.objs.size) (put μ2 s.heap.objs.size (.dT [(j, d2)])))
    I1 (le_go S0.wd E (h _ (W.mnone fr)) fun a H1 F1 μ1 d1 S1 E1 da q1 => le_go S1.wd E1 q1 fun b H2 F2 μ2 d2 S2 E2 db ⟨hm, q2⟩ => ⟨a, b, F2, μ2, d1, d2, rfl, (S0.trans S1).trans S2, da.mono S2.same, db, hm, q2⟩)) fun ws s2 ⟨ps, H2, I2, rel, a, b, F2, μ2, d1, d2, e1, S, da, db, hm, j, e2, q⟩ => ?_
  subst e1 e2
  obtain ⟨p, xs, rfl, hb, hxs⟩ := dv_tup da
  have ex := dvs_key hxs
  subst ex
  obtain ⟨_, ws0, hd, hk0⟩ := S.wd.chg _ _ hm
  cases hk0
  obtain ⟨_, hs, ys, t0, dd⟩ := dt_of I2.hok hd
  cases t0
  cases rel with
  | @cons _ u _ us r rn =>
    cases rn
    obtain ⟨u1, u2⟩ := u
    obtain ⟨r1, r2⟩ := r
    obtain rfl : u1 = Value.ref p := r1
    have hbH : H2 p = some (.tup (j.map kV)) := S.wd.sub _ _ hb
    refine ⟨[(j, p, u2)], ⟨rfl, rfl, key_of I2.hok hbH, trivial⟩, dd, fun h' tk' dd' sb => wpAny_pure ⟨.ref s.heap.objs.size, upd H2 s.heap.objs.size (.dT [(j, b)]), ?_, rfl, kq _ _ ⟨F2, _, .ref s.heap.objs.size, S.trans (Stp.write (m := .dT [(j, d2)]) S.wd hm ⟨[(j, b)], upd_same, .cons ⟨rfl, db⟩ .nil⟩), .ref _, q⟩⟩⟩
    obtain ⟨o, es, ep, ho, h2, h3, h4, _, h5⟩ := dd'
    refine d_write I2 (by rw [hd]; exact True.intro) sb ⟨o, ho⟩ ⟨by show 1 ≤ sizeLine; decide, hs, [(j, p, u2)], .cons ⟨rfl, ?_, r2⟩ .nil, o, es, ep, ho, h2, h3, h4, h5⟩
    have np : p ≠ s.heap.objs.size := fun z => by rw [z, hd] at hbH; cases hbH
    show upd H2 s.heap.objs.size _ p = _
    rw [upd_ne np]
    exact hbH⟩
end
end Dl
/-! Dl16: words for readings. -/
namespace Dl
open PySem L2

theorem ite_d {p A B : Prop} [Decidable p] (h1 : p → A) (h2 : ¬ p → B) : if decide p = true then A else B := by
  by_cases h : p
  · rw [if_pos (decide_eq_true h)]; exact h1 h
  · rw [if_neg (by rw [decide_eq_false h]; decide)]; exact h2 h
theorem ite_b {b : Bool} {A B : Prop} (h1 : b = true → A) (h2 : b = false → B) : if b = true then A else B := by
  cases b with
  | true => rw [if_pos rfl]; exact h1 rfl
  | false => rw [if_neg (by decide)]; exact h2 rfl

/-! ### lists side by side -/
inductive A2 {α β : Type} (P : α → β → Prop) : List α → List β → Prop
  | nil : A2 P [] []
  | cons {a : α} {b : β} {as : List α} {bs : List β} : P a b → A2 P as bs → A2 P (a :: as) (b :: bs)
theorem A2.length {α β : Type} {P : α → β → Prop} {as : List α} {bs : List β} (h : A2 P as bs) : as.length = bs.length := by
  induction h with
  | nil => rfl
  | cons _ _ ih => rw [List.length_cons, List.length_cons, ih]
theorem A2.append {α β : Type} {P : α → β → Prop} {as as' : List α} {bs bs' : List β} (h : A2 P as bs) (h' : A2 P as' bs') : A2 P (as ++ as') (bs ++ bs') := by
  induction h with
  | nil => exact h'
  | cons a t ih => exact .cons a ih
theorem A2.imp {α β : Type} {P P' : α → β → Prop} {as : List α} {bs : List β} (h : A2 P as bs) (i : ∀ a b, P a b → P' a b) : A2 P' as bs := by
  induction h with
  | nil => exact .nil
  | cons a t ih => exact .cons (i _ _ a) ih
theorem A2.eq_map {α β : Type} {f : α → β} {as : List α} {bs : List β} (h : A2 (fun a b => b = f a) as bs) : bs = as.map f := by
  induction h with
  | nil => rfl
  | cons a t ih => rw [List.map_cons, ih, a]
theorem A2.all {α β : Type} {P : α → β → Prop} {R : β → Prop} {as : List α} {bs : List β} (h : A2 P as bs) (i : ∀ a b, P a b → R b) : ∀ b ∈ bs, R b := by
  induction h with
  | nil => intro b hb; cases hb
  | cons a t ih =>
    intro b hb
    rcases List.mem_cons.mp hb with rfl | hb
    · exact i _ _ a
    · exact ih b hb
/-- some are taken, some are skipped -/
inductive Sel {α β : Type} (P : α → β → Prop) (N : α → Prop) : List α → List β → Prop
  | nil : Sel P N [] []
  | take {a : α} {b : β} {as : List α} {bs : List β} : P a b → Sel P N as bs → Sel P N (a :: as) (b :: bs)
  | skip {a : α} {as : List α} {bs : List β} : N a → Sel P N as bs → Sel P N (a :: as) bs
theorem Sel.append {α β : Type} {P : α → β → Prop} {N : α → Prop} {as as' : List α} {bs bs' : List β} (h : Sel P N as bs) (h' : Sel P N as' bs') : Sel P N (as ++ as') (bs ++ bs') := by
  induction h with
  | nil => exact h'
  | take a t ih => exact .take a ih
  | skip a t ih => exact .skip a ih
theorem Sel.len {α β : Type} {P : α → β → Prop} {N : α → Prop} {as : List α} {bs : List β} (h : Sel P N as bs) : bs.length ≤ as.length := by
  induction h with
  | nil => exact Nat.le_refl _
  | take a t ih => rw [List.length_cons, List.length_cons]; omega
  | skip a t ih => rw [List.length_cons]; omega
theorem Sel.sub {α : Type} {P : α → α → Prop} {N : α → Prop} {as bs : List α} (h : Sel P N as bs) (e : ∀ a b, P a b → b = a) : bs.Sublist as := by
  induction h with
  | nil => exact List.Sublist.slnil
  | take a t ih => rw [e _ _ a]; exact ih.cons_cons _
  | skip a t ih => exact ih.cons _
theorem Sel.eq {α β : Type} {p : α → Bool} {f : α → β} {as : List α} {bs : List β} (h : Sel (fun a b => p a = true ∧ b = f a) (fun a => p a = false) as bs) : bs = (as.filter p).map f := by
  induction h with
  | nil => rfl
  | take a t ih => rw [List.filter_cons_of_pos a.1, List.map_cons, a.2, ih]
  | skip a t ih => rw [List.filter_cons_of_neg (by rw [a]; decide), ih]
/-! ### comprehensions that leave the world as it is -/
section
variable {g : TG2} {tt : TT2} {te : TE2} {vs : List Nat} {fin : List Da → Mu → Prop} {ρ : Rho} {μ : Mu} {ds : List Da} {st : Mu → Prop}
theorem lc_sel (P : Da → Da → Prop) (N : Da → Prop) (hst : st μ) (hz : ds.length ≤ sizeLine)
    (h : ∀ d ∈ ds, ∀ (R : QD) (S : Mu → Prop), (∀ y, P d y → R y μ) → (N d → S μ) → g d (wipeR ρ vs) μ fun ρ2 μ2 => tt ρ2 μ2 fun b μ3 => if b = true then te ρ2 μ3 R else S μ3)
    (k : ∀ acc, Sel P N ds acc → fin acc μ) : ∃ I : Nat → List Da → Mu → Prop, I 0 [] μ ∧
      (∀ i d acc μ', ds[i]? = some d → I i acc μ' → st μ' ∧ acc.length < sizeLine ∧ g d (wipeR ρ vs) μ' fun ρ2 μ2 => tt ρ2 μ2 fun b μ3 => if b = true then te ρ2 μ3 fun y μ4 => I (i + 1) (acc ++ [y]) μ4 else I (i + 1) acc μ3) ∧
      ∀ acc μ', I ds.length acc μ' → st μ' ∧ fin acc μ' := by
  refine ⟨fun i acc μ' => μ' = μ ∧ Sel P N (ds.take i) acc, ⟨rfl, .nil⟩, ?_, ?_⟩
  · rintro i d acc μ' hi ⟨rfl, hs⟩
    have hl := (List.getElem?_eq_some_iff.mp hi).1
    have ht : ds.take (i + 1) = ds.take i ++ [d] := by rw [List.take_add_one, hi]; rfl
    refine ⟨hst, Nat.lt_of_le_of_lt hs.len (by rw [List.length_take]; omega), h d (List.mem_of_getElem? hi) _ _ (fun y hy => ⟨rfl, ?_⟩) fun hn => ⟨rfl, ?_⟩⟩
    · rw [ht]; exact hs.append (.take hy .nil)
    · rw [ht]
      have := hs.append (Sel.skip (P := P) hn .nil)
      rwa [List.append_nil] at this
  · rintro acc μ' ⟨rfl, hs⟩
    rw [List.take_length] at hs
    exact ⟨hst, k acc hs⟩
theorem lc_yes (P : Da → Da → Prop) (hst : st μ) (hz : ds.length ≤ sizeLine)
    (h : ∀ d ∈ ds, ∀ R : QD, (∀ y, P d y → R y μ) → g d (wipeR ρ vs) μ fun ρ2 μ2 => te ρ2 μ2 R)
    (k : ∀ acc, A2 P ds acc → fin acc μ) : ∃ I : Nat → List Da → Mu → Prop, I 0 [] μ ∧
      (∀ i d acc μ', ds[i]? = some d → I i acc μ' → st μ' ∧ acc.length < sizeLine ∧ g d (wipeR ρ vs) μ' fun ρ2 μ2 => dYes ρ2 μ2 fun b μ3 => if b = true then te ρ2 μ3 fun y μ4 => I (i + 1) (acc ++ [y]) μ4 else I (i + 1) acc μ3) ∧
      ∀ acc μ', I ds.length acc μ' → st μ' ∧ fin acc μ' := by
  refine ⟨fun i acc μ' => μ' = μ ∧ A2 P (ds.take i) acc, ⟨rfl, .nil⟩, ?_, ?_⟩
  · rintro i d acc μ' hi ⟨rfl, hs⟩
    have hl := (List.getElem?_eq_some_iff.mp hi).1
    have ht : ds.take (i + 1) = ds.take i ++ [d] := by rw [List.take_add_one, hi]; rfl
    refine ⟨hst, ?_, h d (List.mem_of_getElem? hi) _ fun y hy => ⟨rfl, ?_⟩⟩
    · have := hs.length
      rw [List.length_take] at this
      omega
    · rw [ht]; exact hs.append (.cons hy .nil)
  · rintro acc μ' ⟨rfl, hs⟩
    rw [List.take_length] at hs
    exact ⟨hst, k acc hs⟩
end
@[simp] theorem put_at {μ : Mu} {a : Addr} {m : Mo} : put μ a m a = some m := put_same
@[simp] theorem put_put' {μ : Mu} {a : Addr} {m n : Mo} : put (put μ a m) a n = put μ a n := put_put
@[simp] theorem view_at {μ : Mu} {a : Addr} {ds : List Da} : view (put μ a (.lst ds)) (.ref a) = .lst ds := view_refL put_same
theorem ix_at {μ : Mu} {a : Addr} {ds : List Da} {e : Da} {Q : QD} (hm : μ a = some (.lst ds)) (h : ∃ i x, e = .int i ∧ atI ds i = some x ∧ Q x μ) : ix2 (.ref a) e μ Q := by
  unfold ix2; rw [view_refL hm]; exact h
theorem len_at {μ : Mu} {a : Addr} {ds : List Da} {Q : QD} (hm : μ a = some (.lst ds)) (h : Q (.int (ds.length : Int)) μ) : len2 [.ref a] μ Q := by
  unfold len2
  simp only [view_refL hm]
  exact h
theorem set_at {μ : Mu} {a : Addr} {ds : List Da} {i v : Da} {Q : Mu → Prop} (hm : μ a = some (.lst ds)) (h : ∃ k j, i = .int k ∧ ixN ds.length k = some j ∧ Q (put μ a (.lst (ds.set j v)))) : set2 (.ref a) i v μ Q := by
  refine ⟨a, rfl, ?_⟩
  rw [hm]; exact h
open Classical in
theorem eq_int {i j : Int} {μ : Mu} {Q : QD} (h : Q (.bl (decide (i = j))) μ) : eq2 (.int i) (.int j) μ Q := by
  refine ⟨.inr (.inr (.inl ⟨i, j, rfl, rfl⟩)), ?_⟩
  have e : decide (view μ (.int i) = view μ (.int j)) = decide (i = j) := by by_cases q : i = j <;> simp [q]
  rw [e]; exact h
open Classical in
theorem eq_str {i j : Str} {μ : Mu} {Q : QD} (h : Q (.bl (decide (i = j))) μ) : eq2 (.str i) (.str j) μ Q := by
  refine ⟨.inr (.inr (.inr ⟨i, j, rfl, rfl⟩)), ?_⟩
  have e : decide (view μ (.str i) = view μ (.str j)) = decide (i = j) := by by_cases q : i = j <;> simp [q]
  rw [e]; exact h
open Classical in
theorem ne_str {i j : Str} {μ : Mu} {Q : QD} (h : Q (.bl (!decide (i = j))) μ) : ne2 (.str i) (.str j) μ Q := by
  refine ⟨.inr (.inr (.inr ⟨i, j, rfl, rfl⟩)), ?_⟩
  have e : decide (view μ (.str i) = view μ (.str j)) = decide (i = j) := by by_cases q : i = j <;> simp [q]
  rw [e]; exact h
theorem len_lst {xs : List Da} {μ : Mu} {Q : QD} (h : Q (.int (xs.length : Int)) μ) : len2 [.lst xs] μ Q := h
theorem len_tup {xs : List Da} {μ : Mu} {Q : QD} (h : Q (.int (xs.length : Int)) μ) : len2 [.tup xs] μ Q := h
theorem add_lst {xs ys : List Da} {μ : Mu} {Q : QD} (hs : xs.length + ys.length ≤ sizeLine) (h : Q (.lst (xs ++ ys)) μ) : add2 (.lst xs) (.lst ys) μ Q := ⟨hs, h⟩
theorem add_tup {xs ys : List Da} {μ : Mu} {Q : QD} (hs : xs.length + ys.length ≤ sizeLine) (h : Q (.tup (xs ++ ys)) μ) : add2 (.tup xs) (.tup ys) μ Q := ⟨hs, h⟩
open Classical in
theorem eq_data {d e : Da} {μ : Mu} {Q : QD} (h1 : cmpOk (view μ d)) (h2 : cmpOk (view μ e)) (h : ∀ c, (c = true ↔ view μ d = view μ e) → Q (.bl c) μ) : eq2 d e μ Q :=
  ⟨.inl ⟨h1, h2⟩, h _ decide_eq_true_iff⟩
theorem add_int {i j : Int} {μ : Mu} {Q : QD} (h : Q (.int (i + j)) μ) : add2 (.int i) (.int j) μ Q := h
theorem mul_int {i j : Int} {μ : Mu} {Q : QD} (hs : (-(2 ^ 64) < i ∧ i < 2 ^ 64) ∨ (-(2 ^ 64) < j ∧ j < 2 ^ 64)) (h : Q (.int (i * j)) μ) : mul2 (.int i) (.int j) μ Q := ⟨hs, h⟩
end Dl
/-! Dl17: methods and makes by name; == and repr of sequences and of dicts; sums that may change. -/
namespace Dl
open PySem L2
open Classical
open PyProof.Rows (envOfC)

section
variable {P : Program} {w : World} {K : Frg} {mg : Str → Option Value} {base : Heap}
/-- a method of a class, by its text -/
def Tm (K : Frg) (C : Addr) (m qual : Str) (st : Stmt) : Prop := ∃ (f : Addr) (fd : FuncData), FunD K m qual (defArgs st) (defBody st) (defScope st) [] [] f fd ∧ Meth K C m f
structure Gm (P : Program) (w : World) (K : Frg) (mg : Str → Option Value) (base : Heap) (k : Nat) (C : Addr) (m : Str) (ps : List Str) (r2 : RC2) : Prop where
  ex : ∃ (f : Addr) (fd : FuncData), FnOk P w K mg base CX0 k f fd ps (LF K r2) ∧ Meth K C m f ∧ Binds K fd ps []
/-- a def that needs no guards, its end trimmed -/
theorem def2t {x qual : Str} {params : Arguments} {body : List Stmt} {scope : Scope} {dvs : List V} {kws : List (Str × V)} {N ps : List Str} {k : Nat} {f : Addr} {fd : FuncData} {r2 : RC2} {t2 : TS2} (F : FunD K x qual params body scope dvs kws f fd) (S : FnScope N ps scope) (len : ∀ ds μ Q, r2 ds μ Q → ds.length = ps.length)
    (hbody : ∀ (f : Addr) (cdv : Value) (A : Around) (outer : List Env) (s : Shared) (H : Hp) (E : XK), Room k (A.deeper (envOfC qual scope s.heap.objs.size f cdv)) →
      PSs2 (cxOf CX0 P w K mg base N qual scope f cdv A outer s H E).nox body t2)
    (rd : ∀ ds μ Q2, r2 ds μ Q2 → t2 { nx := fun _ μ' => trim Q2 .non μ', rt := trim Q2 } (startR N ds) μ) : FnOk P w K mg base CX0 (k + 1) f fd ps (LF K r2) :=
  FunD.ok F S (lf_len len) fun cdv A outer s H vs Q E hr hsp => ⟨_, PSs.nox (hbody f cdv A outer s H E hr), lf_trim rd hsp⟩
theorem gm {C : Addr} {m qual : Str} {st : Stmt} {N ps : List Str} {r2 : RC2} {k : Nat} {t2 : TS2} (T : Tm K C m qual st) (S : FnScope N ps (defScope st))
    (hb : ∀ (kV doc pm : Value) (an : Option Addr) (cdv ct : Value) (us : List Value), us.length = ps.length → bindArgs (PySem.W.fnOf m qual (defArgs st) (defBody st) (defScope st) .none kV doc pm an cdv ct) ⟨us, []⟩ = pure (ps.zip us))
    (len : ∀ ds μ Q, r2 ds μ Q → ds.length = ps.length)
    (hbody : ∀ (f : Addr) (cdv : Value) (A : Around) (outer : List Env) (s : Shared) (H : Hp) (E : XK), Room k (A.deeper (envOfC qual (defScope st) s.heap.objs.size f cdv)) →
      PSs2 (cxOf CX0 P w K mg base N qual (defScope st) f cdv A outer s H E).nox (defBody st) t2)
    (rd : ∀ ds μ Q2, r2 ds μ Q2 → t2 { nx := fun _ μ' => trim Q2 .non μ', rt := trim Q2 } (startR N ds) μ) : Gm P w K mg base (k + 1) C m ps r2 := by
  obtain ⟨f, fd, F, hm⟩ := T
  exact ⟨⟨f, fd, def2t F S len hbody rd, hm, F.bindsN hb⟩⟩
/-- a def of the module that needs no guards -/
structure Gn (P : Program) (w : World) (K : Frg) (mg : Str → Option Value) (base : Heap) (k : Nat) (x : Str) (ps : List Str) (r2 : RC2) : Prop where
  ex : ∃ (f : Addr) (fd : FuncData), FnOk P w K mg base CX0 k f fd ps (LF K r2) ∧ mg x = some (.ref f) ∧ PySem.W.keepIn K (.ref f) = true ∧ Binds K fd ps []
theorem gn {x : Str} {st : Stmt} {N ps : List Str} {r2 : RC2} {k : Nat} {t2 : TS2} (T : Tx K mg x st) (S : FnScope N ps (defScope st))
    (hb : ∀ (kV doc pm : Value) (an : Option Addr) (cdv ct : Value) (us : List Value), us.length = ps.length → bindArgs (PySem.W.fnOf x x (defArgs st) (defBody st) (defScope st) .none kV doc pm an cdv ct) ⟨us, []⟩ = pure (ps.zip us))
    (len : ∀ ds μ Q, r2 ds μ Q → ds.length = ps.length)
    (hbody : ∀ (f : Addr) (cdv : Value) (A : Around) (outer : List Env) (s : Shared) (H : Hp) (E : XK), Room k (A.deeper (envOfC x (defScope st) s.heap.objs.size f cdv)) →
      PSs2 (cxOf CX0 P w K mg base N x (defScope st) f cdv A outer s H E).nox (defBody st) t2)
    (rd : ∀ ds μ Q2, r2 ds μ Q2 → t2 { nx := fun _ μ' => trim Q2 .non μ', rt := trim Q2 } (startR N ds) μ) : Gn P w K mg base (k + 1) x ps r2 := by
  obtain ⟨f, fd, F, hm⟩ := T
  exact ⟨⟨f, fd, def2t F S len hbody rd, hm, F.kp, F.bindsN hb⟩⟩
/-- a class's making; dds: the values of the parameters that a call leaves out -/
structure Gk (P : Program) (w : World) (K : Frg) (mg : Str → Option Value) (base : Heap) (k : Nat) (x : Str) (C : Addr) (ps : List Str) (dds : List Da) (r2 : RC2) : Prop where
  ex : ∃ (f : Addr) (fd : FuncData) (dvs : List V) (ds : List Value), FnOk P w K mg base CX0 k f fd ps (LF K r2) ∧ Mk K C f ∧ mg x = some (.ref C) ∧ Binds K fd ps ds ∧ Vals dvs ds ∧ ∀ F, DVs K F dvs dds
end
section
variable {X : Cx} {k : Nat} {x m : Str} {C : Addr} {ps : List Str} {dds : List Da} {r2 : RC2} {e a o : Expr} {es : List Expr} {pos p apos : Pos} {tas : TA2} {te ta to : TE2}
@[reducible] def dM (C : Addr) (m : Str) (r2 : RC2) (to : TE2) (ta : TA2) : TE2 := fun ρ μ Q => to ρ μ fun d μ1 => ∃ a fs, d = .ref a ∧ μ1 a = some (.ins C fs) ∧ fs.lookup m = none ∧ ta ρ μ1 fun ds μ2 => r2 (d :: ds) μ2 Q
theorem d_m {pl : Sem Bool} (G : Gm X.prog X.w X.K X.mg X.base k C m ps r2) (c : Cls X.K C) (hr : Room k X.A) (ho : PE2 X o to) (ha : PA2 X (e :: es) tas)
    (hst : starEach (e :: es) X.env = (false, eval e X.env) :: starEach es X.env := by rfl) (hpl : (backTo pos (starEach es X.env)).any (·.1) = false := by rfl)
    (ht : eval (.Call (.Attribute o m apos) (e :: es) [] pos) X.env = (do
      let ov ← eval o X.env
      standAt apos.atName
      let (f, first) ← holding [ov] (getMethod ov m pl)
      callWith pos f first (backTo pos (starEach (e :: es) X.env)) (backToKw pos (keywordEach [] X.env))) := by rfl) : PE2 X (.Call (.Attribute o m apos) (e :: es) [] pos) (dM C m r2 to tas) := by
  obtain ⟨f, fd, F, hm, hb⟩ := G.ex
  have h := d_meth (pl := pl) ho c hm F hr hb .nil (fun _ => .nil) ha hst hpl ht
  have e1 : dMeth C m r2 [] to tas = dM C m r2 to tas := by funext ρ μ Q; simp only [dMeth, dM, List.append_nil]
  rw [e1] at h
  exact h
theorem d_k (G : Gk X.prog X.w X.K X.mg X.base k x C ps dds r2) (hr : Room (k + 1) X.A) (hg : Gl X x) (ha : PA2 X (e :: es) tas)
    (hdb : (x == ("__debug__" : Str)) = false := by decide) (he : starEach (e :: es) X.env = (false, eval e X.env) :: starEach es X.env := by rfl) (hpl : (backTo pos (starEach es X.env)).any (·.1) = false := by rfl) :
    PE2 X (.Call (.Name x p) (e :: es) [] pos) (dMake C r2 dds tas) := by
  obtain ⟨f, fd, dvs, ds, F, M, hm, hb, hd, hdd⟩ := G.ex
  exact d_make M F hr hg hm hb hd hdd ha hdb he hpl
theorem d_n (G : Gn X.prog X.w X.K X.mg X.base k x ps r2) (hr : Room k X.A) (hg : Gl X x) (ha : PA2 X (e :: es) tas) (hdb : (x == ("__debug__" : Str)) = false := by decide)
    (he : starEach (e :: es) X.env = (false, eval e X.env) :: starEach es X.env := by rfl) (hpl : (backTo pos (starEach es X.env)).any (·.1) = false := by rfl) : PE2 X (.Call (.Name x p) (e :: es) [] pos) (dG r2 tas) := by
  obtain ⟨f, fd, F, hm, hk, hb⟩ := G.ex
  have h := d_call (p := p) F hr hg hm hk hb .nil (fun _ => .nil) ha hdb he hpl
  have e1 : dCall r2 [] tas = dG r2 tas := by funext ρ μ Q; simp only [dCall, dG, List.append_nil]
  rw [e1] at h
  exact h
/-! ### of a sequence or of a dict -/
noncomputable def eqA2 : R22 := fun d e μ Q => eq2 d e μ Q ∨ eqT2 d e μ Q
theorem OpR.or2 {f : Value → Value → Sem Value} {r r' : R22} (h : OpR X f (LO X.K r)) (h' : OpR X f (LO X.K r')) : OpR X f (LO X.K fun d e μ Q => r d e μ Q ∨ r' d e μ Q) :=
  fun pins s σ H x y v u Q I rx ry ⟨F, μ, d, e, Q2, W, dx, dy, q, k⟩ => q.elim (fun q => h pins s σ H x y v u Q I rx ry ⟨F, μ, d, e, Q2, W, dx, dy, q, k⟩) fun q => h' pins s σ H x y v u Q I rx ry ⟨F, μ, d, e, Q2, W, dx, dy, q, k⟩
theorem CallR.or2 {f : Value} {r r' : RC2} (h : CallR X f (LC X.K r)) (h' : CallR X f (LC X.K r')) : CallR X f (LC X.K fun ds μ Q => r ds μ Q ∨ r' ds μ Q) :=
  fun pins s σ H xs us Q I rs ⟨F, μ, ds, Q2, W, dvs, q, k⟩ => q.elim (fun q => h pins s σ H xs us Q I rs ⟨F, μ, ds, Q2, W, dvs, q, k⟩) fun q => h' pins s σ H xs us Q I rs ⟨F, μ, ds, Q2, W, dvs, q, k⟩
theorem o_eqA (hu : X.A.units + 65 < cLine) : OpR X (compareOp .Eq) (LO X.K eqA2) := OpR.or2 (o_eq (by omega)) (o_eqT hu)
def reprA2 : RC2 := fun ds μ Q => repr2 ds μ Q ∨ reprT2 ds μ Q
theorem c_reprA (hgd : X.A.guards = some []) (hu : X.A.units + 65 < cLine) : CallR X (.builtin "repr") (LC X.K reprA2) := CallR.or2 (c_repr hgd hu) (c_reprT hgd hu)
/-! ### xs + ys, xs * n that may change -/
def mulM2 : R22 := fun d e μ Q => ∃ xs n, view μ d = .lst xs ∧ e = .int n ∧ -(2 ^ 63) ≤ n ∧ n < 2 ^ 63 ∧ xs.length * n.toNat ≤ sizeLine ∧ ∀ p, μ p = none → Q (.ref p) (put μ p (.lst (List.replicate n.toNat xs).flatten))
theorem o_mulM : OpR X (binaryOp .Mult) (LO X.K mulM2) := OpR.lift fun x y H Q ⟨F, μ, d, e, Q2, W, dx, dy, ⟨xs, n, hv, e1, h1, h2, h3, q⟩, k⟩ => by
  subst e1
  obtain ⟨p, us, e2, g1, g2⟩ := seen_lst W dx hv
  exact ⟨_, op_rep, p, n, us, e2, dv_int dy, g1, h1, h2, by rw [g2.length]; exact h3, fun r hr => k _ _ (post_lstM W hr (g2.rep _) q)⟩
def addM2 : R22 := fun d e μ Q => ∃ xs ys, view μ d = .lst xs ∧ view μ e = .lst ys ∧ xs.length + ys.length ≤ sizeLine ∧ ∀ p, μ p = none → Q (.ref p) (put μ p (.lst (xs ++ ys)))
theorem o_addM : OpR X (binaryOp .Add) (LO X.K addM2) := OpR.lift fun x y H Q ⟨F, μ, d, e, Q2, W, dx, dy, ⟨xs, ys, h1, h2, h3, q⟩, k⟩ => by
  obtain ⟨p, us, e1, g1, g2⟩ := seen_lst W dx h1
  obtain ⟨p', us', e1', g1', g2'⟩ := seen_lst W dy h2
  exact ⟨_, op_cat, p, p', us, us', e1, e1', g1, g1', by rw [g2.length, g2'.length]; exact h3, fun r hr => k _ _ (post_lstM W hr (g2.append g2') q)⟩
end
end Dl
/-! Dl18: a law's end, for a def that must know that no repr is under way. -/
namespace Dl
open PySem PySem.Spec PyProof.Rows L2

section
variable {P : Program} {w : World} {K : Frg} {mg mb : Str → Option Value} {k : Nat} {f a : Addr} {fd : FuncData} {x : Str} {sp : Sp} {st : Shared} {its : List Value} {zs : List Int}
/-- from one abstract heap -/
theorem end_from (kx : K.In st.heap) (gl : st.heap.Ns mainGlobals mg) (bl : st.heap.Ns builtinsNs mb) (bb : ∀ y : Str, y ≠ "__name__" → mb y = bootBuiltins y) (nl : st.heap.NoLimit) (gs : st.gens = #[])
    (isl : st.heap.get? a = some { cls := .type "list", data := .seq its.toArray }) (rm : Room k callerA) (G : ∀ b : Heap, K.In b → b.Ns mainGlobals mg → FnG P w K mg b CX0 k f fd [x] sp)
    (bd : ∀ (s : Shared) (u : Value), BindsTo s fd ⟨[u], []⟩ [(x, u)]) (T : Hp) (only : Only T) (okT : HOk P w T st.heap) (at_a : ∀ b, T b ≠ none → b = a) (out : T a ≠ none → K.lookup a = none) (pr : sp [.ref a] T (fun v _ => v = .bl true) E0) :
    codeAny (model P w) callerA (.call (.ref f) ⟨[.ref a], []⟩) (fun r s' => r = .ok (.ret (.bool true)) ∧ OldK st.heap s'.heap ∧ s'.os = st.os ∧ AllBare s'.gens) st := by
  have free_of : ∀ {b : Addr} {o : Obj} {es : Array DictEntry} {n : Nat}, st.heap.get? b = some o → o.data = .dict es n → T b = none := by
    intro b o es n e de
    by_cases z : T b = none
    · exact z
    · have eb := at_a b z
      rw [eb, isl] at e
      cases e
      have bad : Data.seq its.toArray _ = Data.dict es n := de
      cases bad
  have up : ∀ {b : Addr} {n : Str → Option Value}, st.heap.Ns b n → (hidT st.heap T).Ns b n := by
    rintro b n ⟨o, es, e, h1, h2, h3⟩
    exact ⟨o, es, e, hidT_get h1 (free_of h1 h2), h2, h3⟩
  have kin : K.In (hidT st.heap T) := fun b o e => hidT_get (kx b o e) (by
    by_cases z : T b = none
    · exact z
    · have eb := at_a b z
      rw [eb] at e z
      rw [out z] at e
      cases e)
  have md : Mod K mg (hidT st.heap T) := by
    obtain ⟨c, h1, h2⟩ := nl
    exact ⟨kin, up gl, ⟨mb, up bl, bb⟩, c, up h1, h2⟩
  have en : Env0 P w K mg (hidT st.heap T) callerA [] st T := ⟨rfl, md, fun b o e => of_hidT e, Nat.le_of_eq (hidT_size _ _), trivial, fun b hb => (List.not_mem_nil hb).elim, okT, .of_eq gs⟩
  have main := (G _ kin (up gl)).run callerA [] st T ⟨[.ref a], []⟩ [.ref a] [.ref a] (fun v _ => v = .bl true) E0 rm rfl en (bd st (.ref a)) (.cons rfl .nil) pr
  apply codeAny_mono main
  intro r s' h
  match r, h with
  | .error e, h => exact h.elim
  | .ok .next, h => exact h.elim
  | .ok .brk, h => exact h.elim
  | .ok .cont, h => exact h.elim
  | .ok (.ret u), h =>
    obtain ⟨v, T', o1, o2, un, ok2, rv, ev⟩ := h
    have ev' : v = .bl true := ev
    rw [ev'] at rv
    obtain rfl : u = Value.bool true := rv
    refine ⟨rfl, OldK.of_keep fun b o e => ?_, o1, o2⟩
    rcases only b with z | ⟨ob, xs, z⟩
    · exact un.keep b o e z (fun q => (List.not_mem_nil q).elim) (by simp)
    · obtain ⟨e1, _⟩ := okT b _ z
      obtain ⟨e2, _⟩ := ok2 b _ (un.frzs b ob _ z)
      rw [e] at e1
      cases e1
      exact e2
theorem end_law (kx : K.In st.heap) (gl : st.heap.Ns mainGlobals mg) (bl : st.heap.Ns builtinsNs mb) (bb : ∀ y : Str, y ≠ "__name__" → mb y = bootBuiltins y) (nl : st.heap.NoLimit) (gs : st.gens = #[])
    (isl : st.heap.get? a = some { cls := .type "list", data := .seq its.toArray }) (ia : IntsAre its zs) (lz : zs.length ≤ sizeLine) (rm : Room k callerA) (G : ∀ b : Heap, K.In b → b.Ns mainGlobals mg → FnG P w K mg b CX0 k f fd [x] sp)
    (bd : ∀ (s : Shared) (u : Value), BindsTo s fd ⟨[u], []⟩ [(x, u)]) (pr : ∀ T : Hp, SqL K T a (zs.map V.int) → sp [.ref a] T (fun v _ => v = .bl true) E0) :
    codeAny (model P w) callerA (.call (.ref f) ⟨[.ref a], []⟩) (fun r s' => r = .ok (.ret (.bool true)) ∧ OldK st.heap s'.heap ∧ s'.os = st.os ∧ AllBare s'.gens) st := by
  have rv := vals_ints ia
  by_cases hk : K.lookup a = none
  · have at_ : ∀ b, (if b = a then some (HO.frz { cls := .type "list", data := .seq its.toArray } (.lst (zs.map V.int))) else none) ≠ none → b = a := fun b z => by
      by_cases e : b = a
      · exact e
      · exact absurd (if_neg e) z
    refine end_from kx gl bl bb nl gs isl rm G bd (fun b => if b = a then some (.frz { cls := .type "list", data := .seq its.toArray } (.lst (zs.map V.int))) else none) (fun b => ?_) (fun b u z => ?_) at_ (fun _ => hk) (pr _ (.inl (.inr ⟨_, if_pos rfl⟩)))
    · by_cases e : b = a
      · exact .inr ⟨_, _, if_pos e⟩
      · exact .inl (if_neg e)
    · have eb : b = a := at_ b fun zz => by
        have z2 := z.symm.trans zz
        cases z2
      subst eb
      have z' := (if_pos rfl).symm.trans z
      cases z'
      exact ⟨isl, by rw [List.length_map]; exact lz, its, _, rv, isl⟩
  · obtain ⟨o, ho⟩ : ∃ o, K.lookup a = some o := by
      cases e : K.lookup a with
      | none => exact absurd e hk
      | some o => exact ⟨o, rfl⟩
    have eo := kx a o ho
    rw [isl] at eo
    cases eo
    exact end_from kx gl bl bb nl gs isl rm G bd (fun _ => none) (fun _ => .inl rfl) (fun b u z => by cases z) (fun b z => absurd rfl z) (fun z => absurd rfl z) (pr _ (.inr ⟨_, its.toArray, _, ho, rfl, rfl, rfl, by rw [List.size_toArray, ia.length]; exact lz, by simpa using rv⟩))
end
/-- the law's walk over a head with facts -/
theorem walkG {l : PySem.W.OpenLaw} {n k : Nat} {q : Program} {loose : List Str} {XP : (Str → Option Value) → Heap → Prop} {YP : World → Heap → Prop} {d : DefRec} {x : Str} {r2 : RC2} (most : l.most = some n) (small : n ≤ sizeLine) (nodf : d.params.defaults = []) (rm : Room k callerA)
    (F : ∀ (w : World) (mg : Str → Option Value) (f : Addr) (h : Heap), YP w h → h.Ns mainGlobals mg → mg d.name = some (.ref f) →
      ∃ (K : Frg) (fd : FuncData), K.In h ∧ (∀ (s : Shared) (u : Value), BindsTo s fd ⟨[u], []⟩ [(x, u)]) ∧ ∀ b : Heap, K.In b → b.Ns mainGlobals mg → FnG l.prog w K mg b CX0 k f fd [x] (LF K r2))
    (law : ∀ ns : List Int, ns.length ≤ n → r2 [.kl (ns.map Da.int)] (fun _ => none) fun e _ => e = .bl true) : PySem.W.WalkO q loose XP YP l.row.toRowW d [] (fun f vs => PySem.call f vs) := by
  refine Att.attach_call most nodf fun w s0 s1 mg mb f o pm cd doc a vs ns G Y h1 h2 h3 named isl ia len gens => ?_
  obtain ⟨K, fd, kx, bd, FF⟩ := F w mg f _ Y G.T.g named
  refine end_law kx G.T.g G.T.b G.T.builtins G.T.nolimit gens isl ia (Nat.le_trans len small) rm FF bd fun T hS => ?_
  have dv : DVs K T (ns.map V.int) (ns.map Da.int) := by
    clear hS len ia
    induction ns with
    | nil => exact .nil
    | cons z zs ih => exact .cons (.int z) ih
  refine ⟨T, fun _ => none, [.kl (ns.map Da.int)], fun e _ => e = .bl true, ⟨Same.refl T, fun b m z => by cases z⟩, .cons (.kl hS dv) .nil, law ns len, ?_⟩
  rintro v H' ⟨F', μ', e, S, de, rfl⟩
  exact dv_bl de
end Dl
/-! k65: what each def promises. -/
namespace K65
open PySem L2 Dl
theorem hu64 {k : Nat} {A : Around} (h : Room k A) : A.units + 64 < cLine := by have := h.un; omega
theorem hu65 {k : Nat} {A : Around} (h : Room k A) : A.units + 65 < cLine := by have := h.un; omega
theorem hu1 {k : Nat} {A : Around} (h : Room k A) : A.units + 1 < cLine := by have := h.un; omega
theorem hu2 {k : Nat} {A : Around} (h : Room k A) : A.units + 2 < cLine := by have := h.un; omega
structure TxR (K : Frg) (C : Addr) : Prop where
  cl : Cls K C
  n_bar_rows : NoAttr K C "bar_rows"
  n_most_of : NoAttr K C "most_of"
  n_done_of : NoAttr K C "done_of"
abbrev r__law_bag := rBag
abbrev r__law_take := rTake
/-- a short text -/
def okS (x : Str) : Prop := PyData.strOk x = true ∧ x.length ≤ 8
abbrev sD (ss : List Str) : List Da := ss.map Da.str
/-- a right's row: word, name, how often -/
abbrev R3 := Str × Str × Int
def rowR (r : R3) : Da := .tup [.str "right", .str r.1, .str r.2.1, .int r.2.2]
def okR3 (r : R3) : Prop := okS r.1 ∧ okS r.2.1 ∧ 0 < r.2.2 ∧ r.2.2 ≤ 9
/-- another row -/
def RowN (d : Da) : Prop := ∃ k rest, d = .tup (.str k :: rest) ∧ k ≠ ("right" : Str) ∧ cmpOk (.tup ((.str k :: rest).take 3)) ∧ PyData.strOk k = true ∧ rest.length ≤ 10
structure Face (rows : List Da) (L : List R3) : Prop where
  sel : Sel (fun d r => d = rowR r ∧ okR3 r) RowN rows L
  nd : (L.map fun r => (r.1, r.2.1)).Nodup
  len : rows.length ≤ 60
def MakeOk (pl : Str × List R3) (d : Da) : Prop := ∃ v rows body, d = .tup [.str "make", .str pl.1, v, .tup rows, body] ∧ Face rows pl.2
/-- makes of parts that differ -/
structure Makes (ms : List Da) (Ls : List (Str × List R3)) : Prop where
  a2 : A2 (fun d pl => MakeOk pl d) ms Ls
  nd : (Ls.map (·.1)).Nodup
  ok : ∀ pl ∈ Ls, okS pl.1
  len : Ls.length ≤ 4
abbrev T3 := Str × Str × Str
def tri (t : T3) : Da := .tup [.str t.1, .str t.2.1, .str t.2.2]
def keyT (t : T3) : List Key := [.inr t.1, .inr t.2.1, .inr t.2.2]
def okT (t : T3) : Prop := okS t.1 ∧ okS t.2.1 ∧ okS t.2.2
/-- how often a thing may be used -/
def mostO (Ls : List (Str × List R3)) (t : T3) : Option Int := ((Ls.flatMap fun pl => if pl.1 = t.1 then pl.2 else []).find? fun r => decide (r.1 = t.2.1 ∧ r.2.1 = t.2.2)).map (·.2.2)

def lk (kvs : List (List Key × Da)) (k : List Key) : Option Da := (kvs.find? fun p => decide (p.1 = k)).map (·.2)
def isRights (C : Addr) (μ : Mu) (a m d : Addr) (mk dk : List (List Key × Da)) : Prop :=
  μ a = some (.ins C [("bar_rows", .lst []), ("most_of", .ref m), ("done_of", .ref d)]) ∧ μ m = some (.dT mk) ∧ μ d = some (.dT dk) ∧ m ≠ d
def isMost (mk : List (List Key × Da)) (mo : T3 → Option Int) : Prop := ∀ t, lk mk (keyT t) = (mo t).map Da.int
def isDone (dk : List (List Key × Da)) (f : T3 → Nat) : Prop := (∀ t, lk dk (keyT t) = if f t = 0 then none else some (.int (f t))) ∧ ∀ p ∈ dk, ∃ t, p.1 = keyT t
/-- what a use is told -/
def told (mo : Option Int) (n : Nat) : Da := match mo with
  | none => .str "right"
  | some m => if (n : Int) ≥ m then .str "often" else .non
def uses (mo : Option Int) (n : Nat) : List Da := (List.range n).map (told mo)
def frame (μ μ' : Mu) (S : List Addr) : Prop := ∀ b, b ∉ S → μ' b = μ b

def r_is_of : RC2 := fun ds μ Q => ds.length = 4 ∧ False
def r_is_barred : RC2 := fun ds μ Q => ∃ x y z, ds = [.lst [], x, y, z] ∧ Q (.bl false) μ
def r_Rights___init__ (C : Addr) : RC2 := fun ds μ Q => ∃ a ms Ls, ds = [.ref a, .lst ms, .non] ∧ μ a = some (.ins C []) ∧ Makes ms Ls ∧
  ∀ m d mk μ', μ m = none → μ d = none → isRights C μ' a m d mk [] → isMost mk (mostO Ls) → frame μ μ' [a, m, d] → Q .non μ'
def r_Rights_used (C : Addr) : RC2 := fun ds μ Q => ∃ a m d mk dk f t, ds = [.ref a, .str t.1, .str t.2.1, .str t.2.2] ∧ isRights C μ a m d mk dk ∧ isDone dk f ∧ Q (.int (f t : Nat)) μ
def r_Rights_barred (C : Addr) : RC2 := fun ds μ Q => ∃ a m d mk dk f mo t, ds = [.ref a, .str t.1, .str t.2.1, .str t.2.2] ∧ isRights C μ a m d mk dk ∧ isDone dk f ∧ isMost mk mo ∧ Q (told (mo t) (f t)) μ
def more (f : T3 → Nat) (t : T3) : T3 → Nat := fun u => if u = t then f u + 1 else f u
def next (mo : Option Int) (f : T3 → Nat) (t : T3) : T3 → Nat := match told mo (f t) with
  | .non => more f t
  | _ => f
def r_Rights_use (C : Addr) : RC2 := fun ds μ Q => ∃ a m d mk dk f mo t, ds = [.ref a, .str t.1, .str t.2.1, .str t.2.2] ∧ isRights C μ a m d mk dk ∧ isDone dk f ∧ isMost mk mo ∧ dk.length < 1000 ∧
  ∀ dk' μ', isRights C μ' a m d mk dk' → isDone dk' (next (mo t) f t) → frame μ μ' [d] → dk'.length ≤ dk.length + 1 → Q (told (mo t) (f t)) μ'
def Alike (μ : Mu) (x y : Da) : Prop := (isSeq (view μ x) = true ∧ view μ y = view μ x ∧ cmpOk (view μ x) ∧ ShowOk (view μ x)) ∨
  ∃ a b ka, x = .ref a ∧ y = .ref b ∧ μ a = some (.dT ka) ∧ μ b = some (.dT ka) ∧ SameKv ka ka ∧ ShowKv ka
def r__law_alike : RC2 := fun ds μ Q => ∃ x y, ds = [x, y] ∧ Alike μ x y ∧ Q (.bl true) μ
def r__law_names : RC2 := fun ds μ Q => ∃ b m, ds = [.ref b, .int m] ∧ μ b = some .bag ∧ 0 < m ∧ m ≤ 4 ∧ ∀ ss : List Str, ss.Nodup → (∀ s ∈ ss, okS s) → ss.length ≤ 4 → Q (.lst (sD ss)) μ
def r__law_number : RC2 := fun ds μ Q => ∃ b, ds = [.ref b] ∧ μ b = some .bag ∧ ∀ i : Int, i.natAbs ≤ 2000000000 → Q (.int i) μ
def r__law_shape : RC2 := fun ds μ Q => ∃ b, ds = [.ref b] ∧ μ b = some .bag ∧ ∀ i j : Int, i.natAbs ≤ 1000000000 → i ≤ j → j.natAbs ≤ 1000000000 → Q (.tup [.int i, .int j]) μ
def r__law_some : RC2 := fun ds μ Q => ∃ b ss m, ds = [.ref b, .lst (sD ss), .int m] ∧ μ b = some .bag ∧ 0 < m ∧ m < 2 ^ 63 ∧ ss.length ≤ 1000 ∧ ∀ ts : List Str, ts.Sublist ss → Q (.lst (sD ts)) μ
def r__law_kept_row : RC2 := fun ds μ Q => ∃ b x y, ds = [.ref b, .str x, .str y] ∧ μ b = some .bag ∧ okS x ∧ okS y ∧ x ≠ ("right" : Str) ∧ ∀ d, RowN d → Q d μ
def r__law_hook_row : RC2 := fun ds μ Q => ∃ b x y ss, ds = [.ref b, .str x, .str y, .lst (sD ss)] ∧ μ b = some .bag ∧ okS x ∧ okS y ∧ (∀ s ∈ ss, okS s) ∧ ss.length ≤ 4 ∧ ∀ d, RowN d → Q d μ
def r__law_face : RC2 := fun ds μ Q => ∃ b x ss, ds = [.ref b, .str x, .lst (sD ss)] ∧ μ b = some .bag ∧ okS x ∧ (∀ s ∈ ss, okS s) ∧ ss.length ≤ 4 ∧ ∀ rows L, Face rows L → Q (.tup rows) μ
def r__law_step : RC2 := fun ds μ Q => ∃ b i n, ds = [.ref b, .int i, .int n] ∧ μ b = some .bag ∧ 0 ≤ i ∧ i < n ∧ n ≤ 8 ∧ ∀ d, Q d μ
def r__law_body : RC2 := fun ds μ Q => ∃ b rows L ss, ds = [.ref b, .tup rows, .lst (sD ss)] ∧ μ b = some .bag ∧ Face rows L ∧ ss ≠ [] ∧ ss.length ≤ 10 ∧ ∀ d, Q d μ
def r__law_make : RC2 := fun ds μ Q => ∃ b p v ss ns, ds = [.ref b, .str p, v, .lst (sD ss), .lst (sD ns)] ∧ μ b = some .bag ∧ okS p ∧ (∀ s ∈ ss, okS s) ∧ ss.length ≤ 4 ∧ ns ≠ [] ∧ ns.length ≤ 10 ∧ ∀ d L, MakeOk (p, L) d → Q d μ
def r__law_turned : RC2 := fun ds μ Q => ∃ b xs, ds = [.ref b, .lst xs] ∧ μ b = some .bag ∧ xs.length ≤ 1000 ∧ ∀ ys : List Da, ys.Perm xs → Q (.lst ys) μ
def r__law_any : RC2 := fun ds μ Q => ∃ b xs, ds = [.ref b, .lst xs] ∧ μ b = some .bag ∧ xs ≠ [] ∧ xs.length ≤ 1000 ∧ ∀ x ∈ xs, Q x μ
def r__law_righted : RC2 := fun ds μ Q => ∃ b p rows L, ds = [.ref b, .str p, .lst rows] ∧ μ b = some .bag ∧ Face rows L ∧ ∀ d, MakeOk (p, L) d → Q d μ
def r__law_right_rows : RC2 := fun ds μ Q => ∃ b, ds = [.ref b] ∧ μ b = some .bag ∧ ∀ rows L, Face rows L → Q (.lst rows) μ
def r__law_makes : RC2 := fun ds μ Q => ∃ b ss, ds = [.ref b, .lst (sD ss)] ∧ μ b = some .bag ∧ ss.Nodup ∧ (∀ s ∈ ss, okS s) ∧ ss.length ≤ 4 ∧ ∀ ms Ls, Makes ms Ls → Q (.lst ms) μ
def r__law_most : RC2 := fun ds μ Q => ∃ ms Ls t, ds = [.lst ms, .str t.1, .str t.2.1, .str t.2.2] ∧ Makes ms Ls ∧ okT t ∧ Q (.int ((mostO Ls t).getD 0)) μ
def r__law_wanted : RC2 := fun ds μ Q => ∃ b ss, ds = [.ref b, .lst (sD ss)] ∧ μ b = some .bag ∧ (∀ s ∈ ss, okS s) ∧ ss.length ≤ 4 ∧ ∀ t, okT t → Q (tri t) μ
/-- what a row of uses is told, thing by thing, in the order of their first use -/
def letGo (mo : T3 → Option Int) : List T3 → (T3 → Nat) → List (List Key × Da) → List (List Key × Da)
  | [], _, acc => acc
  | t :: r, f, acc => letGo mo r (next (mo t) f t) (putKD acc (keyT t) (.lst ((match lk acc (keyT t) with | some (.lst l) => l | _ => []) ++ [told (mo t) (f t)])))
def letOf (mo : T3 → Option Int) (row : List T3) : List (List Key × Da) := letGo mo row (fun _ => 0) []
def r__law_let (C : Addr) : RC2 := fun ds μ Q => ∃ a m d mk mo row, ds = [.ref a, .lst (row.map tri)] ∧ isRights C μ a m d mk [] ∧ isMost mk mo ∧ row.length ≤ 100 ∧
  ∀ f μ', μ f = none → μ' f = some (.dT (letOf mo row)) → frame μ μ' [d, f] → Q (.ref f) μ'
def r_law : RC2 := fun ds μ Q => ∃ ns : List Int, ds = [.kl (ns.map Da.int)] ∧ ns.length ≤ 63 ∧ (∀ a, μ a = none) ∧ ∀ μ', Q (.bl true) μ'
end K65
namespace K65
open PySem L2 Dl
def top (i : Nat) : Stmt := PySem.Challenge.pw_plughall_k65_whole_never_oftener.main.body.getD i (.Pass ⟨0, 0, 0, 0⟩)
abbrev s_is_of : Stmt := top 3
abbrev s_is_barred : Stmt := top 4
abbrev s_Rights___init__ : Stmt := inClass (top 9) 0
abbrev s_Rights_used : Stmt := inClass (top 9) 3
abbrev s_Rights_barred : Stmt := inClass (top 9) 1
abbrev s_Rights_use : Stmt := inClass (top 9) 2
abbrev s__law_bag : Stmt := top 11
abbrev s__law_take : Stmt := top 12
abbrev s__law_alike : Stmt := top 13
abbrev s__law_names : Stmt := top 14
abbrev s__law_number : Stmt := top 15
abbrev s__law_shape : Stmt := top 16
abbrev s__law_some : Stmt := top 17
abbrev s__law_kept_row : Stmt := top 18
abbrev s__law_hook_row : Stmt := top 19
abbrev s__law_face : Stmt := top 20
abbrev s__law_step : Stmt := top 21
abbrev s__law_body : Stmt := top 22
abbrev s__law_make : Stmt := top 23
abbrev s__law_turned : Stmt := top 24
abbrev s__law_any : Stmt := top 25
abbrev s__law_righted : Stmt := top 26
abbrev s__law_right_rows : Stmt := top 27
abbrev s__law_makes : Stmt := top 28
abbrev s__law_most : Stmt := top 29
abbrev s__law_wanted : Stmt := top 30
abbrev s__law_let : Stmt := top 31
abbrev s_law : Stmt := top 32
structure Fr (mg : Str → Option Value) : Prop where
  abs : mg "abs" = none
  all : mg "all" = none
  any : mg "any" = none
  enumerate : mg "enumerate" = none
  int : mg "int" = none
  len : mg "len" = none
  list : mg "list" = none
  min : mg "min" = none
  range : mg "range" = none
  repr : mg "repr" = none
  sorted : mg "sorted" = none
  tuple : mg "tuple" = none
  e_ANY : ∃ t, mg "ANY" = some (.str "*" t)
  e_BAR : ∃ t, mg "BAR" = some (.str "bar" t)
  e_OFTEN : ∃ t, mg "OFTEN" = some (.str "often" t)
  e_RIGHT : ∃ t, mg "RIGHT" = some (.str "right" t)
section
variable {P : Program} {w : World} {K : Frg} {mg : Str → Option Value} {base : Heap}
@[reducible] noncomputable def t_is_of  : TS2 := (sRet (dAndV (dOp in2 (dOp ix2 (dVar 0) (dC (.int 0))) (dTup (dCons (dVar 1) (dCons (dC (.str "*")) dNil)))) (dAndV (dOp eq2 (dOp ix2 (dVar 0) (dC (.int 1))) (dVar 2)) (dOp in2 (dOp ix2 (dVar 0) (dC (.int 2))) (dTup (dCons (dVar 3) (dCons (dC (.str "*")) dNil)))))))
theorem sc_is_of : FnScope ["bar", "part", "word", "what"] ["bar", "part", "word", "what"] (defScope s_is_of) := ⟨rfl, rfl, rfl, by decide +kernel, rfl, by decide +kernel, by decide +kernel⟩
theorem b_is_of (B : Fr mg)  (f : Addr) (cdv : Value) (A : Around) (outer : List Env) (s : Shared) (H : Hp) (E : XK) (hr : Room 0 (A.deeper (PyProof.Rows.envOfC "is_of" (defScope s_is_of) s.heap.objs.size f cdv)))
     : PSs2 (cxOf CX0 P w K mg base ["bar", "part", "word", "what"] "is_of" (defScope s_is_of) f cdv A outer s H E).nox (defBody s_is_of) (t_is_of ) :=
  (ds_one (d_ret (d_and (d_cmp (o_in (hu65 hr)) (d_ix (o_ix (hu1 hr)) (d_var (pv 0)) d_int) (d_tup (da_cons (d_var (pv 1)) (da_cons (d_gstr rfl B.e_ANY.choose_spec) da_nil)))) (d_and (d_cmp (o_eq (hu64 hr)) (d_ix (o_ix (hu1 hr)) (d_var (pv 0)) d_int) (d_var (pv 2))) (d_one (d_cmp (o_in (hu65 hr)) (d_ix (o_ix (hu1 hr)) (d_var (pv 0)) d_int) (d_tup (da_cons (d_var (pv 3)) (da_cons (d_gstr rfl B.e_ANY.choose_spec) da_nil)))))))))
@[reducible] noncomputable def t_is_barred  : TS2 := (sRet (dCB any2 (dCons (dLc (iLst (dVar 0)) (gN 4) dYes (dG r_is_of (dCons (dVar 4) (dCons (dVar 1) (dCons (dVar 2) (dCons (dVar 3) dNil))))) [4]) dNil)))
theorem sc_is_barred : FnScope ["bars", "part", "word", "what", "bar"] ["bars", "part", "word", "what"] (defScope s_is_barred) := ⟨rfl, rfl, rfl, by decide +kernel, rfl, by decide +kernel, by decide +kernel⟩
theorem b_is_barred (B : Fr mg)  (G_is_of : Gn P w K mg base 1 "is_of" ["bar", "part", "word", "what"] (r_is_of )) (f : Addr) (cdv : Value) (A : Around) (outer : List Env) (s : Shared) (H : Hp) (E : XK) (hr : Room 1 (A.deeper (PyProof.Rows.envOfC "is_barred" (defScope s_is_barred) s.heap.objs.size f cdv)))
     : PSs2 (cxOf CX0 P w K mg base ["bars", "part", "word", "what", "bar"] "is_barred" (defScope s_is_barred) f cdv A outer s H E).nox (defBody s_is_barred) (t_is_barred ) :=
  (ds_one (d_ret (d_cb (c_any rfl) rfl B.any (by decide +kernel) (da_cons (d_lc (own := [("bar", 4)]) rfl sc_is_barred.nd (di_lst (d_var (pv 0))) (blkOk_by (by rfl)) (fun _ _ _ _ _ => (pg_name (i := 4) sc_is_barred.nd rfl (by first | exact Or.inl rfl | exact Or.inr rfl))) (go_name (by decide)) (fun _ _ _ _ _ => dts_nil) (fun _ _ _ _ _ => (d_n G_is_of (hr.mono (by decide)) rfl (da_cons (d_var (pv 4)) (da_cons (d_var (pv 1)) (da_cons (d_var (pv 2)) (da_cons (d_var (pv 3)) da_nil))))))) da_nil))))
@[reducible] noncomputable def t_Rights___init__ (C_R : Addr) : TS2 := (sSeq (sFldD C_R "bar_rows" (dVar 0) (dCB list2 (dCons (dOrT (dVar 2) (dLst dNil)) dNil)))
  (sSeq (sFldD C_R "most_of" (dVar 0) dNewT)
  (sSeq (sFldD C_R "done_of" (dVar 0) dNewT)
  (sFor (iLst (dVar 1)) (gT 5 (gCons2 (gN 3) (gCons2 (gN 4) (gCons2 (gN 5) (gCons2 (gN 6) (gCons2 (gN 7) gNil2)))))) (sFor (iTupD (dVar 6)) (gS 1 (gCons2 (gN 8) (gCons2 (gN 9) gNil2))) (sIf (dB (dOp eq2 (dVar 8) (dC (.str "right")))) (sSeq (sAsg (dVar 9) (gU 3 (gCons2 (gN 10) (gCons2 (gN 11) (gCons2 (gN 12) gNil2)))))
  (sAsg (dVar 12) (gSet (dFld C_R "most_of" (dVar 0)) (dTup (dCons (dVar 4) (dCons (dVar 10) (dCons (dVar 11) dNil)))) set2))) sNext))))))
theorem sc_Rights___init__ : FnScope ["self", "makes", "bars", "word", "part", "version", "face", "body", "kind", "things", "deed", "what", "many"] ["self", "makes", "bars"] (defScope s_Rights___init__) := ⟨rfl, rfl, rfl, by decide +kernel, rfl, by decide +kernel, by decide +kernel⟩
theorem b_Rights___init__ (B : Fr mg) {C_R : Addr} (T_R : TxR K C_R) (f : Addr) (cdv : Value) (A : Around) (outer : List Env) (s : Shared) (H : Hp) (E : XK) (hr : Room 0 (A.deeper (PyProof.Rows.envOfC "Rights.__init__" (defScope s_Rights___init__) s.heap.objs.size f cdv)))
     : PSs2 (cxOf CX0 P w K mg base ["self", "makes", "bars", "word", "part", "version", "face", "body", "kind", "things", "deed", "what", "many"] "Rights.__init__" (defScope s_Rights___init__) f cdv A outer s H E).nox (defBody s_Rights___init__) (t_Rights___init__ C_R) :=
  (ds_cons (d_setfld (d_var (pv 0)) (d_ct c_list rfl B.list (by decide +kernel) (da_cons (d_orV (d_var (pv 2)) (d_one (d_lst da_nil))) da_nil)) T_R.cl T_R.n_bar_rows)
  (ds_cons (d_setfld (d_var (pv 0)) d_newT T_R.cl T_R.n_most_of)
  (ds_cons (d_setfld (d_var (pv 0)) d_newT T_R.cl T_R.n_done_of)
  (ds_one (d_for PassesOwn.never rfl (di_lst (d_var (pv 1))) (dg_tup rfl (dgs_cons (dg_name (pg_name (i := 3) sc_Rights___init__.nd rfl (by first | exact Or.inl rfl | exact Or.inr rfl))) (dgs_cons (dg_name (pg_name (i := 4) sc_Rights___init__.nd rfl (by first | exact Or.inl rfl | exact Or.inr rfl))) (dgs_cons (dg_name (pg_name (i := 5) sc_Rights___init__.nd rfl (by first | exact Or.inl rfl | exact Or.inr rfl))) (dgs_cons (dg_name (pg_name (i := 6) sc_Rights___init__.nd rfl (by first | exact Or.inl rfl | exact Or.inr rfl))) (dgs_cons (dg_name (pg_name (i := 7) sc_Rights___init__.nd rfl (by first | exact Or.inl rfl | exact Or.inr rfl))) dgs_nil)))))) (ds_one (d_for PassesOwn.never rfl (di_tup (d_var (pv 6))) (dg_star rfl (dgs_cons (dg_name (pg_name (i := 8) sc_Rights___init__.nd rfl (by first | exact Or.inl rfl | exact Or.inr rfl))) (dgs_starred (dg_name (pg_name (i := 9) sc_Rights___init__.nd rfl (by first | exact Or.inl rfl | exact Or.inr rfl))) dgs_nil))) (ds_one (d_if (d_cmpT (o_eq (hu64 hr)) (d_var (pv 8)) d_str) (ds_cons (d_asg (d_var (pv 9)) (dg_un rfl (dgs_cons (dg_name (pg_name (i := 10) sc_Rights___init__.nd rfl (by first | exact Or.inl rfl | exact Or.inr rfl))) (dgs_cons (dg_name (pg_name (i := 11) sc_Rights___init__.nd rfl (by first | exact Or.inl rfl | exact Or.inr rfl))) (dgs_cons (dg_name (pg_name (i := 12) sc_Rights___init__.nd rfl (by first | exact Or.inl rfl | exact Or.inr rfl))) dgs_nil)))))
  (ds_one (d_asg (d_var (pv 12)) (dg_sub (d_fld (d_var (pv 0)) T_R.cl T_R.n_most_of) (d_tup (da_cons (d_var (pv 4)) (da_cons (d_var (pv 10)) (da_cons (d_var (pv 11)) da_nil)))) (s_set (hu1 hr)))))) ds_nil)))))))))
@[reducible] noncomputable def t_Rights_used (C_R : Addr) : TS2 := (sRet (dBM "dict" get2 (dFld C_R "done_of" (dVar 0)) (dCons (dTup (dCons (dVar 1) (dCons (dVar 2) (dCons (dVar 3) dNil)))) (dCons (dC (.int 0)) dNil))))
theorem sc_Rights_used : FnScope ["self", "part", "word", "what"] ["self", "part", "word", "what"] (defScope s_Rights_used) := ⟨rfl, rfl, rfl, by decide +kernel, rfl, by decide +kernel, by decide +kernel⟩
theorem b_Rights_used (B : Fr mg) {C_R : Addr} (T_R : TxR K C_R) (f : Addr) (cdv : Value) (A : Around) (outer : List Env) (s : Shared) (H : Hp) (E : XK) (hr : Room 0 (A.deeper (PyProof.Rows.envOfC "Rights.used" (defScope s_Rights_used) s.heap.objs.size f cdv)))
     : PSs2 (cxOf CX0 P w K mg base ["self", "part", "word", "what"] "Rights.used" (defScope s_Rights_used) f cdv A outer s H E).nox (defBody s_Rights_used) (t_Rights_used C_R) :=
  (ds_one (d_ret (d_bm F.plainAttrs_dict F.slot_dict_get F.type_dict_get (m_get (hu1 hr)) (d_fld (d_var (pv 0)) T_R.cl T_R.n_done_of) (da_cons (d_tup (da_cons (d_var (pv 1)) (da_cons (d_var (pv 2)) (da_cons (d_var (pv 3)) da_nil)))) (da_cons d_int da_nil)))))
@[reducible] noncomputable def t_Rights_barred (C_R : Addr) : TS2 := (sSeq (sIf (dB (dG r_is_barred (dCons (dFld C_R "bar_rows" (dVar 0)) (dCons (dVar 1) (dCons (dVar 2) (dCons (dVar 3) dNil)))))) (sRet (dC (.str "bar"))) sNext)
  (sSeq (sAsg (dBM "dict" get2 (dFld C_R "most_of" (dVar 0)) (dCons (dTup (dCons (dVar 1) (dCons (dVar 2) (dCons (dVar 3) dNil)))) dNil)) (gN 4))
  (sSeq (sIf (dB (dOp is2 (dVar 4) (dC .non))) (sRet (dC (.str "right"))) sNext)
  (sSeq (sIf (dB (dOp ge2 (dM C_R "used" (r_Rights_used C_R) (dVar 0) (dCons (dVar 1) (dCons (dVar 2) (dCons (dVar 3) dNil)))) (dVar 4))) (sRet (dC (.str "often"))) sNext)
  (sRet (dC .non))))))
theorem sc_Rights_barred : FnScope ["self", "part", "word", "what", "most"] ["self", "part", "word", "what"] (defScope s_Rights_barred) := ⟨rfl, rfl, rfl, by decide +kernel, rfl, by decide +kernel, by decide +kernel⟩
theorem b_Rights_barred (B : Fr mg) {C_R : Addr} (T_R : TxR K C_R) (G_is_barred : Gn P w K mg base 2 "is_barred" ["bars", "part", "word", "what"] (r_is_barred )) (G_Rights_used : Gm P w K mg base 1 C_R "used" ["self", "part", "word", "what"] (r_Rights_used C_R)) (f : Addr) (cdv : Value) (A : Around) (outer : List Env) (s : Shared) (H : Hp) (E : XK) (hr : Room 2 (A.deeper (PyProof.Rows.envOfC "Rights.barred" (defScope s_Rights_barred) s.heap.objs.size f cdv)))
     : PSs2 (cxOf CX0 P w K mg base ["self", "part", "word", "what", "most"] "Rights.barred" (defScope s_Rights_barred) f cdv A outer s H E).nox (defBody s_Rights_barred) (t_Rights_barred C_R) :=
  (ds_cons (d_if (d_val (d_n G_is_barred (hr.mono (by decide)) rfl (da_cons (d_fld (d_var (pv 0)) T_R.cl T_R.n_bar_rows) (da_cons (d_var (pv 1)) (da_cons (d_var (pv 2)) (da_cons (d_var (pv 3)) da_nil)))))) (ds_one (d_ret (d_gstr rfl B.e_BAR.choose_spec))) ds_nil)
  (ds_cons (d_set (i := 4) sc_Rights_barred.nd rfl (by first | exact Or.inl rfl | exact Or.inr rfl) (d_bm F.plainAttrs_dict F.slot_dict_get F.type_dict_get (m_get (hu1 hr)) (d_fld (d_var (pv 0)) T_R.cl T_R.n_most_of) (da_cons (d_tup (da_cons (d_var (pv 1)) (da_cons (d_var (pv 2)) (da_cons (d_var (pv 3)) da_nil)))) da_nil)))
  (ds_cons (d_if (d_cmpT o_is (d_var (pv 4)) d_non) (ds_one (d_ret (d_gstr rfl B.e_RIGHT.choose_spec))) ds_nil)
  (ds_cons (d_if (d_cmpT o_ge (d_m G_Rights_used T_R.cl (hr.mono (by decide)) (d_var (pv 0)) (da_cons (d_var (pv 1)) (da_cons (d_var (pv 2)) (da_cons (d_var (pv 3)) da_nil)))) (d_var (pv 4))) (ds_one (d_ret (d_gstr rfl B.e_OFTEN.choose_spec))) ds_nil)
  (ds_one (d_ret d_non))))))
@[reducible] noncomputable def t_Rights_use (C_R : Addr) : TS2 := (sSeq (sAsg (dM C_R "barred" (r_Rights_barred C_R) (dVar 0) (dCons (dVar 1) (dCons (dVar 2) (dCons (dVar 3) dNil)))) (gN 4))
  (sSeq (sIf (dB (dOp is2 (dVar 4) (dC .non))) (sAsg (dOp add2 (dM C_R "used" (r_Rights_used C_R) (dVar 0) (dCons (dVar 1) (dCons (dVar 2) (dCons (dVar 3) dNil)))) (dC (.int 1))) (gSet (dFld C_R "done_of" (dVar 0)) (dTup (dCons (dVar 1) (dCons (dVar 2) (dCons (dVar 3) dNil)))) set2)) sNext)
  (sRet (dVar 4))))
theorem sc_Rights_use : FnScope ["self", "part", "word", "what", "why"] ["self", "part", "word", "what"] (defScope s_Rights_use) := ⟨rfl, rfl, rfl, by decide +kernel, rfl, by decide +kernel, by decide +kernel⟩
theorem b_Rights_use (B : Fr mg) {C_R : Addr} (T_R : TxR K C_R) (G_Rights_used : Gm P w K mg base 1 C_R "used" ["self", "part", "word", "what"] (r_Rights_used C_R)) (G_Rights_barred : Gm P w K mg base 3 C_R "barred" ["self", "part", "word", "what"] (r_Rights_barred C_R)) (f : Addr) (cdv : Value) (A : Around) (outer : List Env) (s : Shared) (H : Hp) (E : XK) (hr : Room 3 (A.deeper (PyProof.Rows.envOfC "Rights.use" (defScope s_Rights_use) s.heap.objs.size f cdv)))
     : PSs2 (cxOf CX0 P w K mg base ["self", "part", "word", "what", "why"] "Rights.use" (defScope s_Rights_use) f cdv A outer s H E).nox (defBody s_Rights_use) (t_Rights_use C_R) :=
  (ds_cons (d_set (i := 4) sc_Rights_use.nd rfl (by first | exact Or.inl rfl | exact Or.inr rfl) (d_m G_Rights_barred T_R.cl (hr.mono (by decide)) (d_var (pv 0)) (da_cons (d_var (pv 1)) (da_cons (d_var (pv 2)) (da_cons (d_var (pv 3)) da_nil)))))
  (ds_cons (d_if (d_cmpT o_is (d_var (pv 4)) d_non) (ds_one (d_asg (d_op o_add (d_m G_Rights_used T_R.cl (hr.mono (by decide)) (d_var (pv 0)) (da_cons (d_var (pv 1)) (da_cons (d_var (pv 2)) (da_cons (d_var (pv 3)) da_nil)))) d_int) (dg_sub (d_fld (d_var (pv 0)) T_R.cl T_R.n_done_of) (d_tup (da_cons (d_var (pv 1)) (da_cons (d_var (pv 2)) (da_cons (d_var (pv 3)) da_nil)))) (s_set (hu1 hr))))) ds_nil)
  (ds_one (d_ret (d_var (pv 4))))))
@[reducible] noncomputable def t__law_bag  : TS2 := (sRetB (dLstM (dCons (dC (.int 0)) (dCons (dC (.int 1234567891)) (dCons (dC (.int 0)) (dCons (dLc (iLst (dSl sl2 (dVar 0) dNoPart (dPart (dC (.int 63))))) (gN 1) dYes (dCB abs2 (dCons (dVar 1) dNil)) [1]) dNil))))))
theorem sc__law_bag : FnScope ["_law_script", "_law_cell"] ["_law_script"] (defScope s__law_bag) := ⟨rfl, rfl, rfl, by decide +kernel, rfl, by decide +kernel, by decide +kernel⟩
theorem b__law_bag (B : Fr mg)  (f : Addr) (cdv : Value) (A : Around) (outer : List Env) (s : Shared) (H : Hp) (E : XK) (hr : Room 0 (A.deeper (PyProof.Rows.envOfC "_law_bag" (defScope s__law_bag) s.heap.objs.size f cdv)))
    (hg : (A.deeper (PyProof.Rows.envOfC "_law_bag" (defScope s__law_bag) s.heap.objs.size f cdv)).guards = some []) : PSs2 (cxOf CX0 P w K mg base ["_law_script", "_law_cell"] "_law_bag" (defScope s__law_bag) f cdv A outer s H E).nox (defBody s__law_bag) (t__law_bag ) :=
  (ds_one (d_retB (d_lstM (da_cons d_int (da_cons d_int (da_cons d_int (da_cons (d_lc (own := [("_law_cell", 1)]) rfl sc__law_bag.nd (di_lst (d_slice (d_var (pv 0)) dp_none (dp_some d_int))) (blkOk_by (by rfl)) (fun _ _ _ _ _ => (pg_name (i := 1) sc__law_bag.nd rfl (by first | exact Or.inl rfl | exact Or.inr rfl))) (go_name (by decide)) (fun _ _ _ _ _ => dts_nil) (fun _ _ _ _ _ => (d_cb c_abs rfl B.abs (by decide +kernel) (da_cons (d_var (pv 1)) da_nil)))) da_nil)))))))
@[reducible] noncomputable def t__law_take  : TS2 := (sBag 0 (sSeq (sIf (dB (dOp eq2 (dOp ix2 (dVar 0) (dC (.int 0))) (dC (.int 0)))) (sSeq (sAsg (dC (.int 0)) (gN 4))
  (sSeq (sIf (dB (dOp lt2 (dOp ix2 (dVar 0) (dC (.int 2))) (dCB len2 (dCons (dOp ix2 (dVar 0) (dC (.int 3))) dNil)))) (sAsg (dOp ix2 (dOp ix2 (dVar 0) (dC (.int 3))) (dOp ix2 (dVar 0) (dC (.int 2)))) (gN 4)) sNext)
  (sSeq (sAugS (dVar 0) (dC (.int 2)) (dC (.int 1)) getL2 (ipI2 fun i j => i + j) set2)
  (sSeq (sIf (dB (dOp ge2 (dVar 4) (dC (.int 1000000000000000000)))) (sAsg (dVar 4) (gSet (dVar 0) (dC (.int 0)) set2)) sNext)
  (sAsg (dOp mod2 (dOp add2 (dOp add2 (dOp mul2 (dOp ix2 (dVar 0) (dC (.int 1))) (dC (.int 48271))) (dOp mod2 (dVar 4) (dC (.int 2147483647)))) (dOp mul2 (dC (.int 7919)) (dOp ix2 (dVar 0) (dC (.int 2))))) (dC (.int 2147483647))) (gSet (dVar 0) (dC (.int 1)) set2)))))) sNext)
  (sSeq (sIf (dB (dOp gt2 (dOp ix2 (dVar 0) (dC (.int 0))) (dC (.int 0)))) (sSeq (sAsg (dOp mod2 (dOp ix2 (dVar 0) (dC (.int 0))) (dVar 1)) (gN 5))
  (sSeq (sAsg (dOp fdiv2 (dOp ix2 (dVar 0) (dC (.int 0))) (dVar 1)) (gSet (dVar 0) (dC (.int 0)) set2))
  (sRet (dVar 5)))) sNext)
  (sSeq (sAsg (dOp mod2 (dOp mul2 (dOp add2 (dOp ix2 (dVar 0) (dC (.int 1))) (dC (.int 1))) (dC (.int 39373))) (dC (.int 1000000007))) (gN 2))
  (sSeq (sAsg (dOp mod2 (dOp mul2 (dOp mod2 (dOp mul2 (dVar 2) (dVar 2)) (dC (.int 998244353))) (dC (.int 30011))) (dC (.int 998244353))) (gN 3))
  (sSeq (sIf (dB (dOp gt2 (dVar 1) (dC (.int 1000000)))) (sRet (dOp mod2 (dOp add2 (dOp mul2 (dVar 3) (dC (.int 1000000007))) (dVar 2)) (dVar 1))) sNext)
  (sRet (dOp mod2 (dOp fdiv2 (dVar 3) (dC (.int 7))) (dVar 1)))))))))
theorem sc__law_take : FnScope ["_law_bag_here", "_law_many", "_law_first", "_law_second", "_law_cell", "_law_value"] ["_law_bag_here", "_law_many"] (defScope s__law_take) := ⟨rfl, rfl, rfl, by decide +kernel, rfl, by decide +kernel, by decide +kernel⟩
theorem b__law_take (B : Fr mg)  (f : Addr) (cdv : Value) (A : Around) (outer : List Env) (s : Shared) (H : Hp) (E : XK) (hr : Room 0 (A.deeper (PyProof.Rows.envOfC "_law_take" (defScope s__law_take) s.heap.objs.size f cdv)))
    (hg : (A.deeper (PyProof.Rows.envOfC "_law_take" (defScope s__law_take) s.heap.objs.size f cdv)).guards = some []) : PSs2 (cxOf CX0 P w K mg base ["_law_bag_here", "_law_many", "_law_first", "_law_second", "_law_cell", "_law_value"] "_law_take" (defScope s__law_take) f cdv A outer s H E).nox (defBody s__law_take) (t__law_take ) :=
  (ds_bag (ds_cons (d_if (d_cmpT (o_eq (hu64 hr)) (d_ix (o_ix (hu1 hr)) (d_var (pv 0)) d_int) d_int) (ds_cons (d_set (i := 4) sc__law_take.nd rfl (by first | exact Or.inl rfl | exact Or.inr rfl) d_int)
  (ds_cons (d_if (d_cmpT o_lt (d_ix (o_ix (hu1 hr)) (d_var (pv 0)) d_int) (d_cb c_len rfl B.len (by decide +kernel) (da_cons (d_ix (o_ix (hu1 hr)) (d_var (pv 0)) d_int) da_nil))) (ds_one (d_set (i := 4) sc__law_take.nd rfl (by first | exact Or.inl rfl | exact Or.inr rfl) (d_ix (o_ix (hu1 hr)) (d_ix (o_ix (hu1 hr)) (d_var (pv 0)) d_int) (d_ix (o_ix (hu1 hr)) (d_var (pv 0)) d_int)))) ds_nil)
  (ds_cons (d_augS (d_var (pv 0)) d_int p_getL d_int p_add (s_set (hu1 hr)))
  (ds_cons (d_if (d_cmpT o_ge (d_var (pv 4)) d_int) (ds_one (d_asg (d_var (pv 4)) (dg_sub (d_var (pv 0)) d_int (s_set (hu1 hr))))) ds_nil)
  (ds_one (d_asg (d_op o_mod (d_op o_add (d_op o_add (d_op o_mul (d_ix (o_ix (hu1 hr)) (d_var (pv 0)) d_int) d_int) (d_op o_mod (d_var (pv 4)) d_int)) (d_op o_mul d_int (d_ix (o_ix (hu1 hr)) (d_var (pv 0)) d_int))) d_int) (dg_sub (d_var (pv 0)) d_int (s_set (hu1 hr))))))))) ds_nil)
  (ds_cons (d_if (d_cmpT o_gt (d_ix (o_ix (hu1 hr)) (d_var (pv 0)) d_int) d_int) (ds_cons (d_set (i := 5) sc__law_take.nd rfl (by first | exact Or.inl rfl | exact Or.inr rfl) (d_op o_mod (d_ix (o_ix (hu1 hr)) (d_var (pv 0)) d_int) (d_var (pv 1))))
  (ds_cons (d_asg (d_op o_fdiv (d_ix (o_ix (hu1 hr)) (d_var (pv 0)) d_int) (d_var (pv 1))) (dg_sub (d_var (pv 0)) d_int (s_set (hu1 hr))))
  (ds_one (d_ret (d_var (pv 5)))))) ds_nil)
  (ds_cons (d_set (i := 2) sc__law_take.nd rfl (by first | exact Or.inl rfl | exact Or.inr rfl) (d_op o_mod (d_op o_mul (d_op o_add (d_ix (o_ix (hu1 hr)) (d_var (pv 0)) d_int) d_int) d_int) d_int))
  (ds_cons (d_set (i := 3) sc__law_take.nd rfl (by first | exact Or.inl rfl | exact Or.inr rfl) (d_op o_mod (d_op o_mul (d_op o_mod (d_op o_mul (d_var (pv 2)) (d_var (pv 2))) d_int) d_int) d_int))
  (ds_cons (d_if (d_cmpT o_gt (d_var (pv 1)) d_int) (ds_one (d_ret (d_op o_mod (d_op o_add (d_op o_mul (d_var (pv 3)) d_int) (d_var (pv 2))) (d_var (pv 1))))) ds_nil)
  (ds_one (d_ret (d_op o_mod (d_op o_fdiv (d_var (pv 3)) d_int) (d_var (pv 1)))))))))))
@[reducible] noncomputable def t__law_alike  : TS2 := (sRet (dAndV (dOp eqA2 (dVar 0) (dVar 1)) (dOp eq2 (dCB reprA2 (dCons (dVar 0) dNil)) (dCB reprA2 (dCons (dVar 1) dNil)))))
theorem sc__law_alike : FnScope ["_law_found", "_law_due"] ["_law_found", "_law_due"] (defScope s__law_alike) := ⟨rfl, rfl, rfl, by decide +kernel, rfl, by decide +kernel, by decide +kernel⟩
theorem b__law_alike (B : Fr mg)  (f : Addr) (cdv : Value) (A : Around) (outer : List Env) (s : Shared) (H : Hp) (E : XK) (hr : Room 0 (A.deeper (PyProof.Rows.envOfC "_law_alike" (defScope s__law_alike) s.heap.objs.size f cdv)))
    (hg : (A.deeper (PyProof.Rows.envOfC "_law_alike" (defScope s__law_alike) s.heap.objs.size f cdv)).guards = some []) : PSs2 (cxOf CX0 P w K mg base ["_law_found", "_law_due"] "_law_alike" (defScope s__law_alike) f cdv A outer s H E).nox (defBody s__law_alike) (t__law_alike ) :=
  (ds_one (d_ret (d_and (d_cmp (o_eqA (hu65 hr)) (d_var (pv 0)) (d_var (pv 1))) (d_one (d_cmp (o_eq (hu64 hr)) (d_cb (c_reprA hg (hu65 hr)) rfl B.repr (by decide +kernel) (da_cons (d_var (pv 0)) da_nil)) (d_cb (c_reprA hg (hu65 hr)) rfl B.repr (by decide +kernel) (da_cons (d_var (pv 1)) da_nil)))))))
@[reducible] noncomputable def t__law_names  : TS2 := (sSeq (sAsg (dOp mulM2 (dLst (dCons (dC (.str "a")) dNil)) (dCB int2 (dCons (dOp eq2 (dG r__law_take (dCons (dVar 0) (dCons (dC (.int 2)) dNil))) (dC (.int 0))) dNil))) (gN 2))
  (sSeq (sFor (iRng (dCons (dVar 1) dNil)) (gN 3) (sSeq (sAsg (dOp add2 (dC (.int 1)) (dG r__law_take (dCons (dVar 0) (dCons (dOp ix2 (dLst (dCons (dC (.int 1)) (dCons (dC (.int 2)) (dCons (dC (.int 8)) dNil)))) (dG r__law_take (dCons (dVar 0) (dCons (dC (.int 3)) dNil)))) dNil)))) (gN 4))
  (sDrop (dBM "list" append2 (dVar 2) (dCons (dBM "str" join2 (dC (.str "")) (dCons (dLc (iRng (dCons (dVar 4) dNil)) (gN 6) dYes (dOp ix2 (dC (.str "abcdefghijklmnopqrstuvwxyz")) (dG r__law_take (dCons (dVar 0) (dCons (dC (.int 26)) dNil)))) [6]) dNil)) dNil)))))
  (sSeq (sAsg (dOp add2 (dVar 2) (dLst (dCons (dC (.str "ann")) (dCons (dC (.str "bob")) (dCons (dC (.str "cy")) (dCons (dC (.str "dan")) (dCons (dC (.str "eve")) dNil))))))) (gN 2))
  (sRet (dSl sl2 (dLc (iEnumL (dCons (dVar 2) dNil)) (gT 2 (gCons2 (gN 3) (gCons2 (gN 5) gNil2))) (dB (dOp notin2 (dVar 5) (dSl sl2 (dVar 2) dNoPart (dPart (dVar 3))))) (dVar 5) [3, 5]) dNoPart (dPart (dVar 1)))))))
theorem sc__law_names : FnScope ["_law_bag_here", "_law_many", "_law_found", "_law_k", "_law_size", "_law_name", "_law_j"] ["_law_bag_here", "_law_many"] (defScope s__law_names) := ⟨rfl, rfl, rfl, by decide +kernel, rfl, by decide +kernel, by decide +kernel⟩
theorem b__law_names (B : Fr mg)  (G__law_take : Gf P w K mg base 1 "_law_take" ["_law_bag_here", "_law_many"] (r__law_take )) (f : Addr) (cdv : Value) (A : Around) (outer : List Env) (s : Shared) (H : Hp) (E : XK) (hr : Room 1 (A.deeper (PyProof.Rows.envOfC "_law_names" (defScope s__law_names) s.heap.objs.size f cdv)))
    (hg : (A.deeper (PyProof.Rows.envOfC "_law_names" (defScope s__law_names) s.heap.objs.size f cdv)).guards = some []) : PSs2 (cxOf CX0 P w K mg base ["_law_bag_here", "_law_many", "_law_found", "_law_k", "_law_size", "_law_name", "_law_j"] "_law_names" (defScope s__law_names) f cdv A outer s H E).nox (defBody s__law_names) (t__law_names ) :=
  (ds_cons (d_set (i := 2) sc__law_names.nd rfl (by first | exact Or.inl rfl | exact Or.inr rfl) (d_op o_mulM (d_lst (da_cons d_str da_nil)) (d_ct c_int rfl B.int (by decide +kernel) (da_cons (d_cmp (o_eq (hu64 hr)) (d_g G__law_take (hr.mono (by decide)) hg rfl (da_cons (d_var (pv 0)) (da_cons d_int da_nil))) d_int) da_nil))))
  (ds_cons (d_for PassesOwn.never rfl (di_rng rfl B.range (da_cons (d_var (pv 1)) da_nil)) (dg_name (pg_name (i := 3) sc__law_names.nd rfl (by first | exact Or.inl rfl | exact Or.inr rfl))) (ds_cons (d_set (i := 4) sc__law_names.nd rfl (by first | exact Or.inl rfl | exact Or.inr rfl) (d_op o_add d_int (d_g G__law_take (hr.mono (by decide)) hg rfl (da_cons (d_var (pv 0)) (da_cons (d_ix (o_ix (hu1 hr)) (d_lst (da_cons d_int (da_cons d_int (da_cons d_int da_nil)))) (d_g G__law_take (hr.mono (by decide)) hg rfl (da_cons (d_var (pv 0)) (da_cons d_int da_nil)))) da_nil)))))
  (ds_one (d_expr (d_bm F.plainAttrs_list F.slot_list_append F.type_list_append m_append (d_var (pv 2)) (da_cons (d_bm F.plainAttrs_str F.slot_str_join F.type_str_join m_join d_str (da_cons (d_lc (own := [("_law_j", 6)]) rfl sc__law_names.nd (di_rng rfl B.range (da_cons (d_var (pv 4)) da_nil)) (blkOk_by (by rfl)) (fun _ _ _ _ _ => (pg_name (i := 6) sc__law_names.nd rfl (by first | exact Or.inl rfl | exact Or.inr rfl))) (go_name (by decide)) (fun _ _ _ _ _ => dts_nil) (fun _ _ _ _ _ => (d_ix (o_ix (hu1 hr)) d_str (d_g G__law_take (hr.mono (by decide)) hg rfl (da_cons (d_var (pv 0)) (da_cons d_int da_nil)))))) da_nil)) da_nil))))))
  (ds_cons (d_set (i := 2) sc__law_names.nd rfl (by first | exact Or.inl rfl | exact Or.inr rfl) (d_op o_add (d_var (pv 2)) (d_lst (da_cons d_str (da_cons d_str (da_cons d_str (da_cons d_str (da_cons d_str da_nil))))))))
  (ds_one (d_ret (d_slice (d_lc (own := [("_law_k", 3), ("_law_name", 5)]) rfl sc__law_names.nd (di_enum rfl B.enumerate (da_cons (d_var (pv 2)) da_nil)) (blkOk_by (by rfl)) (fun _ _ _ _ _ => (pg_tup rfl (pgs_cons (pg_name (i := 3) sc__law_names.nd rfl (by first | exact Or.inl rfl | exact Or.inr rfl)) (pgs_cons (pg_name (i := 5) sc__law_names.nd rfl (by first | exact Or.inl rfl | exact Or.inr rfl)) pgs_nil)))) (go_tup (gos_cons (go_name (by decide)) (gos_cons (go_name (by decide)) gos_nil))) (fun _ _ _ _ _ => (dts_one (d_cmpT (o_notin (hu65 hr)) (d_var (pv 5)) (d_slice (d_var (pv 2)) dp_none (dp_some (d_var (pv 3))))))) (fun _ _ _ _ _ => (d_var (pv 5)))) dp_none (dp_some (d_var (pv 1)))))))))
@[reducible] noncomputable def t__law_number  : TS2 := (sSeq (sAsg (dG r__law_take (dCons (dVar 0) (dCons (dC (.int 4)) dNil))) (gN 1))
  (sSeq (sAsg (dOp ix2 (dLst (dCons (dOp pow2 (dC (.int 10)) (dC (.int 9))) (dCons (dUn neg2 (dOp pow2 (dC (.int 10)) (dC (.int 9)))) (dCons (dC (.int 0)) (dCons (dC (.int 1)) dNil))))) (dG r__law_take (dCons (dVar 0) (dCons (dC (.int 4)) dNil)))) (gN 2))
  (sRet (dOp ix2 (dLst (dCons (dOp sub2 (dG r__law_take (dCons (dVar 0) (dCons (dC (.int 20)) dNil))) (dC (.int 8))) (dCons (dVar 2) (dCons (dC (.int 3)) (dCons (dOp sub2 (dG r__law_take (dCons (dVar 0) (dCons (dOp add2 (dOp mul2 (dC (.int 2)) (dOp pow2 (dC (.int 10)) (dC (.int 9)))) (dC (.int 1))) dNil))) (dOp pow2 (dC (.int 10)) (dC (.int 9)))) dNil))))) (dVar 1)))))
theorem sc__law_number : FnScope ["_law_bag_here", "_law_way", "_law_edge"] ["_law_bag_here"] (defScope s__law_number) := ⟨rfl, rfl, rfl, by decide +kernel, rfl, by decide +kernel, by decide +kernel⟩
theorem b__law_number (B : Fr mg)  (G__law_take : Gf P w K mg base 1 "_law_take" ["_law_bag_here", "_law_many"] (r__law_take )) (f : Addr) (cdv : Value) (A : Around) (outer : List Env) (s : Shared) (H : Hp) (E : XK) (hr : Room 1 (A.deeper (PyProof.Rows.envOfC "_law_number" (defScope s__law_number) s.heap.objs.size f cdv)))
    (hg : (A.deeper (PyProof.Rows.envOfC "_law_number" (defScope s__law_number) s.heap.objs.size f cdv)).guards = some []) : PSs2 (cxOf CX0 P w K mg base ["_law_bag_here", "_law_way", "_law_edge"] "_law_number" (defScope s__law_number) f cdv A outer s H E).nox (defBody s__law_number) (t__law_number ) :=
  (ds_cons (d_set (i := 1) sc__law_number.nd rfl (by first | exact Or.inl rfl | exact Or.inr rfl) (d_g G__law_take (hr.mono (by decide)) hg rfl (da_cons (d_var (pv 0)) (da_cons d_int da_nil))))
  (ds_cons (d_set (i := 2) sc__law_number.nd rfl (by first | exact Or.inl rfl | exact Or.inr rfl) (d_ix (o_ix (hu1 hr)) (d_lst (da_cons (d_op o_pow d_int d_int) (da_cons (d_un o_neg (d_op o_pow d_int d_int)) (da_cons d_int (da_cons d_int da_nil))))) (d_g G__law_take (hr.mono (by decide)) hg rfl (da_cons (d_var (pv 0)) (da_cons d_int da_nil)))))
  (ds_one (d_ret (d_ix (o_ix (hu1 hr)) (d_lst (da_cons (d_op o_sub (d_g G__law_take (hr.mono (by decide)) hg rfl (da_cons (d_var (pv 0)) (da_cons d_int da_nil))) d_int) (da_cons (d_var (pv 2)) (da_cons d_int (da_cons (d_op o_sub (d_g G__law_take (hr.mono (by decide)) hg rfl (da_cons (d_var (pv 0)) (da_cons (d_op o_add (d_op o_mul d_int (d_op o_pow d_int d_int)) d_int) da_nil))) (d_op o_pow d_int d_int)) da_nil))))) (d_var (pv 1)))))))
@[reducible] noncomputable def t__law_shape  : TS2 := (sSeq (sAsg (dG r__law_take (dCons (dVar 0) (dCons (dC (.int 4)) dNil))) (gN 1))
  (sSeq (sAsg (dOp sub2 (dG r__law_take (dCons (dVar 0) (dCons (dC (.int 9)) dNil))) (dC (.int 6))) (gN 2))
  (sRet (dOp ix2 (dLst (dCons (dTup (dCons (dUn neg2 (dOp pow2 (dC (.int 10)) (dC (.int 9)))) (dCons (dOp pow2 (dC (.int 10)) (dC (.int 9))) dNil))) (dCons (dTup (dCons (dC (.int 0)) (dCons (dC (.int 9)) dNil))) (dCons (dTup (dCons (dUn neg2 (dC (.int 20))) (dCons (dC (.int 40)) dNil))) (dCons (dTup (dCons (dVar 2) (dCons (dOp add2 (dVar 2) (dG r__law_take (dCons (dVar 0) (dCons (dC (.int 30)) dNil)))) dNil))) dNil))))) (dVar 1)))))
theorem sc__law_shape : FnScope ["_law_bag_here", "_law_way", "_law_least"] ["_law_bag_here"] (defScope s__law_shape) := ⟨rfl, rfl, rfl, by decide +kernel, rfl, by decide +kernel, by decide +kernel⟩
theorem b__law_shape (B : Fr mg)  (G__law_take : Gf P w K mg base 1 "_law_take" ["_law_bag_here", "_law_many"] (r__law_take )) (f : Addr) (cdv : Value) (A : Around) (outer : List Env) (s : Shared) (H : Hp) (E : XK) (hr : Room 1 (A.deeper (PyProof.Rows.envOfC "_law_shape" (defScope s__law_shape) s.heap.objs.size f cdv)))
    (hg : (A.deeper (PyProof.Rows.envOfC "_law_shape" (defScope s__law_shape) s.heap.objs.size f cdv)).guards = some []) : PSs2 (cxOf CX0 P w K mg base ["_law_bag_here", "_law_way", "_law_least"] "_law_shape" (defScope s__law_shape) f cdv A outer s H E).nox (defBody s__law_shape) (t__law_shape ) :=
  (ds_cons (d_set (i := 1) sc__law_shape.nd rfl (by first | exact Or.inl rfl | exact Or.inr rfl) (d_g G__law_take (hr.mono (by decide)) hg rfl (da_cons (d_var (pv 0)) (da_cons d_int da_nil))))
  (ds_cons (d_set (i := 2) sc__law_shape.nd rfl (by first | exact Or.inl rfl | exact Or.inr rfl) (d_op o_sub (d_g G__law_take (hr.mono (by decide)) hg rfl (da_cons (d_var (pv 0)) (da_cons d_int da_nil))) d_int))
  (ds_one (d_ret (d_ix (o_ix (hu1 hr)) (d_lst (da_cons (d_tup (da_cons (d_un o_neg (d_op o_pow d_int d_int)) (da_cons (d_op o_pow d_int d_int) da_nil))) (da_cons (d_tup (da_cons d_int (da_cons d_int da_nil))) (da_cons (d_tup (da_cons (d_un o_neg d_int) (da_cons d_int da_nil))) (da_cons (d_tup (da_cons (d_var (pv 2)) (da_cons (d_op o_add (d_var (pv 2)) (d_g G__law_take (hr.mono (by decide)) hg rfl (da_cons (d_var (pv 0)) (da_cons d_int da_nil)))) da_nil))) da_nil))))) (d_var (pv 1)))))))
@[reducible] noncomputable def t__law_some  : TS2 := (sRet (dLc (iLst (dVar 1)) (gN 3) (dB (dOp eq2 (dG r__law_take (dCons (dVar 0) (dCons (dVar 2) dNil))) (dC (.int 0)))) (dVar 3) [3]))
theorem sc__law_some : FnScope ["_law_bag_here", "_law_words", "_law_many", "_law_word"] ["_law_bag_here", "_law_words", "_law_many"] (defScope s__law_some) := ⟨rfl, rfl, rfl, by decide +kernel, rfl, by decide +kernel, by decide +kernel⟩
theorem b__law_some (B : Fr mg)  (G__law_take : Gf P w K mg base 1 "_law_take" ["_law_bag_here", "_law_many"] (r__law_take )) (f : Addr) (cdv : Value) (A : Around) (outer : List Env) (s : Shared) (H : Hp) (E : XK) (hr : Room 1 (A.deeper (PyProof.Rows.envOfC "_law_some" (defScope s__law_some) s.heap.objs.size f cdv)))
    (hg : (A.deeper (PyProof.Rows.envOfC "_law_some" (defScope s__law_some) s.heap.objs.size f cdv)).guards = some []) : PSs2 (cxOf CX0 P w K mg base ["_law_bag_here", "_law_words", "_law_many", "_law_word"] "_law_some" (defScope s__law_some) f cdv A outer s H E).nox (defBody s__law_some) (t__law_some ) :=
  (ds_one (d_ret (d_lc (own := [("_law_word", 3)]) rfl sc__law_some.nd (di_lst (d_var (pv 1))) (blkOk_by (by rfl)) (fun _ _ _ _ _ => (pg_name (i := 3) sc__law_some.nd rfl (by first | exact Or.inl rfl | exact Or.inr rfl))) (go_name (by decide)) (fun _ _ _ _ _ => (dts_one (d_cmpT (o_eq (hu64 hr)) (d_g G__law_take (hr.mono (by decide)) hg rfl (da_cons (d_var (pv 0)) (da_cons (d_var (pv 2)) da_nil))) d_int))) (fun _ _ _ _ _ => (d_var (pv 3))))))
@[reducible] noncomputable def t__law_kept_row  : TS2 := (sSeq (sAsg (dG r__law_shape (dCons (dVar 0) dNil)) (gT 2 (gCons2 (gN 5) (gCons2 (gN 6) gNil2))))
  (sSeq (sAsg (dOp add2 (dVar 5) (dG r__law_take (dCons (dVar 0) (dCons (dOp add2 (dCB min2 (dCons (dOp sub2 (dVar 6) (dVar 5)) (dCons (dC (.int 12)) dNil))) (dC (.int 1))) dNil)))) (gN 3))
  (sSeq (sAsg (dTup (dCons (dVar 1) (dCons (dVar 2) (dCons (dVar 5) (dCons (dVar 6) (dCons (dVar 3) dNil)))))) (gN 4))
  (sSeq (sIf (dB (dOp eq2 (dVar 1) (dC (.str "key")))) (sAsg (dOp add2 (dVar 4) (dTup (dCons (dOp ix2 (dLst (dCons (dC (.str "kept")) (dCons (dC (.str "kept")) (dCons (dC (.str "anew")) dNil)))) (dG r__law_take (dCons (dVar 0) (dCons (dC (.int 3)) dNil)))) dNil))) (gN 4)) sNext)
  (sRet (dVar 4))))))
theorem sc__law_kept_row : FnScope ["_law_bag_here", "_law_word", "_law_name", "_law_first", "_law_row", "_law_least", "_law_most_here"] ["_law_bag_here", "_law_word", "_law_name"] (defScope s__law_kept_row) := ⟨rfl, rfl, rfl, by decide +kernel, rfl, by decide +kernel, by decide +kernel⟩
theorem b__law_kept_row (B : Fr mg)  (G__law_take : Gf P w K mg base 1 "_law_take" ["_law_bag_here", "_law_many"] (r__law_take )) (G__law_shape : Gf P w K mg base 2 "_law_shape" ["_law_bag_here"] (r__law_shape )) (f : Addr) (cdv : Value) (A : Around) (outer : List Env) (s : Shared) (H : Hp) (E : XK) (hr : Room 2 (A.deeper (PyProof.Rows.envOfC "_law_kept_row" (defScope s__law_kept_row) s.heap.objs.size f cdv)))
    (hg : (A.deeper (PyProof.Rows.envOfC "_law_kept_row" (defScope s__law_kept_row) s.heap.objs.size f cdv)).guards = some []) : PSs2 (cxOf CX0 P w K mg base ["_law_bag_here", "_law_word", "_law_name", "_law_first", "_law_row", "_law_least", "_law_most_here"] "_law_kept_row" (defScope s__law_kept_row) f cdv A outer s H E).nox (defBody s__law_kept_row) (t__law_kept_row ) :=
  (ds_cons (d_asg (d_g G__law_shape (hr.mono (by decide)) hg rfl (da_cons (d_var (pv 0)) da_nil)) (dg_tup rfl (dgs_cons (dg_name (pg_name (i := 5) sc__law_kept_row.nd rfl (by first | exact Or.inl rfl | exact Or.inr rfl))) (dgs_cons (dg_name (pg_name (i := 6) sc__law_kept_row.nd rfl (by first | exact Or.inl rfl | exact Or.inr rfl))) dgs_nil))))
  (ds_cons (d_set (i := 3) sc__law_kept_row.nd rfl (by first | exact Or.inl rfl | exact Or.inr rfl) (d_op o_add (d_var (pv 5)) (d_g G__law_take (hr.mono (by decide)) hg rfl (da_cons (d_var (pv 0)) (da_cons (d_op o_add (d_cb (c_min2 rfl) rfl B.min (by decide +kernel) (da_cons (d_op o_sub (d_var (pv 6)) (d_var (pv 5))) (da_cons d_int da_nil))) d_int) da_nil)))))
  (ds_cons (d_set (i := 4) sc__law_kept_row.nd rfl (by first | exact Or.inl rfl | exact Or.inr rfl) (d_tup (da_cons (d_var (pv 1)) (da_cons (d_var (pv 2)) (da_cons (d_var (pv 5)) (da_cons (d_var (pv 6)) (da_cons (d_var (pv 3)) da_nil)))))))
  (ds_cons (d_if (d_cmpT (o_eq (hu64 hr)) (d_var (pv 1)) d_str) (ds_one (d_set (i := 4) sc__law_kept_row.nd rfl (by first | exact Or.inl rfl | exact Or.inr rfl) (d_op o_add (d_var (pv 4)) (d_tup (da_cons (d_ix (o_ix (hu1 hr)) (d_lst (da_cons d_str (da_cons d_str (da_cons d_str da_nil)))) (d_g G__law_take (hr.mono (by decide)) hg rfl (da_cons (d_var (pv 0)) (da_cons d_int da_nil)))) da_nil))))) ds_nil)
  (ds_one (d_ret (d_var (pv 4))))))))
@[reducible] noncomputable def t__law_hook_row  : TS2 := (sSeq (sAsg (dLc (iLst (dCB sortedS2 (dCons (dVar 3) dNil))) (gN 7) (dB (dOp ne2 (dVar 7) (dVar 2))) (dVar 7) [7]) (gN 4))
  (sSeq (sAsg (dG r__law_some (dCons (dVar 0) (dCons (dVar 4) (dCons (dC (.int 7)) dNil)))) (gN 5))
  (sSeq (sAsg (dG r__law_some (dCons (dVar 0) (dCons (dLc (iLst (dVar 4)) (gN 7) (dB (dOp notin2 (dVar 7) (dVar 5))) (dVar 7) [7]) (dCons (dC (.int 7)) dNil)))) (gN 6))
  (sRet (dOp add2 (dTup (dCons (dC (.str "hook")) (dCons (dVar 1) (dCons (dG r__law_take (dCons (dVar 0) (dCons (dC (.int 3)) dNil))) (dCons (dCB tuple2 (dCons (dVar 5) dNil)) (dCons (dCB tuple2 (dCons (dVar 6) dNil)) dNil)))))) (dG r__law_shape (dCons (dVar 0) dNil)))))))
theorem sc__law_hook_row : FnScope ["_law_bag_here", "_law_hook", "_law_part", "_law_parts", "_law_others", "_law_befores", "_law_afters", "_law_one"] ["_law_bag_here", "_law_hook", "_law_part", "_law_parts"] (defScope s__law_hook_row) := ⟨rfl, rfl, rfl, by decide +kernel, rfl, by decide +kernel, by decide +kernel⟩
theorem b__law_hook_row (B : Fr mg)  (G__law_take : Gf P w K mg base 1 "_law_take" ["_law_bag_here", "_law_many"] (r__law_take )) (G__law_shape : Gf P w K mg base 2 "_law_shape" ["_law_bag_here"] (r__law_shape )) (G__law_some : Gf P w K mg base 2 "_law_some" ["_law_bag_here", "_law_words", "_law_many"] (r__law_some )) (f : Addr) (cdv : Value) (A : Around) (outer : List Env) (s : Shared) (H : Hp) (E : XK) (hr : Room 2 (A.deeper (PyProof.Rows.envOfC "_law_hook_row" (defScope s__law_hook_row) s.heap.objs.size f cdv)))
    (hg : (A.deeper (PyProof.Rows.envOfC "_law_hook_row" (defScope s__law_hook_row) s.heap.objs.size f cdv)).guards = some []) : PSs2 (cxOf CX0 P w K mg base ["_law_bag_here", "_law_hook", "_law_part", "_law_parts", "_law_others", "_law_befores", "_law_afters", "_law_one"] "_law_hook_row" (defScope s__law_hook_row) f cdv A outer s H E).nox (defBody s__law_hook_row) (t__law_hook_row ) :=
  (ds_cons (d_setLc (i := 4) (own := [("_law_one", 7)]) rfl sc__law_hook_row.nd rfl rfl (by rfl) (di_lst (d_cb c_sortedS rfl B.sorted (by decide +kernel) (da_cons (d_var (pv 3)) da_nil))) (blkOk_by (by rfl)) (fun _ _ _ _ _ => (pg_name (i := 7) sc__law_hook_row.nd rfl (by first | exact Or.inl rfl | exact Or.inr rfl))) (go_name (by decide)) (fun _ _ _ _ _ => (dts_one (d_cmpT (o_ne (hu64 hr)) (d_var (pv 7)) (d_var (pv 2))))) (fun _ _ _ _ _ => (d_var (pv 7))))
  (ds_cons (d_set (i := 5) sc__law_hook_row.nd rfl (by first | exact Or.inl rfl | exact Or.inr rfl) (d_g G__law_some (hr.mono (by decide)) hg rfl (da_cons (d_var (pv 0)) (da_cons (d_var (pv 4)) (da_cons d_int da_nil)))))
  (ds_cons (d_set (i := 6) sc__law_hook_row.nd rfl (by first | exact Or.inl rfl | exact Or.inr rfl) (d_g G__law_some (hr.mono (by decide)) hg rfl (da_cons (d_var (pv 0)) (da_cons (d_lc (own := [("_law_one", 7)]) rfl sc__law_hook_row.nd (di_lst (d_var (pv 4))) (blkOk_by (by rfl)) (fun _ _ _ _ _ => (pg_name (i := 7) sc__law_hook_row.nd rfl (by first | exact Or.inl rfl | exact Or.inr rfl))) (go_name (by decide)) (fun _ _ _ _ _ => (dts_one (d_cmpT (o_notin (hu65 hr)) (d_var (pv 7)) (d_var (pv 5))))) (fun _ _ _ _ _ => (d_var (pv 7)))) (da_cons d_int da_nil)))))
  (ds_one (d_ret (d_op o_add (d_tup (da_cons d_str (da_cons (d_var (pv 1)) (da_cons (d_g G__law_take (hr.mono (by decide)) hg rfl (da_cons (d_var (pv 0)) (da_cons d_int da_nil))) (da_cons (d_ct c_tuple rfl B.tuple (by decide +kernel) (da_cons (d_var (pv 5)) da_nil)) (da_cons (d_ct c_tuple rfl B.tuple (by decide +kernel) (da_cons (d_var (pv 6)) da_nil)) da_nil)))))) (d_g G__law_shape (hr.mono (by decide)) hg rfl (da_cons (d_var (pv 0)) da_nil))))))))
@[reducible] noncomputable def t__law_face  : TS2 := (sSeq (sAsg (dLst (dCons (dC (.str "a")) (dCons (dC (.str "ab")) (dCons (dC (.str "b")) dNil)))) (gN 3))
  (sSeq (sAsg (dG r__law_some (dCons (dVar 0) (dCons (dVar 3) (dCons (dC (.int 3)) dNil)))) (gN 4))
  (sSeq (sAsg (dG r__law_some (dCons (dVar 0) (dCons (dLc (iLst (dVar 3)) (gN 9) (dB (dOp notin2 (dVar 9) (dVar 4))) (dVar 9) [9]) (dCons (dC (.int 4)) dNil)))) (gN 5))
  (sSeq (sAsg (dLc (iLst (dVar 4)) (gN 11) dYes (dOp add2 (dTup (dCons (dC (.str "offer")) (dCons (dVar 11) (dCons (dTup (dCons (dG r__law_take (dCons (dVar 0) (dCons (dC (.int 2)) dNil))) (dCons (dG r__law_take (dCons (dVar 0) (dCons (dC (.int 3)) dNil))) dNil))) dNil)))) (dG r__law_shape (dCons (dVar 0) dNil))) [11]) (gN 6))
  (sSeq (sAsg (dOp add2 (dVar 6) (dLc (iLst (dVar 5)) (gN 11) dYes (dTup (dCons (dC (.str "ask")) (dCons (dVar 11) (dCons (dTup (dCons (dG r__law_take (dCons (dVar 0) (dCons (dC (.int 2)) dNil))) (dCons (dG r__law_take (dCons (dVar 0) (dCons (dC (.int 3)) dNil))) dNil))) dNil)))) [11])) (gN 6))
  (sSeq (sAsg (dLc (iLst (dLst (dCons (dC (.str "a")) (dCons (dC (.str "ab")) (dCons (dC (.str "b")) dNil))))) (gN 12) (dB (dOp gt2 (dG r__law_take (dCons (dVar 0) (dCons (dC (.int 4)) dNil))) (dOp mul2 (dC (.int 2)) (dCB int2 (dCons (dOp eq2 (dVar 12) (dC (.str "ab"))) dNil))))) (dVar 12) [12]) (gN 7))
  (sSeq (sAsg (dOp add2 (dVar 6) (dLc (iLst (dVar 7)) (gN 12) dYes (dG r__law_hook_row (dCons (dVar 0) (dCons (dVar 12) (dCons (dVar 1) (dCons (dVar 2) dNil))))) [12])) (gN 6))
  (sSeq (sAsg (dOp add2 (dVar 6) (dLc (iLst (dG r__law_some (dCons (dVar 0) (dCons (dLst (dCons (dC (.str "a")) (dCons (dC (.str "b")) dNil))) (dCons (dC (.int 2)) dNil))))) (gN 14) dYes (dTup (dCons (dC (.str "on")) (dCons (dVar 14) (dCons (dG r__law_take (dCons (dVar 0) (dCons (dC (.int 3)) dNil))) dNil)))) [14])) (gN 6))
  (sSeq (sAsg (dLst dNil) (gN 8))
  (sSeq (sFor (iLst (dLst (dCons (dC (.str "emit")) (dCons (dC (.str "get")) (dCons (dC (.str "put")) (dCons (dC (.str "read")) (dCons (dC (.str "send")) dNil))))))) (gN 9) (sAsg (dOp add2 (dVar 8) (dLc (iLst (dG r__law_some (dCons (dVar 0) (dCons (dLst (dCons (dC (.str "a")) (dCons (dC (.str "b")) dNil))) (dCons (dC (.int 2)) dNil))))) (gN 15) dYes (dTup (dCons (dC (.str "right")) (dCons (dVar 9) (dCons (dVar 15) (dCons (dOp add2 (dC (.int 1)) (dG r__law_take (dCons (dVar 0) (dCons (dC (.int 3)) dNil)))) dNil))))) [15])) (gN 8)))
  (sSeq (sAsg (dLc (iLst (dG r__law_some (dCons (dVar 0) (dCons (dLst (dCons (dC (.str "a")) (dCons (dC (.str "b")) dNil))) (dCons (dC (.int 3)) dNil))))) (gN 13) dYes (dTup (dCons (dC (.str "default")) (dCons (dVar 13) (dCons (dG r__law_number (dCons (dVar 0) dNil)) dNil)))) [13]) (gN 10))
  (sSeq (sAsg (dOp add2 (dVar 10) (dLc (iLst (dLst (dCons (dC (.str "a")) (dCons (dC (.str "b")) dNil)))) (gN 13) (dB (dOp gt2 (dG r__law_take (dCons (dVar 0) (dCons (dC (.int 3)) dNil))) (dC (.int 0)))) (dG r__law_kept_row (dCons (dVar 0) (dCons (dC (.str "key")) (dCons (dVar 13) dNil)))) [13])) (gN 10))
  (sSeq (sAsg (dOp add2 (dVar 10) (dLc (iLst (dG r__law_some (dCons (dVar 0) (dCons (dLst (dCons (dC (.str "a")) (dCons (dC (.str "b")) dNil))) (dCons (dC (.int 3)) dNil))))) (gN 13) dYes (dG r__law_kept_row (dCons (dVar 0) (dCons (dC (.str "own")) (dCons (dVar 13) dNil)))) [13])) (gN 10))
  (sSeq (sAsg (dOp add2 (dVar 10) (dOp mul2 (dLst (dCons (dTup (dCons (dC (.str "steps")) (dCons (dOp add2 (dC (.int 1)) (dG r__law_take (dCons (dVar 0) (dCons (dC (.int 60)) dNil)))) dNil))) dNil)) (dCB int2 (dCons (dOp eq2 (dG r__law_take (dCons (dVar 0) (dCons (dC (.int 3)) dNil))) (dC (.int 0))) dNil)))) (gN 10))
  (sRet (dCB tuple2 (dCons (dOp add2 (dOp add2 (dVar 6) (dSl sl2 (dVar 8) dNoPart (dPart (dOp sub2 (dOp sub2 (dC (.int 16)) (dCB len2 (dCons (dVar 6) dNil))) (dCB len2 (dCons (dVar 10) dNil)))))) (dVar 10)) dNil)))))))))))))))))
theorem sc__law_face : FnScope ["_law_bag_here", "_law_part", "_law_parts", "_law_words", "_law_calls", "_law_asks", "_law_front", "_law_hooks", "_law_rights", "_law_word", "_law_back", "_law_call", "_law_hook", "_law_name", "_law_event", "_law_what"] ["_law_bag_here", "_law_part", "_law_parts"] (defScope s__law_face) := ⟨rfl, rfl, rfl, by decide +kernel, rfl, by decide +kernel, by decide +kernel⟩
theorem b__law_face (B : Fr mg)  (G__law_take : Gf P w K mg base 1 "_law_take" ["_law_bag_here", "_law_many"] (r__law_take )) (G__law_some : Gf P w K mg base 2 "_law_some" ["_law_bag_here", "_law_words", "_law_many"] (r__law_some )) (G__law_kept_row : Gf P w K mg base 3 "_law_kept_row" ["_law_bag_here", "_law_word", "_law_name"] (r__law_kept_row )) (G__law_number : Gf P w K mg base 2 "_law_number" ["_law_bag_here"] (r__law_number )) (G__law_hook_row : Gf P w K mg base 3 "_law_hook_row" ["_law_bag_here", "_law_hook", "_law_part", "_law_parts"] (r__law_hook_row )) (G__law_shape : Gf P w K mg base 2 "_law_shape" ["_law_bag_here"] (r__law_shape )) (f : Addr) (cdv : Value) (A : Around) (outer : List Env) (s : Shared) (H : Hp) (E : XK) (hr : Room 3 (A.deeper (PyProof.Rows.envOfC "_law_face" (defScope s__law_face) s.heap.objs.size f cdv)))
    (hg : (A.deeper (PyProof.Rows.envOfC "_law_face" (defScope s__law_face) s.heap.objs.size f cdv)).guards = some []) : PSs2 (cxOf CX0 P w K mg base ["_law_bag_here", "_law_part", "_law_parts", "_law_words", "_law_calls", "_law_asks", "_law_front", "_law_hooks", "_law_rights", "_law_word", "_law_back", "_law_call", "_law_hook", "_law_name", "_law_event", "_law_what"] "_law_face" (defScope s__law_face) f cdv A outer s H E).nox (defBody s__law_face) (t__law_face ) :=
  (ds_cons (d_set (i := 3) sc__law_face.nd rfl (by first | exact Or.inl rfl | exact Or.inr rfl) (d_lst (da_cons d_str (da_cons d_str (da_cons d_str da_nil)))))
  (ds_cons (d_set (i := 4) sc__law_face.nd rfl (by first | exact Or.inl rfl | exact Or.inr rfl) (d_g G__law_some (hr.mono (by decide)) hg rfl (da_cons (d_var (pv 0)) (da_cons (d_var (pv 3)) (da_cons d_int da_nil)))))
  (ds_cons (d_set (i := 5) sc__law_face.nd rfl (by first | exact Or.inl rfl | exact Or.inr rfl) (d_g G__law_some (hr.mono (by decide)) hg rfl (da_cons (d_var (pv 0)) (da_cons (d_lc (own := [("_law_word", 9)]) rfl sc__law_face.nd (di_lst (d_var (pv 3))) (blkOk_by (by rfl)) (fun _ _ _ _ _ => (pg_name (i := 9) sc__law_face.nd rfl (by first | exact Or.inl rfl | exact Or.inr rfl))) (go_name (by decide)) (fun _ _ _ _ _ => (dts_one (d_cmpT (o_notin (hu65 hr)) (d_var (pv 9)) (d_var (pv 4))))) (fun _ _ _ _ _ => (d_var (pv 9)))) (da_cons d_int da_nil)))))
  (ds_cons (d_setLc (i := 6) (own := [("_law_call", 11)]) rfl sc__law_face.nd rfl rfl (by rfl) (di_lst (d_var (pv 4))) (blkOk_by (by rfl)) (fun _ _ _ _ _ => (pg_name (i := 11) sc__law_face.nd rfl (by first | exact Or.inl rfl | exact Or.inr rfl))) (go_name (by decide)) (fun _ _ _ _ _ => dts_nil) (fun _ _ _ _ _ => (d_op o_add (d_tup (da_cons d_str (da_cons (d_var (pv 11)) (da_cons (d_tup (da_cons (d_g G__law_take (hr.mono (by decide)) hg rfl (da_cons (d_var (pv 0)) (da_cons d_int da_nil))) (da_cons (d_g G__law_take (hr.mono (by decide)) hg rfl (da_cons (d_var (pv 0)) (da_cons d_int da_nil))) da_nil))) da_nil)))) (d_g G__law_shape (hr.mono (by decide)) hg rfl (da_cons (d_var (pv 0)) da_nil)))))
  (ds_cons (d_set (i := 6) sc__law_face.nd rfl (by first | exact Or.inl rfl | exact Or.inr rfl) (d_op o_add (d_var (pv 6)) (d_lc (own := [("_law_call", 11)]) rfl sc__law_face.nd (di_lst (d_var (pv 5))) (blkOk_by (by rfl)) (fun _ _ _ _ _ => (pg_name (i := 11) sc__law_face.nd rfl (by first | exact Or.inl rfl | exact Or.inr rfl))) (go_name (by decide)) (fun _ _ _ _ _ => dts_nil) (fun _ _ _ _ _ => (d_tup (da_cons d_str (da_cons (d_var (pv 11)) (da_cons (d_tup (da_cons (d_g G__law_take (hr.mono (by decide)) hg rfl (da_cons (d_var (pv 0)) (da_cons d_int da_nil))) (da_cons (d_g G__law_take (hr.mono (by decide)) hg rfl (da_cons (d_var (pv 0)) (da_cons d_int da_nil))) da_nil))) da_nil))))))))
  (ds_cons (d_setLc (i := 7) (own := [("_law_hook", 12)]) rfl sc__law_face.nd rfl rfl (by rfl) (di_lst (d_lst (da_cons d_str (da_cons d_str (da_cons d_str da_nil))))) (blkOk_by (by rfl)) (fun _ _ _ _ _ => (pg_name (i := 12) sc__law_face.nd rfl (by first | exact Or.inl rfl | exact Or.inr rfl))) (go_name (by decide)) (fun _ _ _ _ _ => (dts_one (d_cmpT o_gt (d_g G__law_take (hr.mono (by decide)) hg rfl (da_cons (d_var (pv 0)) (da_cons d_int da_nil))) (d_op o_mul d_int (d_ct c_int rfl B.int (by decide +kernel) (da_cons (d_cmp (o_eq (hu64 hr)) (d_var (pv 12)) d_str) da_nil)))))) (fun _ _ _ _ _ => (d_var (pv 12))))
  (ds_cons (d_set (i := 6) sc__law_face.nd rfl (by first | exact Or.inl rfl | exact Or.inr rfl) (d_op o_add (d_var (pv 6)) (d_lc (own := [("_law_hook", 12)]) rfl sc__law_face.nd (di_lst (d_var (pv 7))) (blkOk_by (by rfl)) (fun _ _ _ _ _ => (pg_name (i := 12) sc__law_face.nd rfl (by first | exact Or.inl rfl | exact Or.inr rfl))) (go_name (by decide)) (fun _ _ _ _ _ => dts_nil) (fun _ _ _ _ _ => (d_g G__law_hook_row (hr.mono (by decide)) hg rfl (da_cons (d_var (pv 0)) (da_cons (d_var (pv 12)) (da_cons (d_var (pv 1)) (da_cons (d_var (pv 2)) da_nil)))))))))
  (ds_cons (d_set (i := 6) sc__law_face.nd rfl (by first | exact Or.inl rfl | exact Or.inr rfl) (d_op o_add (d_var (pv 6)) (d_lc (own := [("_law_event", 14)]) rfl sc__law_face.nd (di_lst (d_g G__law_some (hr.mono (by decide)) hg rfl (da_cons (d_var (pv 0)) (da_cons (d_lst (da_cons d_str (da_cons d_str da_nil))) (da_cons d_int da_nil))))) (blkOk_by (by rfl)) (fun _ _ _ _ _ => (pg_name (i := 14) sc__law_face.nd rfl (by first | exact Or.inl rfl | exact Or.inr rfl))) (go_name (by decide)) (fun _ _ _ _ _ => dts_nil) (fun _ _ _ _ _ => (d_tup (da_cons d_str (da_cons (d_var (pv 14)) (da_cons (d_g G__law_take (hr.mono (by decide)) hg rfl (da_cons (d_var (pv 0)) (da_cons d_int da_nil))) da_nil))))))))
  (ds_cons (d_set (i := 8) sc__law_face.nd rfl (by first | exact Or.inl rfl | exact Or.inr rfl) (d_lst da_nil))
  (ds_cons (d_for PassesOwn.never rfl (di_lst (d_lst (da_cons d_str (da_cons d_str (da_cons d_str (da_cons d_str (da_cons d_str da_nil))))))) (dg_name (pg_name (i := 9) sc__law_face.nd rfl (by first | exact Or.inl rfl | exact Or.inr rfl))) (ds_one (d_set (i := 8) sc__law_face.nd rfl (by first | exact Or.inl rfl | exact Or.inr rfl) (d_op o_add (d_var (pv 8)) (d_lc (own := [("_law_what", 15)]) rfl sc__law_face.nd (di_lst (d_g G__law_some (hr.mono (by decide)) hg rfl (da_cons (d_var (pv 0)) (da_cons (d_lst (da_cons d_str (da_cons d_str da_nil))) (da_cons d_int da_nil))))) (blkOk_by (by rfl)) (fun _ _ _ _ _ => (pg_name (i := 15) sc__law_face.nd rfl (by first | exact Or.inl rfl | exact Or.inr rfl))) (go_name (by decide)) (fun _ _ _ _ _ => dts_nil) (fun _ _ _ _ _ => (d_tup (da_cons d_str (da_cons (d_var (pv 9)) (da_cons (d_var (pv 15)) (da_cons (d_op o_add d_int (d_g G__law_take (hr.mono (by decide)) hg rfl (da_cons (d_var (pv 0)) (da_cons d_int da_nil)))) da_nil)))))))))))
  (ds_cons (d_setLc (i := 10) (own := [("_law_name", 13)]) rfl sc__law_face.nd rfl rfl (by rfl) (di_lst (d_g G__law_some (hr.mono (by decide)) hg rfl (da_cons (d_var (pv 0)) (da_cons (d_lst (da_cons d_str (da_cons d_str da_nil))) (da_cons d_int da_nil))))) (blkOk_by (by rfl)) (fun _ _ _ _ _ => (pg_name (i := 13) sc__law_face.nd rfl (by first | exact Or.inl rfl | exact Or.inr rfl))) (go_name (by decide)) (fun _ _ _ _ _ => dts_nil) (fun _ _ _ _ _ => (d_tup (da_cons d_str (da_cons (d_var (pv 13)) (da_cons (d_g G__law_number (hr.mono (by decide)) hg rfl (da_cons (d_var (pv 0)) da_nil)) da_nil))))))
  (ds_cons (d_set (i := 10) sc__law_face.nd rfl (by first | exact Or.inl rfl | exact Or.inr rfl) (d_op o_add (d_var (pv 10)) (d_lc (own := [("_law_name", 13)]) rfl sc__law_face.nd (di_lst (d_lst (da_cons d_str (da_cons d_str da_nil)))) (blkOk_by (by rfl)) (fun _ _ _ _ _ => (pg_name (i := 13) sc__law_face.nd rfl (by first | exact Or.inl rfl | exact Or.inr rfl))) (go_name (by decide)) (fun _ _ _ _ _ => (dts_one (d_cmpT o_gt (d_g G__law_take (hr.mono (by decide)) hg rfl (da_cons (d_var (pv 0)) (da_cons d_int da_nil))) d_int))) (fun _ _ _ _ _ => (d_g G__law_kept_row (hr.mono (by decide)) hg rfl (da_cons (d_var (pv 0)) (da_cons d_str (da_cons (d_var (pv 13)) da_nil))))))))
  (ds_cons (d_set (i := 10) sc__law_face.nd rfl (by first | exact Or.inl rfl | exact Or.inr rfl) (d_op o_add (d_var (pv 10)) (d_lc (own := [("_law_name", 13)]) rfl sc__law_face.nd (di_lst (d_g G__law_some (hr.mono (by decide)) hg rfl (da_cons (d_var (pv 0)) (da_cons (d_lst (da_cons d_str (da_cons d_str da_nil))) (da_cons d_int da_nil))))) (blkOk_by (by rfl)) (fun _ _ _ _ _ => (pg_name (i := 13) sc__law_face.nd rfl (by first | exact Or.inl rfl | exact Or.inr rfl))) (go_name (by decide)) (fun _ _ _ _ _ => dts_nil) (fun _ _ _ _ _ => (d_g G__law_kept_row (hr.mono (by decide)) hg rfl (da_cons (d_var (pv 0)) (da_cons d_str (da_cons (d_var (pv 13)) da_nil))))))))
  (ds_cons (d_set (i := 10) sc__law_face.nd rfl (by first | exact Or.inl rfl | exact Or.inr rfl) (d_op o_add (d_var (pv 10)) (d_op o_mul (d_lst (da_cons (d_tup (da_cons d_str (da_cons (d_op o_add d_int (d_g G__law_take (hr.mono (by decide)) hg rfl (da_cons (d_var (pv 0)) (da_cons d_int da_nil)))) da_nil))) da_nil)) (d_ct c_int rfl B.int (by decide +kernel) (da_cons (d_cmp (o_eq (hu64 hr)) (d_g G__law_take (hr.mono (by decide)) hg rfl (da_cons (d_var (pv 0)) (da_cons d_int da_nil))) d_int) da_nil)))))
  (ds_one (d_ret (d_ct c_tuple rfl B.tuple (by decide +kernel) (da_cons (d_op o_add (d_op o_add (d_var (pv 6)) (d_slice (d_var (pv 8)) dp_none (dp_some (d_op o_sub (d_op o_sub d_int (d_cb c_len rfl B.len (by decide +kernel) (da_cons (d_var (pv 6)) da_nil))) (d_cb c_len rfl B.len (by decide +kernel) (da_cons (d_var (pv 10)) da_nil)))))) (d_var (pv 10))) da_nil))))))))))))))))))
@[reducible] noncomputable def t__law_step  : TS2 := (sSeq (sAsg (dG r__law_take (dCons (dVar 0) (dCons (dC (.int 15)) dNil))) (gN 3))
  (sSeq (sIf (dB (dOp lt2 (dVar 3) (dC (.int 3)))) (sRet (dTup (dCons (dOp ix2 (dLst (dCons (dC (.str "set")) (dCons (dC (.str "add")) (dCons (dC (.str "times")) dNil)))) (dVar 3)) (dCons (dG r__law_number (dCons (dVar 0) dNil)) dNil)))) sNext)
  (sSeq (sIf (dB (dOp lt2 (dVar 3) (dC (.int 11)))) (sSeq (sAsg (dOp ix2 (dLst (dCons (dC (.str "load")) (dCons (dC (.str "keep")) (dCons (dC (.str "read")) (dCons (dC (.str "get")) (dCons (dC (.str "put")) (dCons (dC (.str "ask")) (dCons (dC (.str "emit")) (dCons (dC (.str "send")) dNil))))))))) (dOp sub2 (dVar 3) (dC (.int 3)))) (gN 4))
  (sRet (dTup (dCons (dVar 4) (dCons (dOp ix2 (dLst (dCons (dC (.str "a")) (dCons (dC (.str "a")) (dCons (dC (.str "b")) (dCons (dC (.str "ab")) dNil))))) (dG r__law_take (dCons (dVar 0) (dCons (dC (.int 4)) dNil)))) dNil))))) sNext)
  (sSeq (sIf (dAnd (dB (dOp eq2 (dVar 3) (dC (.int 11)))) (dB (dOp lt2 (dOp add2 (dVar 1) (dC (.int 1))) (dVar 2)))) (sRet (dTup (dCons (dC (.str "pass")) (dCons (dOp add2 (dC (.int 1)) (dG r__law_take (dCons (dVar 0) (dCons (dOp sub2 (dOp sub2 (dVar 2) (dVar 1)) (dC (.int 1))) dNil)))) dNil)))) sNext)
  (sSeq (sIf (dAnd (dB (dOp eq2 (dVar 3) (dC (.int 12)))) (dAnd (dB (dOp gt2 (dVar 1) (dC (.int 0)))) (dB (dOp eq2 (dG r__law_take (dCons (dVar 0) (dCons (dC (.int 2)) dNil))) (dC (.int 0)))))) (sRet (dTup (dCons (dC (.str "back")) (dCons (dOp add2 (dC (.int 1)) (dG r__law_take (dCons (dVar 0) (dCons (dVar 1) dNil)))) dNil)))) sNext)
  (sSeq (sIf (dAnd (dB (dOp eq2 (dVar 3) (dC (.int 13)))) (dB (dOp eq2 (dG r__law_take (dCons (dVar 0) (dCons (dC (.int 3)) dNil))) (dC (.int 0))))) (sRet (dTup (dCons (dC (.str "refuse")) dNil))) sNext)
  (sRet (dTup (dCons (dC (.str "add")) (dCons (dOp add2 (dC (.int 1)) (dG r__law_take (dCons (dVar 0) (dCons (dC (.int 5)) dNil)))) dNil))))))))))
theorem sc__law_step : FnScope ["_law_bag_here", "_law_at", "_law_many", "_law_way", "_law_word"] ["_law_bag_here", "_law_at", "_law_many"] (defScope s__law_step) := ⟨rfl, rfl, rfl, by decide +kernel, rfl, by decide +kernel, by decide +kernel⟩
theorem b__law_step (B : Fr mg)  (G__law_take : Gf P w K mg base 1 "_law_take" ["_law_bag_here", "_law_many"] (r__law_take )) (G__law_number : Gf P w K mg base 2 "_law_number" ["_law_bag_here"] (r__law_number )) (f : Addr) (cdv : Value) (A : Around) (outer : List Env) (s : Shared) (H : Hp) (E : XK) (hr : Room 2 (A.deeper (PyProof.Rows.envOfC "_law_step" (defScope s__law_step) s.heap.objs.size f cdv)))
    (hg : (A.deeper (PyProof.Rows.envOfC "_law_step" (defScope s__law_step) s.heap.objs.size f cdv)).guards = some []) : PSs2 (cxOf CX0 P w K mg base ["_law_bag_here", "_law_at", "_law_many", "_law_way", "_law_word"] "_law_step" (defScope s__law_step) f cdv A outer s H E).nox (defBody s__law_step) (t__law_step ) :=
  (ds_cons (d_set (i := 3) sc__law_step.nd rfl (by first | exact Or.inl rfl | exact Or.inr rfl) (d_g G__law_take (hr.mono (by decide)) hg rfl (da_cons (d_var (pv 0)) (da_cons d_int da_nil))))
  (ds_cons (d_if (d_cmpT o_lt (d_var (pv 3)) d_int) (ds_one (d_ret (d_tup (da_cons (d_ix (o_ix (hu1 hr)) (d_lst (da_cons d_str (da_cons d_str (da_cons d_str da_nil)))) (d_var (pv 3))) (da_cons (d_g G__law_number (hr.mono (by decide)) hg rfl (da_cons (d_var (pv 0)) da_nil)) da_nil))))) ds_nil)
  (ds_cons (d_if (d_cmpT o_lt (d_var (pv 3)) d_int) (ds_cons (d_set (i := 4) sc__law_step.nd rfl (by first | exact Or.inl rfl | exact Or.inr rfl) (d_ix (o_ix (hu1 hr)) (d_lst (da_cons d_str (da_cons d_str (da_cons d_str (da_cons d_str (da_cons d_str (da_cons d_str (da_cons d_str (da_cons d_str da_nil))))))))) (d_op o_sub (d_var (pv 3)) d_int)))
  (ds_one (d_ret (d_tup (da_cons (d_var (pv 4)) (da_cons (d_ix (o_ix (hu1 hr)) (d_lst (da_cons d_str (da_cons d_str (da_cons d_str (da_cons d_str da_nil))))) (d_g G__law_take (hr.mono (by decide)) hg rfl (da_cons (d_var (pv 0)) (da_cons d_int da_nil)))) da_nil)))))) ds_nil)
  (ds_cons (d_if (PW.pt (d_andT (d_cmpT (o_eq (hu64 hr)) (d_var (pv 3)) d_int) (d_and1 (d_cmpT o_lt (d_op o_add (d_var (pv 1)) d_int) (d_var (pv 2)))))) (ds_one (d_ret (d_tup (da_cons d_str (da_cons (d_op o_add d_int (d_g G__law_take (hr.mono (by decide)) hg rfl (da_cons (d_var (pv 0)) (da_cons (d_op o_sub (d_op o_sub (d_var (pv 2)) (d_var (pv 1))) d_int) da_nil)))) da_nil))))) ds_nil)
  (ds_cons (d_if (PW.pt (d_andT (d_cmpT (o_eq (hu64 hr)) (d_var (pv 3)) d_int) (d_andT (d_cmpT o_gt (d_var (pv 1)) d_int) (d_and1 (d_cmpT (o_eq (hu64 hr)) (d_g G__law_take (hr.mono (by decide)) hg rfl (da_cons (d_var (pv 0)) (da_cons d_int da_nil))) d_int))))) (ds_one (d_ret (d_tup (da_cons d_str (da_cons (d_op o_add d_int (d_g G__law_take (hr.mono (by decide)) hg rfl (da_cons (d_var (pv 0)) (da_cons (d_var (pv 1)) da_nil)))) da_nil))))) ds_nil)
  (ds_cons (d_if (PW.pt (d_andT (d_cmpT (o_eq (hu64 hr)) (d_var (pv 3)) d_int) (d_and1 (d_cmpT (o_eq (hu64 hr)) (d_g G__law_take (hr.mono (by decide)) hg rfl (da_cons (d_var (pv 0)) (da_cons d_int da_nil))) d_int)))) (ds_one (d_ret (d_tup (da_cons d_str da_nil)))) ds_nil)
  (ds_one (d_ret (d_tup (da_cons d_str (da_cons (d_op o_add d_int (d_g G__law_take (hr.mono (by decide)) hg rfl (da_cons (d_var (pv 0)) (da_cons d_int da_nil)))) da_nil)))))))))))
@[reducible] noncomputable def t__law_body  : TS2 := (sSeq (sAsg (dLstM dNil) (gN 3))
  (sSeq (sFor (iTupD (dVar 1)) (gN 4) (sIf (dB (dOp in2 (dOp ix2 (dVar 4) (dC (.int 0))) (dTup (dCons (dC (.str "offer")) (dCons (dC (.str "hook")) (dCons (dC (.str "on")) dNil)))))) (sSeq (sAsg (dG r__law_take (dCons (dVar 0) (dCons (dC (.int 8)) dNil))) (gN 5))
  (sSeq (sAsg (dCB tuple2 (dCons (dLc (iRng (dCons (dVar 5) dNil)) (gN 8) dYes (dG r__law_step (dCons (dVar 0) (dCons (dVar 8) (dCons (dVar 5) dNil)))) [8]) dNil)) (gN 6))
  (sSeq (sAsg (dTup (dCons (dC (.str "stock")) (dCons (dOp ix2 (dVar 2) (dG r__law_take (dCons (dVar 0) (dCons (dCB len2 (dCons (dVar 2) dNil)) dNil)))) dNil))) (gN 7))
  (sDrop (dBM "list" append2 (dVar 3) (dCons (dOp ix2 (dLst (dCons (dTup (dCons (dC (.str "steps")) (dCons (dVar 6) dNil))) (dCons (dTup (dCons (dC (.str "steps")) (dCons (dVar 6) dNil))) (dCons (dVar 7) dNil)))) (dG r__law_take (dCons (dVar 0) (dCons (dC (.int 3)) dNil)))) dNil)))))) sNext))
  (sRet (dCB tuple2 (dCons (dVar 3) dNil)))))
theorem sc__law_body : FnScope ["_law_bag_here", "_law_face_here", "_law_names_here", "_law_found", "_law_row", "_law_many", "_law_steps", "_law_stock", "_law_at"] ["_law_bag_here", "_law_face_here", "_law_names_here"] (defScope s__law_body) := ⟨rfl, rfl, rfl, by decide +kernel, rfl, by decide +kernel, by decide +kernel⟩
theorem b__law_body (B : Fr mg)  (G__law_take : Gf P w K mg base 1 "_law_take" ["_law_bag_here", "_law_many"] (r__law_take )) (G__law_step : Gf P w K mg base 3 "_law_step" ["_law_bag_here", "_law_at", "_law_many"] (r__law_step )) (f : Addr) (cdv : Value) (A : Around) (outer : List Env) (s : Shared) (H : Hp) (E : XK) (hr : Room 3 (A.deeper (PyProof.Rows.envOfC "_law_body" (defScope s__law_body) s.heap.objs.size f cdv)))
    (hg : (A.deeper (PyProof.Rows.envOfC "_law_body" (defScope s__law_body) s.heap.objs.size f cdv)).guards = some []) : PSs2 (cxOf CX0 P w K mg base ["_law_bag_here", "_law_face_here", "_law_names_here", "_law_found", "_law_row", "_law_many", "_law_steps", "_law_stock", "_law_at"] "_law_body" (defScope s__law_body) f cdv A outer s H E).nox (defBody s__law_body) (t__law_body ) :=
  (ds_cons (d_set (i := 3) sc__law_body.nd rfl (by first | exact Or.inl rfl | exact Or.inr rfl) (d_lstM da_nil))
  (ds_cons (d_for PassesOwn.never rfl (di_tup (d_var (pv 1))) (dg_name (pg_name (i := 4) sc__law_body.nd rfl (by first | exact Or.inl rfl | exact Or.inr rfl))) (ds_one (d_if (d_cmpT (o_in (hu65 hr)) (d_ix (o_ix (hu1 hr)) (d_var (pv 4)) d_int) (d_tup (da_cons d_str (da_cons d_str (da_cons d_str da_nil))))) (ds_cons (d_set (i := 5) sc__law_body.nd rfl (by first | exact Or.inl rfl | exact Or.inr rfl) (d_g G__law_take (hr.mono (by decide)) hg rfl (da_cons (d_var (pv 0)) (da_cons d_int da_nil))))
  (ds_cons (d_set (i := 6) sc__law_body.nd rfl (by first | exact Or.inl rfl | exact Or.inr rfl) (d_ct c_tuple rfl B.tuple (by decide +kernel) (da_cons (d_lc (own := [("_law_at", 8)]) rfl sc__law_body.nd (di_rng rfl B.range (da_cons (d_var (pv 5)) da_nil)) (blkOk_by (by rfl)) (fun _ _ _ _ _ => (pg_name (i := 8) sc__law_body.nd rfl (by first | exact Or.inl rfl | exact Or.inr rfl))) (go_name (by decide)) (fun _ _ _ _ _ => dts_nil) (fun _ _ _ _ _ => (d_g G__law_step (hr.mono (by decide)) hg rfl (da_cons (d_var (pv 0)) (da_cons (d_var (pv 8)) (da_cons (d_var (pv 5)) da_nil)))))) da_nil)))
  (ds_cons (d_set (i := 7) sc__law_body.nd rfl (by first | exact Or.inl rfl | exact Or.inr rfl) (d_tup (da_cons d_str (da_cons (d_ix (o_ix (hu1 hr)) (d_var (pv 2)) (d_g G__law_take (hr.mono (by decide)) hg rfl (da_cons (d_var (pv 0)) (da_cons (d_cb c_len rfl B.len (by decide +kernel) (da_cons (d_var (pv 2)) da_nil)) da_nil)))) da_nil))))
  (ds_one (d_expr (d_bm F.plainAttrs_list F.slot_list_append F.type_list_append m_append (d_var (pv 3)) (da_cons (d_ix (o_ix (hu1 hr)) (d_lst (da_cons (d_tup (da_cons d_str (da_cons (d_var (pv 6)) da_nil))) (da_cons (d_tup (da_cons d_str (da_cons (d_var (pv 6)) da_nil))) (da_cons (d_var (pv 7)) da_nil)))) (d_g G__law_take (hr.mono (by decide)) hg rfl (da_cons (d_var (pv 0)) (da_cons d_int da_nil)))) da_nil))))))) ds_nil)))
  (ds_one (d_ret (d_ct c_tuple rfl B.tuple (by decide +kernel) (da_cons (d_var (pv 3)) da_nil))))))
@[reducible] noncomputable def t__law_make  : TS2 := (sSeq (sAsg (dG r__law_face (dCons (dVar 0) (dCons (dVar 1) (dCons (dVar 3) dNil)))) (gN 5))
  (sRet (dTup (dCons (dC (.str "make")) (dCons (dVar 1) (dCons (dVar 2) (dCons (dVar 5) (dCons (dG r__law_body (dCons (dVar 0) (dCons (dVar 5) (dCons (dVar 4) dNil)))) dNil))))))))
theorem sc__law_make : FnScope ["_law_bag_here", "_law_part", "_law_version", "_law_parts", "_law_names_here", "_law_face_here"] ["_law_bag_here", "_law_part", "_law_version", "_law_parts", "_law_names_here"] (defScope s__law_make) := ⟨rfl, rfl, rfl, by decide +kernel, rfl, by decide +kernel, by decide +kernel⟩
theorem b__law_make (B : Fr mg)  (G__law_body : Gf P w K mg base 4 "_law_body" ["_law_bag_here", "_law_face_here", "_law_names_here"] (r__law_body )) (G__law_face : Gf P w K mg base 4 "_law_face" ["_law_bag_here", "_law_part", "_law_parts"] (r__law_face )) (f : Addr) (cdv : Value) (A : Around) (outer : List Env) (s : Shared) (H : Hp) (E : XK) (hr : Room 4 (A.deeper (PyProof.Rows.envOfC "_law_make" (defScope s__law_make) s.heap.objs.size f cdv)))
    (hg : (A.deeper (PyProof.Rows.envOfC "_law_make" (defScope s__law_make) s.heap.objs.size f cdv)).guards = some []) : PSs2 (cxOf CX0 P w K mg base ["_law_bag_here", "_law_part", "_law_version", "_law_parts", "_law_names_here", "_law_face_here"] "_law_make" (defScope s__law_make) f cdv A outer s H E).nox (defBody s__law_make) (t__law_make ) :=
  (ds_cons (d_set (i := 5) sc__law_make.nd rfl (by first | exact Or.inl rfl | exact Or.inr rfl) (d_g G__law_face (hr.mono (by decide)) hg rfl (da_cons (d_var (pv 0)) (da_cons (d_var (pv 1)) (da_cons (d_var (pv 3)) da_nil)))))
  (ds_one (d_ret (d_tup (da_cons d_str (da_cons (d_var (pv 1)) (da_cons (d_var (pv 2)) (da_cons (d_var (pv 5)) (da_cons (d_g G__law_body (hr.mono (by decide)) hg rfl (da_cons (d_var (pv 0)) (da_cons (d_var (pv 5)) (da_cons (d_var (pv 4)) da_nil)))) da_nil)))))))))
@[reducible] noncomputable def t__law_turned  : TS2 := (sSeq (sAsg (dLstM dNil) (gN 2))
  (sSeq (sFor (iLst (dVar 1)) (gN 3) (sDrop (dBM "list" insert2 (dVar 2) (dCons (dG r__law_take (dCons (dVar 0) (dCons (dOp add2 (dCB len2 (dCons (dVar 2) dNil)) (dC (.int 1))) dNil))) (dCons (dVar 3) dNil)))))
  (sRet (dVarF 2))))
theorem sc__law_turned : FnScope ["_law_bag_here", "_law_some_here", "_law_found", "_law_one"] ["_law_bag_here", "_law_some_here"] (defScope s__law_turned) := ⟨rfl, rfl, rfl, by decide +kernel, rfl, by decide +kernel, by decide +kernel⟩
theorem b__law_turned (B : Fr mg)  (G__law_take : Gf P w K mg base 1 "_law_take" ["_law_bag_here", "_law_many"] (r__law_take )) (f : Addr) (cdv : Value) (A : Around) (outer : List Env) (s : Shared) (H : Hp) (E : XK) (hr : Room 1 (A.deeper (PyProof.Rows.envOfC "_law_turned" (defScope s__law_turned) s.heap.objs.size f cdv)))
    (hg : (A.deeper (PyProof.Rows.envOfC "_law_turned" (defScope s__law_turned) s.heap.objs.size f cdv)).guards = some []) : PSs2 (cxOf CX0 P w K mg base ["_law_bag_here", "_law_some_here", "_law_found", "_law_one"] "_law_turned" (defScope s__law_turned) f cdv A outer s H E).nox (defBody s__law_turned) (t__law_turned ) :=
  (ds_cons (d_set (i := 2) sc__law_turned.nd rfl (by first | exact Or.inl rfl | exact Or.inr rfl) (d_lstM da_nil))
  (ds_cons (d_for PassesOwn.never rfl (di_lst (d_var (pv 1))) (dg_name (pg_name (i := 3) sc__law_turned.nd rfl (by first | exact Or.inl rfl | exact Or.inr rfl))) (ds_one (d_expr (d_bm F.plainAttrs_list F.slot_list_insert F.type_list_insert m_insert (d_var (pv 2)) (da_cons (d_g G__law_take (hr.mono (by decide)) hg rfl (da_cons (d_var (pv 0)) (da_cons (d_op o_add (d_cb c_len rfl B.len (by decide +kernel) (da_cons (d_var (pv 2)) da_nil)) d_int) da_nil))) (da_cons (d_var (pv 3)) da_nil))))))
  (ds_one (d_ret (d_varF (pv 2))))))
@[reducible] noncomputable def t__law_any  : TS2 := (sRet (dOp ix2 (dVar 1) (dG r__law_take (dCons (dVar 0) (dCons (dCB len2 (dCons (dVar 1) dNil)) dNil)))))
theorem sc__law_any : FnScope ["_law_bag_here", "_law_some_here"] ["_law_bag_here", "_law_some_here"] (defScope s__law_any) := ⟨rfl, rfl, rfl, by decide +kernel, rfl, by decide +kernel, by decide +kernel⟩
theorem b__law_any (B : Fr mg)  (G__law_take : Gf P w K mg base 1 "_law_take" ["_law_bag_here", "_law_many"] (r__law_take )) (f : Addr) (cdv : Value) (A : Around) (outer : List Env) (s : Shared) (H : Hp) (E : XK) (hr : Room 1 (A.deeper (PyProof.Rows.envOfC "_law_any" (defScope s__law_any) s.heap.objs.size f cdv)))
    (hg : (A.deeper (PyProof.Rows.envOfC "_law_any" (defScope s__law_any) s.heap.objs.size f cdv)).guards = some []) : PSs2 (cxOf CX0 P w K mg base ["_law_bag_here", "_law_some_here"] "_law_any" (defScope s__law_any) f cdv A outer s H E).nox (defBody s__law_any) (t__law_any ) :=
  (ds_one (d_ret (d_ix (o_ix (hu1 hr)) (d_var (pv 1)) (d_g G__law_take (hr.mono (by decide)) hg rfl (da_cons (d_var (pv 0)) (da_cons (d_cb c_len rfl B.len (by decide +kernel) (da_cons (d_var (pv 1)) da_nil)) da_nil))))))
@[reducible] noncomputable def t__law_righted  : TS2 := (sRet (dTup (dCons (dC (.str "make")) (dCons (dVar 1) (dCons (dTup (dCons (dG r__law_take (dCons (dVar 0) (dCons (dC (.int 10)) dNil))) (dCons (dG r__law_take (dCons (dVar 0) (dCons (dC (.int 10)) dNil))) dNil))) (dCons (dCB tuple2 (dCons (dVar 2) dNil)) (dCons (dTup dNil) dNil)))))))
theorem sc__law_righted : FnScope ["_law_bag_here", "_law_part", "_law_rows"] ["_law_bag_here", "_law_part", "_law_rows"] (defScope s__law_righted) := ⟨rfl, rfl, rfl, by decide +kernel, rfl, by decide +kernel, by decide +kernel⟩
theorem b__law_righted (B : Fr mg)  (G__law_take : Gf P w K mg base 1 "_law_take" ["_law_bag_here", "_law_many"] (r__law_take )) (f : Addr) (cdv : Value) (A : Around) (outer : List Env) (s : Shared) (H : Hp) (E : XK) (hr : Room 1 (A.deeper (PyProof.Rows.envOfC "_law_righted" (defScope s__law_righted) s.heap.objs.size f cdv)))
    (hg : (A.deeper (PyProof.Rows.envOfC "_law_righted" (defScope s__law_righted) s.heap.objs.size f cdv)).guards = some []) : PSs2 (cxOf CX0 P w K mg base ["_law_bag_here", "_law_part", "_law_rows"] "_law_righted" (defScope s__law_righted) f cdv A outer s H E).nox (defBody s__law_righted) (t__law_righted ) :=
  (ds_one (d_ret (d_tup (da_cons d_str (da_cons (d_var (pv 1)) (da_cons (d_tup (da_cons (d_g G__law_take (hr.mono (by decide)) hg rfl (da_cons (d_var (pv 0)) (da_cons d_int da_nil))) (da_cons (d_g G__law_take (hr.mono (by decide)) hg rfl (da_cons (d_var (pv 0)) (da_cons d_int da_nil))) da_nil))) (da_cons (d_ct c_tuple rfl B.tuple (by decide +kernel) (da_cons (d_var (pv 2)) da_nil)) (da_cons (d_tup da_nil) da_nil))))))))
@[reducible] noncomputable def t__law_right_rows  : TS2 := (sSeq (sAsg (dLst dNil) (gN 1))
  (sSeq (sFor (iLst (dLst (dCons (dC (.str "emit")) (dCons (dC (.str "get")) (dCons (dC (.str "put")) (dCons (dC (.str "read")) (dCons (dC (.str "send")) dNil))))))) (gN 2) (sAsg (dOp add2 (dVar 1) (dLc (iLst (dG r__law_some (dCons (dVar 0) (dCons (dLst (dCons (dC (.str "a")) (dCons (dC (.str "ab")) (dCons (dC (.str "b")) dNil)))) (dCons (dC (.int 3)) dNil))))) (gN 3) dYes (dTup (dCons (dC (.str "right")) (dCons (dVar 2) (dCons (dVar 3) (dCons (dOp add2 (dC (.int 1)) (dG r__law_take (dCons (dVar 0) (dCons (dC (.int 9)) dNil)))) dNil))))) [3])) (gN 1)))
  (sRet (dVar 1))))
theorem sc__law_right_rows : FnScope ["_law_bag_here", "_law_found", "_law_word", "_law_what"] ["_law_bag_here"] (defScope s__law_right_rows) := ⟨rfl, rfl, rfl, by decide +kernel, rfl, by decide +kernel, by decide +kernel⟩
theorem b__law_right_rows (B : Fr mg)  (G__law_some : Gf P w K mg base 2 "_law_some" ["_law_bag_here", "_law_words", "_law_many"] (r__law_some )) (G__law_take : Gf P w K mg base 1 "_law_take" ["_law_bag_here", "_law_many"] (r__law_take )) (f : Addr) (cdv : Value) (A : Around) (outer : List Env) (s : Shared) (H : Hp) (E : XK) (hr : Room 2 (A.deeper (PyProof.Rows.envOfC "_law_right_rows" (defScope s__law_right_rows) s.heap.objs.size f cdv)))
    (hg : (A.deeper (PyProof.Rows.envOfC "_law_right_rows" (defScope s__law_right_rows) s.heap.objs.size f cdv)).guards = some []) : PSs2 (cxOf CX0 P w K mg base ["_law_bag_here", "_law_found", "_law_word", "_law_what"] "_law_right_rows" (defScope s__law_right_rows) f cdv A outer s H E).nox (defBody s__law_right_rows) (t__law_right_rows ) :=
  (ds_cons (d_set (i := 1) sc__law_right_rows.nd rfl (by first | exact Or.inl rfl | exact Or.inr rfl) (d_lst da_nil))
  (ds_cons (d_for PassesOwn.never rfl (di_lst (d_lst (da_cons d_str (da_cons d_str (da_cons d_str (da_cons d_str (da_cons d_str da_nil))))))) (dg_name (pg_name (i := 2) sc__law_right_rows.nd rfl (by first | exact Or.inl rfl | exact Or.inr rfl))) (ds_one (d_set (i := 1) sc__law_right_rows.nd rfl (by first | exact Or.inl rfl | exact Or.inr rfl) (d_op o_add (d_var (pv 1)) (d_lc (own := [("_law_what", 3)]) rfl sc__law_right_rows.nd (di_lst (d_g G__law_some (hr.mono (by decide)) hg rfl (da_cons (d_var (pv 0)) (da_cons (d_lst (da_cons d_str (da_cons d_str (da_cons d_str da_nil)))) (da_cons d_int da_nil))))) (blkOk_by (by rfl)) (fun _ _ _ _ _ => (pg_name (i := 3) sc__law_right_rows.nd rfl (by first | exact Or.inl rfl | exact Or.inr rfl))) (go_name (by decide)) (fun _ _ _ _ _ => dts_nil) (fun _ _ _ _ _ => (d_tup (da_cons d_str (da_cons (d_var (pv 2)) (da_cons (d_var (pv 3)) (da_cons (d_op o_add d_int (d_g G__law_take (hr.mono (by decide)) hg rfl (da_cons (d_var (pv 0)) (da_cons d_int da_nil)))) da_nil)))))))))))
  (ds_one (d_ret (d_var (pv 1))))))
@[reducible] noncomputable def t__law_makes  : TS2 := (sSeq (sAsg (dLstM dNil) (gN 2))
  (sSeq (sFor (iLst (dVar 1)) (gN 3) (sIf (dB (dOp eq2 (dG r__law_take (dCons (dVar 0) (dCons (dC (.int 3)) dNil))) (dC (.int 0)))) (sDrop (dBM "list" append2 (dVar 2) (dCons (dG r__law_make (dCons (dVar 0) (dCons (dVar 3) (dCons (dTup (dCons (dC (.int 1)) (dCons (dC (.int 0)) dNil))) (dCons (dVar 1) (dCons (dLst (dCons (dC (.str "plain")) dNil)) dNil)))))) dNil))) (sDrop (dBM "list" append2 (dVar 2) (dCons (dG r__law_righted (dCons (dVar 0) (dCons (dVar 3) (dCons (dG r__law_right_rows (dCons (dVar 0) dNil)) dNil)))) dNil)))))
  (sRet (dVarF 2))))
theorem sc__law_makes : FnScope ["_law_bag_here", "_law_parts", "_law_found", "_law_part"] ["_law_bag_here", "_law_parts"] (defScope s__law_makes) := ⟨rfl, rfl, rfl, by decide +kernel, rfl, by decide +kernel, by decide +kernel⟩
theorem b__law_makes (B : Fr mg)  (G__law_take : Gf P w K mg base 1 "_law_take" ["_law_bag_here", "_law_many"] (r__law_take )) (G__law_make : Gf P w K mg base 5 "_law_make" ["_law_bag_here", "_law_part", "_law_version", "_law_parts", "_law_names_here"] (r__law_make )) (G__law_righted : Gf P w K mg base 2 "_law_righted" ["_law_bag_here", "_law_part", "_law_rows"] (r__law_righted )) (G__law_right_rows : Gf P w K mg base 3 "_law_right_rows" ["_law_bag_here"] (r__law_right_rows )) (f : Addr) (cdv : Value) (A : Around) (outer : List Env) (s : Shared) (H : Hp) (E : XK) (hr : Room 5 (A.deeper (PyProof.Rows.envOfC "_law_makes" (defScope s__law_makes) s.heap.objs.size f cdv)))
    (hg : (A.deeper (PyProof.Rows.envOfC "_law_makes" (defScope s__law_makes) s.heap.objs.size f cdv)).guards = some []) : PSs2 (cxOf CX0 P w K mg base ["_law_bag_here", "_law_parts", "_law_found", "_law_part"] "_law_makes" (defScope s__law_makes) f cdv A outer s H E).nox (defBody s__law_makes) (t__law_makes ) :=
  (ds_cons (d_set (i := 2) sc__law_makes.nd rfl (by first | exact Or.inl rfl | exact Or.inr rfl) (d_lstM da_nil))
  (ds_cons (d_for PassesOwn.never rfl (di_lst (d_var (pv 1))) (dg_name (pg_name (i := 3) sc__law_makes.nd rfl (by first | exact Or.inl rfl | exact Or.inr rfl))) (ds_one (d_if (d_cmpT (o_eq (hu64 hr)) (d_g G__law_take (hr.mono (by decide)) hg rfl (da_cons (d_var (pv 0)) (da_cons d_int da_nil))) d_int) (ds_one (d_expr (d_bm F.plainAttrs_list F.slot_list_append F.type_list_append m_append (d_var (pv 2)) (da_cons (d_g G__law_make (hr.mono (by decide)) hg rfl (da_cons (d_var (pv 0)) (da_cons (d_var (pv 3)) (da_cons (d_tup (da_cons d_int (da_cons d_int da_nil))) (da_cons (d_var (pv 1)) (da_cons (d_lst (da_cons d_str da_nil)) da_nil)))))) da_nil)))) (ds_one (d_expr (d_bm F.plainAttrs_list F.slot_list_append F.type_list_append m_append (d_var (pv 2)) (da_cons (d_g G__law_righted (hr.mono (by decide)) hg rfl (da_cons (d_var (pv 0)) (da_cons (d_var (pv 3)) (da_cons (d_g G__law_right_rows (hr.mono (by decide)) hg rfl (da_cons (d_var (pv 0)) da_nil)) da_nil)))) da_nil)))))))
  (ds_one (d_ret (d_varF (pv 2))))))
@[reducible] noncomputable def t__law_most  : TS2 := (sSeq (sAsg (dLst dNil) (gN 4))
  (sSeq (sFor (iLst (dVar 0)) (gN 5) (sAsg (dOp add2 (dVar 4) (dLc (iTupD (dOp ix2 (dVar 5) (dC (.int 3)))) (gN 6) (dAnd (dB (dOp eq2 (dOp ix2 (dVar 5) (dC (.int 1))) (dVar 1))) (dB (dOp eq2 (dSl sl2 (dVar 6) dNoPart (dPart (dC (.int 3)))) (dTup (dCons (dC (.str "right")) (dCons (dVar 2) (dCons (dVar 3) dNil))))))) (dVar 6) [6])) (gN 4)))
  (sRet (dOp ix2 (dOp add2 (dLc (iLst (dVar 4)) (gN 6) dYes (dOp ix2 (dVar 6) (dC (.int 3))) [6]) (dLst (dCons (dC (.int 0)) dNil))) (dC (.int 0))))))
theorem sc__law_most : FnScope ["_law_makes_here", "_law_part", "_law_word", "_law_what", "_law_rows", "_law_make_here", "_law_row"] ["_law_makes_here", "_law_part", "_law_word", "_law_what"] (defScope s__law_most) := ⟨rfl, rfl, rfl, by decide +kernel, rfl, by decide +kernel, by decide +kernel⟩
theorem b__law_most (B : Fr mg)  (f : Addr) (cdv : Value) (A : Around) (outer : List Env) (s : Shared) (H : Hp) (E : XK) (hr : Room 0 (A.deeper (PyProof.Rows.envOfC "_law_most" (defScope s__law_most) s.heap.objs.size f cdv)))
    (hg : (A.deeper (PyProof.Rows.envOfC "_law_most" (defScope s__law_most) s.heap.objs.size f cdv)).guards = some []) : PSs2 (cxOf CX0 P w K mg base ["_law_makes_here", "_law_part", "_law_word", "_law_what", "_law_rows", "_law_make_here", "_law_row"] "_law_most" (defScope s__law_most) f cdv A outer s H E).nox (defBody s__law_most) (t__law_most ) :=
  (ds_cons (d_set (i := 4) sc__law_most.nd rfl (by first | exact Or.inl rfl | exact Or.inr rfl) (d_lst da_nil))
  (ds_cons (d_for PassesOwn.never rfl (di_lst (d_var (pv 0))) (dg_name (pg_name (i := 5) sc__law_most.nd rfl (by first | exact Or.inl rfl | exact Or.inr rfl))) (ds_one (d_set (i := 4) sc__law_most.nd rfl (by first | exact Or.inl rfl | exact Or.inr rfl) (d_op o_add (d_var (pv 4)) (d_lc (own := [("_law_row", 6)]) rfl sc__law_most.nd (di_tup (d_ix (o_ix (hu1 hr)) (d_var (pv 5)) d_int)) (blkOk_by (by rfl)) (fun _ _ _ _ _ => (pg_name (i := 6) sc__law_most.nd rfl (by first | exact Or.inl rfl | exact Or.inr rfl))) (go_name (by decide)) (fun _ _ _ _ _ => (dts_one (PW.pt (d_andT (d_cmpT (o_eq (hu64 hr)) (d_ix (o_ix (hu1 hr)) (d_var (pv 5)) d_int) (d_var (pv 1))) (d_and1 (d_cmpT (o_eq (hu64 hr)) (d_slice (d_var (pv 6)) dp_none (dp_some d_int)) (d_tup (da_cons d_str (da_cons (d_var (pv 2)) (da_cons (d_var (pv 3)) da_nil)))))))))) (fun _ _ _ _ _ => (d_var (pv 6))))))))
  (ds_one (d_ret (d_ix (o_ix (hu1 hr)) (d_op o_add (d_lc (own := [("_law_row", 6)]) rfl sc__law_most.nd (di_lst (d_var (pv 4))) (blkOk_by (by rfl)) (fun _ _ _ _ _ => (pg_name (i := 6) sc__law_most.nd rfl (by first | exact Or.inl rfl | exact Or.inr rfl))) (go_name (by decide)) (fun _ _ _ _ _ => dts_nil) (fun _ _ _ _ _ => (d_ix (o_ix (hu1 hr)) (d_var (pv 6)) d_int))) (d_lst (da_cons d_int da_nil))) d_int)))))
@[reducible] noncomputable def t__law_wanted  : TS2 := (sSeq (sAsg (dLst (dCons (dC (.str "emit")) (dCons (dC (.str "get")) (dCons (dC (.str "put")) (dCons (dC (.str "read")) (dCons (dC (.str "send")) (dCons (dC (.str "send")) (dCons (dC (.str "ask")) (dCons (dC (.str "keep")) (dCons (dC (.str "load")) (dCons (dC (.str "right")) dNil))))))))))) (gN 2))
  (sRet (dTup (dCons (dG r__law_any (dCons (dVar 0) (dCons (dOp add2 (dVar 1) (dLst (dCons (dC (.str "zz")) dNil))) dNil))) (dCons (dG r__law_any (dCons (dVar 0) (dCons (dVar 2) dNil))) (dCons (dG r__law_any (dCons (dVar 0) (dCons (dLst (dCons (dC (.str "a")) (dCons (dC (.str "ab")) (dCons (dC (.str "b")) (dCons (dC (.str "zz")) dNil))))) dNil))) dNil))))))
theorem sc__law_wanted : FnScope ["_law_bag_here", "_law_parts", "_law_words"] ["_law_bag_here", "_law_parts"] (defScope s__law_wanted) := ⟨rfl, rfl, rfl, by decide +kernel, rfl, by decide +kernel, by decide +kernel⟩
theorem b__law_wanted (B : Fr mg)  (G__law_any : Gf P w K mg base 2 "_law_any" ["_law_bag_here", "_law_some_here"] (r__law_any )) (f : Addr) (cdv : Value) (A : Around) (outer : List Env) (s : Shared) (H : Hp) (E : XK) (hr : Room 2 (A.deeper (PyProof.Rows.envOfC "_law_wanted" (defScope s__law_wanted) s.heap.objs.size f cdv)))
    (hg : (A.deeper (PyProof.Rows.envOfC "_law_wanted" (defScope s__law_wanted) s.heap.objs.size f cdv)).guards = some []) : PSs2 (cxOf CX0 P w K mg base ["_law_bag_here", "_law_parts", "_law_words"] "_law_wanted" (defScope s__law_wanted) f cdv A outer s H E).nox (defBody s__law_wanted) (t__law_wanted ) :=
  (ds_cons (d_set (i := 2) sc__law_wanted.nd rfl (by first | exact Or.inl rfl | exact Or.inr rfl) (d_lst (da_cons d_str (da_cons d_str (da_cons d_str (da_cons d_str (da_cons d_str (da_cons d_str (da_cons d_str (da_cons d_str (da_cons d_str (da_cons d_str da_nil))))))))))))
  (ds_one (d_ret (d_tup (da_cons (d_g G__law_any (hr.mono (by decide)) hg rfl (da_cons (d_var (pv 0)) (da_cons (d_op o_add (d_var (pv 1)) (d_lst (da_cons d_str da_nil))) da_nil))) (da_cons (d_g G__law_any (hr.mono (by decide)) hg rfl (da_cons (d_var (pv 0)) (da_cons (d_var (pv 2)) da_nil))) (da_cons (d_g G__law_any (hr.mono (by decide)) hg rfl (da_cons (d_var (pv 0)) (da_cons (d_lst (da_cons d_str (da_cons d_str (da_cons d_str (da_cons d_str da_nil))))) da_nil))) da_nil)))))))
@[reducible] noncomputable def t__law_let (C_R : Addr) : TS2 := (sSeq (sAsg dNewT (gN 2))
  (sSeq (sFor (iLst (dVar 1)) (gN 3) (sAsg (dOp add2 (dBM "dict" get2 (dVar 2) (dCons (dVar 3) (dCons (dLst dNil) dNil))) (dLst (dCons (dM C_R "use" (r_Rights_use C_R) (dVar 0) (dCons (dOp ix2 (dVar 3) (dC (.int 0))) (dCons (dOp ix2 (dVar 3) (dC (.int 1))) (dCons (dOp ix2 (dVar 3) (dC (.int 2))) dNil)))) dNil))) (gSet (dVar 2) (dVar 3) set2)))
  (sRet (dVar 2))))
theorem sc__law_let : FnScope ["_law_rights", "_law_row", "_law_found", "_law_one"] ["_law_rights", "_law_row"] (defScope s__law_let) := ⟨rfl, rfl, rfl, by decide +kernel, rfl, by decide +kernel, by decide +kernel⟩
theorem b__law_let (B : Fr mg) {C_R : Addr} (T_R : TxR K C_R) (G_Rights_use : Gm P w K mg base 4 C_R "use" ["self", "part", "word", "what"] (r_Rights_use C_R)) (f : Addr) (cdv : Value) (A : Around) (outer : List Env) (s : Shared) (H : Hp) (E : XK) (hr : Room 4 (A.deeper (PyProof.Rows.envOfC "_law_let" (defScope s__law_let) s.heap.objs.size f cdv)))
    (hg : (A.deeper (PyProof.Rows.envOfC "_law_let" (defScope s__law_let) s.heap.objs.size f cdv)).guards = some []) : PSs2 (cxOf CX0 P w K mg base ["_law_rights", "_law_row", "_law_found", "_law_one"] "_law_let" (defScope s__law_let) f cdv A outer s H E).nox (defBody s__law_let) (t__law_let C_R) :=
  (ds_cons (d_set (i := 2) sc__law_let.nd rfl (by first | exact Or.inl rfl | exact Or.inr rfl) d_newT)
  (ds_cons (d_for PassesOwn.never rfl (di_lst (d_var (pv 1))) (dg_name (pg_name (i := 3) sc__law_let.nd rfl (by first | exact Or.inl rfl | exact Or.inr rfl))) (ds_one (d_asg (d_op o_add (d_bm F.plainAttrs_dict F.slot_dict_get F.type_dict_get (m_get (hu1 hr)) (d_var (pv 2)) (da_cons (d_var (pv 3)) (da_cons (d_lst da_nil) da_nil))) (d_lst (da_cons (d_m G_Rights_use T_R.cl (hr.mono (by decide)) (d_var (pv 0)) (da_cons (d_ix (o_ix (hu1 hr)) (d_var (pv 3)) d_int) (da_cons (d_ix (o_ix (hu1 hr)) (d_var (pv 3)) d_int) (da_cons (d_ix (o_ix (hu1 hr)) (d_var (pv 3)) d_int) da_nil)))) da_nil))) (dg_sub (d_var (pv 2)) (d_var (pv 3)) (s_set (hu1 hr))))))
  (ds_one (d_ret (d_var (pv 2))))))
@[reducible] noncomputable def t_law (C_R : Addr) : TS2 := (sSeq (sAsg (dG r__law_bag (dCons (dVar 0) dNil)) (gN 1))
  (sSeq (sAsg (dG r__law_names (dCons (dVar 1) (dCons (dOp add2 (dC (.int 1)) (dG r__law_take (dCons (dVar 1) (dCons (dC (.int 4)) dNil)))) dNil))) (gN 2))
  (sSeq (sAsg (dG r__law_makes (dCons (dVar 1) (dCons (dVar 2) dNil))) (gN 3))
  (sSeq (sAsg (dLc (iRng (dCons (dC (.int 3)) dNil)) (gN 14) dYes (dG r__law_wanted (dCons (dVar 1) (dCons (dVar 2) dNil))) [14]) (gN 4))
  (sSeq (sFor (iLst (dVar 3)) (gN 5) (sAsg (dOp add2 (dVar 4) (dSl sl2 (dLc (iTupD (dOp ix2 (dVar 5) (dC (.int 3)))) (gN 6) (dB (dOp eq2 (dOp ix2 (dVar 6) (dC (.int 0))) (dC (.str "right")))) (dTup (dCons (dOp ix2 (dVar 5) (dC (.int 1))) (dCons (dOp ix2 (dVar 6) (dC (.int 1))) (dCons (dOp ix2 (dVar 6) (dC (.int 2))) dNil)))) [6]) dNoPart (dPart (dC (.int 3))))) (gN 4)))
  (sSeq (sAsg (dSl sl2 (dLc (iEnumL (dCons (dVar 4) dNil)) (gT 2 (gCons2 (gN 14) (gCons2 (gN 8) gNil2))) (dB (dOp notin2 (dVar 8) (dSl sl2 (dVar 4) dNoPart (dPart (dVar 14))))) (dVar 8) [14, 8]) dNoPart (dPart (dC (.int 6)))) (gN 4))
  (sSeq (sAsg (dLst dNil) (gN 6))
  (sSeq (sAsg dNewT (gN 7))
  (sSeq (sFor (iLst (dVar 4)) (gN 8) (sSeq (sAsg (dG r__law_take (dCons (dVar 1) (dCons (dC (.int 13)) dNil))) (gN 10))
  (sSeq (sAsg (dOp add2 (dVar 6) (dOp mul2 (dLst (dCons (dVar 8) dNil)) (dVar 10))) (gN 6))
  (sSeq (sAsg (dG r__law_most (dCons (dVar 3) (dCons (dOp ix2 (dVar 8) (dC (.int 0))) (dCons (dOp ix2 (dVar 8) (dC (.int 1))) (dCons (dOp ix2 (dVar 8) (dC (.int 2))) dNil))))) (gN 11))
  (sSeq (sAsg (dLc (iRng (dCons (dVar 10) dNil)) (gN 14) dYes (dOp ix2 (dLst (dCons (dC .non) (dCons (dC (.str "often")) dNil))) (dCB int2 (dCons (dOp ge2 (dVar 14) (dVar 11)) dNil))) [14]) (gN 12))
  (sSeq (sIf (dB (dOp eq2 (dVar 11) (dC (.int 0)))) (sAsg (dOp mul2 (dLst (dCons (dC (.str "right")) dNil)) (dVar 10)) (gN 12)) sNext)
  (sIf (dB (dOp gt2 (dVar 10) (dC (.int 0)))) (sAsg (dVar 12) (gSet (dVar 7) (dVar 8) set2)) sNext)))))))
  (sSeq (sFor (iRng (dCons (dC (.int 3)) dNil)) (gN 9) (sSeq (sAsg (dG (r__law_let C_R) (dCons (dMake C_R (r_Rights___init__ C_R) [.non] (dCons (dG r__law_turned (dCons (dVar 1) (dCons (dVar 3) dNil))) dNil)) (dCons (dG r__law_turned (dCons (dVar 1) (dCons (dVar 6) dNil))) dNil))) (gN 13))
  (sSeq (sIf (dNot (dB (dG r__law_alike (dCons (dCB sortD2 (dCons (dCB listD2 (dCons (dVar 13) dNil)) dNil)) (dCons (dCB sortD2 (dCons (dCB listD2 (dCons (dVar 7) dNil)) dNil)) dNil))))) (sRet (dC (.bl false))) sNext)
  (sIf (dNot (dB (dCB all2 (dCons (dLock (dLc (iKeysD (dVar 7)) (gN 8) dYes (dG r__law_alike (dCons (dOp ix2 (dVar 13) (dVar 8)) (dCons (dOp ix2 (dVar 7) (dVar 8)) dNil))) [8])) dNil)))) (sRet (dC (.bl false))) sNext))))
  (sSeq (sLock (sFor (iKeysD (dVar 7)) (gN 8) (sIf (dNot (dB (dG r__law_alike (dCons (dG (r__law_let C_R) (dCons (dMake C_R (r_Rights___init__ C_R) [.non] (dCons (dVar 3) dNil)) (dCons (dOp mul2 (dLst (dCons (dVar 8) dNil)) (dCB len2 (dCons (dOp ix2 (dVar 7) (dVar 8)) dNil))) dNil))) (dCons (dDisp1 (dVar 8) (dOp ix2 (dVar 7) (dVar 8))) dNil))))) (sRet (dC (.bl false))) sNext)))
  (sRet (dC (.bl true))))))))))))))
theorem sc_law : FnScope ["_law_script", "_law_bag_here", "_law_parts", "_law_makes_here", "_law_things", "_law_make_here", "_law_row", "_law_due", "_law_one", "_law_turn", "_law_many", "_law_most_here", "_law_told", "_law_found", "_law_k"] ["_law_script"] (defScope s_law) := ⟨rfl, rfl, rfl, by decide +kernel, rfl, by decide +kernel, by decide +kernel⟩
theorem b_law (B : Fr mg) {C_R : Addr} (T_R : TxR K C_R) (G__law_alike : Gf P w K mg base 1 "_law_alike" ["_law_found", "_law_due"] (r__law_alike )) (G__law_let : Gf P w K mg base 5 "_law_let" ["_law_rights", "_law_row"] (r__law_let C_R)) (G__law_turned : Gf P w K mg base 2 "_law_turned" ["_law_bag_here", "_law_some_here"] (r__law_turned )) (G__law_most : Gf P w K mg base 1 "_law_most" ["_law_makes_here", "_law_part", "_law_word", "_law_what"] (r__law_most )) (G__law_take : Gf P w K mg base 1 "_law_take" ["_law_bag_here", "_law_many"] (r__law_take )) (G__law_wanted : Gf P w K mg base 3 "_law_wanted" ["_law_bag_here", "_law_parts"] (r__law_wanted )) (G__law_makes : Gf P w K mg base 6 "_law_makes" ["_law_bag_here", "_law_parts"] (r__law_makes )) (G__law_names : Gf P w K mg base 2 "_law_names" ["_law_bag_here", "_law_many"] (r__law_names )) (G__law_bag : Gf P w K mg base 1 "_law_bag" ["_law_script"] (r__law_bag )) (G_Rights : Gk P w K mg base 1 "Rights" C_R ["self", "makes", "bars"] [.non] (r_Rights___init__ C_R)) (f : Addr) (cdv : Value) (A : Around) (outer : List Env) (s : Shared) (H : Hp) (E : XK) (hr : Room 6 (A.deeper (PyProof.Rows.envOfC "law" (defScope s_law) s.heap.objs.size f cdv)))
    (hg : (A.deeper (PyProof.Rows.envOfC "law" (defScope s_law) s.heap.objs.size f cdv)).guards = some []) : PSs2 (cxOf CX0 P w K mg base ["_law_script", "_law_bag_here", "_law_parts", "_law_makes_here", "_law_things", "_law_make_here", "_law_row", "_law_due", "_law_one", "_law_turn", "_law_many", "_law_most_here", "_law_told", "_law_found", "_law_k"] "law" (defScope s_law) f cdv A outer s H E).nox (defBody s_law) (t_law C_R) :=
  (ds_cons (d_set (i := 1) sc_law.nd rfl (by first | exact Or.inl rfl | exact Or.inr rfl) (d_g G__law_bag (hr.mono (by decide)) hg rfl (da_cons (d_var (pv 0)) da_nil)))
  (ds_cons (d_set (i := 2) sc_law.nd rfl (by first | exact Or.inl rfl | exact Or.inr rfl) (d_g G__law_names (hr.mono (by decide)) hg rfl (da_cons (d_var (pv 1)) (da_cons (d_op o_add d_int (d_g G__law_take (hr.mono (by decide)) hg rfl (da_cons (d_var (pv 1)) (da_cons d_int da_nil)))) da_nil))))
  (ds_cons (d_set (i := 3) sc_law.nd rfl (by first | exact Or.inl rfl | exact Or.inr rfl) (d_g G__law_makes (hr.mono (by decide)) hg rfl (da_cons (d_var (pv 1)) (da_cons (d_var (pv 2)) da_nil))))
  (ds_cons (d_set (i := 4) sc_law.nd rfl (by first | exact Or.inl rfl | exact Or.inr rfl) (d_lc (own := [("_law_k", 14)]) rfl sc_law.nd (di_rng rfl B.range (da_cons d_int da_nil)) (blkOk_by (by rfl)) (fun _ _ _ _ _ => (pg_name (i := 14) sc_law.nd rfl (by first | exact Or.inl rfl | exact Or.inr rfl))) (go_name (by decide)) (fun _ _ _ _ _ => dts_nil) (fun _ _ _ _ _ => (d_g G__law_wanted (hr.mono (by decide)) hg rfl (da_cons (d_var (pv 1)) (da_cons (d_var (pv 2)) da_nil))))))
  (ds_cons (d_for PassesOwn.never rfl (di_lst (d_var (pv 3))) (dg_name (pg_name (i := 5) sc_law.nd rfl (by first | exact Or.inl rfl | exact Or.inr rfl))) (ds_one (d_set (i := 4) sc_law.nd rfl (by first | exact Or.inl rfl | exact Or.inr rfl) (d_op o_add (d_var (pv 4)) (d_slice (d_lc (own := [("_law_row", 6)]) rfl sc_law.nd (di_tup (d_ix (o_ix (hu1 hr)) (d_var (pv 5)) d_int)) (blkOk_by (by rfl)) (fun _ _ _ _ _ => (pg_name (i := 6) sc_law.nd rfl (by first | exact Or.inl rfl | exact Or.inr rfl))) (go_name (by decide)) (fun _ _ _ _ _ => (dts_one (d_cmpT (o_eq (hu64 hr)) (d_ix (o_ix (hu1 hr)) (d_var (pv 6)) d_int) d_str))) (fun _ _ _ _ _ => (d_tup (da_cons (d_ix (o_ix (hu1 hr)) (d_var (pv 5)) d_int) (da_cons (d_ix (o_ix (hu1 hr)) (d_var (pv 6)) d_int) (da_cons (d_ix (o_ix (hu1 hr)) (d_var (pv 6)) d_int) da_nil)))))) dp_none (dp_some d_int))))))
  (ds_cons (d_set (i := 4) sc_law.nd rfl (by first | exact Or.inl rfl | exact Or.inr rfl) (d_slice (d_lc (own := [("_law_k", 14), ("_law_one", 8)]) rfl sc_law.nd (di_enum rfl B.enumerate (da_cons (d_var (pv 4)) da_nil)) (blkOk_by (by rfl)) (fun _ _ _ _ _ => (pg_tup rfl (pgs_cons (pg_name (i := 14) sc_law.nd rfl (by first | exact Or.inl rfl | exact Or.inr rfl)) (pgs_cons (pg_name (i := 8) sc_law.nd rfl (by first | exact Or.inl rfl | exact Or.inr rfl)) pgs_nil)))) (go_tup (gos_cons (go_name (by decide)) (gos_cons (go_name (by decide)) gos_nil))) (fun _ _ _ _ _ => (dts_one (d_cmpT (o_notin (hu65 hr)) (d_var (pv 8)) (d_slice (d_var (pv 4)) dp_none (dp_some (d_var (pv 14))))))) (fun _ _ _ _ _ => (d_var (pv 8)))) dp_none (dp_some d_int)))
  (ds_cons (d_set (i := 6) sc_law.nd rfl (by first | exact Or.inl rfl | exact Or.inr rfl) (d_lst da_nil))
  (ds_cons (d_set (i := 7) sc_law.nd rfl (by first | exact Or.inl rfl | exact Or.inr rfl) d_newT)
  (ds_cons (d_for PassesOwn.never rfl (di_lst (d_var (pv 4))) (dg_name (pg_name (i := 8) sc_law.nd rfl (by first | exact Or.inl rfl | exact Or.inr rfl))) (ds_cons (d_set (i := 10) sc_law.nd rfl (by first | exact Or.inl rfl | exact Or.inr rfl) (d_g G__law_take (hr.mono (by decide)) hg rfl (da_cons (d_var (pv 1)) (da_cons d_int da_nil))))
  (ds_cons (d_set (i := 6) sc_law.nd rfl (by first | exact Or.inl rfl | exact Or.inr rfl) (d_op o_add (d_var (pv 6)) (d_op o_mul (d_lst (da_cons (d_var (pv 8)) da_nil)) (d_var (pv 10)))))
  (ds_cons (d_set (i := 11) sc_law.nd rfl (by first | exact Or.inl rfl | exact Or.inr rfl) (d_g G__law_most (hr.mono (by decide)) hg rfl (da_cons (d_var (pv 3)) (da_cons (d_ix (o_ix (hu1 hr)) (d_var (pv 8)) d_int) (da_cons (d_ix (o_ix (hu1 hr)) (d_var (pv 8)) d_int) (da_cons (d_ix (o_ix (hu1 hr)) (d_var (pv 8)) d_int) da_nil))))))
  (ds_cons (d_setLc (i := 12) (own := [("_law_k", 14)]) rfl sc_law.nd rfl rfl (by rfl) (di_rng rfl B.range (da_cons (d_var (pv 10)) da_nil)) (blkOk_by (by rfl)) (fun _ _ _ _ _ => (pg_name (i := 14) sc_law.nd rfl (by first | exact Or.inl rfl | exact Or.inr rfl))) (go_name (by decide)) (fun _ _ _ _ _ => dts_nil) (fun _ _ _ _ _ => (d_ix (o_ix (hu1 hr)) (d_lst (da_cons d_non (da_cons d_str da_nil))) (d_ct c_int rfl B.int (by decide +kernel) (da_cons (d_cmp o_ge (d_var (pv 14)) (d_var (pv 11))) da_nil)))))
  (ds_cons (d_if (d_cmpT (o_eq (hu64 hr)) (d_var (pv 11)) d_int) (ds_one (d_set (i := 12) sc_law.nd rfl (by first | exact Or.inl rfl | exact Or.inr rfl) (d_op o_mul (d_lst (da_cons d_str da_nil)) (d_var (pv 10))))) ds_nil)
  (ds_one (d_if (d_cmpT o_gt (d_var (pv 10)) d_int) (ds_one (d_asg (d_var (pv 12)) (dg_sub (d_var (pv 7)) (d_var (pv 8)) (s_set (hu1 hr))))) ds_nil))))))))
  (ds_cons (d_for PassesOwn.never rfl (di_rng rfl B.range (da_cons d_int da_nil)) (dg_name (pg_name (i := 9) sc_law.nd rfl (by first | exact Or.inl rfl | exact Or.inr rfl))) (ds_cons (d_set (i := 13) sc_law.nd rfl (by first | exact Or.inl rfl | exact Or.inr rfl) (d_g G__law_let (hr.mono (by decide)) hg rfl (da_cons (d_k G_Rights (hr.mono (by decide)) rfl (da_cons (d_g G__law_turned (hr.mono (by decide)) hg rfl (da_cons (d_var (pv 1)) (da_cons (d_var (pv 3)) da_nil))) da_nil)) (da_cons (d_g G__law_turned (hr.mono (by decide)) hg rfl (da_cons (d_var (pv 1)) (da_cons (d_var (pv 6)) da_nil))) da_nil))))
  (ds_cons (d_if (d_notT (d_val (d_g G__law_alike (hr.mono (by decide)) hg rfl (da_cons (d_cb (c_sortD (hu64 hr)) rfl B.sorted (by decide +kernel) (da_cons (d_ct (c_listD rfl) rfl B.list (by decide +kernel) (da_cons (d_var (pv 13)) da_nil)) da_nil)) (da_cons (d_cb (c_sortD (hu64 hr)) rfl B.sorted (by decide +kernel) (da_cons (d_ct (c_listD rfl) rfl B.list (by decide +kernel) (da_cons (d_var (pv 7)) da_nil)) da_nil)) da_nil))))) (ds_one (d_ret d_bl)) ds_nil)
  (ds_one (d_if (d_notT (d_val (d_cb (c_all rfl) rfl B.all (by decide +kernel) (da_cons (d_lockE (d_lc (own := [("_law_one", 8)]) rfl sc_law.nd (di_keys (d_var (pv 7))) (blkOk_by (by rfl)) (fun _ _ _ _ _ => (pg_name (i := 8) sc_law.nd rfl (by first | exact Or.inl rfl | exact Or.inr rfl))) (go_name (by decide)) (fun _ _ _ _ _ => dts_nil) (fun _ _ _ _ _ => (d_g G__law_alike (hr.mono (by decide)) hg rfl (da_cons (d_ix (o_ix (hu1 hr)) (d_var (pv 13)) (d_var (pv 8))) (da_cons (d_ix (o_ix (hu1 hr)) (d_var (pv 7)) (d_var (pv 8))) da_nil)))))) da_nil)))) (ds_one (d_ret d_bl)) ds_nil)))))
  (ds_cons (d_lock (d_for PassesOwn.never rfl (di_keys (d_var (pv 7))) (dg_name (pg_name (i := 8) sc_law.nd rfl (by first | exact Or.inl rfl | exact Or.inr rfl))) (ds_one (d_if (d_notT (d_val (d_g G__law_alike (hr.mono (by decide)) hg rfl (da_cons (d_g G__law_let (hr.mono (by decide)) hg rfl (da_cons (d_k G_Rights (hr.mono (by decide)) rfl (da_cons (d_var (pv 3)) da_nil)) (da_cons (d_op o_mul (d_lst (da_cons (d_var (pv 8)) da_nil)) (d_cb c_len rfl B.len (by decide +kernel) (da_cons (d_ix (o_ix (hu1 hr)) (d_var (pv 7)) (d_var (pv 8))) da_nil))) da_nil))) (da_cons (d_disp1 (hu2 hr) (d_var (pv 8)) (d_ix (o_ix (hu1 hr)) (d_var (pv 7)) (d_var (pv 8)))) da_nil))))) (ds_one (d_ret d_bl)) ds_nil))))
  (ds_one (d_ret d_bl)))))))))))))
end
end K65
namespace K65
open PySem L2 Dl

theorem rd__law_bag (ds : List Da) (μ : Mu) (Q2 : QD) (h : r__law_bag ds μ Q2) : t__law_bag { nx := fun _ μ' => trim Q2 .non μ', rt := trim Q2 } (startR ["_law_script", "_law_cell"] ds) μ := by
  obtain ⟨ns, rfl, hl, q⟩ := h
  refine ⟨_, rfl, 63, rfl, _, rfl, lc_yes (fun d y => ∃ n : Int, y = .int n ∧ 0 ≤ n) trivial ?_ ?_ ?_⟩
  · unfold cutD
    rw [List.length_take, List.length_drop, List.length_map]
    have : (63 : Nat) ≤ sizeLine := by decide
    omega
  · intro d hd R hR
    obtain ⟨n, hn, rfl⟩ := List.mem_map.mp (List.mem_of_mem_drop (List.mem_of_mem_take hd))
    exact ⟨_, rfl, n, rfl, hR _ ⟨_, rfl, by split <;> omega⟩⟩
  · intro acc ha
    refine ⟨by show 4 ≤ sizeLine; decide, fun p hp => ⟨p, rfl, ?_, ?_⟩⟩
    · have all := ha.all (R := fun y => ∃ n : Int, y = .int n ∧ 0 ≤ n) fun _ _ e => e
      clear ha
      obtain ⟨ms, e1, e2⟩ : ∃ ms : List Int, acc = ms.map Da.int ∧ ∀ n ∈ ms, 0 ≤ n := by
        induction acc with
        | nil => exact ⟨[], rfl, fun _ h => by cases h⟩
        | cons a l ih =>
          obtain ⟨ms, e1, e2⟩ := ih fun b hb => all b (List.mem_cons_of_mem _ hb)
          obtain ⟨n, e3, e4⟩ := all a List.mem_cons_self
          refine ⟨n :: ms, by rw [e1, e3]; rfl, fun m hm => ?_⟩
          rcases List.mem_cons.mp hm with rfl | hm
          · exact e4
          · exact e2 m hm
      subst e1
      exact ⟨0, 1234567891, 0, ms, put_same, by decide, by decide, by decide, e2⟩
    · rw [put_put]
      exact trim_of (q p hp)

/-- the last part of a draw: the value out of the bag's second number -/
theorem take_tail {D : Ends2} {ρ : Rho} {μ : Mu} {b : Addr} {m r s k : Int} {ns : List Int} (hm : μ b = some (.lst (bagD r s k ns))) (hr : 0 ≤ r) (hs : 0 ≤ s) (hk : 0 ≤ k) (hn : ∀ n ∈ ns, 0 ≤ n) (h0 : 0 < m) (hM : m < 2 ^ 63)
    (h1 : ρ[0]? = some (some (.ref b))) (h2 : ρ[1]? = some (some (.int m))) (hl : ρ.length = 6)
    (q : ∀ i : Int, 0 ≤ i → i < m → ∀ μ', isBag μ' b → put μ' b .bag = put μ b .bag → D.rt (.int i) μ') :
    (sSeq (sIf (dB (dOp gt2 (dOp ix2 (dVar 0) (dC (.int 0))) (dC (.int 0)))) (sSeq (sAsg (dOp mod2 (dOp ix2 (dVar 0) (dC (.int 0))) (dVar 1)) (gN 5))
  (sSeq (sAsg (dOp fdiv2 (dOp ix2 (dVar 0) (dC (.int 0))) (dVar 1)) (gSet (dVar 0) (dC (.int 0)) set2))
  (sRet (dVar 5)))) sNext)
  (sSeq (sAsg (dOp mod2 (dOp mul2 (dOp add2 (dOp ix2 (dVar 0) (dC (.int 1))) (dC (.int 1))) (dC (.int 39373))) (dC (.int 1000000007))) (gN 2))
  (sSeq (sAsg (dOp mod2 (dOp mul2 (dOp mod2 (dOp mul2 (dVar 2) (dVar 2)) (dC (.int 998244353))) (dC (.int 30011))) (dC (.int 998244353))) (gN 3))
  (sSeq (sIf (dB (dOp gt2 (dVar 1) (dC (.int 1000000)))) (sRet (dOp mod2 (dOp add2 (dOp mul2 (dVar 3) (dC (.int 1000000007))) (dVar 2)) (dVar 1))) sNext)
  (sRet (dOp mod2 (dOp fdiv2 (dVar 3) (dC (.int 7))) (dVar 1)))))) ) D ρ μ := by
  obtain ⟨x0, x1, x2, x3, x4, x5, rfl⟩ : ∃ a b c d e f, ρ = [a, b, c, d, e, f] := by
    match ρ, hl with
    | [a, b, c, d, e, f], _ => exact ⟨a, b, c, d, e, f, rfl⟩
  obtain rfl : x0 = some (.ref b) := by simpa using h1
  obtain rfl : x1 = some (.int m) := by simpa using h2
  refine ⟨_, rfl, ix_at hm ⟨0, .int r, rfl, rfl, r, 0, rfl, rfl, _, rfl, ite_d (fun hpos => ?_) fun hnp => ?_⟩⟩
  · refine ⟨_, rfl, ix_at hm ⟨0, .int r, rfl, rfl, _, rfl, r, m, rfl, rfl, h0, ?_⟩⟩
    refine ⟨_, rfl, ix_at hm ⟨0, .int r, rfl, rfl, _, rfl, r, m, rfl, rfl, h0, by omega, ?_⟩⟩
    refine ⟨_, rfl, set_at hm ⟨0, 0, rfl, rfl, _, rfl, ?_⟩⟩
    refine q _ (Int.emod_nonneg _ (by omega)) (Int.emod_lt_of_pos _ h0) _ ⟨r / m, s, k, ns, put_same, Int.ediv_nonneg hr (by omega), hs, hk, hn⟩ put_put
  · refine ⟨_, rfl, ix_at hm ⟨1, .int s, rfl, rfl, add_int (mul_int (.inr (by decide)) ⟨_, _, rfl, rfl, by decide, ?_⟩)⟩⟩
    have f0 := Int.emod_nonneg ((s + 1) * 39373) (b := 1000000007) (by decide)
    have f1 := Int.emod_lt_of_pos ((s + 1) * 39373) (b := 1000000007) (by decide)
    generalize (s + 1) * 39373 % 1000000007 = f at f0 f1 ⊢
    refine ⟨_, rfl, _, rfl, mul_int (.inl ⟨by omega, by omega⟩) ⟨_, _, rfl, rfl, by decide, mul_int (.inr (by decide)) ⟨_, _, rfl, rfl, by decide, ?_⟩⟩⟩
    generalize f * f % 998244353 * 30011 % 998244353 = g
    refine ⟨_, rfl, m, 1000000, rfl, rfl, _, rfl, ite_d (fun _ => ?_) fun _ => ?_⟩
    · exact ⟨_, rfl, mul_int (.inr (by decide)) ⟨_, rfl, add_int ⟨_, rfl, _, _, rfl, rfl, h0, q _ (Int.emod_nonneg _ (by omega)) (Int.emod_lt_of_pos _ h0) _ ⟨r, s, k, ns, hm, hr, hs, hk, hn⟩ rfl⟩⟩⟩
    · exact ⟨_, rfl, _, _, rfl, rfl, by decide, by decide, _, rfl, _, _, rfl, rfl, h0, q _ (Int.emod_nonneg _ (by omega)) (Int.emod_lt_of_pos _ h0) _ ⟨r, s, k, ns, hm, hr, hs, hk, hn⟩ rfl⟩
theorem at_nat {α : Type} {xs : List α} {i : Int} {x : α} (h : atI xs i = some x) : x ∈ xs := by
  obtain ⟨j, h1, h2⟩ := Option.bind_eq_some_iff.mp h
  exact List.mem_of_getElem? h2
theorem take_cell {D : Ends2} {μ : Mu} {b : Addr} {m r s k c : Int} {ns : List Int} (hm : μ b = some (.lst (bagD r s k ns))) (hr : 0 ≤ r) (hs : 0 ≤ s) (hk : 0 ≤ k) (hc : 0 ≤ c)
    (q : ∀ (r' s' k' : Int) (μ' : Mu), 0 ≤ r' → 0 ≤ s' → 0 ≤ k' → μ' b = some (.lst (bagD r' s' k' ns)) → put μ' b .bag = put μ b .bag → D.nx [some (.ref b), some (.int m), none, none, some (.int c), none] μ') :
    (sSeq (sAugS (dVar 0) (dC (.int 2)) (dC (.int 1)) getL2 (ipI2 fun i j => i + j) set2)
  (sSeq (sIf (dB (dOp ge2 (dVar 4) (dC (.int 1000000000000000000)))) (sAsg (dVar 4) (gSet (dVar 0) (dC (.int 0)) set2)) sNext)
  (sAsg (dOp mod2 (dOp add2 (dOp add2 (dOp mul2 (dOp ix2 (dVar 0) (dC (.int 1))) (dC (.int 48271))) (dOp mod2 (dVar 4) (dC (.int 2147483647)))) (dOp mul2 (dC (.int 7919)) (dOp ix2 (dVar 0) (dC (.int 2))))) (dC (.int 2147483647))) (gSet (dVar 0) (dC (.int 1)) set2)))) D [some (.ref b), some (.int m), none, none, some (.int c), none] μ := by
  have last : ∀ (r' : Int) (μ' : Mu), 0 ≤ r' → μ' b = some (.lst (bagD r' s (k + 1) ns)) → put μ' b .bag = put μ b .bag →
      (sAsg (dOp mod2 (dOp add2 (dOp add2 (dOp mul2 (dOp ix2 (dVar 0) (dC (.int 1))) (dC (.int 48271))) (dOp mod2 (dVar 4) (dC (.int 2147483647)))) (dOp mul2 (dC (.int 7919)) (dOp ix2 (dVar 0) (dC (.int 2))))) (dC (.int 2147483647))) (gSet (dVar 0) (dC (.int 1)) set2)) D [some (.ref b), some (.int m), none, none, some (.int c), none] μ' := by
    intro r' μ' hr' hm' e
    refine ⟨_, rfl, ix_at hm' ⟨1, .int s, rfl, rfl, mul_int (.inr (by decide)) ⟨_, rfl, _, _, rfl, rfl, by decide, add_int ⟨_, rfl, ix_at hm' ⟨2, .int (k + 1), rfl, rfl, mul_int (.inl (by decide)) (add_int ⟨_, _, rfl, rfl, by decide, ?_⟩)⟩⟩⟩⟩⟩
    refine ⟨_, rfl, set_at hm' ⟨1, 1, rfl, rfl, ?_⟩⟩
    exact q r' _ (k + 1) _ hr' (Int.emod_nonneg _ (by decide)) (by omega) put_same (by rw [put_put]; exact e)
  refine ⟨.ref b, rfl, bagD r s k ns, 2, .int k, view_refL hm, rfl, rfl, (by show 4 ≤ sizeLine; decide), _, _, rfl, rfl, set_at hm ⟨2, 2, rfl, rfl, ?_⟩⟩
  refine ⟨_, rfl, _, _, rfl, rfl, _, rfl, ite_d (fun hb => ?_) fun _ => ?_⟩
  · refine ⟨_, rfl, _, rfl, set_at put_same ⟨0, 0, rfl, rfl, ?_⟩⟩
    exact last c _ hc put_same (by rw [put_put, put_put])
  · exact last r _ hr put_same (by rw [put_put])
theorem rd__law_take (ds : List Da) (μ : Mu) (Q2 : QD) (h : r__law_take ds μ Q2) : t__law_take { nx := fun _ μ' => trim Q2 .non μ', rt := trim Q2 } (startR ["_law_bag_here", "_law_many", "_law_first", "_law_second", "_law_cell", "_law_value"] ds) μ := by
  obtain ⟨b, m, rfl, hb, h0, hM, q⟩ := h
  refine ⟨b, rfl, hb, fun r s k ns hr hs hk hn => ?_⟩
  have fin : ∀ i : Int, 0 ≤ i → i < m → ∀ μ', isBag μ' b → put μ' b .bag = put μ b .bag → isBag μ' b ∧ trim Q2 (.int i) (put μ' b .bag) := fun i h1 h2 μ' hb' e => ⟨hb', trim_of (by rw [e, put_back hb]; exact q i h1 h2)⟩
  refine ⟨_, rfl, ix_at put_same ⟨0, .int r, rfl, rfl, eq_int ⟨_, rfl, ite_d (fun e => ?_) fun ne => ?_⟩⟩⟩
  · refine ⟨_, rfl, ix_at put_same ⟨2, .int k, rfl, rfl, _, rfl, ix_at put_same ⟨3, .lst (ns.map Da.int), rfl, rfl, _, _, rfl, rfl, _, rfl, ite_d (fun hlt => ?_) fun _ => ?_⟩⟩⟩
    · rw [List.length_map] at hlt
      have hkn : k.toNat < ns.length := by omega
      have hg : atI (ns.map Da.int) k = some (.int ns[k.toNat]) := by
        unfold atI ixN
        rw [if_pos hk, List.length_map, if_pos (by omega)]
        show (ns.map Da.int)[k.toNat]? = _
        rw [List.getElem?_map, List.getElem?_eq_getElem hkn]; rfl
      refine ⟨_, rfl, ix_at put_same ⟨3, .lst (ns.map Da.int), rfl, rfl, _, rfl, ix_at put_same ⟨2, .int k, rfl, rfl, k, .int ns[k.toNat], rfl, hg, ?_⟩⟩⟩
      have hc : 0 ≤ ns[k.toNat] := hn _ (List.getElem_mem hkn)
      exact take_cell put_same hr hs hk hc fun r' s' k' μ' a1 a2 a3 a4 a5 => take_tail a4 a1 a2 a3 hn h0 hM rfl rfl rfl fun i h1 h2 μ2 hb' e' => fin i h1 h2 μ2 hb' (by rw [e', a5, put_put])
    · exact take_cell put_same hr hs hk (Int.le_refl 0) fun r' s' k' μ' a1 a2 a3 a4 a5 => take_tail a4 a1 a2 a3 hn h0 hM rfl rfl rfl fun i h1 h2 μ2 hb' e' => fin i h1 h2 μ2 hb' (by rw [e', a5, put_put])
  · exact take_tail put_same hr hs hk hn h0 hM rfl rfl rfl fun i h1 h2 μ' hb' e => fin i h1 h2 μ' hb' (by rw [e, put_put])
end K65
namespace K65
open PySem L2 Dl

theorem tk {b : Addr} {m : Int} {μ : Mu} {Q : QD} (hb : μ b = some .bag) (h0 : 0 < m) (hM : m < 2 ^ 63) (k : ∀ i : Int, 0 ≤ i → i < m → Q (.int i) μ) : r__law_take [.ref b, .int m] μ Q := ⟨b, m, rfl, hb, h0, hM, k⟩
theorem atI_lt {α : Type} {xs : List α} {i : Int} (h0 : 0 ≤ i) (h1 : i < xs.length) : ∃ x, atI xs i = some x ∧ x ∈ xs ∧ xs[i.toNat]? = some x := by
  have h2 : i.toNat < xs.length := by omega
  refine ⟨xs[i.toNat], ?_, List.getElem_mem h2, List.getElem?_eq_getElem h2⟩
  unfold atI ixN
  rw [if_pos h0, if_pos h1]
  exact List.getElem?_eq_getElem h2
theorem ix_lst {xs : List Da} {i : Int} {μ : Mu} {Q : QD} (h0 : 0 ≤ i) (h1 : i < xs.length) (k : ∀ x ∈ xs, Q x μ) : ix2 (.lst xs) (.int i) μ Q := by
  obtain ⟨x, h2, h3, _⟩ := atI_lt h0 h1
  exact ⟨i, x, rfl, h2, k x h3⟩
theorem ix_tup {xs : List Da} {i : Int} {x : Da} {μ : Mu} {Q : QD} (h : atI xs i = some x) (k : Q x μ) : ix2 (.tup xs) (.int i) μ Q := ⟨i, x, rfl, h, k⟩
theorem sz {n : Nat} (h : n ≤ 1000000) : n ≤ sizeLine := Nat.le_trans h (by decide)

theorem rd_is_of (ds : List Da) (μ : Mu) (Q2 : QD) (h : r_is_of ds μ Q2) : t_is_of { nx := fun _ μ' => trim Q2 .non μ', rt := trim Q2 } (startR ["bar", "part", "word", "what"] ds) μ := h.2.elim
theorem rd_is_barred (ds : List Da) (μ : Mu) (Q2 : QD) (h : r_is_barred ds μ Q2) : t_is_barred { nx := fun _ μ' => trim Q2 .non μ', rt := trim Q2 } (startR ["bars", "part", "word", "what", "bar"] ds) μ := by
  obtain ⟨x, y, z, rfl, q⟩ := h
  refine ⟨_, rfl, _, rfl, lc_yes (fun _ _ => False) trivial (Nat.zero_le _) (fun d hd => by cases hd) fun acc ha => ?_⟩
  cases ha
  exact ⟨_, _, [], rfl, rfl, rfl, trim_of q⟩
theorem rd__law_number (ds : List Da) (μ : Mu) (Q2 : QD) (h : r__law_number ds μ Q2) : t__law_number { nx := fun _ μ' => trim Q2 .non μ', rt := trim Q2 } (startR ["_law_bag_here", "_law_way", "_law_edge"] ds) μ := by
  obtain ⟨b, rfl, hb, q⟩ := h
  refine ⟨_, rfl, tk hb (by decide) (by decide) fun w w0 w1 => ?_⟩
  refine ⟨10, 9, rfl, rfl, by decide, by decide, by decide, 10, 9, rfl, rfl, by decide, by decide, by decide, _, rfl, (by show 4 ≤ sizeLine; decide), _, rfl, tk hb (by decide) (by decide) fun e e0 e1 => ix_lst e0 e1 fun x hx => ?_⟩
  obtain ⟨n, rfl, hn⟩ : ∃ n : Int, x = .int n ∧ n.natAbs ≤ 2000000000 := by
    simp only [List.mem_cons, List.not_mem_nil, or_false] at hx
    rcases hx with rfl | rfl | rfl | rfl
    · exact ⟨_, rfl, by decide⟩
    · exact ⟨_, rfl, by decide⟩
    · exact ⟨_, rfl, by decide⟩
    · exact ⟨_, rfl, by decide⟩
  refine ⟨_, rfl, tk hb (by decide) (by decide) fun i i0 i1 => ⟨_, _, rfl, rfl, _, rfl, _, rfl, 10, 9, rfl, rfl, by decide, by decide, by decide, mul_int (.inl (by decide)) (add_int (tk hb (by decide) (by decide) fun j j0 j1 => ?_))⟩⟩
  refine ⟨10, 9, rfl, rfl, by decide, by decide, by decide, _, _, rfl, rfl, (by show 4 ≤ sizeLine; decide), _, rfl, ix_lst w0 w1 fun x hx => ?_⟩
  obtain ⟨m, rfl, hm⟩ : ∃ n : Int, x = .int n ∧ n.natAbs ≤ 2000000000 := by
    simp only [List.mem_cons, List.not_mem_nil, or_false] at hx
    have e9 : (10 : Int) ^ (9 : Int).toNat = 1000000000 := by decide
    rw [e9] at hx j1
    rcases hx with rfl | rfl | rfl | rfl
    · exact ⟨_, rfl, by omega⟩
    · exact ⟨_, rfl, hn⟩
    · exact ⟨_, rfl, by decide⟩
    · exact ⟨_, rfl, by omega⟩
  exact trim_of (q m hm)
theorem rd__law_shape (ds : List Da) (μ : Mu) (Q2 : QD) (h : r__law_shape ds μ Q2) : t__law_shape { nx := fun _ μ' => trim Q2 .non μ', rt := trim Q2 } (startR ["_law_bag_here", "_law_way", "_law_least"] ds) μ := by
  obtain ⟨b, rfl, hb, q⟩ := h
  refine ⟨_, rfl, tk hb (by decide) (by decide) fun w w0 w1 => ⟨_, rfl, tk hb (by decide) (by decide) fun l l0 l1 => ⟨_, _, rfl, rfl, ?_⟩⟩⟩
  refine ⟨10, 9, rfl, rfl, by decide, by decide, by decide, _, rfl, 10, 9, rfl, rfl, by decide, by decide, by decide, (by show 2 ≤ sizeLine; decide), (by show 2 ≤ sizeLine; decide), 20, rfl, (by show 2 ≤ sizeLine; decide), _, rfl, _, rfl, _, rfl, tk hb (by decide) (by decide) fun j j0 j1 => add_int ⟨(by show 2 ≤ sizeLine; decide), (by show 4 ≤ sizeLine; decide), _, rfl, ix_lst w0 w1 fun x hx => ?_⟩⟩
  have e9 : (10 : Int) ^ (9 : Int).toNat = 1000000000 := by decide
  rw [e9] at hx
  simp only [List.mem_cons, List.not_mem_nil, or_false] at hx
  rcases hx with rfl | rfl | rfl | rfl
  · exact trim_of (q _ _ (by decide) (by decide) (by decide))
  · exact trim_of (q _ _ (by decide) (by decide) (by decide))
  · exact trim_of (q _ _ (by decide) (by decide) (by decide))
  · exact trim_of (q _ _ (by omega) (by omega) (by omega))
theorem sel_sub {ss : List Str} {acc : List Da} (h : Sel (fun a c => c = a) (fun _ => True) (sD ss) acc) : ∃ ts : List Str, acc = sD ts ∧ ts.Sublist ss := by
  generalize e : sD ss = l at h
  induction h generalizing ss with
  | nil => exact ⟨[], rfl, List.nil_sublist _⟩
  | @take a c as bs p t ih =>
    cases ss with
    | nil => cases e
    | cons s ss =>
      cases e
      obtain ⟨ts, e1, e2⟩ := ih rfl
      exact ⟨s :: ts, by rw [e1, p]; rfl, e2.cons_cons s⟩
  | @skip a as bs p t ih =>
    cases ss with
    | nil => cases e
    | cons s ss =>
      cases e
      obtain ⟨ts, e1, e2⟩ := ih rfl
      exact ⟨ts, e1, e2.cons s⟩
theorem rd__law_some (ds : List Da) (μ : Mu) (Q2 : QD) (h : r__law_some ds μ Q2) : t__law_some { nx := fun _ μ' => trim Q2 .non μ', rt := trim Q2 } (startR ["_law_bag_here", "_law_words", "_law_many", "_law_word"] ds) μ := by
  obtain ⟨b, ss, m, rfl, hb, h0, hM, hl, q⟩ := h
  refine ⟨_, rfl, _, rfl, lc_sel (fun a c => c = a) (fun _ => True) trivial (sz (by rw [List.length_map]; omega)) (fun d hd R S hR hS => ?_) fun acc ha => ?_⟩
  · exact ⟨_, rfl, _, rfl, tk hb h0 hM fun i _ _ => eq_int ⟨_, rfl, ite_d (fun _ => ⟨_, rfl, hR _ rfl⟩) fun _ => hS trivial⟩⟩
  · obtain ⟨ts, e1, e2⟩ := sel_sub ha
    subst e1
    exact trim_of (q ts e2)
theorem rd__law_any (ds : List Da) (μ : Mu) (Q2 : QD) (h : r__law_any ds μ Q2) : t__law_any { nx := fun _ μ' => trim Q2 .non μ', rt := trim Q2 } (startR ["_law_bag_here", "_law_some_here"] ds) μ := by
  obtain ⟨b, xs, rfl, hb, hne, hl, q⟩ := h
  have hp : 0 < xs.length := List.length_pos_iff.mpr hne
  exact ⟨_, rfl, _, rfl, _, rfl, len_lst (tk hb (by omega) (by omega) fun i i0 i1 => ix_lst i0 i1 fun x hx => trim_of (q x hx))⟩
theorem rd__law_righted (ds : List Da) (μ : Mu) (Q2 : QD) (h : r__law_righted ds μ Q2) : t__law_righted { nx := fun _ μ' => trim Q2 .non μ', rt := trim Q2 } (startR ["_law_bag_here", "_law_part", "_law_rows"] ds) μ := by
  obtain ⟨b, p, rows, L, rfl, hb, hf, q⟩ := h
  exact ⟨_, rfl, _, rfl, tk hb (by decide) (by decide) fun i _ _ => ⟨_, rfl, tk hb (by decide) (by decide) fun j _ _ => ⟨(by show 2 ≤ sizeLine; decide), _, rfl, (by show 0 ≤ sizeLine; decide), (by show 5 ≤ sizeLine; decide), trim_of (q _ ⟨_, _, _, rfl, hf⟩)⟩⟩⟩
theorem rd__law_make (ds : List Da) (μ : Mu) (Q2 : QD) (h : r__law_make ds μ Q2) : t__law_make { nx := fun _ μ' => trim Q2 .non μ', rt := trim Q2 } (startR ["_law_bag_here", "_law_part", "_law_version", "_law_parts", "_law_names_here", "_law_face_here"] ds) μ := by
  obtain ⟨b, p, v, ss, ns, rfl, hb, hp, hs, hl, hn, hnl, q⟩ := h
  refine ⟨_, rfl, _, rfl, _, rfl, b, p, ss, rfl, hb, hp, hs, hl, fun rows L hf => ?_⟩
  exact ⟨_, rfl, _, rfl, _, rfl, _, rfl, _, rfl, _, rfl, b, rows, L, ns, rfl, hb, hf, hn, hnl, fun d => ⟨(by show 5 ≤ sizeLine; decide), trim_of (q _ L ⟨_, _, _, rfl, hf⟩)⟩⟩
theorem rd__law_alike (ds : List Da) (μ : Mu) (Q2 : QD) (h : r__law_alike ds μ Q2) : t__law_alike { nx := fun _ μ' => trim Q2 .non μ', rt := trim Q2 } (startR ["_law_found", "_law_due"] ds) μ := by
  obtain ⟨x, y, rfl, h, q⟩ := h
  have last : ∀ z : Str, eq2 (.str z) (.str z) μ (trim Q2) := fun z => eq_str (by rw [decide_eq_true rfl]; exact trim_of q)
  rcases h with ⟨h1, h2, h3, h4⟩ | ⟨a, b, ka, rfl, rfl, ma, mb, sm, sh⟩
  · refine ⟨_, rfl, _, rfl, .inl (eq_data h3 (by rw [h2]; exact h3) fun c hc => ⟨c, rfl, ?_⟩)⟩
    · rw [if_pos (hc.mpr h2.symm)]
      refine ⟨_, rfl, .inl ⟨_, rfl, h1, h4, _, rfl, .inl ⟨_, rfl, by rw [h2]; exact h1, by rw [h2]; exact h4, ?_⟩⟩⟩
      rw [h2]
      exact last _
  · refine ⟨_, rfl, _, rfl, .inr ⟨a, b, ka, ka, rfl, rfl, ma, mb, sm, true, rfl, ?_⟩⟩
    rw [if_pos rfl]
    exact ⟨_, rfl, .inr ⟨a, ka, rfl, ma, sh, _, rfl, .inr ⟨b, ka, rfl, mb, sh, last _⟩⟩⟩
theorem rd__law_turned (ds : List Da) (μ : Mu) (Q2 : QD) (h : r__law_turned ds μ Q2) : t__law_turned { nx := fun _ μ' => trim Q2 .non μ', rt := trim Q2 } (startR ["_law_bag_here", "_law_some_here", "_law_found", "_law_one"] ds) μ := by
  obtain ⟨b, xs, rfl, hb, hl, q⟩ := h
  refine ⟨Nat.zero_le _, fun p hp => ?_⟩
  have nb : b ≠ p := fun e => by rw [e, hp] at hb; cases hb
  refine ⟨_, rfl, _, rfl, fun i ρ' μ' => ∃ ys : List Da, ys.Perm (xs.take i) ∧ μ' = put μ p (.lst ys) ∧ ∃ d, ρ' = [some (.ref b), some (.lst xs), some (.ref p), d], ⟨[], .nil, rfl, none, rfl⟩, ?_, ?_⟩
  · rintro i d ρ' μ' hi ⟨ys, hperm, rfl, o, rfl⟩
    have hil : i < xs.length := (List.getElem?_eq_some_iff.mp hi).1
    have hyl : ys.length ≤ 1000 := by rw [hperm.length_eq, List.length_take]; omega
    have ht : xs.take (i + 1) = xs.take i ++ [d] := by rw [List.take_add_one, hi]; rfl
    have hb' : put μ p (.lst ys) b = some .bag := by rw [put_ne nb]; exact hb
    refine ⟨trivial, _, rfl, (by unfold tyD; rw [view_at]), _, rfl, _, rfl, len_at put_same (add_int (tk hb' (by omega) (by omega) fun j j0 j1 => ⟨_, rfl, p, ys, j, d, rfl, rfl, put_same, Nat.lt_of_le_of_lt hyl (by decide), j0, by omega, ?_⟩))⟩
    refine ⟨_, ?_, put_put, some d, rfl⟩
    rw [ht]
    refine List.Perm.trans (l₂ := d :: ys) ?_ ?_
    · have e := List.take_append_drop (min j.toNat ys.length) ys
      conv => rhs; rw [← e]
      exact List.perm_middle
    · exact (hperm.cons d).trans (List.perm_append_singleton d _).symm
  · rintro ρ' μ' ⟨ys, hperm, rfl, o, rfl⟩
    rw [List.take_length] at hperm
    refine ⟨trivial, p, ys, rfl, put_same, μ, fun a m e => ?_, q ys hperm⟩
    have ne : a ≠ p := fun z => by rw [z, hp] at e; cases e
    rw [del_ne ne, put_ne ne]; exact e
end K65
namespace K65
open PySem L2 Dl

theorem cmp_str {x : Str} (h : PyData.strOk x = true) : cmpOk (.str x) := ⟨by simpa [okD] using h, by simp [dpD]⟩
theorem cmp_strs {ss : List Str} (h : ∀ s ∈ ss, PyData.strOk s = true) : cmpOk (.lst (sD ss)) := by
  have h1 : okDs (sD ss) = true := by
    rw [okDs_iff]
    intro d hd
    obtain ⟨s, hs, rfl⟩ := List.mem_map.mp hd
    simpa [okD] using h s hs
  have h2 : ∀ l : List Str, dpDs (sD l) = 0 := fun l => by
    induction l with
    | nil => simp [dpDs]
    | cons a l ih => simp [dpDs, dpD]; exact ih
  exact ⟨by rw [okD]; exact h1, by rw [dpD, h2]; decide⟩
open Classical in
theorem notin_lst {d : Da} {xs : List Da} {μ : Mu} {Q : QD} (h1 : cmpOk d) (h2 : cmpOk (.lst xs)) (h : ∀ c, (c = true ↔ d ∉ xs) → Q (.bl c) μ) : notin2 d (.lst xs) μ Q := by
  refine ⟨h1, h2, h _ ?_⟩
  by_cases q : d ∈ xs <;> simp [q]
open Classical in
theorem in_tup {d : Da} {xs : List Da} {μ : Mu} {Q : QD} (h1 : flatD d = true) (h2 : xs.all flatD = true) (h : ∀ c, (c = true ↔ d ∈ xs) → Q (.bl c) μ) : in2 d (.tup xs) μ Q := ⟨h1, h2, h _ decide_eq_true_iff⟩
theorem tup_lst {xs : List Da} {μ : Mu} {Q : QD} (h : Q (.tup xs) μ) : tuple2 [.lst xs] μ Q := h
theorem lit {x : Str} (h : PyData.strOk x = true := by decide +kernel) (hl : x.length ≤ 8 := by decide +kernel) : okS x := ⟨h, hl⟩
theorem sub_ok {ts ss : List Str} (h : ts.Sublist ss) (hs : ∀ s ∈ ss, okS s) : ∀ s ∈ ts, okS s := fun s m => hs s (h.subset m)
theorem ok_strs {ss : List Str} (h : ∀ s ∈ ss, okS s) : ∀ s ∈ ss, PyData.strOk s = true := fun s m => (h s m).1

theorem rd__law_kept_row (ds : List Da) (μ : Mu) (Q2 : QD) (h : r__law_kept_row ds μ Q2) : t__law_kept_row { nx := fun _ μ' => trim Q2 .non μ', rt := trim Q2 } (startR ["_law_bag_here", "_law_word", "_law_name", "_law_first", "_law_row", "_law_least", "_law_most_here"] ds) μ := by
  obtain ⟨b, x, y, rfl, hb, hx, hy, hne, q⟩ := h
  have rowOk : ∀ (i j k : Int) (r : List Da), i.natAbs ≤ 1000000000 → r.length ≤ 3 → RowN (.tup ([.str x, .str y, .int i, .int j, .int k] ++ r)) := fun i j k r hi hr =>
    ⟨x, _, rfl, hne, ⟨by simp [okD, okDs, hx.1, hy.1]; omega, by simp [dpD, dpDs]⟩, hx.1, by simp; omega⟩
  refine ⟨_, rfl, b, rfl, hb, fun i j hi hij hj => ⟨_, rfl, rfl, _, _, rfl, _, _, rfl, rfl, ?_⟩⟩
  refine ⟨_, rfl, _, rfl, _, rfl, _, rfl, _, _, rfl, rfl, _, _, rfl, add_int (tk hb (by split <;> omega) (by split <;> omega) fun f f0 f1 => add_int ?_)⟩
  refine ⟨_, rfl, _, rfl, _, rfl, _, rfl, _, rfl, (by show 5 ≤ sizeLine; decide), ?_⟩
  refine ⟨_, rfl, eq_str ⟨_, rfl, ite_d (fun e => ?_) fun ne => ?_⟩⟩
  · exact ⟨_, rfl, (by show 3 ≤ sizeLine; decide), _, rfl, tk hb (by decide) (by decide) fun k k0 k1 => ix_lst k0 k1 fun z _ => ⟨(by show 1 ≤ sizeLine; decide), add_tup (by show 5 + 1 ≤ sizeLine; decide) ⟨_, rfl, trim_of (q _ (rowOk i j _ [z] hi (by decide +revert)))⟩⟩⟩
  · exact ⟨_, rfl, trim_of (q _ (rowOk i j _ [] hi (by decide)))⟩
theorem rd__law_hook_row (ds : List Da) (μ : Mu) (Q2 : QD) (h : r__law_hook_row ds μ Q2) : t__law_hook_row { nx := fun _ μ' => trim Q2 .non μ', rt := trim Q2 } (startR ["_law_bag_here", "_law_hook", "_law_part", "_law_parts", "_law_others", "_law_befores", "_law_afters", "_law_one"] ds) μ := by
  obtain ⟨b, x, y, ss, rfl, hb, hx, hy, hs, hl, q⟩ := h
  refine ⟨_, rfl, _, _, ss, rfl, rfl, txts_map ss, by omega, fun ys hp _ => ⟨_, rfl, lc_sel (fun a c => c = a) (fun _ => True) trivial (sz (by rw [List.length_map, hp.length_eq]; omega)) (fun d hd R S hR hS => ?_) fun acc ha => ?_⟩⟩
  · obtain ⟨s, _, rfl⟩ := List.mem_map.mp hd
    exact ⟨_, rfl, _, rfl, ne_str ⟨_, rfl, ite_b (fun _ => ⟨_, rfl, hR _ rfl⟩) fun _ => hS trivial⟩⟩
  obtain ⟨ts, rfl, hts⟩ := sel_sub ha
  have tl : ts.length ≤ 4 := Nat.le_trans hts.length_le (by rw [hp.length_eq]; exact hl)
  have tok : ∀ s ∈ ts, okS s := fun s m => hs s (hp.mem_iff.mp (hts.subset m))
  refine ⟨_, rfl, _, rfl, b, ts, 7, rfl, hb, by decide, by decide, by omega, fun us hus => ?_⟩
  have uok := sub_ok hus tok
  refine ⟨_, rfl, _, rfl, _, rfl, lc_sel (fun a c => c = a) (fun _ => True) trivial (sz (by rw [List.length_map]; omega)) (fun d hd R S hR hS => ?_) fun acc ha => ?_⟩
  · obtain ⟨s, m, rfl⟩ := List.mem_map.mp hd
    exact ⟨_, rfl, _, rfl, notin_lst (cmp_str (tok s m).1) (cmp_strs (ok_strs uok)) fun c _ => ⟨c, rfl, ite_b (fun _ => ⟨_, rfl, hR _ rfl⟩) fun _ => hS trivial⟩⟩
  obtain ⟨vs, rfl, hvs⟩ := sel_sub ha
  have vl : vs.length ≤ 4 := Nat.le_trans hvs.length_le tl
  refine ⟨b, vs, 7, rfl, hb, by decide, by decide, by omega, fun ws hws => ?_⟩
  refine ⟨_, rfl, _, rfl, tk hb (by decide) (by decide) fun k k0 k1 => ⟨_, rfl, tup_lst ⟨_, rfl, tup_lst ⟨(by show 5 ≤ sizeLine; decide), _, rfl, b, rfl, hb, fun i j _ _ _ => add_tup (by show 5 + 2 ≤ sizeLine; decide) (trim_of (q _ ⟨_, _, rfl, by decide +kernel, ⟨?_, ?_⟩, by decide +kernel, by simp⟩))⟩⟩⟩⟩
  · have e1 : PyData.strOk ("hook" : Str) = true := by decide +kernel
    simp [okD, okDs, hx.1, e1]
    omega
  · simp [dpD, dpDs]
/-- the right rows of some words, with some of the names -/
theorem rights_loop {ws names : List Str} : True := trivial
theorem rd__law_step (ds : List Da) (μ : Mu) (Q2 : QD) (h : r__law_step ds μ Q2) : t__law_step { nx := fun _ μ' => trim Q2 .non μ', rt := trim Q2 } (startR ["_law_bag_here", "_law_at", "_law_many", "_law_way", "_law_word"] ds) μ := by
  obtain ⟨b, i, n, rfl, hb, h0, h1, h8, q⟩ := h
  have q' : ∀ d, trim Q2 d μ := fun d => trim_of (q d)
  refine ⟨_, rfl, tk hb (by decide) (by decide) fun w w0 w1 => ?_⟩
  refine ⟨_, rfl, _, _, rfl, rfl, _, rfl, ite_d (fun l3 => ?_) fun g3 => ?_⟩
  · exact ⟨(by show 3 ≤ sizeLine; decide), _, rfl, ix_lst w0 (by show w < 3; omega) fun z _ => ⟨_, rfl, b, rfl, hb, fun k _ => ⟨(by show 2 ≤ sizeLine; decide), q' _⟩⟩⟩
  refine ⟨_, rfl, _, _, rfl, rfl, _, rfl, ite_d (fun l11 => ?_) fun g11 => ?_⟩
  · refine ⟨(by show 8 ≤ sizeLine; decide), _, rfl, _, _, rfl, rfl, ix_lst (by omega) (by show w - 3 < 8; omega) fun z _ => ?_⟩
    exact ⟨_, rfl, (by show 4 ≤ sizeLine; decide), _, rfl, tk hb (by decide) (by decide) fun k k0 k1 => ix_lst k0 k1 fun u _ => ⟨(by show 2 ≤ sizeLine; decide), q' _⟩⟩
  have last : ∀ ρ : Rho, ρ[0]? = some (some (.ref b)) → (sRet (dTup (dCons (dC (.str "add")) (dCons (dOp add2 (dC (.int 1)) (dG r__law_take (dCons (dVar 0) (dCons (dC (.int 5)) dNil)))) dNil)))) { nx := fun _ μ' => trim Q2 .non μ', rt := trim Q2 } ρ μ :=
    fun ρ e => ⟨_, e, tk hb (by decide) (by decide) fun k _ _ => add_int ⟨(by show 2 ≤ sizeLine; decide), q' _⟩⟩
  have e13 : ∀ ρ : Rho, ρ[0]? = some (some (.ref b)) → ρ[3]? = some (some (.int w)) → (sSeq (sIf (dAnd (dB (dOp eq2 (dVar 3) (dC (.int 13)))) (dB (dOp eq2 (dG r__law_take (dCons (dVar 0) (dCons (dC (.int 3)) dNil))) (dC (.int 0))))) (sRet (dTup (dCons (dC (.str "refuse")) dNil))) sNext)
      (sRet (dTup (dCons (dC (.str "add")) (dCons (dOp add2 (dC (.int 1)) (dG r__law_take (dCons (dVar 0) (dCons (dC (.int 5)) dNil)))) dNil))))) { nx := fun _ μ' => trim Q2 .non μ', rt := trim Q2 } ρ μ := fun ρ e0 e3 => by
    refine ⟨_, e3, eq_int ⟨_, rfl, ite_d (fun _ => ?_) fun _ => ?_⟩⟩
    · refine ⟨_, e0, tk hb (by decide) (by decide) fun k _ _ => eq_int ⟨_, rfl, ite_d (fun _ => ?_) fun _ => ?_⟩⟩
      · exact ⟨(by show 1 ≤ sizeLine; decide), q' _⟩
      · exact last ρ e0
    · refine iteF ?_
      exact last ρ e0
  have e12 : ∀ ρ : Rho, ρ[0]? = some (some (.ref b)) → ρ[1]? = some (some (.int i)) → ρ[3]? = some (some (.int w)) → _ := fun ρ e0 e1 e3 => (show (sSeq (sIf (dAnd (dB (dOp eq2 (dVar 3) (dC (.int 12)))) (dAnd (dB (dOp gt2 (dVar 1) (dC (.int 0)))) (dB (dOp eq2 (dG r__law_take (dCons (dVar 0) (dCons (dC (.int 2)) dNil))) (dC (.int 0)))))) (sRet (dTup (dCons (dC (.str "back")) (dCons (dOp add2 (dC (.int 1)) (dG r__law_take (dCons (dVar 0) (dCons (dVar 1) dNil)))) dNil)))) sNext)
      (sSeq (sIf (dAnd (dB (dOp eq2 (dVar 3) (dC (.int 13)))) (dB (dOp eq2 (dG r__law_take (dCons (dVar 0) (dCons (dC (.int 3)) dNil))) (dC (.int 0))))) (sRet (dTup (dCons (dC (.str "refuse")) dNil))) sNext)
      (sRet (dTup (dCons (dC (.str "add")) (dCons (dOp add2 (dC (.int 1)) (dG r__law_take (dCons (dVar 0) (dCons (dC (.int 5)) dNil)))) dNil)))))) { nx := fun _ μ' => trim Q2 .non μ', rt := trim Q2 } ρ μ from by
    refine ⟨_, e3, eq_int ⟨_, rfl, ite_d (fun _ => ?_) fun _ => ?_⟩⟩
    · refine ⟨_, e1, _, _, rfl, rfl, _, rfl, ite_d (fun hi => ?_) fun _ => ?_⟩
      · refine ⟨_, e0, tk hb (by decide) (by decide) fun k _ _ => eq_int ⟨_, rfl, ite_d (fun _ => ?_) fun _ => ?_⟩⟩
        · exact ⟨_, e0, _, e1, tk hb hi (by omega) fun k _ _ => add_int ⟨(by show 2 ≤ sizeLine; decide), q' _⟩⟩
        · exact e13 ρ e0 e3
      · refine iteF ?_
        exact e13 ρ e0 e3
    · refine iteF ?_
      exact e13 ρ e0 e3)
  refine ⟨_, rfl, eq_int ⟨_, rfl, ite_d (fun _ => ?_) fun _ => ?_⟩⟩
  · refine ⟨_, rfl, add_int ⟨_, rfl, _, _, rfl, rfl, _, rfl, ite_d (fun hi => ?_) fun _ => ?_⟩⟩
    · exact ⟨_, rfl, _, rfl, _, rfl, _, _, rfl, rfl, _, _, rfl, rfl, tk hb (by omega) (by omega) fun k _ _ => add_int ⟨(by show 2 ≤ sizeLine; decide), q' _⟩⟩
    · exact e12 _ rfl rfl rfl
  · refine iteF ?_
    exact e12 _ rfl rfl rfl
theorem rd__law_wanted (ds : List Da) (μ : Mu) (Q2 : QD) (h : r__law_wanted ds μ Q2) : t__law_wanted { nx := fun _ μ' => trim Q2 .non μ', rt := trim Q2 } (startR ["_law_bag_here", "_law_parts", "_law_words"] ds) μ := by
  obtain ⟨b, ss, rfl, hb, hs, hl, q⟩ := h
  have pick : ∀ (l : List Str), (∀ s ∈ l, okS s) → ∀ x ∈ sD l, ∃ s, x = .str s ∧ okS s := fun l hl x hx => by
    obtain ⟨s, m, rfl⟩ := List.mem_map.mp hx
    exact ⟨s, rfl, hl s m⟩
  have lits : ∀ (l : List Str), l.all (fun s => PyData.strOk s && decide (s.length ≤ 8)) = true → ∀ s ∈ l, okS s := fun l h s m => by
    have := List.all_eq_true.mp h s m
    rw [Bool.and_eq_true, decide_eq_true_eq] at this
    exact this
  refine ⟨(by show 10 ≤ sizeLine; decide), ?_⟩
  refine ⟨_, rfl, _, rfl, (by show 1 ≤ sizeLine; decide), add_lst (sz (by simp; omega)) ⟨b, _, rfl, hb, by simp, by simp; omega, fun x hx => ?_⟩⟩
  have ex : ∃ s, x = .str s ∧ okS s := by
    rcases List.mem_append.mp hx with m | m
    · exact pick ss hs x m
    · exact pick ["zz"] (lits _ (by decide +kernel)) x m
  obtain ⟨p, rfl, hp⟩ := ex
  refine ⟨_, rfl, _, rfl, b, _, rfl, hb, by simp, by simp, fun x hx => ?_⟩
  obtain ⟨w, rfl, hw⟩ := pick ["emit", "get", "put", "read", "send", "send", "ask", "keep", "load", "right"] (lits _ (by decide +kernel)) x hx
  refine ⟨_, rfl, (by show 4 ≤ sizeLine; decide), b, _, rfl, hb, by simp, by simp, fun x hx => ?_⟩
  obtain ⟨y, rfl, hy⟩ := pick ["a", "ab", "b", "zz"] (lits _ (by decide +kernel)) x hx
  exact ⟨(by show 3 ≤ sizeLine; decide), trim_of (q (p, w, y) ⟨hp, hw, hy⟩)⟩
end K65
namespace K65
open PySem L2 Dl

abbrev PR : Da → R3 → Prop := fun d r => d = rowR r ∧ okR3 r
def keyR (r : R3) : Str × Str := (r.1, r.2.1)
/-- right rows of the words ws -/
structure RL (ws : List Str) (rows : List Da) (L : List R3) : Prop where
  sel : Sel PR RowN rows L
  nd : (L.map keyR).Nodup
  mem : ∀ r ∈ L, r.1 ∈ ws
theorem mkL {w : Str} {ts : List Str} {acc : List Da} (hw : okS w) (ht : ∀ t ∈ ts, okS t) (h : A2 (fun d y => ∃ (t : Str) (k : Int), d = .str t ∧ y = rowR (w, t, k) ∧ 0 < k ∧ k ≤ 9) (sD ts) acc) :
    ∃ L : List R3, Sel PR RowN acc L ∧ L.map keyR = ts.map fun t => (w, t) := by
  generalize e : sD ts = l at h
  induction h generalizing ts with
  | nil =>
    cases ts with
    | nil => exact ⟨[], .nil, rfl⟩
    | cons t ts => cases e
  | cons p t ih =>
    cases ts with
    | nil => cases e
    | cons s ts =>
      cases e
      obtain ⟨L, h1, h2⟩ := ih (fun t m => ht t (List.mem_cons_of_mem _ m)) rfl
      obtain ⟨t', k, e1, e2, e3, e4⟩ := p
      cases e1
      exact ⟨(w, s, k) :: L, .take ⟨e2, hw, ht s List.mem_cons_self, e3, e4⟩ h1, by rw [List.map_cons, h2]; rfl⟩
theorem RL.step {ws : List Str} {rows acc : List Da} {L : List R3} {w : Str} {ts : List Str} (h : RL ws rows L) (hn : w ∉ ws) (hw : okS w) (ht : ∀ t ∈ ts, okS t) (nd : ts.Nodup)
    (ha : A2 (fun d y => ∃ (t : Str) (k : Int), d = .str t ∧ y = rowR (w, t, k) ∧ 0 < k ∧ k ≤ 9) (sD ts) acc) : ∃ L', RL (ws ++ [w]) (rows ++ acc) L' := by
  obtain ⟨L2, h1, h2⟩ := mkL hw ht ha
  refine ⟨L ++ L2, h.sel.append h1, ?_, ?_⟩
  · rw [List.map_append, List.nodup_append]
    refine ⟨h.nd, ?_, ?_⟩
    · rw [h2]
      exact List.Pairwise.map _ (fun a b hne z => hne (congrArg Prod.snd z)) nd
    · intro a ha b hb z
      subst z
      obtain ⟨r, hr, e1⟩ := List.mem_map.mp ha
      rw [h2] at hb
      obtain ⟨t, _, e2⟩ := List.mem_map.mp hb
      have e3 : r.1 = w := by have := e1.trans e2.symm; exact congrArg Prod.fst this
      exact hn (by rw [← e3]; exact h.mem r hr)
  · intro r hr
    rcases List.mem_append.mp hr with m | m
    · exact List.mem_append_left _ (h.mem r m)
    · have : keyR r ∈ L2.map keyR := List.mem_map.mpr ⟨r, m, rfl⟩
      rw [h2] at this
      obtain ⟨t, _, e⟩ := List.mem_map.mp this
      exact List.mem_append_right _ (by rw [show r.1 = w from (congrArg Prod.fst e).symm]; simp)
theorem nd_at {l : List Str} {i : Nat} {x : Str} (h : l.Nodup) (e : l[i]? = some x) : x ∉ l.take i := fun m => by
  obtain ⟨j, hj, e2⟩ := List.mem_iff_getElem.mp m
  rw [List.length_take] at hj
  rw [List.getElem_take] at e2
  obtain ⟨hi, e3⟩ := List.getElem?_eq_some_iff.mp e
  exact (List.pairwise_iff_getElem.mp h) j i (by omega) hi (by omega) (e2.trans e3.symm)
theorem strs_at {l : List Str} {i : Nat} {d : Da} (e : (sD l)[i]? = some d) : ∃ s, d = .str s ∧ l[i]? = some s := by
  rw [List.getElem?_map] at e
  obtain ⟨s, h1, h2⟩ := Option.map_eq_some_iff.mp e
  exact ⟨s, h2.symm, h1⟩
theorem lits {l : List Str} (h : l.all (fun s => PyData.strOk s && decide (s.length ≤ 8)) = true) : ∀ s ∈ l, okS s := fun s m => by
  have := List.all_eq_true.mp h s m
  rw [Bool.and_eq_true, decide_eq_true_eq] at this
  exact this
abbrev words : List Str := ["emit", "get", "put", "read", "send"]
theorem words_nd : words.Nodup := by decide +kernel
theorem words_ok : ∀ s ∈ words, okS s := lits (by decide +kernel)
theorem take_at {α : Type} {l : List α} {i : Nat} {x : α} (e : l[i]? = some x) : l.take (i + 1) = l.take i ++ [x] := by rw [List.take_add_one, e]; rfl
theorem rd__law_right_rows (ds : List Da) (μ : Mu) (Q2 : QD) (h : r__law_right_rows ds μ Q2) : t__law_right_rows { nx := fun _ μ' => trim Q2 .non μ', rt := trim Q2 } (startR ["_law_bag_here", "_law_found", "_law_word", "_law_what"] ds) μ := by
  obtain ⟨b, rfl, hb, q⟩ := h
  refine ⟨Nat.zero_le _, (by show 5 ≤ sizeLine; decide), sD words, rfl, fun i ρ' μ' => μ' = μ ∧ ∃ rows L x y, ρ' = [some (.ref b), some (.lst rows), x, y] ∧ RL (words.take i) rows L ∧ rows.length ≤ 3 * i, ⟨rfl, [], [], none, none, rfl, ⟨.nil, by simp, by simp⟩, by simp⟩, ?_, ?_⟩
  · rintro i d ρ' μ' hi ⟨rfl, rows, L, x, y, rfl, hL, hlen⟩
    obtain ⟨w, rfl, hw⟩ := strs_at hi
    have i5 : i < 5 := (List.getElem?_eq_some_iff.mp hw).1
    have wok := words_ok w (List.mem_of_getElem? hw)
    refine ⟨trivial, _, rfl, _, rfl, (by show 3 ≤ sizeLine; decide), b, ["a", "ab", "b"], 3, rfl, hb, by decide, by decide, by decide, fun ts hts => ⟨_, rfl, lc_yes (fun d y => ∃ (t : Str) (k : Int), d = .str t ∧ y = rowR (w, t, k) ∧ 0 < k ∧ k ≤ 9) trivial (sz (by rw [List.length_map]; have := hts.length_le; simp at this; omega)) (fun d hd R hR => ?_) fun acc ha => ?_⟩⟩
    · obtain ⟨t, _, rfl⟩ := List.mem_map.mp hd
      exact ⟨_, rfl, _, rfl, _, rfl, tk hb (by decide) (by decide) fun k k0 k1 => add_int ⟨(by show 4 ≤ sizeLine; decide), hR _ ⟨t, 1 + k, rfl, rfl, by omega, by omega⟩⟩⟩
    · have tl := hts.length_le
      have al := ha.length
      rw [List.length_map] at al
      simp at tl
      obtain ⟨L', hL'⟩ := hL.step (nd_at words_nd hw) wok (sub_ok hts (lits (by decide +kernel))) (hts.nodup (by decide +kernel)) ha
      exact add_lst (sz (by omega)) ⟨rfl, rows ++ acc, L', _, _, rfl, by rw [take_at hw]; exact hL', by rw [List.length_append]; omega⟩
  · rintro ρ' μ' ⟨rfl, rows, L, x, y, rfl, hL, hlen⟩
    exact ⟨trivial, _, rfl, trim_of (q rows L ⟨hL.sel, hL.nd, Nat.le_trans hlen (by decide)⟩)⟩
/-! ### faces -/
theorem Sel.of_N {rows : List Da} (h : ∀ d ∈ rows, RowN d) : Sel PR RowN rows ([] : List R3) := by
  induction rows with
  | nil => exact .nil
  | cons a l ih => exact .skip (h a List.mem_cons_self) (ih fun d hd => h d (List.mem_cons_of_mem _ hd))
theorem Sel.takes {rows : List Da} {L : List R3} (h : Sel PR RowN rows L) : ∀ n, ∃ L', Sel PR RowN (rows.take n) L' ∧ L'.Sublist L := by
  induction h with
  | nil => intro n; exact ⟨[], by rw [List.take_nil]; exact .nil, List.Sublist.slnil⟩
  | take a t ih =>
    intro n
    cases n with
    | zero => exact ⟨[], .nil, List.nil_sublist _⟩
    | succ n => obtain ⟨L', h1, h2⟩ := ih n; exact ⟨_ :: L', .take a h1, h2.cons_cons _⟩
  | skip a t ih =>
    intro n
    cases n with
    | zero => exact ⟨[], .nil, List.nil_sublist _⟩
    | succ n => obtain ⟨L', h1, h2⟩ := ih n; exact ⟨L', .skip a h1, h2⟩
theorem cut_take {α : Type} {xs : List α} {o : Option Int} : ∃ n, cutD xs none o = xs.take n := ⟨_, by unfold cutD; rw [show HT.sIx xs.length 0 none = 0 from rfl, List.drop_zero]⟩
theorem rowN3 {k : Str} {a c : Da} {rest : List Da} (hk : k ≠ ("right" : Str)) (ok : PyData.strOk k = true) (h : cmpOk (.tup [.str k, a, c])) (hl : rest.length ≤ 8) : RowN (.tup (.str k :: a :: c :: rest)) := ⟨k, _, rfl, hk, h, ok, by simp; omega⟩
theorem cmp3 {k : Str} {a c : Da} (ok : PyData.strOk k = true) (ha : cmpOk a) (hc : cmpOk c) (h1 : dpD a ≤ 10) (h2 : dpD c ≤ 10) : cmpOk (.tup [.str k, a, c]) :=
  ⟨by simp [okD, okDs, ok, ha.1, hc.1], by simp [dpD, dpDs]; omega⟩
theorem cmp_int {i : Int} (h : i.natAbs < 10 ^ 12) : cmpOk (.int i) := ⟨by simp [okD]; omega, by simp [dpD]⟩
theorem cmp_ii {i j : Int} (h : i.natAbs < 10 ^ 12) (h2 : j.natAbs < 10 ^ 12) : cmpOk (.tup [.int i, .int j]) := ⟨by simp [okD, okDs]; omega, by simp [dpD, dpDs]⟩
theorem a2_N {as acc : List Da} (h : A2 (fun _ y => RowN y) as acc) : ∀ d ∈ acc, RowN d := h.all fun _ _ e => e
theorem sel_N {as acc : List Da} {N : Da → Prop} (h : Sel (fun _ y => RowN y) N as acc) : ∀ d ∈ acc, RowN d := by
  induction h with
  | nil => intro d hd; cases hd
  | take a t ih =>
    intro d hd
    rcases List.mem_cons.mp hd with rfl | hd
    · exact a
    · exact ih d hd
  | skip a t ih => exact ih
theorem app_N {xs ys : List Da} (h : ∀ d ∈ xs, RowN d) (h' : ∀ d ∈ ys, RowN d) : ∀ d ∈ xs ++ ys, RowN d := fun d hd => (List.mem_append.mp hd).elim (h d) (h' d)
theorem slen {ts ss : List Str} {n : Nat} (h : ts.Sublist ss) (hn : ss.length ≤ n) : (sD ts).length ≤ n := by rw [List.length_map]; exact Nat.le_trans h.length_le hn
end K65
namespace K65
open PySem L2 Dl
theorem int_bl {c : Bool} {μ : Mu} {Q : QD} (h : Q (.int (b2iD c)) μ) : int2 [.bl c] μ Q := h
theorem mul_lst {xs : List Da} {k : Int} {μ : Mu} {Q : QD} (h1 : -(2 ^ 63) ≤ k) (h2 : k < 2 ^ 63) (h3 : xs.length * k.toNat ≤ sizeLine) (h : Q (.lst (List.replicate k.toNat xs).flatten) μ) : mul2 (.lst xs) (.int k) μ Q := ⟨h1, h2, h3, h⟩
theorem sl_lst {xs : List Da} {lo hi : Option Int} {μ : Mu} {Q : QD} (h : Q (.lst (cutD xs lo hi)) μ) : sl2 (.lst xs) lo hi μ Q := h
theorem sl_tup {xs : List Da} {lo hi : Option Int} {μ : Mu} {Q : QD} (h : Q (.tup (cutD xs lo hi)) μ) : sl2 (.tup xs) lo hi μ Q := h
theorem b2i01 (c : Bool) : b2iD c = 0 ∨ b2iD c = 1 := by cases c <;> simp [b2iD]
theorem lit3 : ∀ s ∈ (["a", "ab", "b"] : List Str), okS s := lits (by decide +kernel)
theorem lit2 : ∀ s ∈ (["a", "b"] : List Str), okS s := lits (by decide +kernel)
theorem rd__law_face (ds : List Da) (μ : Mu) (Q2 : QD) (h : r__law_face ds μ Q2) : t__law_face { nx := fun _ μ' => trim Q2 .non μ', rt := trim Q2 } (startR ["_law_bag_here", "_law_part", "_law_parts", "_law_words", "_law_calls", "_law_asks", "_law_front", "_law_hooks", "_law_rights", "_law_word", "_law_back", "_law_call", "_law_hook", "_law_name", "_law_event", "_law_what"] ds) μ := by
  obtain ⟨b, p, ss, rfl, hb, hp, hs, hl, q⟩ := h
  refine ⟨(by show 3 ≤ sizeLine; decide), ?_⟩
  refine ⟨_, rfl, _, rfl, b, ["a", "ab", "b"], 3, rfl, hb, by decide, by decide, by decide, fun calls hcalls => ?_⟩
  have cl := slen hcalls (n := 3) (by decide)
  have cok := sub_ok hcalls lit3
  refine ⟨_, rfl, _, rfl, _, rfl, lc_sel (fun a c => c = a) (fun _ => True) trivial (by show 3 ≤ sizeLine; decide) (fun d hd R S hR hS => ?_) fun acc ha => ?_⟩
  · obtain ⟨s, m, rfl⟩ := List.mem_map.mp (show d ∈ sD ["a", "ab", "b"] from hd)
    exact ⟨_, rfl, _, rfl, notin_lst (cmp_str (lit3 s m).1) (cmp_strs (ok_strs cok)) fun c _ => ⟨c, rfl, ite_b (fun _ => ⟨_, rfl, hR _ rfl⟩) fun _ => hS trivial⟩⟩
  obtain ⟨rest, rfl, hrest⟩ := sel_sub (ss := ["a", "ab", "b"]) ha
  have rl := slen hrest (n := 3) (by decide)
  refine ⟨b, rest, 4, rfl, hb, by decide, by decide, by rw [List.length_map] at rl; omega, fun asks hasks => ?_⟩
  have al := slen hasks (n := 3) (by rw [List.length_map] at rl; exact rl)
  have aok := sub_ok hasks (sub_ok hrest lit3)
  -- offers
  refine ⟨_, rfl, _, rfl, lc_yes (fun _ y => RowN y) trivial (sz (by omega)) (fun d hd R hR => ?_) fun offers hoff => ?_⟩
  · obtain ⟨s, m, rfl⟩ := List.mem_map.mp hd
    refine ⟨_, rfl, _, rfl, tk hb (by decide) (by decide) fun u u0 u1 => ⟨_, rfl, tk hb (by decide) (by decide) fun v v0 v1 => ⟨(by show 2 ≤ sizeLine; decide), (by show 3 ≤ sizeLine; decide), _, rfl, b, rfl, hb, fun i j hi hij hj => add_tup (by show 3 + 2 ≤ sizeLine; decide) (hR _ (rowN3 (by decide +kernel) (by decide +kernel) (cmp3 (by decide +kernel) (cmp_str (cok s m).1) (cmp_ii (by omega) (by omega)) (by simp [dpD]) (by simp [dpD, dpDs])) (by simp)))⟩⟩⟩
  have fo := a2_N hoff
  have lo := hoff.length
  -- asks
  refine ⟨_, rfl, _, rfl, _, rfl, lc_yes (fun _ y => RowN y) trivial (sz (by omega)) (fun d hd R hR => ?_) fun as2 has2 => ?_⟩
  · obtain ⟨s, m, rfl⟩ := List.mem_map.mp hd
    exact ⟨_, rfl, _, rfl, tk hb (by decide) (by decide) fun u u0 u1 => ⟨_, rfl, tk hb (by decide) (by decide) fun v v0 v1 => ⟨(by show 2 ≤ sizeLine; decide), (by show 3 ≤ sizeLine; decide), hR _ (rowN3 (by decide +kernel) (by decide +kernel) (cmp3 (by decide +kernel) (cmp_str (aok s m).1) (cmp_ii (by omega) (by omega)) (by simp [dpD]) (by simp [dpD, dpDs])) (by simp))⟩⟩⟩
  have fa := a2_N has2
  have la := has2.length
  refine add_lst (sz (by omega)) ?_
  -- hooks
  refine ⟨(by show 3 ≤ sizeLine; decide), _, rfl, lc_sel (fun a c => c = a) (fun _ => True) trivial (by show 3 ≤ sizeLine; decide) (fun d hd R S hR hS => ?_) fun acc ha => ?_⟩
  · obtain ⟨s, m, rfl⟩ := List.mem_map.mp (show d ∈ sD ["a", "ab", "b"] from hd)
    exact ⟨_, rfl, tk hb (by decide) (by decide) fun u u0 u1 => ⟨_, rfl, eq_str (int_bl (mul_int (.inl (by decide)) ⟨_, _, rfl, rfl, _, rfl, ite_d (fun _ => ⟨_, rfl, hR _ rfl⟩) fun _ => hS trivial⟩))⟩⟩
  obtain ⟨hooks, rfl, hhooks⟩ := sel_sub (ss := ["a", "ab", "b"]) ha
  have hkl := slen hhooks (n := 3) (by decide)
  have hok := sub_ok hhooks lit3
  refine ⟨_, rfl, _, rfl, _, rfl, lc_yes (fun _ y => RowN y) trivial (sz (by omega)) (fun d hd R hR => ?_) fun hk2 hhk2 => ?_⟩
  · obtain ⟨s, m, rfl⟩ := List.mem_map.mp hd
    exact ⟨_, rfl, _, rfl, _, rfl, _, rfl, b, s, p, ss, rfl, hb, hok s m, hp, hs, hl, fun y hy => hR y hy⟩
  have fh := a2_N hhk2
  have lh := hhk2.length
  refine add_lst (sz (by simp; omega)) ?_
  -- events
  refine ⟨_, rfl, _, rfl, (by show 2 ≤ sizeLine; decide), b, ["a", "b"], 2, rfl, hb, by decide, by decide, by decide, fun evs hevs => ⟨_, rfl, lc_yes (fun _ y => RowN y) trivial (sz (by have := slen hevs (n := 2) (by decide); omega)) (fun d hd R hR => ?_) fun on2 hon2 => ?_⟩⟩
  · obtain ⟨s, m, rfl⟩ := List.mem_map.mp hd
    exact ⟨_, rfl, _, rfl, tk hb (by decide) (by decide) fun u u0 u1 => ⟨(by show 3 ≤ sizeLine; decide), hR _ (rowN3 (by decide +kernel) (by decide +kernel) (cmp3 (by decide +kernel) (cmp_str (sub_ok hevs lit2 s m).1) (cmp_int (by omega)) (by simp [dpD]) (by simp [dpD])) (by simp))⟩⟩
  have fe := a2_N hon2
  have le := hon2.length
  have evl := slen hevs (n := 2) (by decide)
  refine add_lst (sz (by simp; omega)) ?_
  have fN := app_N (app_N (app_N fo fa) fh) fe
  have fL : (offers ++ as2 ++ hk2 ++ on2).length ≤ 11 := by simp; omega
  generalize offers ++ as2 ++ hk2 ++ on2 = front at fN fL ⊢
  -- rights
  refine ⟨Nat.zero_le _, ?_⟩
  refine ⟨(by show 5 ≤ sizeLine; decide), sD words, rfl, fun i ρ' μ' => μ' = μ ∧ ∃ rows L x y, ρ' = [some (.ref b), some (.str p), some (.lst (sD ss)), some (.lst (sD ["a", "ab", "b"])), some (.lst (sD calls)), some (.lst (sD asks)), some (.lst front), some (.lst (sD hooks)), some (.lst rows), x, none, none, none, none, none, y] ∧ RL (words.take i) rows L ∧ rows.length ≤ 2 * i, ⟨rfl, [], [], none, none, rfl, ⟨.nil, by simp, by simp⟩, by simp⟩, ?_, ?_⟩
  · rintro i d ρ' μ' hi ⟨rfl, rows, L, x, y, rfl, hL, hlen⟩
    obtain ⟨w, rfl, hw⟩ := strs_at hi
    have i5 : i < 5 := (List.getElem?_eq_some_iff.mp hw).1
    have wok := words_ok w (List.mem_of_getElem? hw)
    refine ⟨trivial, _, rfl, _, rfl, (by show 2 ≤ sizeLine; decide), b, ["a", "b"], 2, rfl, hb, by decide, by decide, by decide, fun ts hts => ⟨_, rfl, lc_yes (fun d y => ∃ (t : Str) (k : Int), d = .str t ∧ y = rowR (w, t, k) ∧ 0 < k ∧ k ≤ 9) trivial (sz (by have := slen hts (n := 2) (by decide); omega)) (fun d hd R hR => ?_) fun acc ha => ?_⟩⟩
    · obtain ⟨t, _, rfl⟩ := List.mem_map.mp hd
      exact ⟨_, rfl, _, rfl, _, rfl, tk hb (by decide) (by decide) fun k k0 k1 => add_int ⟨(by show 4 ≤ sizeLine; decide), hR _ ⟨t, 1 + k, rfl, rfl, by omega, by omega⟩⟩⟩
    · have tl := slen hts (n := 2) (by decide)
      have al := ha.length
      obtain ⟨L', hL'⟩ := hL.step (nd_at words_nd hw) wok (sub_ok hts lit2) (hts.nodup (by decide +kernel)) ha
      exact add_lst (sz (by omega)) ⟨rfl, rows ++ acc, L', _, _, rfl, by rw [take_at hw]; exact hL', by rw [List.length_append]; omega⟩
  rintro ρ' μ' ⟨rfl, rights, L, x, y, rfl, hL, hrl⟩
  have hrl : rights.length ≤ 10 := hrl
  refine ⟨trivial, ?_⟩
  -- back: defaults
  refine ⟨_, rfl, (by show 2 ≤ sizeLine; decide), b, ["a", "b"], 3, rfl, hb, by decide, by decide, by decide, fun dfs hdfs => ⟨_, rfl, lc_yes (fun _ y => RowN y) trivial (sz (by have := slen hdfs (n := 2) (by decide); omega)) (fun d hd R hR => ?_) fun b1 hb1 => ?_⟩⟩
  · obtain ⟨s, m, rfl⟩ := List.mem_map.mp hd
    exact ⟨_, rfl, _, rfl, b, rfl, hb, fun i hi => ⟨(by show 3 ≤ sizeLine; decide), hR _ (rowN3 (by decide +kernel) (by decide +kernel) (cmp3 (by decide +kernel) (cmp_str (sub_ok hdfs lit2 s m).1) (cmp_int (by omega)) (by simp [dpD]) (by simp [dpD])) (by simp))⟩⟩
  have g1 := a2_N hb1
  have l1 := hb1.length
  have dl := slen hdfs (n := 2) (by decide)
  -- keys
  refine ⟨_, rfl, (by show 2 ≤ sizeLine; decide), _, rfl, lc_sel (fun _ y => RowN y) (fun _ => True) trivial (by show 2 ≤ sizeLine; decide) (fun d hd R S hR hS => ?_) fun b2 hb2 => ?_⟩
  · obtain ⟨s, m, rfl⟩ := List.mem_map.mp (show d ∈ sD ["a", "b"] from hd)
    exact ⟨_, rfl, tk hb (by decide) (by decide) fun u u0 u1 => ⟨_, _, rfl, rfl, _, rfl, ite_d (fun _ => ⟨_, rfl, _, rfl, b, "key", s, rfl, hb, lit, lit2 s m, by decide +kernel, fun y hy => hR y hy⟩) fun _ => hS trivial⟩⟩
  have g2 := sel_N hb2
  have l2 : b2.length ≤ 2 := hb2.len
  refine add_lst (sz (by omega)) ?_
  -- own
  refine ⟨_, rfl, _, rfl, (by show 2 ≤ sizeLine; decide), b, ["a", "b"], 3, rfl, hb, by decide, by decide, by decide, fun ows hows => ⟨_, rfl, lc_yes (fun _ y => RowN y) trivial (sz (by have := slen hows (n := 2) (by decide); omega)) (fun d hd R hR => ?_) fun b3 hb3 => ?_⟩⟩
  · obtain ⟨s, m, rfl⟩ := List.mem_map.mp hd
    exact ⟨_, rfl, _, rfl, b, "own", s, rfl, hb, lit, sub_ok hows lit2 s m, by decide +kernel, fun y hy => hR y hy⟩
  have g3 := a2_N hb3
  have l3 := hb3.length
  have ol := slen hows (n := 2) (by decide)
  refine add_lst (sz (by simp; omega)) ?_
  -- steps
  refine ⟨_, rfl, _, rfl, tk hb (by decide) (by decide) fun k k0 k1 => add_int ⟨(by show 2 ≤ sizeLine; decide), (by show 1 ≤ sizeLine; decide), _, rfl, tk hb (by decide) (by decide) fun j _ _ => eq_int (int_bl ?_)⟩⟩
  have stepN : RowN (.tup [.str "steps", .int (1 + k)]) := ⟨"steps", _, rfl, by decide +kernel, ⟨by simp [okD, okDs, (by decide +kernel : PyData.strOk ("steps" : Str) = true)]; omega, by simp [dpD, dpDs]⟩, by decide +kernel, by simp⟩
  have c01 := b2i01 (decide (j = 0))
  generalize b2iD (decide (j = 0)) = c at c01 ⊢
  have c4 : (List.replicate c.toNat [Da.tup [.str "steps", .int (1 + k)]]).flatten.length ≤ 1 ∧ ∀ d ∈ (List.replicate c.toNat [Da.tup [.str "steps", .int (1 + k)]]).flatten, RowN d := by
    rcases c01 with rfl | rfl
    · exact ⟨by simp, fun d hd => by cases hd⟩
    · refine ⟨by simp, fun d hd => ?_⟩
      have : d = .tup [.str "steps", .int (1 + k)] := by simpa using hd
      rw [this]; exact stepN
  refine mul_lst (by omega) (by omega) (sz (by simp; omega)) ?_
  obtain ⟨c5, c6⟩ := c4
  generalize (List.replicate c.toNat [Da.tup [.str "steps", .int (1 + k)]]).flatten = b4 at c5 c6 ⊢
  refine add_lst (sz (by simp; omega)) ?_
  have bN := app_N (app_N (app_N g1 g2) g3) c6
  have bL : (b1 ++ b2 ++ b3 ++ b4).length ≤ 7 := by simp; omega
  generalize b1 ++ b2 ++ b3 ++ b4 = back at bN bL ⊢
  refine ⟨_, rfl, _, rfl, _, rfl, len_lst ⟨_, _, rfl, rfl, _, rfl, len_lst ⟨_, _, rfl, rfl, _, rfl, sl_lst ?_⟩⟩⟩
  obtain ⟨n, hn⟩ := cut_take (xs := rights) (o := some (16 - (front.length : Int) - (back.length : Int)))
  rw [hn]
  obtain ⟨L', s1, s2⟩ := Sel.takes hL.sel n
  have tl : (rights.take n).length ≤ 10 := by rw [List.length_take]; omega
  refine add_lst (sz (by omega)) ⟨_, rfl, add_lst (sz (by simp only [List.length_append]; omega)) (tup_lst (trim_of (q _ L' ⟨?_, ?_, ?_⟩)))⟩
  · have := ((Sel.of_N fN).append s1).append (Sel.of_N bN)
    rwa [List.nil_append, List.append_nil] at this
  · exact (s2.map keyR).nodup hL.nd
  · simp only [List.length_append]; omega
end K65
namespace K65
open PySem L2 Dl
theorem at_n {α : Type} {xs : List α} {x : α} (i : Nat) (h : xs[i]? = some x) : atI xs (i : Int) = some x := by
  have hi := (List.getElem?_eq_some_iff.mp h).1
  unfold atI ixN
  rw [if_pos (by omega), if_pos (by omega)]
  exact h
theorem app_at {μ : Mu} {a : Addr} {ds : List Da} {x : Da} {Q : QD} (hm : μ a = some (.lst ds)) (hl : ds.length < sizeLine) (h : Q .non (put μ a (.lst (ds ++ [x])))) : append2 (.ref a) [x] μ Q := ⟨a, ds, x, rfl, rfl, hm, hl, h⟩
theorem ty_at {μ : Mu} {a : Addr} {ds : List Da} (hm : μ a = some (.lst ds)) : tyD "list" (.ref a) μ := by unfold tyD; rw [view_refL hm]
theorem tup_at {μ : Mu} {a : Addr} {ds : List Da} {Q : QD} (hm : μ a = some (.lst ds)) (h : Q (.tup ds) μ) : tuple2 [.ref a] μ Q := by
  unfold tuple2
  simp only [view_refL hm]
  exact h
theorem sub_put2 {μ : Mu} {p : Addr} {m : Mo} (h : μ p = none) : ∀ a n, μ a = some n → put μ p m a = some n := sub_put h
theorem row_kind {rows : List Da} {L : List R3} (h : Sel PR RowN rows L) : ∀ d ∈ rows, ∃ k rest, d = .tup (.str k :: rest) ∧ PyData.strOk k = true := by
  induction h with
  | nil => intro d hd; cases hd
  | take a t ih =>
    intro d hd
    rcases List.mem_cons.mp hd with rfl | hd
    · exact ⟨"right", _, a.1, by decide +kernel⟩
    · exact ih d hd
  | skip a t ih =>
    intro d hd
    rcases List.mem_cons.mp hd with rfl | hd
    · obtain ⟨k, rest, e, _, _, ok, _⟩ := a
      exact ⟨k, rest, e, ok⟩
    · exact ih d hd
theorem rd__law_body (ds : List Da) (μ : Mu) (Q2 : QD) (h : r__law_body ds μ Q2) : t__law_body { nx := fun _ μ' => trim Q2 .non μ', rt := trim Q2 } (startR ["_law_bag_here", "_law_face_here", "_law_names_here", "_law_found", "_law_row", "_law_many", "_law_steps", "_law_stock", "_law_at"] ds) μ := by
  obtain ⟨b, rows, L, ss, rfl, hb, hf, hne, hl, q⟩ := h
  refine ⟨Nat.zero_le _, fun p hp => ?_⟩
  have nb : b ≠ p := fun e => by rw [e, hp] at hb; cases hb
  have sp : 0 < ss.length := List.length_pos_iff.mpr hne
  refine ⟨_, rfl, rows, .inl rfl, fun i ρ' μ' => ∃ ys o1 o2 o3 o4, ρ' = [some (.ref b), some (.tup rows), some (.lst (sD ss)), some (.ref p), o1, o2, o3, o4, none] ∧ μ' = put μ p (.lst ys) ∧ ys.length ≤ i, ⟨[], none, none, none, none, rfl, rfl, Nat.le_refl _⟩, ?_, ?_⟩
  · rintro i d ρ' μ' hi ⟨ys, o1, o2, o3, o4, rfl, rfl, hy⟩
    have hil := (List.getElem?_eq_some_iff.mp hi).1
    have fl := hf.len
    have hb' : put μ p (.lst ys) b = some .bag := by rw [put_ne nb]; exact hb
    obtain ⟨k, rest, rfl, ok⟩ := row_kind hf.sel d (List.mem_of_getElem? hi)
    refine ⟨trivial, _, rfl, ix_tup (x := .str k) (at_n 0 rfl) ⟨(by show 3 ≤ sizeLine; decide), in_tup rfl rfl fun c _ => ⟨c, rfl, ite_b (fun _ => ?_) fun _ => ?_⟩⟩⟩
    · refine ⟨_, rfl, tk hb' (by decide) (by decide) fun n n0 n1 => ?_⟩
      refine ⟨_, rfl, n, rfl, by omega, by omega, lc_yes (fun _ _ => True) trivial (sz (by rw [rng_len]; omega)) (fun d hd R hR => ?_) fun steps hst => tup_lst ?_⟩
      · obtain ⟨j, hj, e⟩ := List.mem_map.mp (show d ∈ rng 0 n.toNat from hd)
        subst e
        have hj' := List.mem_range.mp hj
        exact ⟨_, rfl, _, rfl, _, rfl, b, _, n, rfl, hb', by omega, by omega, by omega, fun y => hR y trivial⟩
      have stl := hst.length
      rw [rng_len] at stl
      refine ⟨_, rfl, _, rfl, _, rfl, len_lst (tk hb' (by rw [List.length_map]; omega) (by rw [List.length_map]; omega) fun j j0 j1 => ix_lst j0 j1 fun z _ => ⟨(by show 2 ≤ sizeLine; decide), ?_⟩)⟩
      refine ⟨_, rfl, ty_at put_same, _, rfl, (by show 2 ≤ sizeLine; decide), _, rfl, (by show 2 ≤ sizeLine; decide), _, rfl, (by show 3 ≤ sizeLine; decide), _, rfl, tk hb' (by decide) (by decide) fun e e0 e1 => ix_lst e0 e1 fun u _ => app_at put_same (Nat.lt_of_le_of_lt hy (Nat.lt_of_lt_of_le hil (sz (by omega)))) ?_⟩
      exact ⟨ys ++ [u], _, _, _, _, rfl, put_put, by rw [List.length_append]; simp; omega⟩
    · exact ⟨ys, _, _, _, _, rfl, rfl, by omega⟩
  · rintro ρ' μ' ⟨ys, o1, o2, o3, o4, rfl, rfl, hy⟩
    exact ⟨trivial, _, rfl, tup_at put_same ⟨μ, sub_put hp, q _⟩⟩
theorem makes_go {b p : Addr} : True := trivial
theorem rd__law_makes (ds : List Da) (μ : Mu) (Q2 : QD) (h : r__law_makes ds μ Q2) : t__law_makes { nx := fun _ μ' => trim Q2 .non μ', rt := trim Q2 } (startR ["_law_bag_here", "_law_parts", "_law_found", "_law_part"] ds) μ := by
  obtain ⟨b, ss, rfl, hb, hnd, hs, hl, q⟩ := h
  refine ⟨Nat.zero_le _, fun p hp => ?_⟩
  have nb : b ≠ p := fun e => by rw [e, hp] at hb; cases hb
  refine ⟨_, rfl, _, rfl, fun i ρ' μ' => ∃ ms Ls o, ρ' = [some (.ref b), some (.lst (sD ss)), some (.ref p), o] ∧ μ' = put μ p (.lst ms) ∧ A2 (fun d pl => MakeOk pl d) ms Ls ∧ Ls.map (·.1) = ss.take i, ⟨[], [], none, rfl, rfl, .nil, rfl⟩, ?_, ?_⟩
  · rintro i d ρ' μ' hi ⟨ms, Ls, o, rfl, rfl, ha, he⟩
    obtain ⟨s, rfl, hsi⟩ := strs_at hi
    have hil := (List.getElem?_eq_some_iff.mp hsi).1
    have hb' : put μ p (.lst ms) b = some .bag := by rw [put_ne nb]; exact hb
    have ml : ms.length ≤ 4 := by
      have h1 := ha.length
      have h2 := congrArg List.length he
      rw [List.length_map, List.length_take] at h2
      omega
    have next : ∀ d L, MakeOk (s, L) d → ∃ ms' Ls' o, ([some (.ref b), some (.lst (sD ss)), some (.ref p), some (.str s)] : Rho) = [some (.ref b), some (.lst (sD ss)), some (.ref p), o] ∧ put (put μ p (.lst ms)) p (.lst (ms ++ [d])) = put μ p (.lst ms') ∧ A2 (fun d pl => MakeOk pl d) ms' Ls' ∧ Ls'.map (·.1) = ss.take (i + 1) := fun d L hd =>
      ⟨ms ++ [d], Ls ++ [(s, L)], _, rfl, put_put, ha.append (.cons hd .nil), by rw [List.map_append, he, take_at hsi]; rfl⟩
    refine ⟨trivial, _, rfl, tk hb' (by decide) (by decide) fun n _ _ => eq_int ⟨_, rfl, ite_d (fun _ => ?_) fun _ => ?_⟩⟩
    · refine ⟨_, rfl, ty_at put_same, _, rfl, _, rfl, (by show 2 ≤ sizeLine; decide), _, rfl, (by show 1 ≤ sizeLine; decide), b, s, _, ss, ["plain"], rfl, hb', hs s (List.mem_of_getElem? hsi), hs, hl, by simp, by simp, fun d L hd => app_at put_same (Nat.lt_of_le_of_lt ml (by decide)) (next d L hd)⟩
    · refine ⟨_, rfl, ty_at put_same, _, rfl, _, rfl, _, rfl, b, rfl, hb', fun rows L hL => ⟨b, s, rows, L, rfl, hb', hL, fun d hd => app_at put_same (Nat.lt_of_le_of_lt ml (by decide)) (next d L hd)⟩⟩
  · rintro ρ' μ' ⟨ms, Ls, o, rfl, rfl, ha, he⟩
    have he' : Ls.map (·.1) = ss := by rw [he, List.length_map, List.take_length]
    refine ⟨trivial, p, ms, rfl, put_same, μ, fun a m e => ?_, q ms Ls ⟨ha, by rw [he']; exact hnd, fun pl hpl => hs _ (by rw [← he']; exact List.mem_map.mpr ⟨pl, hpl, rfl⟩), by have := congrArg List.length he'; rw [List.length_map] at this; omega⟩⟩
    have ne : a ≠ p := fun z => by rw [z, hp] at e; cases e
    rw [del_ne ne, put_ne ne]; exact e
end K65
namespace K65
open PySem L2 Dl
theorem strOk_app {a b : Str} (ha : PyData.strOk a = true) (hb : PyData.strOk b = true) : PyData.strOk (a ++ b) = true := by
  show ((a.cps ++ b.cps).all (· < 0x110000)) = true
  rw [Array.all_append]
  exact Bool.and_eq_true_iff.mpr ⟨ha, hb⟩
theorem join_ok : ∀ ys : List Str, (∀ y ∈ ys, PyData.strOk y = true ∧ y.length = 1) → PyData.strOk (Str.join "" ys) = true ∧ (Str.join "" ys).length = ys.length
  | [], _ => ⟨by decide +kernel, by decide +kernel⟩
  | [x], h => h x List.mem_cons_self
  | x :: y :: r, h => by
    obtain ⟨i1, i2⟩ := join_ok (y :: r) fun z hz => h z (List.mem_cons_of_mem _ hz)
    obtain ⟨h1, h2⟩ := h x List.mem_cons_self
    refine ⟨strOk_app (strOk_app h1 (by decide +kernel)) i1, ?_⟩
    show (x ++ ("" : Str) ++ Str.join "" (y :: r)).length = _
    rw [Str.length_append, Str.length_append, h2, i2, (by decide +kernel : ("" : Str).length = 0)]
    simp; omega
theorem txts_of {α : Type} {as : List α} {acc : List Da} (h : A2 (fun _ y => ∃ c : Str, y = .str c ∧ PyData.strOk c = true ∧ c.length = 1) as acc) : ∃ cs : List Str, txts acc = some cs ∧ cs.length = as.length ∧ ∀ c ∈ cs, PyData.strOk c = true ∧ c.length = 1 := by
  induction h with
  | nil => exact ⟨[], rfl, rfl, by simp⟩
  | cons a t ih =>
    obtain ⟨cs, h1, h2, h3⟩ := ih
    obtain ⟨c, rfl, h4, h5⟩ := a
    refine ⟨c :: cs, by rw [txts, h1]; rfl, by simp [h2], fun x hx => ?_⟩
    rcases List.mem_cons.mp hx with rfl | hx
    · exact ⟨h4, h5⟩
    · exact h3 x hx
theorem sum_ones : ∀ cs : List Str, (∀ c ∈ cs, PyData.strOk c = true ∧ c.length = 1) → (cs.map (·.length)).sum = cs.length
  | [], _ => rfl
  | c :: cs, h => by
    rw [List.map_cons, List.sum_cons, (h c List.mem_cons_self).2, sum_ones cs fun x hx => h x (List.mem_cons_of_mem _ hx), List.length_cons]
    omega
theorem alpha_ok : ∀ c ∈ ("abcdefghijklmnopqrstuvwxyz" : Str).cps.toList, c < 0x110000 := by decide +kernel
theorem alpha_len : ("abcdefghijklmnopqrstuvwxyz" : Str).cps.toList.length = 26 := by decide +kernel
theorem alpha_len2 : ("abcdefghijklmnopqrstuvwxyz" : Str).length = 26 := by decide +kernel
theorem ix_str2 {z : Str} {i : Int} {μ : Mu} {Q : QD} (hz : z.length ≤ sizeLine) (h0 : 0 ≤ i) (h1 : i < z.cps.toList.length) (k : ∀ c ∈ z.cps.toList, Q (.str ⟨#[c]⟩) μ) : ix2 (.str z) (.int i) μ Q := by
  obtain ⟨c, h2, h3, _⟩ := atI_lt h0 h1
  exact ⟨i, c, rfl, hz, h2, k c h3⟩
theorem add_at {μ : Mu} {a : Addr} {xs ys : List Da} {Q : QD} (hm : μ a = some (.lst xs)) (hs : xs.length + ys.length ≤ sizeLine) (h : Q (.lst (xs ++ ys)) μ) : add2 (.ref a) (.lst ys) μ Q := by
  unfold add2
  simp only [view_refL hm, view_lst]
  exact ⟨hs, h⟩
theorem sD_app (a b : List Str) : sD (a ++ b) = sD a ++ sD b := List.map_append
/-- what stands not further ahead -/
abbrev PD (base : List Da) : Da → Da → Prop := fun d y => ∃ (i : Nat) (x : Da), base[i]? = some x ∧ d = .tup [.int (i : Nat), x] ∧ x ∉ base.take i ∧ y = x
theorem sel_nd {base : List Da} {l acc : List Da} (h : Sel (PD base) (fun _ => True) l acc) : ∀ k, l = (enumD base).drop k → acc.Nodup ∧ ∀ y ∈ acc, y ∉ base.take k ∧ y ∈ base := by
  have head : ∀ {d : Da} {l : List Da} {k : Nat}, d :: l = (enumD base).drop k → (enumD base)[k]? = some d ∧ l = (enumD base).drop (k + 1) := fun {d l k} e => by
    have h1 : ((enumD base).drop k)[0]? = some d := by rw [← e]; rfl
    rw [List.getElem?_drop, Nat.add_zero] at h1
    refine ⟨h1, ?_⟩
    have h2 : ((enumD base).drop k).tail = l := by rw [← e]; rfl
    rw [← h2, List.tail_drop]
  induction h with
  | nil => intro k _; exact ⟨List.nodup_nil, fun y hy => by cases hy⟩
  | @take d y l acc p t ih =>
    intro k e
    obtain ⟨h1, h2⟩ := head e
    obtain ⟨i1, i2⟩ := ih (k + 1) h2
    obtain ⟨x, hx, rfl⟩ := enum_get h1
    obtain ⟨j, x', g1, g2, g3, g4⟩ := p
    have g5 : (j : Int) = (k : Int) ∧ x' = x := by
      injection g2 with g2
      injection g2 with a1 a2
      injection a1 with a1
      injection a2 with a2 _
      exact ⟨a1.symm, a2.symm⟩
    obtain ⟨g6, rfl⟩ := g5
    have : j = k := by omega
    subst this
    subst g4
    have mem : y ∈ base.take (j + 1) := by rw [take_at hx]; simp
    refine ⟨List.nodup_cons.mpr ⟨fun m => (i2 y m).1 mem, i1⟩, fun z hz => ?_⟩
    rcases List.mem_cons.mp hz with rfl | hz
    · exact ⟨g3, List.mem_of_getElem? hx⟩
    · refine ⟨fun m => (i2 z hz).1 ?_, (i2 z hz).2⟩
      rw [take_at hx]; exact List.mem_append_left _ m
  | @skip d l acc p t ih =>
    intro k e
    obtain ⟨h1, h2⟩ := head e
    obtain ⟨i1, i2⟩ := ih (k + 1) h2
    obtain ⟨x, hx, rfl⟩ := enum_get h1
    refine ⟨i1, fun z hz => ⟨fun m => (i2 z hz).1 ?_, (i2 z hz).2⟩⟩
    rw [take_at hx]; exact List.mem_append_left _ m
theorem cut_upto {α : Type} {xs : List α} {m : Int} (h : 0 ≤ m) : ∃ n, cutD xs none (some m) = xs.take n ∧ (n : Int) ≤ m := by
  refine ⟨HT.sIx xs.length xs.length (some m), by unfold cutD; rw [show HT.sIx xs.length 0 none = 0 from rfl, List.drop_zero, Nat.sub_zero], ?_⟩
  unfold HT.sIx
  simp only [if_neg (by omega : ¬ m < 0)]
  omega
theorem enum_mem {base : List Da} {d : Da} (h : d ∈ enumD base) : ∃ i x, base[i]? = some x ∧ d = .tup [.int ((i : Nat) : Int), x] := by
  obtain ⟨i, hi, e⟩ := List.getElem_of_mem h
  obtain ⟨x, h1, h2⟩ := enum_get (ds := base) (i := i) (d := d) (by rw [List.getElem?_eq_getElem hi, e])
  exact ⟨i, x, h1, h2⟩
theorem cut_i {α : Type} {xs : List α} {i : Nat} (h : i ≤ xs.length) : cutD xs none (some (i : Int)) = xs.take i := by
  unfold cutD
  rw [show HT.sIx xs.length 0 none = 0 from rfl, List.drop_zero, Nat.sub_zero]
  have : HT.sIx xs.length xs.length (some (i : Int)) = i := by
    unfold HT.sIx
    simp only [if_neg (by omega : ¬ (i : Int) < 0)]
    omega
  rw [this]
theorem strs_of {acc : List Da} {ss : List Str} (h : ∀ y ∈ acc, y ∈ sD ss) : ∃ us : List Str, acc = sD us ∧ ∀ u ∈ us, u ∈ ss := by
  induction acc with
  | nil => exact ⟨[], rfl, by simp⟩
  | cons a l ih =>
    obtain ⟨us, e1, e2⟩ := ih fun y hy => h y (List.mem_cons_of_mem _ hy)
    obtain ⟨s, hs, e3⟩ := List.mem_map.mp (h a List.mem_cons_self)
    refine ⟨s :: us, by rw [e1, ← e3]; rfl, fun u hu => ?_⟩
    rcases List.mem_cons.mp hu with rfl | hu
    · exact hs
    · exact e2 u hu
theorem nd_of_sD {us : List Str} (h : (sD us).Nodup) : us.Nodup := by
  induction us with
  | nil => exact List.nodup_nil
  | cons u us ih =>
    obtain ⟨h1, h2⟩ := List.nodup_cons.mp (show (Da.str u :: sD us).Nodup from h)
    exact List.nodup_cons.mpr ⟨fun m => h1 (List.mem_map.mpr ⟨u, m, rfl⟩), ih h2⟩
theorem rd__law_names (ds : List Da) (μ : Mu) (Q2 : QD) (h : r__law_names ds μ Q2) : t__law_names { nx := fun _ μ' => trim Q2 .non μ', rt := trim Q2 } (startR ["_law_bag_here", "_law_many", "_law_found", "_law_k", "_law_size", "_law_name", "_law_j"] ds) μ := by
  obtain ⟨b, m, rfl, hb, h0, h4, q⟩ := h
  refine ⟨(by show 1 ≤ sizeLine; decide), _, rfl, tk hb (by decide) (by decide) fun i _ _ => eq_int (int_bl ?_)⟩
  have c01 := b2i01 (decide (i = 0))
  generalize b2iD (decide (i = 0)) = c at c01 ⊢
  refine ⟨_, c, rfl, rfl, by omega, by omega, sz (by simp; omega), fun p hp => ?_⟩
  have nb : b ≠ p := fun e => by rw [e, hp] at hb; cases hb
  refine ⟨_, rfl, m, rfl, by omega, by omega, fun i ρ' μ' => ∃ ss o1 o2 o3, ρ' = [some (.ref b), some (.int m), some (.ref p), o1, o2, none, o3] ∧ μ' = put μ p (.lst (sD ss)) ∧ (∀ s ∈ ss, okS s) ∧ ss.length ≤ 1 + i, ?_, ?_, ?_⟩
  · rcases c01 with rfl | rfl
    · exact ⟨[], none, none, none, rfl, rfl, by simp, by simp⟩
    · exact ⟨["a"], none, none, none, rfl, rfl, lits (by decide +kernel), by simp⟩
  · rintro i d ρ' μ' hi ⟨ss, o1, o2, o3, rfl, rfl, hs, hl⟩
    have hi4 : i < m.toNat := (rng_get hi).1
    have hb' : put μ p (.lst (sD ss)) b = some .bag := by rw [put_ne nb]; exact hb
    refine ⟨trivial, _, rfl, (by show 3 ≤ sizeLine; decide), _, rfl, tk hb' (by decide) (by decide) fun e e0 e1 => ix_lst e0 e1 fun x hx => ?_⟩
    obtain ⟨n, rfl, n1, n8⟩ : ∃ n : Int, x = .int n ∧ 1 ≤ n ∧ n ≤ 8 := by
      simp only [List.mem_cons, List.not_mem_nil, or_false] at hx
      rcases hx with rfl | rfl | rfl
      · exact ⟨_, rfl, by decide, by decide⟩
      · exact ⟨_, rfl, by decide, by decide⟩
      · exact ⟨_, rfl, by decide, by decide⟩
    refine tk hb' (by omega) (by omega) fun k k0 k1 => add_int ?_
    refine ⟨_, rfl, ty_at put_same, rfl, _, rfl, 1 + k, rfl, by omega, by omega, lc_yes (fun _ y => ∃ c : Str, y = .str c ∧ PyData.strOk c = true ∧ c.length = 1) trivial (sz (by rw [rng_len]; omega)) (fun d hd R hR => ?_) fun acc ha => ?_⟩
    · exact ⟨_, rfl, tk hb' (by decide) (by decide) fun j j0 j1 => ix_str2 (by rw [alpha_len2]; decide) j0 (by rw [alpha_len]; exact j1) fun c hc => hR _ ⟨⟨#[c]⟩, rfl, by simpa [PyData.strOk] using alpha_ok c hc, rfl⟩⟩
    · obtain ⟨cs, t1, t2, t3⟩ := txts_of ha
      rw [rng_len] at t2
      refine ⟨"", _, acc, cs, rfl, rfl, rfl, t1, by rw [sum_ones cs t3, (by decide +kernel : ("" : Str).length = 0)]; omega, ?_⟩
      obtain ⟨j1, j2⟩ := join_ok cs t3
      have ej : Txt.join "" cs = Str.join "" cs := StrLaws.glued_eq_join _ _
      rw [ej]
      have l1000 : (1000 : Nat) ≤ sizeLine := by decide
      refine app_at put_same (by rw [List.length_map]; omega) ⟨ss ++ [Str.join "" cs], _, _, _, rfl, by rw [put_put, sD_app]; rfl, ?_, by simp; omega⟩
      intro s hs'
      rcases List.mem_append.mp hs' with m | m
      · exact hs s m
      · rw [List.mem_singleton.mp m]
        exact ⟨j1, by rw [j2]; omega⟩
  · rintro ρ' μ' ⟨ss, o1, o2, o3, rfl, rfl, hs, hl⟩
    rw [rng_len] at hl
    refine ⟨trivial, _, rfl, (by show 5 ≤ sizeLine; decide), add_at put_same (sz (by simp; omega)) ?_⟩
    have five : ∀ s ∈ (["ann", "bob", "cy", "dan", "eve"] : List Str), okS s := lits (by decide +kernel)
    have eb : sD ss ++ [Da.str "ann", Da.str "bob", Da.str "cy", Da.str "dan", Da.str "eve"] = sD (ss ++ (["ann", "bob", "cy", "dan", "eve"] : List Str)) := by rw [sD_app]; rfl
    rw [eb]
    have bok : ∀ s ∈ ss ++ (["ann", "bob", "cy", "dan", "eve"] : List Str), okS s := fun s hs' => (List.mem_append.mp hs').elim (hs s) (five s)
    have bl : (ss ++ (["ann", "bob", "cy", "dan", "eve"] : List Str)).length ≤ 20 := by simp; omega
    generalize ss ++ (["ann", "bob", "cy", "dan", "eve"] : List Str) = base at bok bl ⊢
    refine ⟨_, rfl, _, rfl, lc_sel (PD (sD base)) (fun _ => True) trivial (sz (by rw [enum_len, List.length_map]; omega)) (fun d hd R S hR hS => ?_) fun acc ha => ?_⟩
    · obtain ⟨i, x, hi, rfl⟩ := enum_mem hd
      obtain ⟨s, rfl, hs'⟩ := strs_at hi
      have hil := (List.getElem?_eq_some_iff.mp hi).1
      refine ⟨_, rfl, rfl, _, _, rfl, _, _, rfl, rfl, _, rfl, _, rfl, _, rfl, _, rfl, sl_lst ?_⟩
      rw [cut_i (by omega)]
      have et : (sD base).take i = sD (base.take i) := List.map_take.symm
      rw [et]
      refine notin_lst (cmp_str (bok s (List.mem_of_getElem? hs')).1) (cmp_strs fun z hz => (bok z (List.mem_of_mem_take hz)).1) fun c hc => ⟨c, rfl, ite_b (fun e => ⟨_, rfl, hR _ ⟨i, _, hi, rfl, by rw [et]; exact hc.mp e, rfl⟩⟩) fun _ => hS trivial⟩
    · obtain ⟨n1, n2⟩ := sel_nd ha 0 (by rw [List.drop_zero])
      obtain ⟨us, rfl, hu⟩ := strs_of fun y hy => (n2 y hy).2
      have und := nd_of_sD n1
      obtain ⟨n, hn, hnm⟩ := cut_upto (xs := sD us) (m := m) (by omega)
      refine ⟨_, rfl, _, rfl, sl_lst ?_⟩
      rw [hn, show (sD us).take n = sD (us.take n) from List.map_take.symm]
      exact ⟨μ, sub_put hp, q _ (und.sublist (List.take_sublist n us)) (fun s hs' => bok s (hu s (List.mem_of_mem_take hs'))) (by rw [List.length_take]; omega)⟩
end K65
namespace K65
open PySem L2 Dl
/-- the row is t's right -/
def hit (t : T3) (r : R3) : Bool := decide (r.1 = t.2.1 ∧ r.2.1 = t.2.2)
theorem str_inj {a b : Str} (h : Da.str a = Da.str b) : a = b := by injection h
theorem take3R (r : R3) : ([Da.str "right", .str r.1, .str r.2.1, .int r.2.2] : List Da).take 3 = [.str "right", .str r.1, .str r.2.1] := rfl
theorem cmp_tri {a b c : Str} (ha : PyData.strOk a = true) (hb : PyData.strOk b = true) (hc : PyData.strOk c = true) : cmpOk (.tup [.str a, .str b, .str c]) := ⟨by simp [okD, okDs, ha, hb, hc], by simp [dpD, dpDs]⟩
theorem pick_rows {t : T3} {p : Str} {rws : List Da} {L : List R3} (h : Sel PR RowN rws L) : ∀ {acc : List Da}, Sel (fun d y => y = d ∧ p = t.1 ∧ ∃ r, d = rowR r ∧ hit t r = true) (fun d => ¬ (p = t.1 ∧ ∃ r, d = rowR r ∧ hit t r = true)) rws acc →
    acc = (if p = t.1 then L.filter (hit t) else []).map rowR := by
  induction h with
  | nil => intro acc h; cases h; split <;> rfl
  | @take d r l L p1 _ ih =>
    intro acc h
    obtain ⟨rfl, _⟩ := p1
    cases h with
    | take g t' =>
      obtain ⟨rfl, e, r', e2, e3⟩ := g
      have er : r' = r := by
        unfold rowR at e2
        injection e2 with e2
        injection e2 with _ e2
        injection e2 with a1 e2
        injection e2 with a2 e2
        injection e2 with a3 _
        injection a1 with a1
        injection a2 with a2
        injection a3 with a3
        obtain ⟨x, y, z⟩ := r
        obtain ⟨x', y', z'⟩ := r'
        simp only at a1 a2 a3
        rw [a1, a2, a3]
      subst er
      have := ih t'
      rw [if_pos e] at this ⊢
      rw [List.filter_cons_of_pos e3, List.map_cons, this]
    | skip g t' =>
      have := ih t'
      by_cases e : p = t.1
      · rw [if_pos e] at this ⊢
        have hn : hit t r = false := by
          cases q : hit t r with
          | false => rfl
          | true => exact absurd ⟨e, r, rfl, q⟩ g
        rw [List.filter_cons_of_neg (by rw [hn]; decide), this]
      · rw [if_neg e] at this ⊢
        exact this
  | @skip d l L p1 _ ih =>
    intro acc h
    cases h with
    | take g t' =>
      obtain ⟨_, _, r', e2, _⟩ := g
      obtain ⟨k, rest, e3, hk, _⟩ := p1
      rw [e2] at e3
      unfold rowR at e3
      injection e3 with e3
      injection e3 with e3 _
      injection e3 with e3
      exact absurd e3.symm hk
    | skip g t' => exact ih t'
/-- a row's first three beside (right, w, x) -/
theorem row_eq {rws : List Da} {L : List R3} (h : Sel PR RowN rws L) (t : T3) : ∀ d ∈ rws, ∃ xs, d = .tup xs ∧ cmpOk (.tup (xs.take 3)) ∧ ((Da.tup (xs.take 3) = .tup [.str "right", .str t.2.1, .str t.2.2]) ↔ ∃ r, d = rowR r ∧ hit t r = true) := by
  induction h with
  | nil => intro d hd; cases hd
  | @take a r l L p1 _ ih =>
    intro d hd
    rcases List.mem_cons.mp hd with rfl | hd
    · obtain ⟨rfl, ok1, ok2, _⟩ := p1
      refine ⟨_, rfl, by rw [take3R]; exact cmp_tri (by decide +kernel) ok1.1 ok2.1, ?_⟩
      rw [take3R]
      constructor
      · intro e
        injection e with e
        injection e with _ e
        injection e with a1 e
        injection e with a2 _
        exact ⟨r, rfl, decide_eq_true ⟨str_inj a1, str_inj a2⟩⟩
      · rintro ⟨r', e, hh⟩
        have h2 := of_decide_eq_true hh
        unfold rowR at e
        injection e with e
        injection e with _ e
        injection e with a1 e
        injection e with a2 _
        rw [a1, a2, h2.1, h2.2]
    · exact ih d hd
  | @skip a l L p1 _ ih =>
    intro d hd
    rcases List.mem_cons.mp hd with rfl | hd
    · obtain ⟨k, rest, rfl, hk, ck, _⟩ := p1
      refine ⟨_, rfl, ck, ?_⟩
      constructor
      · intro e
        rw [List.take_succ_cons] at e
        injection e with e
        injection e with e _
        exact absurd (str_inj e) hk
      · rintro ⟨r', e, _⟩
        unfold rowR at e
        injection e with e
        injection e with e _
        exact absurd (str_inj e) hk
    · exact ih d hd
def rightsOf (Ls : List (Str × List R3)) (t : T3) : List R3 := Ls.flatMap fun pl => if pl.1 = t.1 then pl.2.filter (hit t) else []
theorem mostO_eq (Ls : List (Str × List R3)) (t : T3) : mostO Ls t = (rightsOf Ls t).head?.map (·.2.2) := by
  unfold mostO rightsOf
  have e : ∀ Ls : List (Str × List R3), (Ls.flatMap fun pl => if pl.1 = t.1 then pl.2.filter (hit t) else []) = (Ls.flatMap fun pl => if pl.1 = t.1 then pl.2 else []).filter (hit t) := fun Ls => by
    induction Ls with
    | nil => rfl
    | cons a l ih =>
      rw [List.flatMap_cons, List.flatMap_cons, List.filter_append, ih]
      split <;> rfl
  rw [e, List.head?_filter]
  rfl
theorem a2_at {α β : Type} {P : α → β → Prop} {as : List α} {bs : List β} (h : A2 P as bs) : ∀ {i : Nat} {a : α}, as[i]? = some a → ∃ b, bs[i]? = some b ∧ P a b := by
  induction h with
  | nil => intro i a e; simp at e
  | cons p t ih =>
    intro i a e
    cases i with
    | zero =>
      have := Option.some.inj (by simpa using e : some _ = some a)
      subst this
      exact ⟨_, rfl, p⟩
    | succ i => simpa using ih (by simpa using e)
theorem rd__law_most (ds : List Da) (μ : Mu) (Q2 : QD) (h : r__law_most ds μ Q2) : t__law_most { nx := fun _ μ' => trim Q2 .non μ', rt := trim Q2 } (startR ["_law_makes_here", "_law_part", "_law_word", "_law_what", "_law_rows", "_law_make_here", "_law_row"] ds) μ := by
  obtain ⟨ms, Ls, t, rfl, hM, ht, q⟩ := h
  refine ⟨Nat.zero_le _, _, rfl, _, rfl, fun i ρ' μ' => μ' = μ ∧ ∃ o, ρ' = [some (.lst ms), some (.str t.1), some (.str t.2.1), some (.str t.2.2), some (.lst ((rightsOf (Ls.take i) t).map rowR)), o, none] ∧ (rightsOf (Ls.take i) t).length ≤ 60 * i, ⟨rfl, none, rfl, by simp [rightsOf]⟩, ?_, ?_⟩
  · rintro i d ρ' μ' hi ⟨rfl, o, rfl, hlen⟩
    obtain ⟨pl, hpl, v, rws, body, rfl, hf⟩ := a2_at hM.a2 hi
    have i4 : i < 4 := Nat.lt_of_lt_of_le (List.getElem?_eq_some_iff.mp hpl).1 hM.len
    have pok := hM.ok pl (List.mem_of_getElem? hpl)
    have fl := hf.len
    refine ⟨trivial, _, rfl, _, rfl, ix_tup (x := .tup rws) (at_n 3 rfl) ⟨rws, .inl rfl, lc_sel (fun d y => y = d ∧ pl.1 = t.1 ∧ ∃ r, d = rowR r ∧ hit t r = true) (fun d => ¬ (pl.1 = t.1 ∧ ∃ r, d = rowR r ∧ hit t r = true)) trivial (sz (by omega)) (fun d hd R S hR hS => ?_) fun acc ha => ?_⟩⟩
    · obtain ⟨xs, rfl, cx, ex⟩ := row_eq hf.sel t d hd
      refine ⟨_, rfl, ix_tup (x := .str pl.1) (at_n 1 rfl) ⟨_, rfl, eq_str ⟨_, rfl, ite_d (fun e => ?_) fun ne => ?_⟩⟩⟩
      · refine ⟨_, rfl, _, rfl, sl_tup ?_⟩
        have cut : cutD xs none (some 3) = xs.take 3 := by
          by_cases h3 : 3 ≤ xs.length
          · exact cut_i (i := 3) h3
          · obtain ⟨n, hn, _⟩ := cut_upto (xs := xs) (m := 3) (by decide)
            unfold cutD
            rw [show HT.sIx xs.length 0 none = 0 from rfl, List.drop_zero, Nat.sub_zero]
            have : HT.sIx xs.length xs.length (some 3) = xs.length := by
              unfold HT.sIx
              simp only [if_neg (by decide : ¬ (3 : Int) < 0)]
              show min 3 xs.length = xs.length
              omega
            rw [this, List.take_of_length_le (Nat.le_refl _), List.take_of_length_le (by omega)]
        rw [cut]
        refine ⟨_, rfl, _, rfl, (by show 3 ≤ sizeLine; decide), eq_data cx (cmp_tri (by decide +kernel) ht.2.1.1 ht.2.2.1) fun c hc => ⟨c, rfl, ite_b (fun hb => ⟨_, rfl, hR _ ⟨rfl, e, ex.mp (hc.mp hb)⟩⟩) fun hb => hS fun z => ?_⟩⟩
        have := hc.mpr (ex.mpr z.2)
        rw [hb] at this
        cases this
      · exact iteF (hS fun z => ne z.1)
    · have e := pick_rows hf.sel ha
      subst e
      have e2 : rightsOf (Ls.take (i + 1)) t = rightsOf (Ls.take i) t ++ (if pl.1 = t.1 then pl.2.filter (hit t) else []) := by
        rw [take_at hpl]
        unfold rightsOf
        rw [List.flatMap_append]
        simp
      have l2 : (if pl.1 = t.1 then pl.2.filter (hit t) else []).length ≤ 60 := by
        split
        · exact Nat.le_trans (List.length_filter_le _ _) (Nat.le_trans hf.sel.len fl)
        · exact Nat.zero_le _
      refine add_lst (sz (by rw [List.length_map, List.length_map]; omega)) ⟨rfl, _, by rw [e2, List.map_append]; rfl, ?_⟩
      rw [e2, List.length_append]
      omega
  · rintro ρ' μ' ⟨rfl, o, rfl, hlen⟩
    have hml : ms.length = Ls.length := hM.a2.length
    have l4 := hM.len
    rw [hml, List.take_length] at hlen ⊢
    refine ⟨trivial, _, rfl, _, rfl, lc_yes (fun d y => ∃ r, d = rowR r ∧ y = .int r.2.2) trivial (sz (by rw [List.length_map]; omega)) (fun d hd R hR => ?_) fun acc ha => ?_⟩
    · obtain ⟨r, _, rfl⟩ := List.mem_map.mp hd
      exact ⟨_, rfl, ix_tup (x := .int r.2.2) (at_n 3 rfl) (hR _ ⟨r, rfl, rfl⟩)⟩
    · have e : acc = (rightsOf Ls t).map fun r => .int r.2.2 := by
        generalize rightsOf Ls t = rs at ha
        clear hlen
        induction rs generalizing acc with
        | nil => cases ha; rfl
        | cons a l ih =>
          cases ha with
          | cons p t' =>
            obtain ⟨r, e1, rfl⟩ := p
            have er : r.2.2 = a.2.2 := by
              unfold rowR at e1
              injection e1 with e1
              injection e1 with _ e1
              injection e1 with _ e1
              injection e1 with _ e1
              injection e1 with e1 _
              injection e1 with e1
              exact e1.symm
            rw [List.map_cons, ih _ t', er]
      subst e
      refine ⟨(by show 1 ≤ sizeLine; decide), add_lst (sz (by rw [List.length_map]; simp; omega)) ⟨0, .int ((mostO Ls t).getD 0), rfl, ?_, trim_of q⟩⟩
      rw [mostO_eq]
      refine at_n 0 ?_
      cases rightsOf Ls t with
      | nil => rfl
      | cons a l => rfl
end K65
namespace K65
open PySem L2 Dl
theorem dlook_lk (k : List Key) : ∀ kvs : List (List Key × Da), dlook (kvs.map fun p => (tD p.1, p.2)) (tD k) = lk kvs k
  | [] => rfl
  | p :: l => by
    unfold lk
    rw [List.map_cons, dlook, List.find?_cons]
    by_cases e : p.1 = k
    · simp [e]
    · rw [if_neg fun z => e (tD_inj z), dlook_lk k l]
      simp [e, lk]
theorem key_tri (t : T3) : tD (keyT t) = tri t := rfl
theorem keyB_tri (t : T3) : keyB true (tri t) = true := rfl
theorem get_T1 {μ : Mu} {a : Addr} {kvs : List (List Key × Da)} {t : T3} {Q : QD} (hm : μ a = some (.dT kvs)) (h : Q ((lk kvs (keyT t)).getD .non) μ) : get2 (.ref a) [tri t] μ Q :=
  ⟨true, _, view_refT hm, .inl ⟨_, rfl, keyB_tri t, by rw [← key_tri, dlook_lk]; exact h⟩⟩
theorem get_T2 {μ : Mu} {a : Addr} {kvs : List (List Key × Da)} {t : T3} {x : Da} {Q : QD} (hm : μ a = some (.dT kvs)) (h : Q ((lk kvs (keyT t)).getD x) μ) : get2 (.ref a) [tri t, x] μ Q :=
  ⟨true, _, view_refT hm, .inr ⟨_, _, rfl, keyB_tri t, by rw [← key_tri, dlook_lk]; exact h⟩⟩
theorem ty_T {μ : Mu} {a : Addr} {kvs : List (List Key × Da)} (hm : μ a = some (.dT kvs)) : tyD "dict" (.ref a) μ := by unfold tyD; rw [view_refT hm]; rfl
theorem set_T {μ : Mu} {a : Addr} {kvs : List (List Key × Da)} {t : T3} {v : Da} {Q : Mu → Prop} (hm : μ a = some (.dT kvs)) (hl : kvs.length < sizeLine) (h : Q (put μ a (.dT (putKD kvs (keyT t) v)))) : set2 (.ref a) (tri t) v μ Q := by
  refine ⟨a, rfl, ?_⟩
  rw [hm]
  exact ⟨keyT t, rfl, hl, h⟩
theorem lk_cons {p : List Key × Da} {l : List (List Key × Da)} {j : List Key} : lk (p :: l) j = if p.1 = j then some p.2 else lk l j := by
  unfold lk
  rw [List.find?_cons]
  by_cases e : p.1 = j <;> simp [e]
theorem lk_none {l : List (List Key × Da)} {j : List Key} (h : ∀ p ∈ l, p.1 ≠ j) : lk l j = none := by
  induction l with
  | nil => rfl
  | cons p l ih => rw [lk_cons, if_neg (h p List.mem_cons_self), ih fun q hq => h q (List.mem_cons_of_mem _ hq)]
theorem lk_app {l m : List (List Key × Da)} {j : List Key} : lk (l ++ m) j = match lk l j with | some v => some v | none => lk m j := by
  induction l with
  | nil => rfl
  | cons p l ih =>
    rw [List.cons_append, lk_cons, lk_cons, ih]
    split <;> rfl
theorem lk_put (kvs : List (List Key × Da)) (k j : List Key) (v : Da) : lk (putKD kvs k v) j = if j = k then some v else lk kvs j := by
  unfold putKD
  split
  · rename_i h
    induction kvs with
    | nil => simp at h
    | cons p l ih =>
      rw [List.map_cons, lk_cons, lk_cons]
      by_cases e : p.1 = k
      · rw [if_pos e]
        by_cases ej : j = k
        · subst ej
          rw [if_pos e, if_pos rfl]
        · have : ¬ p.1 = j := fun z => ej (by rw [← z, e])
          rw [if_neg this, if_neg ej, if_neg this]
          by_cases hl : (l.any fun kv => decide (kv.1 = k)) = true
          · rw [ih hl, if_neg ej]
          · have hn : ∀ q ∈ l, q.1 ≠ k := fun q hq z => hl (List.any_eq_true.mpr ⟨q, hq, decide_eq_true z⟩)
            have : (l.map fun kv => if kv.1 = k then (kv.1, v) else kv) = l := by
              conv => rhs; rw [← List.map_id l]
              exact List.map_congr_left fun q hq => by rw [if_neg (hn q hq)]; rfl
            rw [this]
      · rw [if_neg e]
        have hl : (l.any fun kv => decide (kv.1 = k)) = true := by
          rw [List.any_cons, decide_eq_false e, Bool.false_or] at h
          exact h
        rw [ih hl]
        by_cases e2 : p.1 = j
        · rw [if_pos e2, if_pos e2, if_neg (fun z => e (by rw [e2, z]))]
        · rw [if_neg e2, if_neg e2]
  · rename_i h
    have hn : ∀ q ∈ kvs, q.1 ≠ k := fun q hq z => h (List.any_eq_true.mpr ⟨q, hq, decide_eq_true z⟩)
    rw [lk_app, lk_cons]
    by_cases ej : j = k
    · subst ej
      rw [lk_none hn, if_pos rfl, if_pos rfl]
    · rw [if_neg ej]
      rw [if_neg (Ne.symm ej)]
      cases lk kvs j <;> rfl
theorem put_new {kvs : List (List Key × Da)} {k : List Key} {v : Da} (h : ∀ p ∈ kvs, p.1 ≠ k) : putKD kvs k v = kvs ++ [(k, v)] := by
  unfold putKD
  rw [if_neg]
  intro z
  obtain ⟨q, hq, e⟩ := List.any_eq_true.mp z
  exact h q hq (of_decide_eq_true e)
theorem put_len (kvs : List (List Key × Da)) (k : List Key) (v : Da) : (putKD kvs k v).length ≤ kvs.length + 1 := by
  unfold putKD
  split
  · rw [List.length_map]; omega
  · rw [List.length_append]; simp
theorem put_keys {kvs : List (List Key × Da)} {t : T3} {v : Da} (h : ∀ p ∈ kvs, ∃ t, p.1 = keyT t) : ∀ p ∈ putKD kvs (keyT t) v, ∃ t, p.1 = keyT t := by
  unfold putKD
  split
  · intro p hp
    obtain ⟨q, hq, e⟩ := List.mem_map.mp hp
    obtain ⟨u, hu⟩ := h q hq
    subst e
    split
    · exact ⟨u, hu⟩
    · exact ⟨u, hu⟩
  · intro p hp
    rcases List.mem_append.mp hp with m | m
    · exact h p m
    · rw [List.mem_singleton.mp m]; exact ⟨t, rfl⟩
theorem keyT_inj {t u : T3} (h : keyT t = keyT u) : t = u := by
  obtain ⟨a, b, c⟩ := t
  obtain ⟨a', b', c'⟩ := u
  simp only [keyT, List.cons.injEq, Sum.inr.injEq, and_true] at h
  rw [h.1, h.2.1, h.2.2]
theorem rd_Rights_used (C : Addr) (ds : List Da) (μ : Mu) (Q2 : QD) (h : r_Rights_used C ds μ Q2) : t_Rights_used C { nx := fun _ μ' => trim Q2 .non μ', rt := trim Q2 } (startR ["self", "part", "word", "what"] ds) μ := by
  obtain ⟨a, m, d, mk, dk, f, t, rfl, ⟨hA, hM, hD, ne⟩, hf, q⟩ := h
  refine ⟨_, rfl, a, _, .ref d, rfl, hA, rfl, ty_T hD, _, rfl, _, rfl, _, rfl, (by show 3 ≤ sizeLine; decide), get_T2 (t := t) hD ?_⟩
  rw [hf.1 t]
  by_cases e : f t = 0
  · rw [if_pos e]
    rw [e] at q
    exact trim_of q
  · rw [if_neg e]
    exact trim_of q
theorem rd_Rights_barred (C : Addr) (ds : List Da) (μ : Mu) (Q2 : QD) (h : r_Rights_barred C ds μ Q2) : t_Rights_barred C { nx := fun _ μ' => trim Q2 .non μ', rt := trim Q2 } (startR ["self", "part", "word", "what", "most"] ds) μ := by
  obtain ⟨a, m, d, mk, dk, f, mo, t, rfl, ⟨hA, hM, hD, ne⟩, hf, hmo, q⟩ := h
  refine ⟨_, rfl, a, _, .lst [], rfl, hA, rfl, _, rfl, _, rfl, _, rfl, _, _, _, rfl, _, rfl, iteF ?_⟩
  refine ⟨_, rfl, a, _, .ref m, rfl, hA, rfl, ty_T hM, _, rfl, _, rfl, _, rfl, (by show 3 ≤ sizeLine; decide), get_T1 (t := t) hM ?_⟩
  rw [hmo t]
  unfold told at q
  cases e : mo t with
  | none =>
    rw [e] at q
    exact ⟨_, rfl, _, rfl, iteT (trim_of q)⟩
  | some n =>
    rw [e] at q
    refine ⟨_, rfl, _, rfl, iteF ?_⟩
    refine ⟨_, rfl, a, _, rfl, hA, rfl, _, rfl, _, rfl, _, rfl, a, m, d, mk, dk, f, t, rfl, ⟨hA, hM, hD, ne⟩, hf, _, rfl, _, _, rfl, rfl, _, rfl, ite_d (fun hge => ?_) fun hlt => ?_⟩
    · simp only [] at q
      rw [if_pos hge] at q
      exact trim_of q
    · simp only [] at q
      rw [if_neg hlt] at q
      exact trim_of q
theorem told_cases (o : Option Int) (n : Nat) : told o n = .non ∨ told o n = .str "right" ∨ told o n = .str "often" := by
  unfold told
  cases o with
  | none => exact .inr (.inl rfl)
  | some m =>
    simp only []
    split
    · exact .inr (.inr rfl)
    · exact .inl rfl
theorem next_non {o : Option Int} {f : T3 → Nat} {t : T3} (h : told o (f t) = .non) : next o f t = more f t := by unfold next; rw [h]
theorem next_str {o : Option Int} {f : T3 → Nat} {t : T3} {x : Str} (h : told o (f t) = .str x) : next o f t = f := by unfold next; rw [h]
theorem rd_Rights_use (C : Addr) (ds : List Da) (μ : Mu) (Q2 : QD) (h : r_Rights_use C ds μ Q2) : t_Rights_use C { nx := fun _ μ' => trim Q2 .non μ', rt := trim Q2 } (startR ["self", "part", "word", "what", "why"] ds) μ := by
  obtain ⟨a, m, d, mk, dk, f, mo, t, rfl, ⟨hA, hM, hD, ne⟩, hf, hmo, hl, q⟩ := h
  refine ⟨_, rfl, a, _, rfl, hA, rfl, _, rfl, _, rfl, _, rfl, a, m, d, mk, dk, f, mo, t, rfl, ⟨hA, hM, hD, ne⟩, hf, hmo, ?_⟩
  rcases told_cases (mo t) (f t) with e | e | e
  · rw [e] at q ⊢
    rw [next_non e] at q
    have nad : a ≠ d := fun z => by rw [z, hD] at hA; cases hA
    refine ⟨_, rfl, _, rfl, iteT ⟨_, rfl, a, _, rfl, hA, rfl, _, rfl, _, rfl, _, rfl, a, m, d, mk, dk, f, t, rfl, ⟨hA, hM, hD, ne⟩, hf, add_int ?_⟩⟩
    refine ⟨_, rfl, a, _, .ref d, rfl, hA, rfl, _, rfl, _, rfl, _, rfl, (by show 3 ≤ sizeLine; decide), set_T (t := t) hD (Nat.lt_trans hl (by decide)) ⟨_, rfl, trim_of (q (putKD dk (keyT t) (.int ((f t : Nat) + 1))) _ ⟨by rw [put_ne nad]; exact hA, by rw [put_ne ne]; exact hM, put_same, ne⟩ ⟨fun u => ?_, put_keys hf.2⟩ (fun b hb => put_ne fun z => hb (by rw [z]; simp)) (put_len _ _ _))⟩⟩
    rw [lk_put]
    unfold more
    by_cases eu : u = t
    · subst eu
      rw [if_pos rfl, if_pos rfl, if_neg (by omega)]
      rfl
    · rw [if_neg fun z => eu (keyT_inj z), if_neg eu]
      exact hf.1 u
  · rw [e] at q ⊢
    rw [next_str e] at q
    exact ⟨_, rfl, _, rfl, iteF ⟨_, rfl, trim_of (q dk μ ⟨hA, hM, hD, ne⟩ hf (fun _ _ => rfl) (by omega))⟩⟩
  · rw [e] at q ⊢
    rw [next_str e] at q
    exact ⟨_, rfl, _, rfl, iteF ⟨_, rfl, trim_of (q dk μ ⟨hA, hM, hD, ne⟩ hf (fun _ _ => rfl) (by omega))⟩⟩
end K65
namespace K65
open PySem L2 Dl
/-- a right with its part -/
abbrev E4 := Str × R3
def trO (e : E4) : T3 := (e.1, e.2.1, e.2.2.1)
def entO (e : E4) : List Key × Da := (keyT (trO e), .int e.2.2.2)
def flatO (Ls : List (Str × List R3)) : List E4 := Ls.flatMap fun pl => pl.2.map fun r => (pl.1, r)
theorem flat_nd {Ls : List (Str × List R3)} (h1 : (Ls.map (·.1)).Nodup) (h2 : ∀ pl ∈ Ls, (pl.2.map keyR).Nodup) : ((flatO Ls).map trO).Nodup := by
  induction Ls with
  | nil => exact List.nodup_nil
  | cons pl l ih =>
    obtain ⟨n1, n2⟩ := List.nodup_cons.mp (show (pl.1 :: l.map (·.1)).Nodup from h1)
    unfold flatO
    rw [List.flatMap_cons, List.map_append, List.nodup_append]
    refine ⟨?_, ih n2 fun q hq => h2 q (List.mem_cons_of_mem _ hq), ?_⟩
    · rw [List.map_map]
      have := h2 pl List.mem_cons_self
      refine List.Pairwise.map _ (fun a b hne z => hne ?_) (List.pairwise_map.mp this |>.imp fun h => h)
      have e2 : (a.1, a.2.1) = (b.1, b.2.1) := congrArg Prod.snd z
      exact e2
    · intro a ha b hb z
      subst z
      obtain ⟨e, he, e1⟩ := List.mem_map.mp ha
      obtain ⟨r, _, e2⟩ := List.mem_map.mp he
      obtain ⟨e', he', e3⟩ := List.mem_map.mp hb
      obtain ⟨q, hq, hm⟩ := List.mem_flatMap.mp he'
      obtain ⟨r', _, e4⟩ := List.mem_map.mp hm
      have p1 : a.1 = pl.1 := by rw [← e1, ← e2]; rfl
      have p2 : a.1 = q.1 := by rw [← e3, ← e4]; rfl
      exact n1 (List.mem_map.mpr ⟨q, hq, by rw [← p2, p1]⟩)
theorem lk_ent (t : T3) : ∀ S : List E4, lk (S.map entO) (keyT t) = ((S.find? fun e => decide (trO e = t)).map fun e => .int e.2.2.2)
  | [] => rfl
  | e :: S => by
    rw [List.map_cons, lk_cons, List.find?_cons, lk_ent t S]
    by_cases h : trO e = t
    · rw [if_pos (show (entO e).1 = keyT t by rw [← h]; rfl), decide_eq_true h]; rfl
    · rw [if_neg (show ¬ (entO e).1 = keyT t from fun z => h (keyT_inj z)), decide_eq_false h]
theorem most_flat (t : T3) (Ls : List (Str × List R3)) : mostO Ls t = ((flatO Ls).find? fun e => decide (trO e = t)).map fun e => e.2.2.2 := by
  unfold mostO flatO
  induction Ls with
  | nil => rfl
  | cons pl l ih =>
    rw [List.flatMap_cons, List.flatMap_cons, List.find?_append, List.find?_append]
    have e1 : ((if pl.1 = t.1 then pl.2 else []).find? fun r => decide (r.1 = t.2.1 ∧ r.2.1 = t.2.2)).map (·.2.2) = ((pl.2.map fun r => (pl.1, r)).find? fun e => decide (trO e = t)).map fun e => e.2.2.2 := by
      generalize pl.2 = L
      induction L with
      | nil => split <;> rfl
      | cons r L ihL =>
        rw [List.map_cons, List.find?_cons]
        by_cases hp : pl.1 = t.1
        · rw [if_pos hp] at ihL ⊢
          rw [List.find?_cons]
          by_cases hh : r.1 = t.2.1 ∧ r.2.1 = t.2.2
          · have : trO (pl.1, r) = t := by
              obtain ⟨t1, t2, t3⟩ := t
              simp only at hp hh
              simp only [trO, hp, hh.1, hh.2]
            rw [decide_eq_true hh, decide_eq_true this]; rfl
          · have : ¬ trO (pl.1, r) = t := fun z => hh ⟨by rw [← z]; rfl, by rw [← z]; rfl⟩
            rw [decide_eq_false hh, decide_eq_false this]; exact ihL
        · have : ¬ trO (pl.1, r) = t := fun z => hp (by rw [← z]; rfl)
          rw [decide_eq_false this, if_neg hp]
          rw [if_neg hp] at ihL
          exact ihL
    cases h1 : ((if pl.1 = t.1 then pl.2 else []).find? fun r => decide (r.1 = t.2.1 ∧ r.2.1 = t.2.2)) with
    | some r =>
      rw [h1] at e1
      cases h2 : ((pl.2.map fun r => (pl.1, r)).find? fun e => decide (trO e = t)) with
      | none => rw [h2] at e1; cases e1
      | some e => rw [h2] at e1; exact e1
    | none =>
      rw [h1] at e1
      cases h2 : ((pl.2.map fun r => (pl.1, r)).find? fun e => decide (trO e = t)) with
      | some e => rw [h2] at e1; cases e1
      | none => exact ih
theorem flat_len {Ls : List (Str × List R3)} (h : ∀ pl ∈ Ls, pl.2.length ≤ 60) : (flatO Ls).length ≤ 60 * Ls.length := by
  induction Ls with
  | nil => exact Nat.zero_le _
  | cons a l ih =>
    have := h a List.mem_cons_self
    have i := ih fun q hq => h q (List.mem_cons_of_mem _ hq)
    unfold flatO at i ⊢
    rw [List.flatMap_cons, List.length_append, List.length_map, List.length_cons]
    omega
theorem flat_take {Ls : List (Str × List R3)} {i : Nat} {pl : Str × List R3} (h : Ls[i]? = some pl) : flatO (Ls.take (i + 1)) = flatO (Ls.take i) ++ pl.2.map fun r => (pl.1, r) := by
  rw [take_at h]
  unfold flatO
  rw [List.flatMap_append]
  simp
theorem flat_split {Ls : List (Str × List R3)} {i : Nat} {pl : Str × List R3} (h : Ls[i]? = some pl) : ∃ S, flatO Ls = flatO (Ls.take i) ++ (pl.2.map fun r => (pl.1, r)) ++ S := by
  refine ⟨flatO (Ls.drop (i + 1)), ?_⟩
  rw [← flat_take h]
  unfold flatO
  rw [← List.flatMap_append, List.take_append_drop]
/-- where the inner loop stands -/
structure RAt (C : Addr) (μ μ' : Mu) (a m d : Addr) (S : List E4) : Prop where
  r : isRights C μ' a m d (S.map entO) []
  fr : frame μ μ' [a, m, d]
theorem init_row {C a m d : Addr} {μ μ' : Mu} {Ls : List (Str × List R3)} {i : Nat} {pl : Str × List R3} {L1 L2 : List R3} {r : R3} (hpl : Ls[i]? = some pl) (nd : ((flatO Ls).map trO).Nodup) (e : pl.2 = L1 ++ r :: L2) (h : RAt C μ μ' a m d (flatO (Ls.take i) ++ L1.map fun r => (pl.1, r))) :
    RAt C μ (put μ' m (.dT (putKD ((flatO (Ls.take i) ++ L1.map fun r => (pl.1, r)).map entO) (keyT (pl.1, r.1, r.2.1)) (.int r.2.2)))) a m d (flatO (Ls.take i) ++ (L1 ++ [r]).map fun r => (pl.1, r)) := by
  obtain ⟨⟨hA, hM, hD, ne⟩, fr⟩ := h
  have nam : a ≠ m := fun z => by rw [z, hM] at hA; cases hA
  obtain ⟨S, hS⟩ := flat_split hpl
  have hnew : ∀ p ∈ (flatO (Ls.take i) ++ L1.map fun r => (pl.1, r)).map entO, p.1 ≠ keyT (pl.1, r.1, r.2.1) := by
    intro p hp z
    obtain ⟨e', he', rfl⟩ := List.mem_map.mp hp
    have ek : trO e' = trO (pl.1, r) := keyT_inj z
    rw [hS, e, List.map_append (l₁ := L1), List.map_cons, ← List.append_assoc, List.append_assoc, List.map_append, List.nodup_append] at nd
    refine nd.2.2 (trO e') (List.mem_map.mpr ⟨e', he', rfl⟩) (trO (pl.1, r)) ?_ ek
    simp
  rw [put_new hnew]
  refine ⟨⟨by rw [put_ne nam]; exact hA, ?_, by rw [put_ne ne.symm]; exact hD, ne⟩, fun b hb => ?_⟩
  · rw [put_same]
    simp only [List.map_append, List.map_cons, List.map_nil, List.append_assoc]
    rfl
  · rw [put_ne fun z => hb (by rw [z]; simp)]
    exact fr b hb
theorem rd_Rights___init__ (C : Addr) (ds : List Da) (μ : Mu) (Q2 : QD) (h : r_Rights___init__ C ds μ Q2) : t_Rights___init__ C { nx := fun _ μ' => trim Q2 .non μ', rt := trim Q2 } (startR ["self", "makes", "bars", "word", "part", "version", "face", "body", "kind", "things", "deed", "what", "many"] ds) μ := by
  obtain ⟨a, ms, Ls, rfl, hA, hMk, q⟩ := h
  have nd := flat_nd hMk.nd fun pl hpl => by
    obtain ⟨j, hj, e⟩ := List.getElem_of_mem hpl
    have hml : ms.length = Ls.length := hMk.a2.length
    obtain ⟨pl', h1, v, rws, body, _, hf⟩ := a2_at hMk.a2 (i := j) (a := ms[j]'(by omega)) (List.getElem?_eq_getElem (by omega))
    rw [List.getElem?_eq_getElem hj] at h1
    have : pl' = pl := by rw [← e]; exact (Option.some.inj h1).symm
    subst this
    exact hf.nd
  refine ⟨_, rfl, false, rfl, iteF ⟨Nat.zero_le _, _, rfl, a, [], rfl, hA, (by show 0 < 1000; decide), ?_⟩⟩
  intro m hm
  have nam : a ≠ m := fun z => by rw [← z, put_same] at hm; cases hm
  have hm0 : μ m = none := by rw [put_ne nam.symm] at hm; exact hm
  refine ⟨_, rfl, a, [("bar_rows", .lst [])], rfl, by rw [put_ne nam, put_same]; rfl, (by show 1 < 1000; decide), ?_⟩
  intro d hd
  have nad : a ≠ d := fun z => by rw [← z, put_same] at hd; cases hd
  have nmd : m ≠ d := fun z => by rw [← z, put_ne nam.symm, put_same] at hd; cases hd
  have hd0 : μ d = none := by rw [put_ne nad.symm, put_ne nmd.symm, put_ne nad.symm] at hd; exact hd
  refine ⟨_, rfl, a, [("bar_rows", .lst []), ("most_of", .ref m)], rfl, by rw [put_ne nad, put_same]; rfl, (by show 2 < 1000; decide), ?_⟩
  refine ⟨_, rfl, ms, rfl, fun i ρ' μ' => RAt C μ μ' a m d (flatO (Ls.take i)) ∧ ∃ o3 o4 o5 o6 o7 o8 o9 o10 o11 o12, ρ' = [some (.ref a), some (.lst ms), some .non, o3, o4, o5, o6, o7, o8, o9, o10, o11, o12], ⟨⟨⟨?_, ?_, ?_, nmd⟩, fun b hb => ?_⟩, none, none, none, none, none, none, none, none, none, none, rfl⟩, ?_, ?_⟩
  · rw [put_same]; rfl
  · rw [put_ne nam.symm, put_ne nmd, put_ne nam.symm, put_same]; rfl
  · rw [put_ne nad.symm, put_same]
  · simp only [List.mem_cons, List.not_mem_nil, or_false, not_or] at hb
    rw [put_ne hb.1, put_ne hb.2.2, put_ne hb.1, put_ne hb.2.1, put_ne hb.1]
  · rintro i dd ρ' μ' hi ⟨hR, o3, o4, o5, o6, o7, o8, o9, o10, o11, o12, rfl⟩
    obtain ⟨pl, hpl, v, rws, body, rfl, hf⟩ := a2_at hMk.a2 hi
    have il : i < 4 := Nat.lt_of_lt_of_le (List.getElem?_eq_some_iff.mp hpl).1 hMk.len
    refine ⟨trivial, _, rfl, rfl, _, _, rfl, _, _, rfl, _, _, rfl, _, _, rfl, _, _, rfl, rfl, ?_⟩
    refine ⟨_, rfl, rws, .inl rfl, fun j ρ2 μ2 => ∃ L1 L2, pl.2 = L1 ++ L2 ∧ Sel PR RowN (rws.drop j) L2 ∧ RAt C μ μ2 a m d (flatO (Ls.take i) ++ L1.map fun r => (pl.1, r)) ∧ ∃ p8 p9 p10 p11 p12, ρ2 = [some (.ref a), some (.lst ms), some .non, some (.str "make"), some (.str pl.1), some v, some (.tup rws), some body, p8, p9, p10, p11, p12], ⟨[], pl.2, rfl, hf.sel, by rw [List.map_nil, List.append_nil]; exact hR, o8, o9, o10, o11, o12, rfl⟩, ?_, ?_⟩
    · rintro j row ρ2 μ2 hj ⟨L1, L2, e, hs, hR2, p8, p9, p10, p11, p12, rfl⟩
      have hdrop : rws.drop j = row :: rws.drop (j + 1) := by
        obtain ⟨hl, e2⟩ := List.getElem?_eq_some_iff.mp hj
        rw [List.drop_eq_getElem_cons hl, e2]
      rw [hdrop] at hs
      refine ⟨trivial, ?_⟩
      cases hs with
      | @take _ r _ L2' p t =>
        obtain ⟨rfl, _⟩ := p
        obtain ⟨hA2, hM2, hD2, ne2⟩ := hR2.r
        refine ⟨_, rfl, (by show 1 ≤ 4; decide), _, _, rfl, _, _, rfl, rfl, ?_⟩
        refine ⟨_, rfl, eq_str ⟨_, rfl, ite_d (fun _ => ?_) fun ne => absurd rfl ne⟩⟩
        refine ⟨_, rfl, rfl, _, _, rfl, _, _, rfl, _, _, rfl, rfl, ?_⟩
        have ml : ((flatO (Ls.take i) ++ L1.map fun r => (pl.1, r)).map entO).length < sizeLine := by
          have h1 := flat_len (Ls := Ls.take i) fun q hq => by
            obtain ⟨j', hj', e'⟩ := List.getElem_of_mem (List.mem_of_mem_take hq)
            have hml : ms.length = Ls.length := hMk.a2.length
            obtain ⟨pl', g1, v', rws', body', _, hf'⟩ := a2_at hMk.a2 (i := j') (a := ms[j']'(by omega)) (List.getElem?_eq_getElem (by omega))
            rw [List.getElem?_eq_getElem hj'] at g1
            have : pl' = q := by rw [← e']; exact (Option.some.inj g1).symm
            subst this
            exact Nat.le_trans hf'.sel.len hf'.len
          have h2 : (Ls.take i).length ≤ 4 := by rw [List.length_take]; omega
          have h3 : L1.length ≤ 60 := by
            have := Nat.le_trans hf.sel.len hf.len
            rw [e, List.length_append] at this
            omega
          have l1 : (1000 : Nat) ≤ sizeLine := by decide
          rw [List.length_map, List.length_append, List.length_map]
          omega
        refine ⟨_, rfl, _, rfl, a, _, .ref m, rfl, hA2, rfl, _, rfl, _, rfl, _, rfl, (by show 3 ≤ sizeLine; decide), set_T (t := (pl.1, r.1, r.2.1)) hM2 ml ?_⟩
        exact ⟨L1 ++ [r], L2', by rw [e, List.append_assoc]; rfl, t, init_row hpl nd e hR2, _, _, _, _, _, rfl⟩
      | skip p t =>
        obtain ⟨k, rest, rfl, hk, _, _, _⟩ := p
        refine ⟨_, rfl, (by show 1 ≤ rest.length + 1; omega), _, _, rfl, _, _, rfl, rfl, ?_⟩
        refine ⟨_, rfl, eq_str ⟨_, rfl, ite_d (fun e => absurd e hk) fun _ => ?_⟩⟩
        exact ⟨L1, L2, e, t, hR2, _, _, _, _, _, rfl⟩
    · rintro ρ2 μ2 ⟨L1, L2, e, hs, hR2, p8, p9, p10, p11, p12, rfl⟩
      rw [List.drop_length] at hs
      cases hs
      rw [List.append_nil] at e
      subst e
      refine ⟨trivial, ?_, _, _, _, _, _, _, _, _, _, _, rfl⟩
      rw [flat_take hpl]
      exact hR2
  · rintro ρ' μ' ⟨hR, o3, o4, o5, o6, o7, o8, o9, o10, o11, o12, rfl⟩
    have hml : ms.length = Ls.length := hMk.a2.length
    rw [hml, List.take_length] at hR
    refine ⟨trivial, trim_of (q m d _ μ' hm0 hd0 hR.r (fun t => ?_) hR.fr)⟩
    rw [lk_ent, most_flat, Option.map_map]
    rfl
end K65
namespace K65
open PySem L2 Dl
/-- what the rights have counted, beside how often a thing was seen -/
def FJ (mo : T3 → Option Int) (seen f : T3 → Nat) : Prop := ∀ t, match mo t with
  | none => True
  | some m => f t = seen t ∨ (m ≤ f t ∧ m ≤ seen t)
theorem FJ.told {mo : T3 → Option Int} {seen f : T3 → Nat} (h : FJ mo seen f) (t : T3) : told (mo t) (f t) = told (mo t) (seen t) := by
  have q := h t
  unfold K65.told
  cases e : mo t with
  | none => rfl
  | some m =>
    rw [e] at q
    simp only [] at q ⊢
    rcases q with q | ⟨q1, q2⟩
    · rw [q]
    · rw [if_pos (by omega), if_pos (by omega)]
theorem FJ.next {mo : T3 → Option Int} {seen f : T3 → Nat} (h : FJ mo seen f) (t : T3) : FJ mo (more seen t) (next (mo t) f t) := by
  intro u
  have q := h u
  cases e : mo u with
  | none => trivial
  | some m =>
    rw [e] at q
    simp only [] at q ⊢
    by_cases eu : u = t
    · subst eu
      have hs : more seen u u = seen u + 1 := by unfold more; rw [if_pos rfl]
      rw [hs]
      by_cases hge : (f u : Int) ≥ m
      · have : K65.next (mo u) f u = f := by unfold K65.next K65.told; rw [e]; simp only []; rw [if_pos hge]
        rw [this]
        right
        rcases q with q | q <;> omega
      · have : K65.next (mo u) f u = more f u := by unfold K65.next K65.told; rw [e]; simp only []; rw [if_neg hge]
        rw [this]
        have hf : more f u u = f u + 1 := by unfold more; rw [if_pos rfl]
        rw [hf]
        left
        rcases q with q | q <;> omega
    · have h1 : more seen t u = seen u := by unfold more; rw [if_neg eu]
      have h2 : K65.next (mo t) f t u = f u := by
        rcases told_cases (mo t) (f t) with z | z | z
        · rw [next_non z]; unfold more; rw [if_neg eu]
        · rw [next_str z]
        · rw [next_str z]
      rw [h1, h2]
      exact q
structure LJ (mo : T3 → Option Int) (seen f : T3 → Nat) (acc : List (List Key × Da)) : Prop where
  fj : FJ mo seen f
  lk : ∀ t, lk acc (keyT t) = if seen t = 0 then none else some (.lst (uses (mo t) (seen t)))
  nd : (acc.map (·.1)).Nodup
  ks : ∀ p ∈ acc, ∃ t, p.1 = keyT t
theorem uses_succ (o : Option Int) (n : Nat) : uses o (n + 1) = uses o n ++ [told o n] := by
  unfold uses
  rw [List.range_succ, List.map_append]; rfl
theorem old_eq {mo : T3 → Option Int} {seen f : T3 → Nat} {acc : List (List Key × Da)} (h : LJ mo seen f acc) (t : T3) : (match lk acc (keyT t) with | some (.lst l) => l | _ => []) = uses (mo t) (seen t) := by
  rw [h.lk t]
  by_cases e : seen t = 0
  · rw [if_pos e, e]; rfl
  · rw [if_neg e]
theorem put_nd {kvs : List (List Key × Da)} {k : List Key} {v : Da} (h : (kvs.map (·.1)).Nodup) : ((putKD kvs k v).map (·.1)).Nodup := by
  unfold putKD
  split
  · rw [List.map_map]
    have : ((·.1) ∘ fun kv : List Key × Da => if kv.1 = k then (kv.1, v) else kv) = (·.1) := by
      funext p
      simp only [Function.comp]
      split <;> rfl
    rw [this]; exact h
  · rename_i hn
    rw [List.map_append, List.nodup_append]
    refine ⟨h, by simp, fun a ha b hb z => ?_⟩
    obtain ⟨p, hp, e⟩ := List.mem_map.mp ha
    have : b = k := by simpa using hb
    exact hn (List.any_eq_true.mpr ⟨p, hp, decide_eq_true (by rw [e, z, this])⟩)
theorem LJ.step {mo : T3 → Option Int} {seen f : T3 → Nat} {acc : List (List Key × Da)} (h : LJ mo seen f acc) (t : T3) :
    LJ mo (more seen t) (next (mo t) f t) (putKD acc (keyT t) (.lst ((match K65.lk acc (keyT t) with | some (.lst l) => l | _ => []) ++ [told (mo t) (f t)]))) := by
  refine ⟨h.fj.next t, fun u => ?_, put_nd h.nd, put_keys h.ks⟩
  rw [lk_put, old_eq h t, h.fj.told t]
  by_cases e : u = t
  · subst e
    have hs : more seen u u = seen u + 1 := by unfold more; rw [if_pos rfl]
    rw [if_pos rfl, hs, if_neg (by omega), uses_succ]
  · have hs : more seen t u = seen u := by unfold more; rw [if_neg e]
    rw [if_neg fun z => e (keyT_inj z), hs]
    exact h.lk u
theorem go_LJ {mo : T3 → Option Int} : ∀ (row : List T3) {seen f : T3 → Nat} {acc : List (List Key × Da)}, LJ mo seen f acc → ∃ f', LJ mo (fun u => seen u + row.count u) f' (letGo mo row f acc)
  | [], seen, f, acc, h => ⟨f, by simpa [letGo] using h⟩
  | t :: r, seen, f, acc, h => by
    obtain ⟨f', h'⟩ := go_LJ r (h.step t)
    refine ⟨f', ?_⟩
    have e : (fun u => more seen t u + r.count u) = fun u => seen u + (t :: r).count u := by
      funext u
      unfold more
      rw [List.count_cons]
      by_cases eu : u = t
      · subst eu; simp; omega
      · rw [if_neg eu]; have : ¬ (t == u) = true := by simpa using fun z => eu z.symm
        simp [this]
    rw [e] at h'
    exact h'
theorem let_LJ (mo : T3 → Option Int) (row : List T3) : ∃ f', LJ mo (fun u => row.count u) f' (letOf mo row) := by
  obtain ⟨f', h⟩ := go_LJ (mo := mo) row (seen := fun _ => 0) (f := fun _ => 0) (acc := []) ⟨fun t => by cases mo t <;> simp, fun t => by simp [lk], by simp, by simp⟩
  exact ⟨f', by simpa [letOf] using h⟩
theorem rd__law_let (C : Addr) (ds : List Da) (μ : Mu) (Q2 : QD) (h : r__law_let C ds μ Q2) : t__law_let C { nx := fun _ μ' => trim Q2 .non μ', rt := trim Q2 } (startR ["_law_rights", "_law_row", "_law_found", "_law_one"] ds) μ := by
  obtain ⟨a, m, d, mk, mo, row, rfl, hR, hmo, hl, q⟩ := h
  intro p hp
  have nap : a ≠ p := fun z => by rw [← z, hR.1] at hp; cases hp
  have nmp : m ≠ p := fun z => by rw [← z, hR.2.1] at hp; cases hp
  have ndp : d ≠ p := fun z => by rw [← z, hR.2.2.1] at hp; cases hp
  refine ⟨_, rfl, _, rfl, fun i ρ' μ' => ∃ dk seen f acc o, ρ' = [some (.ref a), some (.lst (row.map tri)), some (.ref p), o] ∧ isRights C μ' a m d mk dk ∧ isDone dk f ∧ μ' p = some (.dT acc) ∧ LJ mo seen f acc ∧ letGo mo (row.drop i) f acc = letOf mo row ∧ frame μ μ' [d, p] ∧ dk.length ≤ i ∧ acc.length ≤ i ∧ ∀ t, seen t ≤ i,
    ⟨[], fun _ => 0, fun _ => 0, [], none, rfl, ⟨by rw [put_ne nap]; exact hR.1, by rw [put_ne nmp]; exact hR.2.1, by rw [put_ne ndp]; exact hR.2.2.1, hR.2.2.2⟩, ⟨fun t => by simp [lk], by simp⟩, put_same, ⟨fun t => by cases mo t <;> simp, fun t => by simp [lk], by simp, by simp⟩, rfl, fun b hb => put_ne fun z => hb (by rw [z]; simp), Nat.le_refl _, Nat.le_refl _, fun _ => Nat.le_refl _⟩, ?_, ?_⟩
  · rintro i x ρ' μ' hi ⟨dk, seen, f, acc, o, rfl, hR1, hf, hP, hJ, hgo, fr, l1, l2, l3⟩
    rw [List.getElem?_map] at hi
    obtain ⟨t, ht, rfl⟩ := Option.map_eq_some_iff.mp hi
    have hil : i < row.length := (List.getElem?_eq_some_iff.mp ht).1
    obtain ⟨hA1, hM1, hD1, ne1⟩ := hR1
    have hdrop : row.drop i = t :: row.drop (i + 1) := by
      obtain ⟨hl', e2⟩ := List.getElem?_eq_some_iff.mp ht
      rw [List.drop_eq_getElem_cons hl', e2]
    rw [hdrop] at hgo
    refine ⟨trivial, _, rfl, ty_T hP, _, rfl, Nat.zero_le _, get_T2 (t := t) hP ?_⟩
    have eg : (lk acc (keyT t)).getD (.lst []) = .lst (match lk acc (keyT t) with | some (.lst l) => l | _ => []) := by
      rw [hJ.lk t]
      by_cases e : seen t = 0
      · rw [if_pos e]; rfl
      · rw [if_neg e]; rfl
    rw [eg]
    refine ⟨_, rfl, a, _, rfl, hA1, rfl, _, rfl, ix_tup (x := .str t.1) (at_n 0 rfl) ⟨_, rfl, ix_tup (x := .str t.2.1) (at_n 1 rfl) ⟨_, rfl, ix_tup (x := .str t.2.2) (at_n 2 rfl) ?_⟩⟩⟩
    refine ⟨a, m, d, mk, dk, f, mo, t, rfl, ⟨hA1, hM1, hD1, ne1⟩, hf, hmo, by omega, fun dk' μ2 hR2 hf2 fr2 l4 => ?_⟩
    have ulen : (match lk acc (keyT t) with | some (.lst l) => l | _ => []).length ≤ i := by
      rw [old_eq hJ t]; unfold uses; rw [List.length_map, List.length_range]; exact l3 t
    have hP2 : μ2 p = some (.dT acc) := by rw [fr2 p (by simp [Ne.symm ndp])]; exact hP
    refine ⟨(by show 1 ≤ sizeLine; decide), add_lst (sz (by simp only [List.length_cons, List.length_nil]; omega)) ⟨_, rfl, _, rfl, set_T (t := t) hP2 (Nat.lt_of_le_of_lt l2 (Nat.lt_of_lt_of_le hil (sz (by omega)))) ?_⟩⟩
    refine ⟨dk', more seen t, next (mo t) f t, _, _, rfl, ⟨by rw [put_ne nap]; exact hR2.1, by rw [put_ne nmp]; exact hR2.2.1, by rw [put_ne ndp]; exact hR2.2.2.1, hR2.2.2.2⟩, hf2, put_same, hJ.step t, hgo, fun b hb => ?_, by omega, Nat.le_trans (put_len _ _ _) (by omega), fun u => ?_⟩
    · simp only [List.mem_cons, List.not_mem_nil, or_false, not_or] at hb
      rw [put_ne hb.2, fr2 b (by simp [hb.1])]
      exact fr b (by simp [hb])
    · unfold more
      have := l3 u
      split <;> omega
  · rintro ρ' μ' ⟨dk, seen, f, acc, o, rfl, hR1, hf, hP, hJ, hgo, fr, l1, l2, l3⟩
    rw [List.length_map, List.drop_length] at hgo
    have e : acc = letOf mo row := hgo
    subst e
    exact ⟨trivial, _, rfl, trim_of (q p μ' hp hP fr)⟩
end K65
namespace K65
open PySem L2 Dl
theorem row_or {rows : List Da} {L : List R3} (h : Sel PR RowN rows L) : ∀ d ∈ rows, (∃ r, d = rowR r ∧ okR3 r) ∨ RowN d := by
  induction h with
  | nil => intro d hd; cases hd
  | take a t ih =>
    intro d hd
    rcases List.mem_cons.mp hd with rfl | hd
    · exact .inl ⟨_, a⟩
    · exact ih d hd
  | skip a t ih =>
    intro d hd
    rcases List.mem_cons.mp hd with rfl | hd
    · exact .inr a
    · exact ih d hd
theorem sel_ok {rows : List Da} {L : List R3} (h : Sel PR RowN rows L) : ∀ r ∈ L, okR3 r := by
  induction h with
  | nil => intro d hd; cases hd
  | take a t ih =>
    intro d hd
    rcases List.mem_cons.mp hd with rfl | hd
    · exact a.2
    · exact ih d hd
  | skip a t ih => exact ih
theorem a2_of {α β : Type} {P : α → β → Prop} {as : List α} {bs : List β} (h : A2 P as bs) : ∀ b ∈ bs, ∃ a ∈ as, P a b := by
  induction h with
  | nil => intro b hb; cases hb
  | cons p t ih =>
    intro b hb
    rcases List.mem_cons.mp hb with rfl | hb
    · exact ⟨_, List.mem_cons_self, p⟩
    · obtain ⟨a, ha, q⟩ := ih b hb
      exact ⟨a, List.mem_cons_of_mem _ ha, q⟩
theorem Makes.faces {ms : List Da} {Ls : List (Str × List R3)} (h : Makes ms Ls) : ∀ pl ∈ Ls, ∃ rows, Face rows pl.2 := fun pl hpl => by
  obtain ⟨d, _, v, rows, body, _, hf⟩ := a2_of h.a2 pl hpl
  exact ⟨rows, hf⟩
theorem Makes.flat_nd {ms : List Da} {Ls : List (Str × List R3)} (h : Makes ms Ls) : ((flatO Ls).map trO).Nodup := K65.flat_nd h.nd fun pl hpl => let ⟨_, hf⟩ := h.faces pl hpl; hf.nd
theorem most_pos {ms : List Da} {Ls : List (Str × List R3)} (h : Makes ms Ls) {t : T3} {m : Int} (e : mostO Ls t = some m) : 0 < m ∧ m ≤ 9 := by
  rw [most_flat] at e
  obtain ⟨x, hx, rfl⟩ := Option.map_eq_some_iff.mp e
  obtain ⟨pl, hpl, hm⟩ := List.mem_flatMap.mp (List.mem_of_find?_eq_some hx)
  obtain ⟨r, hr, rfl⟩ := List.mem_map.mp hm
  obtain ⟨rows, hf⟩ := h.faces pl hpl
  exact (sel_ok hf.sel r hr).2.2
theorem a2_perm {α β : Type} {P : α → β → Prop} {as as' : List α} (hp : as'.Perm as) : ∀ {bs : List β}, A2 P as bs → ∃ bs', bs'.Perm bs ∧ A2 P as' bs' := by
  induction hp with
  | nil => intro bs h; exact ⟨bs, .refl _, h⟩
  | cons x p ih =>
    intro bs h
    cases h with
    | cons a t =>
      obtain ⟨bs', h1, h2⟩ := ih t
      exact ⟨_, h1.cons _, .cons a h2⟩
  | swap x y l =>
    intro bs h
    cases h with
    | cons a t =>
      cases t with
      | cons b u => exact ⟨_, .swap _ _ _, .cons b (.cons a u)⟩
  | trans p q ih1 ih2 =>
    intro bs h
    obtain ⟨b1, h1, h2⟩ := ih2 h
    obtain ⟨b2, h3, h4⟩ := ih1 h2
    exact ⟨b2, h3.trans h1, h4⟩
theorem find_iff {α κ : Type} [DecidableEq κ] {f : α → κ} {l : List α} (nd : (l.map f).Nodup) {t : κ} {a : α} : l.find? (fun e => decide (f e = t)) = some a ↔ a ∈ l ∧ f a = t := by
  induction l with
  | nil => simp
  | cons x l ih =>
    obtain ⟨n1, n2⟩ := List.nodup_cons.mp (show (f x :: l.map f).Nodup from nd)
    rw [List.find?_cons]
    by_cases e : f x = t
    · rw [decide_eq_true e]
      constructor
      · intro h
        have := Option.some.inj h
        subst this
        exact ⟨List.mem_cons_self, e⟩
      · rintro ⟨h1, h2⟩
        rcases List.mem_cons.mp h1 with rfl | h1
        · rfl
        · exact absurd (List.mem_map.mpr ⟨a, h1, h2.trans e.symm⟩) n1
    · rw [decide_eq_false e]
      show List.find? _ l = some a ↔ _
      rw [ih n2]
      constructor
      · rintro ⟨h1, h2⟩
        exact ⟨List.mem_cons_of_mem _ h1, h2⟩
      · rintro ⟨h1, h2⟩
        rcases List.mem_cons.mp h1 with rfl | h1
        · exact absurd h2 e
        · exact ⟨h1, h2⟩
theorem most_perm {ms ms' : List Da} {Ls Ls' : List (Str × List R3)} (h : Makes ms Ls) (h' : Makes ms' Ls') (p : Ls'.Perm Ls) : mostO Ls' = mostO Ls := by
  funext t
  rw [most_flat, most_flat]
  have fp : (flatO Ls').Perm (flatO Ls) := List.Perm.flatMap_right _ p
  have e : (flatO Ls').find? (fun e => decide (trO e = t)) = (flatO Ls).find? (fun e => decide (trO e = t)) := by
    apply Option.ext
    intro a
    rw [find_iff h'.flat_nd, find_iff h.flat_nd, fp.mem_iff]
  rw [e]
theorem perm_map {α β : Type} {f : α → β} {ys xs : List β} (h : ys.Perm xs) : ∀ {l : List α}, xs = l.map f → ∃ l' : List α, ys = l'.map f ∧ l'.Perm l := by
  induction h with
  | nil =>
    intro l e
    cases l with
    | nil => exact ⟨[], rfl, .refl _⟩
    | cons => cases e
  | cons x p ih =>
    intro l e
    cases l with
    | nil => cases e
    | cons a l =>
      injection e with e1 e2
      obtain ⟨l', h1, h2⟩ := ih e2
      exact ⟨a :: l', by rw [e1, h1]; rfl, h2.cons a⟩
  | swap x y zs =>
    intro l e
    cases l with
    | nil => cases e
    | cons a l =>
      cases l with
      | nil => injection e with _ e2; cases e2
      | cons b l =>
        injection e with e1 e2
        injection e2 with e2 e3
        exact ⟨b :: a :: l, by rw [e1, e2, e3]; rfl, .swap _ _ _⟩
  | trans p q ih1 ih2 =>
    intro l e
    obtain ⟨l1, h1, h2⟩ := ih2 e
    obtain ⟨l2, h3, h4⟩ := ih1 h1
    exact ⟨l2, h3, h4.trans h2⟩
/-! ### things with their numbers -/
abbrev Cnt := List (T3 × Nat)
def rowOf (c : Cnt) : List T3 := c.flatMap fun e => List.replicate e.2 e.1
def dueOf (mo : T3 → Option Int) (c : Cnt) : List (List Key × Da) := (c.filter fun e => decide (0 < e.2)).map fun e => (keyT e.1, .lst (uses (mo e.1) e.2))
theorem count_row {c : Cnt} (nd : (c.map (·.1)).Nodup) : (∀ e ∈ c, (rowOf c).count e.1 = e.2) ∧ ∀ t, t ∉ c.map (·.1) → (rowOf c).count t = 0 := by
  induction c with
  | nil => exact ⟨(fun e he => by cases he), (fun t _ => rfl)⟩
  | cons x c ih =>
    obtain ⟨n1, n2⟩ := List.nodup_cons.mp (show (x.1 :: c.map (·.1)).Nodup from nd)
    obtain ⟨i1, i2⟩ := ih n2
    unfold rowOf at i1 i2 ⊢
    refine ⟨(fun e he => ?_), (fun t ht => ?_)⟩
    · rw [List.flatMap_cons, List.count_append]
      rcases List.mem_cons.mp he with rfl | he
      · rw [List.count_replicate_self, i2 _ n1]; rfl
      · have ne : ¬ (x.1 == e.1) = true := fun z => n1 (List.mem_map.mpr ⟨e, he, (eq_of_beq z).symm⟩)
        rw [List.count_replicate, if_neg ne, i1 e he]; omega
    · have t1 : t ≠ x.1 := fun z => ht (by rw [z]; simp)
      have t2 : t ∉ c.map (·.1) := fun z => ht (List.mem_cons_of_mem _ z)
      rw [List.flatMap_cons, List.count_append, i2 t t2, List.count_replicate]
      have ne : ¬ (x.1 == t) = true := fun z => t1 (eq_of_beq z).symm
      rw [if_neg ne]
theorem due_key {mo : T3 → Option Int} {c : Cnt} {k : List Key} : k ∈ (dueOf mo c).map (·.1) ↔ ∃ e ∈ c, 0 < e.2 ∧ k = keyT e.1 := by
  unfold dueOf
  rw [List.map_map, List.mem_map]
  constructor
  · rintro ⟨e, he, rfl⟩
    obtain ⟨h1, h2⟩ := List.mem_filter.mp he
    exact ⟨e, h1, of_decide_eq_true h2, rfl⟩
  · rintro ⟨e, h1, h2, rfl⟩
    exact ⟨e, List.mem_filter.mpr ⟨h1, decide_eq_true h2⟩, rfl⟩
theorem due_nd {mo : T3 → Option Int} {c : Cnt} (nd : (c.map (·.1)).Nodup) : ((dueOf mo c).map (·.1)).Nodup := by
  unfold dueOf
  rw [List.map_map]
  have h1 : ((c.filter fun e => decide (0 < e.2)).map (·.1)).Nodup := nd.sublist (List.filter_sublist.map _)
  exact List.Pairwise.map _ (fun a b hne z => hne (keyT_inj z)) (List.pairwise_map.mp h1 |>.imp fun h => h)
theorem let_key {mo : T3 → Option Int} {row : List T3} {k : List Key} : k ∈ (letOf mo row).map (·.1) ↔ ∃ t ∈ row, k = keyT t := by
  obtain ⟨f, hJ⟩ := let_LJ mo row
  have look : ∀ t, lk (letOf mo row) (keyT t) ≠ none ↔ t ∈ row := fun t => by
    rw [hJ.lk t]
    by_cases e : row.count t = 0
    · rw [if_pos e]
      exact ⟨fun z => absurd rfl z, fun z => absurd e (Nat.pos_iff_ne_zero.mp (List.count_pos_iff.mpr z))⟩
    · rw [if_neg e]
      exact ⟨fun _ => List.count_pos_iff.mp (Nat.pos_iff_ne_zero.mpr e), fun _ z => by cases z⟩
  constructor
  · intro h
    obtain ⟨p, hp, rfl⟩ := List.mem_map.mp h
    obtain ⟨t, ht⟩ := hJ.ks p hp
    refine ⟨t, (look t).mp fun z => ?_, ht⟩
    unfold lk at z
    rw [Option.map_eq_none_iff, List.find?_eq_none] at z
    exact z p hp (decide_eq_true ht)
  · rintro ⟨t, ht, rfl⟩
    by_cases hm : keyT t ∈ (letOf mo row).map (·.1)
    · exact hm
    · exact absurd (lk_none fun p hp z => hm (List.mem_map.mpr ⟨p, hp, z⟩)) ((look t).mpr ht)
theorem keys_perm {mo : T3 → Option Int} {c : Cnt} {row : List T3} (nd : (c.map (·.1)).Nodup) (hp : row.Perm (rowOf c)) : ((letOf mo row).map (·.1)).Perm ((dueOf mo c).map (·.1)) := by
  obtain ⟨f, hJ⟩ := let_LJ mo row
  refine (List.perm_ext_iff_of_nodup hJ.nd (due_nd nd)).mpr fun k => ?_
  rw [let_key, due_key]
  constructor
  · rintro ⟨t, ht, rfl⟩
    obtain ⟨e, he, hm⟩ := List.mem_flatMap.mp (hp.mem_iff.mp ht)
    obtain ⟨h1, h2⟩ := List.mem_replicate.mp hm
    exact ⟨e, he, by omega, by rw [h2]⟩
  · rintro ⟨e, he, h0, rfl⟩
    exact ⟨e.1, hp.mem_iff.mpr (List.mem_flatMap.mpr ⟨e, he, List.mem_replicate.mpr ⟨by omega, rfl⟩⟩), rfl⟩
theorem let_val {mo : T3 → Option Int} {c : Cnt} {row : List T3} (nd : (c.map (·.1)).Nodup) (hp : row.Perm (rowOf c)) {e : T3 × Nat} (he : e ∈ c) (h0 : 0 < e.2) : lk (letOf mo row) (keyT e.1) = some (.lst (uses (mo e.1) e.2)) := by
  obtain ⟨f, hJ⟩ := let_LJ mo row
  rw [hJ.lk, hp.count_eq, (count_row nd).1 e he, if_neg (by omega)]
theorem due_val {mo : T3 → Option Int} {c : Cnt} (nd : (c.map (·.1)).Nodup) {e : T3 × Nat} (he : e ∈ c) (h0 : 0 < e.2) : lk (dueOf mo c) (keyT e.1) = some (.lst (uses (mo e.1) e.2)) := by
  induction c with
  | nil => cases he
  | cons x c ih =>
    obtain ⟨n1, n2⟩ := List.nodup_cons.mp (show (x.1 :: c.map (·.1)).Nodup from nd)
    rcases List.mem_cons.mp he with rfl | he
    · unfold dueOf
      rw [List.filter_cons_of_pos (p := fun e : T3 × Nat => decide (0 < e.2)) (decide_eq_true h0), List.map_cons, lk_cons, if_pos rfl]
    · have ih' := ih n2 he
      unfold dueOf at ih' ⊢
      rw [List.filter_cons]
      split
      · rw [List.map_cons, lk_cons, if_neg]
        · exact ih'
        · intro z
          exact n1 (List.mem_map.mpr ⟨e, he, (keyT_inj z).symm⟩)
      · exact ih'
theorem let_one {mo : T3 → Option Int} {t : T3} {n : Nat} (h : 0 < n) : letOf mo (List.replicate n t) = [(keyT t, .lst (uses (mo t) n))] := by
  have nd : (([(t, n)] : Cnt).map (·.1)).Nodup := by simp
  have hp : (List.replicate n t).Perm (rowOf [(t, n)]) := by unfold rowOf; simp
  have hk := keys_perm (mo := mo) nd hp
  have ek : (dueOf mo [(t, n)]).map (·.1) = [keyT t] := by unfold dueOf; rw [List.filter_cons_of_pos (p := fun e : T3 × Nat => decide (0 < e.2)) (decide_eq_true h)]; rfl
  rw [ek] at hk
  have hv := let_val (mo := mo) nd hp (e := (t, n)) (by simp) h
  have e1 := List.perm_singleton.mp hk
  cases e : letOf mo (List.replicate n t) with
  | nil => rw [e] at e1; cases e1
  | cons p l =>
    rw [e, List.map_cons] at e1
    injection e1 with e2 e3
    have : l = [] := List.map_eq_nil_iff.mp e3
    subst this
    rw [e, lk_cons, if_pos e2] at hv
    have := Option.some.inj hv
    rw [← this, ← e2]
end K65
namespace K65
open PySem L2 Dl
theorem tri_inj {t u : T3} (h : tri t = tri u) : t = u := keyT_inj (tD_inj (show tD (keyT t) = tD (keyT u) from h))
theorem tris_of {acc : List Da} (h : ∀ y ∈ acc, ∃ t, y = tri t ∧ okT t) : ∃ Ts : List T3, acc = Ts.map tri ∧ ∀ t ∈ Ts, okT t := by
  induction acc with
  | nil => exact ⟨[], rfl, by simp⟩
  | cons a l ih =>
    obtain ⟨us, e1, e2⟩ := ih fun y hy => h y (List.mem_cons_of_mem _ hy)
    obtain ⟨t, e3, ht⟩ := h a List.mem_cons_self
    refine ⟨t :: us, by rw [e1, e3]; rfl, fun u hu => ?_⟩
    rcases List.mem_cons.mp hu with rfl | hu
    · exact ht
    · exact e2 u hu
theorem sel_mem {α β : Type} {P : α → β → Prop} {N : α → Prop} {as : List α} {bs : List β} (h : Sel P N as bs) : ∀ b ∈ bs, ∃ a ∈ as, P a b := by
  induction h with
  | nil => intro b hb; cases hb
  | take p t ih =>
    intro b hb
    rcases List.mem_cons.mp hb with rfl | hb
    · exact ⟨_, List.mem_cons_self, p⟩
    · obtain ⟨a, ha, q⟩ := ih b hb
      exact ⟨a, List.mem_cons_of_mem _ ha, q⟩
  | skip p t ih =>
    intro b hb
    obtain ⟨a, ha, q⟩ := ih b hb
    exact ⟨a, List.mem_cons_of_mem _ ha, q⟩
theorem nd_tri {Ts : List T3} (h : (Ts.map tri).Nodup) : Ts.Nodup := by
  induction Ts with
  | nil => exact List.nodup_nil
  | cons u us ih =>
    obtain ⟨h1, h2⟩ := List.nodup_cons.mp (show (tri u :: us.map tri).Nodup from h)
    exact List.nodup_cons.mpr ⟨fun m => h1 (List.mem_map.mpr ⟨u, m, rfl⟩), ih h2⟩
theorem cmp_of {t : T3} (h : okT t) : cmpOk (tri t) := cmp_tri h.1.1 h.2.1.1 h.2.2.1
theorem cmp_tris {ts : List T3} (h : ∀ t ∈ ts, okT t) : cmpOk (.lst (ts.map tri)) := by
  constructor
  · rw [okD, okDs_iff]
    intro x hx
    obtain ⟨t, ht, rfl⟩ := List.mem_map.mp hx
    exact (cmp_of (h t ht)).1
  · rw [dpD]
    have : ∀ ts : List T3, dpDs (ts.map tri) ≤ 1 := fun ts => by
      induction ts with
      | nil => simp [dpDs]
      | cons a l ih =>
        rw [List.map_cons, dpDs]
        have : dpD (tri a) = 1 := by simp [tri, dpD, dpDs]
        omega
    have := this ts
    omega
theorem okR_tris {ts : List T3} (h : ∀ t ∈ ts, okT t) : okRs (ts.map tri) = true := okRs_iff.mpr fun x hx => by
  obtain ⟨t, ht, rfl⟩ := List.mem_map.mp hx
  exact okR_of (cmp_of (h t ht)).1
theorem sz_tri {t : T3} (h : okT t) : szD (tri t) ≤ 27 := by
  obtain ⟨⟨_, h1⟩, ⟨_, h2⟩, _, h3⟩ := h
  simp only [tri, szD, szDs]
  omega
theorem show_tris {ts : List T3} (h : ∀ t ∈ ts, okT t) (hl : ts.length ≤ 1000) : ShowOk (.lst (ts.map tri)) := by
  refine ⟨by rw [okR]; exact okR_tris h, ?_, ?_⟩
  · rw [dpD]
    have : ∀ ts : List T3, dpDs (ts.map tri) ≤ 1 := fun ts => by
      induction ts with
      | nil => simp [dpDs]
      | cons a l ih =>
        rw [List.map_cons, dpDs]
        have : dpD (tri a) = 1 := by simp [tri, dpD, dpDs]
        omega
    have := this ts
    omega
  · rw [szD]
    have : ∀ ts : List T3, (∀ t ∈ ts, okT t) → szDs (ts.map tri) ≤ 28 * ts.length := fun ts => by
      induction ts with
      | nil => intro _; simp [szDs]
      | cons a l ih =>
        intro h
        rw [List.map_cons, szDs, List.length_cons]
        have h1 := sz_tri (h a List.mem_cons_self)
        have h2 := ih fun t ht => h t (List.mem_cons_of_mem _ ht)
        omega
    have := this ts h
    have e : (2 : Nat) ^ 20 = 1048576 := by decide
    omega
theorem toks_inj {t u : T3} (h : PySem.W.keyToks (py (tri t)) = PySem.W.keyToks (py (tri u))) : t = u := by
  obtain ⟨a, b, c⟩ := t
  obtain ⟨a', b', c'⟩ := u
  simp only [tri, py, pys, PySem.W.keyToks, PySem.W.keyToksAll, List.cons_append, List.nil_append, List.cons.injEq, Sum.inr.injEq, true_and, and_true] at h
  rw [PySem.W.str_of_cps h.1, PySem.W.str_of_cps h.2.1, PySem.W.str_of_cps h.2.2]
theorem sort_tris {ts us : List T3} (h : ts.Perm us) : (ts.map tri).mergeSort (PySem.W.dataLe false py) = (us.map tri).mergeSort (PySem.W.dataLe false py) := by
  have tl : PySem.W.TotalLe (PySem.W.dataLe (β := Da) false py) := PySem.W.sortLe_total _ _ _
  have pm : ∀ l : List Da, (l.mergeSort (PySem.W.dataLe false py)).Perm l := fun l => List.mergeSort_perm l _
  refine List.Perm.eq_of_pairwise (le := fun a b => PySem.W.dataLe false py a b = true) (fun a b ha hb h1 h2 => ?_) (PySem.W.sort_pairwise tl _) (PySem.W.sort_pairwise tl _) ((pm _).trans ((h.map tri).trans (pm _).symm))
  obtain ⟨t, _, rfl⟩ := List.mem_map.mp ((pm _).mem_iff.mp ha)
  obtain ⟨u, _, rfl⟩ := List.mem_map.mp ((pm _).mem_iff.mp hb)
  have e : PySem.W.keyToks (py (tri t)) = PySem.W.keyToks (py (tri u)) := (PyProof.Rows.lex_total (O := PyProof.Rows.itemOrd) _ _ (by simpa [PySem.W.dataLe, PySem.W.sortLe] using h2) (by simpa [PySem.W.dataLe, PySem.W.sortLe] using h1))
  rw [toks_inj e]
theorem sortOk_tris {ts : List T3} (hl : ts.length ≤ 1000) : SortOk py (ts.map tri) := by
  refine ⟨fun x hx y hy => ?_, .inl fun d hd => ?_, sz (by rw [List.length_map]; omega), fun x hx => ?_⟩
  · obtain ⟨t, _, rfl⟩ := List.mem_map.mp hx
    obtain ⟨u, _, rfl⟩ := List.mem_map.mp hy
    simp [tri, py, pys, PySem.W.alike, PySem.W.alikeAll]
  · obtain ⟨x, hx, rfl⟩ := List.mem_map.mp hd
    obtain ⟨t, _, rfl⟩ := List.mem_map.mp hx
    exact ⟨_, _, rfl⟩
  · obtain ⟨t, _, rfl⟩ := List.mem_map.mp hx
    rw [depth_py]
    have : dpD (tri t) = 1 := by simp [tri, dpD, dpDs]
    omega
/-! what a use is told may be compared and shown -/
theorem told_ok (o : Option Int) (n : Nat) : okD (told o n) = true ∧ dpD (told o n) = 0 ∧ szD (told o n) ≤ 5 := by
  rcases told_cases o n with e | e | e <;> rw [e]
  · exact ⟨by decide +kernel, by decide +kernel, by decide +kernel⟩
  · exact ⟨by decide +kernel, by decide +kernel, by decide +kernel⟩
  · exact ⟨by decide +kernel, by decide +kernel, by decide +kernel⟩
theorem uses_dp (o : Option Int) (n : Nat) : dpD (.lst (uses o n)) = 1 := by
  rw [dpD]
  have : ∀ l : List Nat, dpDs (l.map (told o)) = 0 := fun l => by
    induction l with
    | nil => simp [dpDs]
    | cons a l ih => rw [List.map_cons, dpDs, ih, (told_ok o a).2.1]; rfl
  unfold uses
  rw [this]
theorem uses_okD (o : Option Int) (n : Nat) : okD (.lst (uses o n)) = true := by
  rw [okD, okDs_iff]
  intro x hx
  obtain ⟨i, _, rfl⟩ := List.mem_map.mp hx
  exact (told_ok o i).1
theorem uses_sz (o : Option Int) (n : Nat) : szD (.lst (uses o n)) ≤ 6 * n := by
  rw [szD]
  have : ∀ l : List Nat, szDs (l.map (told o)) ≤ 6 * l.length := fun l => by
    induction l with
    | nil => simp [szDs]
    | cons a l ih =>
      rw [List.map_cons, szDs, List.length_cons]
      have := (told_ok o a).2.2
      omega
  unfold uses
  have := this (List.range n)
  rw [List.length_range] at this
  exact this
theorem uses_cmp (o : Option Int) (n : Nat) : cmpOk (.lst (uses o n)) := ⟨uses_okD o n, by rw [uses_dp]; omega⟩
theorem uses_len (o : Option Int) (n : Nat) : (uses o n).length = n := by unfold uses; rw [List.length_map, List.length_range]
theorem uses_show {o : Option Int} {n : Nat} (h : n ≤ 1000) : ShowOk (.lst (uses o n)) := ⟨okR_of (uses_okD o n), by rw [uses_dp]; omega, by
  have := uses_sz o n
  have e : (2 : Nat) ^ 20 = 1048576 := by decide
  omega⟩
theorem one_same (t : T3) (o : Option Int) (n : Nat) : SameKv [(keyT t, .lst (uses o n))] [(keyT t, .lst (uses o n))] := by
  refine ⟨rfl, fun p hp => ?_⟩
  have : p = (keyT t, .lst (uses o n)) := by simpa using hp
  subst this
  refine ⟨uses_cmp o n, ⟨_, by simp, rfl⟩, fun q hq _ => ?_⟩
  have : q = (keyT t, .lst (uses o n)) := by simpa using hq
  rw [this]
theorem one_show {t : T3} {o : Option Int} {n : Nat} (ht : okT t) (hn : n ≤ 1000) : ShowKv [(keyT t, .lst (uses o n))] := by
  refine ⟨fun p hp => ?_, fun p hp => ?_, ?_⟩
  · have : p = (keyT t, .lst (uses o n)) := by simpa using hp
    subst this
    exact ⟨okR_of (cmp_of ht).1, okR_of (uses_okD o n)⟩
  · have : p = (keyT t, .lst (uses o n)) := by simpa using hp
    subst this
    show dpD (.lst (uses o n)) ≤ 60
    rw [uses_dp]; omega
  · refine PyData.shown_fits (B := 13) (by decide) (by decide) ?_ ?_
    · have l1 := PyData.leavesShort_of_canLay0 13 (py (tri t)) (lay_of (okR_of (cmp_of ht).1)) (short_of (okR_of (cmp_of ht).1)).1
      have l2 := PyData.leavesShort_of_canLay0 13 (py (.lst (uses o n))) (lay_of (okR_of (uses_okD o n))) (short_of (okR_of (uses_okD o n))).1
      simp only [pyKvs, List.map_cons, List.map_nil, PyData.leavesShort, PyData.leavesShortKv, Bool.and_true, Bool.and_eq_true]
      exact ⟨l1, l2⟩
    · simp only [pyKvs, List.map_cons, List.map_nil, PyData.weight, PyData.weightKv]
      have w1 := weight_py (d := tri t) (okR_of (cmp_of ht).1)
      have w2 := weight_py (d := .lst (uses o n)) (okR_of (uses_okD o n))
      have s1 := sz_tri ht
      have s2 := uses_sz o n
      have e : (2 : Nat) ^ 20 = 1048576 := by decide
      rw [← key_tri] at w1 s1
      show (py (tD (keyT t))).weight + (py (.lst (uses o n))).weight + 2 + 0 ≤ 2 ^ 20
      omega
/-! reading a dict of things -/
theorem ix_T {μ : Mu} {a : Addr} {kvs : List (List Key × Da)} {t : T3} {x : Da} {Q : QD} (hm : μ a = some (.dT kvs)) (hl : lk kvs (keyT t) = some x) (h : Q x μ) : ix2 (.ref a) (tri t) μ Q := by
  unfold ix2
  rw [view_refT hm]
  exact ⟨keyB_tri t, x, by rw [← key_tri, dlook_lk]; exact hl, h⟩
theorem ix_L {μ : Mu} {a : Addr} {od : PySem.Obj} {ws : List (List Key × V)} {kvs : List (List Key × Da)} {t : T3} {x : Da} {Q : QD} (hm : μ a = some (.lkT od ws kvs)) (hl : lk kvs (keyT t) = some x) (h : Q x μ) : ix2 (.ref a) (tri t) μ Q := by
  have hv : view μ (.ref a) = .ref a := by show viewM a (μ a) = _; rw [hm]; rfl
  unfold ix2
  rw [hv]
  exact ⟨true, _, by unfold lkD; rw [hm], keyB_tri t, x, by rw [← key_tri, dlook_lk]; exact hl, h⟩
theorem makes_perm {ms ms' : List Da} {Ls : List (Str × List R3)} (h : Makes ms Ls) (p : ms'.Perm ms) : ∃ Ls', Ls'.Perm Ls ∧ Makes ms' Ls' := by
  obtain ⟨Ls', h1, h2⟩ := a2_perm p h.a2
  exact ⟨Ls', h1, h2, (h1.map _).nodup_iff.mpr h.nd, fun pl hpl => h.ok pl (h1.mem_iff.mp hpl), by rw [h1.length_eq]; exact h.len⟩
theorem ge_int {i j : Int} {μ : Mu} {Q : QD} (h : Q (.bl (decide (j ≤ i))) μ) : ge2 (.int i) (.int j) μ Q := ⟨i, j, rfl, rfl, h⟩
theorem gt_int {i j : Int} {μ : Mu} {Q : QD} (h : Q (.bl (decide (j < i))) μ) : gt2 (.int i) (.int j) μ Q := ⟨i, j, rfl, rfl, h⟩
theorem bools_true : ∀ {acc : List Da}, (∀ y ∈ acc, y = .bl true) → ∃ bs, bools acc = some bs ∧ bs.all id = true
  | [], _ => ⟨[], rfl, rfl⟩
  | a :: l, h => by
    obtain ⟨bs, h1, h2⟩ := bools_true (acc := l) fun y hy => h y (List.mem_cons_of_mem _ hy)
    have e := h a List.mem_cons_self
    subst e
    exact ⟨true :: bs, by rw [bools, h1]; rfl, by simpa using h2⟩
theorem rep_flat {α β : Type} (f : α → β) (x : α) : ∀ n : Nat, (List.replicate n [f x]).flatten = (List.replicate n x).map f
  | 0 => rfl
  | n + 1 => by rw [List.replicate_succ, List.flatten_cons, rep_flat f x n, List.replicate_succ]; rfl
/-- the told row of a right that is there -/
theorem told_row {m : Int} {n : Nat} : ((rng 0 n).map fun d => match d with | .int j => if m ≤ j then Da.str "often" else .non | _ => .non) = uses (some m) n := by
  unfold rng uses
  rw [List.map_map]
  refine List.map_congr_left fun i _ => ?_
  simp only [Function.comp, told, Int.zero_add, ge_iff_le]
theorem told_none {n : Nat} : List.replicate n (Da.str "right") = uses none n := by
  unfold uses
  have : told none = fun _ => Da.str "right" := by funext i; rfl
  rw [this, List.map_const', List.length_range]
end K65
namespace K65
open PySem L2 Dl
/-- what is known of the things and their numbers -/
structure CntOk (U : List T3) (c : Cnt) : Prop where
  keys : c.map (·.1) = U
  many : ∀ e ∈ c, e.2 ≤ 12
theorem row_len {U : List T3} {c : Cnt} (h : CntOk U c) : (rowOf c).length ≤ 12 * U.length := by
  obtain ⟨rfl, hm⟩ := h
  unfold rowOf
  rw [List.length_map]
  induction c with
  | nil => exact Nat.zero_le _
  | cons x c ih =>
    have := ih fun e he => hm e (List.mem_cons_of_mem _ he)
    have h1 := hm x List.mem_cons_self
    rw [List.flatMap_cons, List.length_append, List.length_replicate, List.length_cons]
    omega
theorem due_len (mo : T3 → Option Int) (c : Cnt) : (dueOf mo c).length ≤ c.length := by
  unfold dueOf
  rw [List.length_map]
  exact List.length_filter_le _ _
theorem due_app (mo : T3 → Option Int) (c : Cnt) (e : T3 × Nat) : dueOf mo (c ++ [e]) = dueOf mo c ++ dueOf mo [e] := by
  unfold dueOf
  rw [List.filter_append, List.map_append]
theorem due_one (mo : T3 → Option Int) {t : T3} {n : Nat} (h : 0 < n) : dueOf mo [(t, n)] = [(keyT t, .lst (uses (mo t) n))] := by
  unfold dueOf
  rw [List.filter_cons_of_pos (p := fun e : T3 × Nat => decide (0 < e.2)) (decide_eq_true h)]; rfl
theorem due_zero (mo : T3 → Option Int) {t : T3} : dueOf mo [(t, 0)] = [] := rfl
theorem row_app (c : Cnt) (e : T3 × Nat) : rowOf (c ++ [e]) = rowOf c ++ List.replicate e.2 e.1 := by
  unfold rowOf
  rw [List.flatMap_append, List.flatMap_cons, List.flatMap_nil, List.append_nil]
theorem rd_law (C : Addr) (ds : List Da) (μ : Mu) (Q2 : QD) (h : r_law ds μ Q2) : t_law C { nx := fun _ μ' => trim Q2 .non μ', rt := trim Q2 } (startR ["_law_script", "_law_bag_here", "_law_parts", "_law_makes_here", "_law_things", "_law_make_here", "_law_row", "_law_due", "_law_one", "_law_turn", "_law_many", "_law_most_here", "_law_told", "_law_found", "_law_k"] ds) μ := by
  obtain ⟨ns, rfl, hl, fr0, q⟩ := h
  have qt : ∀ μ', trim Q2 (.bl true) μ' := fun μ' => trim_of (q μ')
  refine ⟨_, rfl, ns, rfl, hl, fun b hb0 => ?_⟩
  have hb : put μ b .bag b = some .bag := put_same
  generalize put μ b .bag = μ1 at hb ⊢
  refine ⟨_, rfl, _, rfl, tk hb (by decide) (by decide) fun i i0 i1 => add_int ?_⟩
  refine ⟨b, 1 + i, rfl, hb, by omega, by omega, fun ss snd sok sl => ?_⟩
  refine ⟨_, rfl, _, rfl, b, ss, rfl, hb, snd, sok, sl, fun ms Ls hM => ?_⟩
  refine ⟨3, rfl, by decide, by decide, lc_yes (fun d y => ∃ t, y = tri t ∧ okT t) trivial (sz (by rw [rng_len]; decide)) (fun d hd R hR => ⟨_, rfl, _, rfl, b, ss, rfl, hb, sok, sl, fun t ht => hR _ ⟨t, rfl, ht⟩⟩) fun acc ha => ?_⟩
  have hl0 := ha.length
  obtain ⟨T0, rfl, T0ok⟩ := tris_of (ha.all (R := fun y => ∃ t, y = tri t ∧ okT t) fun _ _ e => e)
  clear ha
  rw [rng_len, List.length_map] at hl0
  refine ⟨_, rfl, ms, rfl, fun j ρ' μ' => μ' = μ1 ∧ ∃ Ts o5, ρ' = [some (.kl (ns.map Da.int)), some (.ref b), some (.lst (sD ss)), some (.lst ms), some (.lst (Ts.map tri)), o5, none, none, none, none, none, none, none, none, none] ∧ (∀ t ∈ Ts, okT t) ∧ Ts.length ≤ 3 + 3 * j, ⟨rfl, T0, none, rfl, T0ok, by rw [← hl0]; decide⟩, ?_, ?_⟩
  · rintro j d ρ' μ' hj ⟨rfl, Ts, o5, rfl, Tok, Tl⟩
    obtain ⟨pl, hpl, v, rws, body, rfl, hf⟩ := a2_at hM.a2 hj
    have j4 : j < 4 := Nat.lt_of_lt_of_le (List.getElem?_eq_some_iff.mp hpl).1 hM.len
    have pok := hM.ok pl (List.mem_of_getElem? hpl)
    have fl := hf.len
    refine ⟨trivial, _, rfl, _, rfl, ix_tup (x := .tup rws) (at_n 3 rfl) ⟨rws, .inl rfl, lc_sel (fun _ y => ∃ t, y = tri t ∧ okT t) (fun _ => True) trivial (sz (by omega)) (fun d hd R S hR hS => ?_) fun acc ha => ?_⟩⟩
    · rcases row_or hf.sel d hd with ⟨r, rfl, rok⟩ | ⟨k, rest, rfl, hk, _⟩
      · refine ⟨_, rfl, ix_tup (x := .str "right") (at_n 0 rfl) (eq_str ⟨_, rfl, ite_d (fun _ => ?_) fun ne => absurd rfl ne⟩)⟩
        refine ⟨_, rfl, ix_tup (x := .str pl.1) (at_n 1 rfl) ⟨_, rfl, ix_tup (x := .str r.1) (at_n 1 rfl) ⟨_, rfl, ix_tup (x := .str r.2.1) (at_n 2 rfl) ⟨(by show 3 ≤ sizeLine; decide), hR _ ⟨(pl.1, r.1, r.2.1), rfl, pok, rok.1, rok.2.1⟩⟩⟩⟩⟩
      · exact ⟨_, rfl, ix_tup (x := .str k) (at_n 0 rfl) (eq_str ⟨_, rfl, ite_d (fun e => absurd e hk) fun _ => hS trivial⟩)⟩
    · obtain ⟨As, rfl, Aok⟩ := tris_of fun y hy => let ⟨_, _, e⟩ := sel_mem ha y hy; e
      refine ⟨3, rfl, sl_lst ?_⟩
      obtain ⟨n, hn, n3⟩ := cut_upto (xs := As.map tri) (m := 3) (by decide)
      rw [hn, ← List.map_take]
      refine add_lst (sz (by rw [List.length_map, List.length_map, List.length_take]; omega)) ⟨rfl, Ts ++ As.take n, _, by rw [List.map_append]; rfl, fun t ht => ?_, by rw [List.length_append, List.length_take]; omega⟩
      rcases List.mem_append.mp ht with ht | ht
      · exact Tok t ht
      · exact Aok t (List.mem_of_mem_take ht)
  · rintro ρ' μ' ⟨rfl, Ts, o5, rfl, Tok, Tl⟩
    have hml : ms.length = Ls.length := hM.a2.length
    have l4 := hM.len
    refine ⟨trivial, _, rfl, _, rfl, lc_sel (PD (Ts.map tri)) (fun _ => True) trivial (sz (by rw [enum_len, List.length_map]; omega)) (fun d hd R S hR hS => ?_) fun acc ha => ?_⟩
    · obtain ⟨i, x, hi, rfl⟩ := enum_mem hd
      have hi' := hi
      rw [List.getElem?_map] at hi'
      obtain ⟨t, ht, rfl⟩ := Option.map_eq_some_iff.mp hi'
      have hil := (List.getElem?_eq_some_iff.mp hi).1
      refine ⟨_, rfl, rfl, _, _, rfl, _, _, rfl, rfl, _, rfl, _, rfl, _, rfl, _, rfl, sl_lst ?_⟩
      rw [cut_i (by omega)]
      have et : (Ts.map tri).take i = (Ts.take i).map tri := List.map_take.symm
      rw [et]
      exact notin_lst (cmp_of (Tok t (List.mem_of_getElem? ht))) (cmp_tris fun z hz => Tok z (List.mem_of_mem_take hz)) fun c hc => ⟨c, rfl, ite_b (fun e => ⟨_, rfl, hR _ ⟨i, _, hi, rfl, by rw [et]; exact hc.mp e, rfl⟩⟩) fun _ => hS trivial⟩
    · obtain ⟨nd, mem⟩ := sel_nd ha 0 rfl
      obtain ⟨U0, rfl, U0ok⟩ := tris_of fun y hy => by
        obtain ⟨t, ht, rfl⟩ := List.mem_map.mp (mem y hy).2
        exact ⟨t, rfl, Tok t ht⟩
      have U0nd := nd_tri nd
      refine ⟨6, rfl, sl_lst ?_⟩
      obtain ⟨n, hn, n6⟩ := cut_upto (xs := U0.map tri) (m := 6) (by decide)
      rw [hn, ← List.map_take]
      have Uok : ∀ t ∈ U0.take n, okT t := fun t ht => U0ok t (List.mem_of_mem_take ht)
      have Und : (U0.take n).Nodup := U0nd.sublist (List.take_sublist _ _)
      have Ul : (U0.take n).length ≤ 6 := by rw [List.length_take]; omega
      generalize U0.take n = U at Uok Und Ul ⊢
      clear hn n6 U0nd U0ok mem nd ha
      refine ⟨Nat.zero_le _, fun p hp => ?_⟩
      have nbp : b ≠ p := fun z => by rw [← z, hb] at hp; cases hp
      have hp1 : put μ' p (.dT []) p = some (.dT []) := put_same
      have hb1 : put μ' p (.dT []) b = some .bag := by rw [put_ne nbp]; exact hb
      generalize put μ' p (.dT []) = μ2 at hp1 hb1 ⊢
      refine ⟨_, rfl, _, rfl, fun j ρ' μ' => ∃ c o8 o10 o11 o12, ρ' = [some (.kl (ns.map Da.int)), some (.ref b), some (.lst (sD ss)), some (.lst ms), some (.lst (U.map tri)), o5, some (.lst ((rowOf c).map tri)), some (.ref p), o8, none, o10, o11, o12, none, none] ∧ CntOk (U.take j) c ∧ μ' b = some .bag ∧ μ' p = some (.dT (dueOf (mostO Ls) c)), ⟨[], none, none, none, none, rfl, ⟨rfl, fun e he => by cases he⟩, hb1, hp1⟩, ?_, ?_⟩
      · rintro j d ρ' μ' hj ⟨c, o8, o10, o11, o12, rfl, hc, hb2, hp2⟩
        rw [List.getElem?_map] at hj
        obtain ⟨t, ht, rfl⟩ := Option.map_eq_some_iff.mp hj
        have tok := Uok t (List.mem_of_getElem? ht)
        have cl := row_len hc
        have jl : (U.take j).length ≤ 6 := by rw [List.length_take]; omega
        have ccl : c.length ≤ 6 := by have := congrArg List.length hc.keys; rw [List.length_map] at this; omega
        refine ⟨trivial, _, rfl, tk hb2 (by decide) (by decide) fun n n0 n1 => ?_⟩
        refine ⟨_, rfl, _, rfl, (by show 1 ≤ sizeLine; decide), _, rfl, mul_lst (by omega) (by omega) (sz (by simp; omega)) ?_⟩
        rw [rep_flat tri t]
        refine add_lst (sz (by rw [List.length_map, List.length_map, List.length_replicate]; omega)) ?_
        refine ⟨_, rfl, _, rfl, ix_tup (x := .str t.1) (at_n 0 rfl) ⟨_, rfl, ix_tup (x := .str t.2.1) (at_n 1 rfl) ⟨_, rfl, ix_tup (x := .str t.2.2) (at_n 2 rfl) ?_⟩⟩⟩
        refine ⟨ms, Ls, t, rfl, hM, tok, ?_⟩
        refine ⟨_, rfl, n, rfl, by omega, by omega, lc_yes (fun d y => y = (match d with | .int k => if (mostO Ls t).getD 0 ≤ k then Da.str "often" else .non | _ => .non)) trivial (sz (by rw [rng_len]; omega)) (fun d hd R hR => ?_) fun acc ha => ?_⟩
        · obtain ⟨k, hk, e⟩ := List.getElem_of_mem hd
          obtain ⟨k1, rfl⟩ := rng_get (lo := 0) (n := n.toNat) (i := k) (d := d) (by rw [List.getElem?_eq_getElem hk, e])
          refine ⟨(by show 2 ≤ sizeLine; decide), _, rfl, _, rfl, ge_int (int_bl ?_)⟩
          by_cases h : (mostO Ls t).getD 0 ≤ (0 + (k : Nat) : Int)
          · rw [decide_eq_true h]
            refine ⟨1, .str "often", rfl, rfl, hR _ ?_⟩
            show Da.str "often" = if _ then _ else _
            rw [if_pos h]
          · rw [decide_eq_false h]
            refine ⟨0, .non, rfl, rfl, hR _ ?_⟩
            show Da.non = if _ then _ else _
            rw [if_neg h]
        · have ea := ha.eq_map
          subst ea
          clear ha
          have fin : ∀ (o11' : Option Da), ∃ c' : Cnt, CntOk (U.take (j + 1)) c' ∧ rowOf c' = rowOf c ++ List.replicate n.toNat t ∧ c' = c ++ [(t, n.toNat)] := fun _ => ⟨c ++ [(t, n.toNat)], ⟨by rw [List.map_append, hc.keys, take_at ht]; rfl, fun e he => by
            rcases List.mem_append.mp he with he | he
            · exact hc.many e he
            · rw [List.mem_singleton.mp he]; show n.toNat ≤ 12; omega⟩, row_app _ _, rfl⟩
          obtain ⟨c', hc', er, ec⟩ := fin none
          have tnew : ∀ q ∈ dueOf (mostO Ls) c, q.1 ≠ keyT t := fun q hq z => by
            obtain ⟨e, he, rfl⟩ := List.mem_map.mp hq
            have h1 : e.1 ∈ U.take j := by rw [← hc.keys]; exact List.mem_map.mpr ⟨e, (List.mem_filter.mp he).1, rfl⟩
            rw [keyT_inj z] at h1
            have h2 := (Und.sublist (List.take_sublist (j + 1) U))
            rw [take_at ht, List.nodup_append] at h2
            exact h2.2.2 t h1 t (by simp) rfl
          have last : ∀ (o12' : Option Da) (told : List Da), told = uses (mostO Ls t) n.toNat → (sIf (dB (dOp gt2 (dVar 10) (dC (.int 0)))) (sAsg (dVar 12) (gSet (dVar 7) (dVar 8) set2)) sNext) { nx := fun ρ' μ' => ∃ c o8 o10 o11 o12, ρ' = [some (.kl (ns.map Da.int)), some (.ref b), some (.lst (sD ss)), some (.lst ms), some (.lst (U.map tri)), o5, some (.lst ((rowOf c).map tri)), some (.ref p), o8, none, o10, o11, o12, none, none] ∧ CntOk (U.take (j + 1)) c ∧ μ' b = some .bag ∧ μ' p = some (.dT (dueOf (mostO Ls) c)), rt := trim Q2 } [some (.kl (ns.map Da.int)), some (.ref b), some (.lst (sD ss)), some (.lst ms), some (.lst (U.map tri)), o5, some (.lst ((rowOf c').map tri)), some (.ref p), some (tri t), none, some (.int n), some (.int ((mostO Ls t).getD 0)), some (.lst told), none, none] μ' := fun _ told et => by
            refine ⟨_, rfl, gt_int ⟨_, rfl, ite_d (fun h0 => ?_) fun h0 => ?_⟩⟩
            · refine ⟨_, rfl, _, rfl, _, rfl, set_T hp2 (Nat.lt_of_le_of_lt (due_len _ _) (Nat.lt_of_lt_of_le (show c.length < 7 by omega) (by decide))) ⟨c', _, _, _, _, rfl, hc', by rw [put_ne nbp]; exact hb2, ?_⟩⟩
              rw [put_same, put_new tnew, ec, due_app, due_one _ (by omega), et]
            · refine ⟨c', _, _, _, _, rfl, hc', hb2, ?_⟩
              have : n.toNat = 0 := by omega
              rw [hp2, ec, this, due_app, due_zero, List.append_nil]
          rw [← List.map_append, ← er]
          refine ⟨_, rfl, eq_int ⟨_, rfl, ite_d (fun h0 => ?_) fun h0 => ?_⟩⟩
          · refine ⟨(by show 1 ≤ sizeLine; decide), _, rfl, mul_lst (by omega) (by omega) (sz (by simp; omega)) ?_⟩
            refine last none _ ?_
            have en : mostO Ls t = none := by
              cases e : mostO Ls t with
              | none => rfl
              | some m => rw [e] at h0; have := (most_pos hM e).1; simp at h0; omega
            rw [en, ← told_none]
            have := rep_flat (fun _ : T3 => Da.str "right") t n.toNat
            rw [List.map_replicate] at this
            exact this
          · refine last none _ ?_
            cases e : mostO Ls t with
            | none => rw [e] at h0; exact absurd rfl h0
            | some m => exact told_row
      · rintro ρ' μ' ⟨c, o8, o10, o11, o12, rfl, hc, hb2, hp2⟩
        rw [List.length_map, List.take_length] at hc
        refine ⟨trivial, ?_⟩
        have ml : ms.length ≤ 4 := by omega
        have rl : (rowOf c).length ≤ 72 := by have := row_len hc; omega
        have cnd : (c.map (·.1)).Nodup := by rw [hc.keys]; exact Und
        have cok : ∀ e ∈ c, okT e.1 := fun e he => Uok _ (by rw [← hc.keys]; exact List.mem_map.mpr ⟨e, he, rfl⟩)
        have ccl : c.length ≤ 6 := by have := congrArg List.length hc.keys; rw [List.length_map] at this; omega
        have rok : ∀ t ∈ rowOf c, okT t := fun t ht => by
          obtain ⟨e, he, hm⟩ := List.mem_flatMap.mp ht
          rw [(List.mem_replicate.mp hm).2]; exact cok e he
        have dl := due_len (mostO Ls) c
        have dkeys : ∀ k ∈ (dueOf (mostO Ls) c).map (·.1), ∃ e ∈ c, 0 < e.2 ∧ k = keyT e.1 := fun k hk => due_key.mp hk
        refine ⟨3, rfl, by decide, by decide, fun j ρ' μ' => ∃ o8 o9 o10 o11 o12 o13 o14, ρ' = [some (.kl (ns.map Da.int)), some (.ref b), some (.lst (sD ss)), some (.lst ms), some (.lst (U.map tri)), o5, some (.lst ((rowOf c).map tri)), some (.ref p), o8, o9, o10, o11, o12, o13, o14] ∧ μ' b = some .bag ∧ μ' p = some (.dT (dueOf (mostO Ls) c)), ⟨_, _, _, _, _, _, _, rfl, hb2, hp2⟩, ?_, ?_⟩
        · rintro j d ρ' μ3 hj ⟨o8, o9, o10, o11, o12, o13, o14, rfl, hb3, hp3⟩
          refine ⟨trivial, _, rfl, _, rfl, b, ms, rfl, hb3, by omega, fun ms' pm => ?_⟩
          obtain ⟨Ls', pL, hM'⟩ := makes_perm hM pm
          intro x hx
          have nbx : b ≠ x := fun z => by rw [← z, hb3] at hx; cases hx
          have npx : p ≠ x := fun z => by rw [← z, hp3] at hx; cases hx
          refine ⟨x, ms', Ls', rfl, put_same, hM', fun m dd mk μ4 hm hd hR hmo fr => ⟨rfl, ?_⟩⟩
          have nbm : b ≠ m := fun z => by rw [← z, put_ne nbx, hb3] at hm; cases hm
          have npm : p ≠ m := fun z => by rw [← z, put_ne npx, hp3] at hm; cases hm
          have nbd : b ≠ dd := fun z => by rw [← z, put_ne nbx, hb3] at hd; cases hd
          have npd : p ≠ dd := fun z => by rw [← z, put_ne npx, hp3] at hd; cases hd
          have hb4 : μ4 b = some .bag := by rw [fr b (by simp [nbx, nbm, nbd]), put_ne nbx]; exact hb3
          have hp4 : μ4 p = some (.dT (dueOf (mostO Ls) c)) := by rw [fr p (by simp [npx, npm, npd]), put_ne npx]; exact hp3
          refine ⟨_, rfl, _, rfl, b, (rowOf c).map tri, rfl, hb4, by rw [List.length_map]; omega, fun ys pr => ?_⟩
          obtain ⟨row', rfl, pr'⟩ := perm_map pr rfl
          have rl' : row'.length ≤ 72 := by rw [pr'.length_eq]; exact rl
          refine ⟨x, m, dd, mk, mostO Ls', row', rfl, hR, hmo, by omega, fun f μ5 hf0 hf fr5 => ?_⟩
          rw [most_perm hM hM' pL] at hf
          have nbf : b ≠ f := fun z => by rw [← z, hb4] at hf0; cases hf0
          have npf : p ≠ f := fun z => by rw [← z, hp4] at hf0; cases hf0
          have hb5 : μ5 b = some .bag := by rw [fr5 b (by simp [nbd, nbf])]; exact hb4
          have hp5 : μ5 p = some (.dT (dueOf (mostO Ls) c)) := by rw [fr5 p (by simp [npd, npf])]; exact hp4
          have kp := keys_perm (mo := mostO Ls) cnd pr'
          obtain ⟨D1, e1⟩ : ∃ D1 : List T3, (dueOf (mostO Ls) c).map (·.1) = D1.map keyT := ⟨(c.filter fun e => decide (0 < e.2)).map (·.1), by unfold dueOf; rw [List.map_map, List.map_map]; rfl⟩
          have D1ok : ∀ t ∈ D1, okT t := fun t ht => by
            obtain ⟨e, he, _, ek⟩ := dkeys (keyT t) (by rw [e1]; exact List.mem_map.mpr ⟨t, ht, rfl⟩)
            rw [keyT_inj ek]; exact cok e he
          have D1l : D1.length ≤ 6 := by have := congrArg List.length e1; rw [List.length_map, List.length_map] at this; omega
          obtain ⟨D2, e2, p2⟩ := perm_map kp e1
          have D2ok : ∀ t ∈ D2, okT t := fun t ht => D1ok t (p2.mem_iff.mp ht)
          have D2l : D2.length ≤ 6 := by rw [p2.length_eq]; exact D1l
          have l1 : (((letOf (mostO Ls) row').map fun p => (tD p.1, p.2)).map (·.1)) = D2.map tri := by
            rw [List.map_map]
            have : (letOf (mostO Ls) row').map ((·.1) ∘ fun p : List Key × Da => (tD p.1, p.2)) = ((letOf (mostO Ls) row').map (·.1)).map tD := by rw [List.map_map]; rfl
            rw [this, e2, List.map_map]; rfl
          have l2 : (((dueOf (mostO Ls) c).map fun p => (tD p.1, p.2)).map (·.1)) = D1.map tri := by
            rw [List.map_map]
            have : (dueOf (mostO Ls) c).map ((·.1) ∘ fun p : List Key × Da => (tD p.1, p.2)) = ((dueOf (mostO Ls) c).map (·.1)).map tD := by rw [List.map_map]; rfl
            rw [this, e1, List.map_map]; rfl
          refine ⟨_, rfl, _, true, _, rfl, view_refT hf, ?_⟩
          rw [l1]
          refine ⟨_, _, rfl, rfl, okR_tris D2ok, sortOk_tris (by omega), ?_⟩
          refine ⟨_, rfl, _, true, _, rfl, view_refT hp5, ?_⟩
          rw [l2]
          refine ⟨_, _, rfl, rfl, okR_tris D1ok, sortOk_tris (by omega), ?_⟩
          rw [sort_tris p2]
          obtain ⟨D3, e3, p3⟩ := perm_map (List.mergeSort_perm (D1.map tri) (PySem.W.dataLe false py)) rfl
          rw [e3]
          have D3ok : ∀ t ∈ D3, okT t := fun t ht => D1ok t (p3.mem_iff.mp ht)
          refine ⟨_, _, rfl, .inl ⟨rfl, rfl, cmp_tris D3ok, show_tris D3ok (by rw [p3.length_eq]; omega)⟩, _, rfl, ?_⟩
          refine iteF ?_
          refine ⟨p, .inl ⟨_, hp5, fun od ws => ?_⟩⟩
          have hfL : put μ5 p (.lkT od ws (dueOf (mostO Ls) c)) f = some (.dT (letOf (mostO Ls) row')) := by rw [put_ne (Ne.symm npf)]; exact hf
          refine ⟨_, rfl, p, rfl, .inl ⟨od, ws, _, put_same, lc_yes (fun d y => y = .bl true) put_same (sz (by rw [List.length_map]; omega)) (fun d hd R hR => ?_) fun acc ha => ?_⟩⟩
          · obtain ⟨q, hq, rfl⟩ := List.mem_map.mp hd
            obtain ⟨e, he, e0, ek⟩ := dkeys q.1 (List.mem_map.mpr ⟨q, hq, rfl⟩)
            rw [ek]
            have el := hc.many e he
            exact ⟨_, rfl, _, rfl, ix_T (t := e.1) hfL (let_val cnd pr' he e0) ⟨_, rfl, _, rfl, ix_L (t := e.1) put_same (due_val cnd he e0) ⟨_, _, rfl, .inl ⟨rfl, rfl, uses_cmp _ _, uses_show (by omega)⟩, hR _ rfl⟩⟩⟩
          · obtain ⟨bs, hbs, hall⟩ := bools_true (ha.all (R := fun y => y = .bl true) fun _ _ e => e)
            refine ⟨put_same, _, acc, bs, rfl, rfl, hbs, true, by rw [hall], iteF ?_⟩
            exact ⟨_, _, _, _, _, _, _, rfl, by rw [put_put, put_ne nbp]; exact hb5, by rw [put_same]⟩
        · rintro ρ' μ3 ⟨o8, o9, o10, o11, o12, o13, o14, rfl, hb3, hp3⟩
          refine ⟨trivial, p, .inl ⟨_, hp3, fun od ws => ?_⟩⟩
          refine ⟨_, rfl, p, rfl, .inl ⟨od, ws, _, put_same, fun j ρ' μ' => ∃ o8 o9 o10 o11 o12 o13 o14, ρ' = [some (.kl (ns.map Da.int)), some (.ref b), some (.lst (sD ss)), some (.lst ms), some (.lst (U.map tri)), o5, some (.lst ((rowOf c).map tri)), some (.ref p), o8, o9, o10, o11, o12, o13, o14] ∧ μ' p = some (.lkT od ws (dueOf (mostO Ls) c)), ⟨_, _, _, _, _, _, _, rfl, put_same⟩, ?_, ?_⟩⟩
          · rintro j d ρ' μ4 hj ⟨o8, o9, o10, o11, o12, o13, o14, rfl, hp4⟩
            obtain ⟨q, hq, rfl⟩ := List.mem_map.mp (List.mem_of_getElem? hj)
            obtain ⟨e, he, e0, ek⟩ := dkeys q.1 (List.mem_map.mpr ⟨q, hq, rfl⟩)
            rw [ek]
            have el := hc.many e he
            refine ⟨hp4, _, rfl, fun x hx => ?_⟩
            have npx : p ≠ x := fun z => by rw [← z, hp4] at hx; cases hx
            refine ⟨x, ms, Ls, rfl, put_same, hM, fun m dd mk μ5 hm hd hR hmo fr => ⟨rfl, ?_⟩⟩
            have npm : p ≠ m := fun z => by rw [← z, put_ne npx, hp4] at hm; cases hm
            have npd : p ≠ dd := fun z => by rw [← z, put_ne npx, hp4] at hd; cases hd
            have hp5 : μ5 p = some (.lkT od ws (dueOf (mostO Ls) c)) := by rw [fr p (by simp [npx, npm, npd]), put_ne npx]; exact hp4
            refine ⟨_, rfl, (by show 1 ≤ sizeLine; decide), _, rfl, _, rfl, ix_L (t := e.1) hp5 (due_val cnd he e0) (len_lst ?_)⟩
            rw [uses_len]
            refine mul_lst (by omega) (by omega) (sz (by simp; omega)) ?_
            rw [show ((e.2 : Nat) : Int).toNat = e.2 from rfl, show tD (keyT e.1) = tri e.1 from rfl, rep_flat tri e.1 e.2]
            refine ⟨x, m, dd, mk, mostO Ls, _, rfl, hR, hmo, by rw [List.length_replicate]; omega, fun f μ6 hf0 hf fr6 => ?_⟩
            rw [let_one e0] at hf
            have npf : p ≠ f := fun z => by rw [← z, hp5] at hf0; cases hf0
            have hp6 : μ6 p = some (.lkT od ws (dueOf (mostO Ls) c)) := by rw [fr6 p (by simp [npd, npf])]; exact hp5
            intro g hg
            have nfg : f ≠ g := fun z => by rw [← z, hf] at hg; cases hg
            have npg : p ≠ g := fun z => by rw [← z, hp6] at hg; cases hg
            refine ⟨_, rfl, _, rfl, _, rfl, ix_L (t := e.1) (by rw [put_ne npg]; exact hp6) (due_val cnd he e0) ⟨put_same, keyT e.1, rfl, ?_⟩⟩
            rw [put_put]
            refine ⟨_, _, rfl, .inr ⟨f, g, _, rfl, rfl, by rw [put_ne nfg]; exact hf, put_same, one_same _ _ _, one_show (cok e he) (by omega)⟩, _, rfl, iteF ?_⟩
            exact ⟨_, _, _, _, _, _, _, rfl, by rw [put_ne npg]; exact hp6⟩
          · rintro ρ' μ4 ⟨o8, o9, o10, o11, o12, o13, o14, rfl, hp4⟩
            exact ⟨hp4, hp4, qt _⟩
end K65
namespace K65
open PySem L2 Dl

theorem l_is_of : ∀ ds μ Q, r_is_of ds μ Q → ds.length = 4 := fun ds μ Q h => h.1
theorem l_is_barred : ∀ ds μ Q, r_is_barred ds μ Q → ds.length = 4 := fun ds μ Q h => by
  unfold r_is_barred at h
  repeat (first | (obtain ⟨e, _⟩ := h; subst e; exact rfl) | (obtain ⟨_, h⟩ := h))
theorem l_Rights___init__ (C : Addr) : ∀ ds μ Q, r_Rights___init__ C ds μ Q → ds.length = 3 := fun ds μ Q h => by
  unfold r_Rights___init__ at h
  repeat (first | (obtain ⟨e, _⟩ := h; subst e; exact rfl) | (obtain ⟨_, h⟩ := h))
theorem l_Rights_used (C : Addr) : ∀ ds μ Q, r_Rights_used C ds μ Q → ds.length = 4 := fun ds μ Q h => by
  unfold r_Rights_used at h
  repeat (first | (obtain ⟨e, _⟩ := h; subst e; exact rfl) | (obtain ⟨_, h⟩ := h))
theorem l_Rights_barred (C : Addr) : ∀ ds μ Q, r_Rights_barred C ds μ Q → ds.length = 4 := fun ds μ Q h => by
  unfold r_Rights_barred at h
  repeat (first | (obtain ⟨e, _⟩ := h; subst e; exact rfl) | (obtain ⟨_, h⟩ := h))
theorem l_Rights_use (C : Addr) : ∀ ds μ Q, r_Rights_use C ds μ Q → ds.length = 4 := fun ds μ Q h => by
  unfold r_Rights_use at h
  repeat (first | (obtain ⟨e, _⟩ := h; subst e; exact rfl) | (obtain ⟨_, h⟩ := h))
theorem l__law_bag : ∀ ds μ Q, r__law_bag ds μ Q → ds.length = 1 := fun ds μ Q h => by
  unfold r__law_bag at h
  repeat (first | (obtain ⟨e, _⟩ := h; subst e; exact rfl) | (obtain ⟨_, h⟩ := h))
theorem l__law_take : ∀ ds μ Q, r__law_take ds μ Q → ds.length = 2 := fun ds μ Q h => by
  unfold r__law_take at h
  repeat (first | (obtain ⟨e, _⟩ := h; subst e; exact rfl) | (obtain ⟨_, h⟩ := h))
theorem l__law_alike : ∀ ds μ Q, r__law_alike ds μ Q → ds.length = 2 := fun ds μ Q h => by
  unfold r__law_alike at h
  repeat (first | (obtain ⟨e, _⟩ := h; subst e; exact rfl) | (obtain ⟨_, h⟩ := h))
theorem l__law_names : ∀ ds μ Q, r__law_names ds μ Q → ds.length = 2 := fun ds μ Q h => by
  unfold r__law_names at h
  repeat (first | (obtain ⟨e, _⟩ := h; subst e; exact rfl) | (obtain ⟨_, h⟩ := h))
theorem l__law_number : ∀ ds μ Q, r__law_number ds μ Q → ds.length = 1 := fun ds μ Q h => by
  unfold r__law_number at h
  repeat (first | (obtain ⟨e, _⟩ := h; subst e; exact rfl) | (obtain ⟨_, h⟩ := h))
theorem l__law_shape : ∀ ds μ Q, r__law_shape ds μ Q → ds.length = 1 := fun ds μ Q h => by
  unfold r__law_shape at h
  repeat (first | (obtain ⟨e, _⟩ := h; subst e; exact rfl) | (obtain ⟨_, h⟩ := h))
theorem l__law_some : ∀ ds μ Q, r__law_some ds μ Q → ds.length = 3 := fun ds μ Q h => by
  unfold r__law_some at h
  repeat (first | (obtain ⟨e, _⟩ := h; subst e; exact rfl) | (obtain ⟨_, h⟩ := h))
theorem l__law_kept_row : ∀ ds μ Q, r__law_kept_row ds μ Q → ds.length = 3 := fun ds μ Q h => by
  unfold r__law_kept_row at h
  repeat (first | (obtain ⟨e, _⟩ := h; subst e; exact rfl) | (obtain ⟨_, h⟩ := h))
theorem l__law_hook_row : ∀ ds μ Q, r__law_hook_row ds μ Q → ds.length = 4 := fun ds μ Q h => by
  unfold r__law_hook_row at h
  repeat (first | (obtain ⟨e, _⟩ := h; subst e; exact rfl) | (obtain ⟨_, h⟩ := h))
theorem l__law_face : ∀ ds μ Q, r__law_face ds μ Q → ds.length = 3 := fun ds μ Q h => by
  unfold r__law_face at h
  repeat (first | (obtain ⟨e, _⟩ := h; subst e; exact rfl) | (obtain ⟨_, h⟩ := h))
theorem l__law_step : ∀ ds μ Q, r__law_step ds μ Q → ds.length = 3 := fun ds μ Q h => by
  unfold r__law_step at h
  repeat (first | (obtain ⟨e, _⟩ := h; subst e; exact rfl) | (obtain ⟨_, h⟩ := h))
theorem l__law_body : ∀ ds μ Q, r__law_body ds μ Q → ds.length = 3 := fun ds μ Q h => by
  unfold r__law_body at h
  repeat (first | (obtain ⟨e, _⟩ := h; subst e; exact rfl) | (obtain ⟨_, h⟩ := h))
theorem l__law_make : ∀ ds μ Q, r__law_make ds μ Q → ds.length = 5 := fun ds μ Q h => by
  unfold r__law_make at h
  repeat (first | (obtain ⟨e, _⟩ := h; subst e; exact rfl) | (obtain ⟨_, h⟩ := h))
theorem l__law_turned : ∀ ds μ Q, r__law_turned ds μ Q → ds.length = 2 := fun ds μ Q h => by
  unfold r__law_turned at h
  repeat (first | (obtain ⟨e, _⟩ := h; subst e; exact rfl) | (obtain ⟨_, h⟩ := h))
theorem l__law_any : ∀ ds μ Q, r__law_any ds μ Q → ds.length = 2 := fun ds μ Q h => by
  unfold r__law_any at h
  repeat (first | (obtain ⟨e, _⟩ := h; subst e; exact rfl) | (obtain ⟨_, h⟩ := h))
theorem l__law_righted : ∀ ds μ Q, r__law_righted ds μ Q → ds.length = 3 := fun ds μ Q h => by
  unfold r__law_righted at h
  repeat (first | (obtain ⟨e, _⟩ := h; subst e; exact rfl) | (obtain ⟨_, h⟩ := h))
theorem l__law_right_rows : ∀ ds μ Q, r__law_right_rows ds μ Q → ds.length = 1 := fun ds μ Q h => by
  unfold r__law_right_rows at h
  repeat (first | (obtain ⟨e, _⟩ := h; subst e; exact rfl) | (obtain ⟨_, h⟩ := h))
theorem l__law_makes : ∀ ds μ Q, r__law_makes ds μ Q → ds.length = 2 := fun ds μ Q h => by
  unfold r__law_makes at h
  repeat (first | (obtain ⟨e, _⟩ := h; subst e; exact rfl) | (obtain ⟨_, h⟩ := h))
theorem l__law_most : ∀ ds μ Q, r__law_most ds μ Q → ds.length = 4 := fun ds μ Q h => by
  unfold r__law_most at h
  repeat (first | (obtain ⟨e, _⟩ := h; subst e; exact rfl) | (obtain ⟨_, h⟩ := h))
theorem l__law_wanted : ∀ ds μ Q, r__law_wanted ds μ Q → ds.length = 2 := fun ds μ Q h => by
  unfold r__law_wanted at h
  repeat (first | (obtain ⟨e, _⟩ := h; subst e; exact rfl) | (obtain ⟨_, h⟩ := h))
theorem l__law_let (C : Addr) : ∀ ds μ Q, r__law_let C ds μ Q → ds.length = 2 := fun ds μ Q h => by
  unfold r__law_let at h
  repeat (first | (obtain ⟨e, _⟩ := h; subst e; exact rfl) | (obtain ⟨_, h⟩ := h))
theorem l_law : ∀ ds μ Q, r_law ds μ Q → ds.length = 1 := fun ds μ Q h => by
  unfold r_law at h
  repeat (first | (obtain ⟨e, _⟩ := h; subst e; exact rfl) | (obtain ⟨_, h⟩ := h))
section
variable {P : Program} {w : World} {K : Frg} {mg : Str → Option Value} {base : Heap}
theorem g_is_of (B : Fr mg)  (T : Tx K mg "is_of" s_is_of) : Gn P w K mg base 1 "is_of" ["bar", "part", "word", "what"] (r_is_of ) :=
  gn T sc_is_of (fun _ _ _ _ _ _ us hl => match us, hl with | [_, _, _, _], _ => rfl) l_is_of (b_is_of B ) rd_is_of
theorem g_is_barred (B : Fr mg)  (G_is_of : Gn P w K mg base 1 "is_of" ["bar", "part", "word", "what"] (r_is_of )) (T : Tx K mg "is_barred" s_is_barred) : Gn P w K mg base 2 "is_barred" ["bars", "part", "word", "what"] (r_is_barred ) :=
  gn T sc_is_barred (fun _ _ _ _ _ _ us hl => match us, hl with | [_, _, _, _], _ => rfl) l_is_barred (b_is_barred B G_is_of) rd_is_barred
theorem g_Rights_used (B : Fr mg) {C_R : Addr} (T_R : TxR K C_R) (T : Tm K C_R "used" "Rights.used" s_Rights_used) : Gm P w K mg base 1 C_R "used" ["self", "part", "word", "what"] (r_Rights_used C_R) :=
  gm T sc_Rights_used (fun _ _ _ _ _ _ us hl => match us, hl with | [_, _, _, _], _ => rfl) (l_Rights_used C_R) (fun f cdv A outer s H E hr => b_Rights_used B T_R f cdv A outer s H E hr) (rd_Rights_used C_R)
theorem g_Rights_barred (B : Fr mg) {C_R : Addr} (T_R : TxR K C_R) (G_is_barred : Gn P w K mg base 2 "is_barred" ["bars", "part", "word", "what"] (r_is_barred )) (G_Rights_used : Gm P w K mg base 1 C_R "used" ["self", "part", "word", "what"] (r_Rights_used C_R)) (T : Tm K C_R "barred" "Rights.barred" s_Rights_barred) : Gm P w K mg base 3 C_R "barred" ["self", "part", "word", "what"] (r_Rights_barred C_R) :=
  gm T sc_Rights_barred (fun _ _ _ _ _ _ us hl => match us, hl with | [_, _, _, _], _ => rfl) (l_Rights_barred C_R) (fun f cdv A outer s H E hr => b_Rights_barred B T_R G_is_barred G_Rights_used f cdv A outer s H E hr) (rd_Rights_barred C_R)
theorem g_Rights_use (B : Fr mg) {C_R : Addr} (T_R : TxR K C_R) (G_Rights_used : Gm P w K mg base 1 C_R "used" ["self", "part", "word", "what"] (r_Rights_used C_R)) (G_Rights_barred : Gm P w K mg base 3 C_R "barred" ["self", "part", "word", "what"] (r_Rights_barred C_R)) (T : Tm K C_R "use" "Rights.use" s_Rights_use) : Gm P w K mg base 4 C_R "use" ["self", "part", "word", "what"] (r_Rights_use C_R) :=
  gm T sc_Rights_use (fun _ _ _ _ _ _ us hl => match us, hl with | [_, _, _, _], _ => rfl) (l_Rights_use C_R) (fun f cdv A outer s H E hr => b_Rights_use B T_R G_Rights_used G_Rights_barred f cdv A outer s H E hr) (rd_Rights_use C_R)
theorem g__law_bag (B : Fr mg)  (T : Tx K mg "_law_bag" s__law_bag) : Gf P w K mg base 1 "_law_bag" ["_law_script"] (r__law_bag ) :=
  gf T sc__law_bag (fun _ _ _ _ _ _ us hl => match us, hl with | [_], _ => rfl) l__law_bag (b__law_bag B ) rd__law_bag
theorem g__law_take (B : Fr mg)  (T : Tx K mg "_law_take" s__law_take) : Gf P w K mg base 1 "_law_take" ["_law_bag_here", "_law_many"] (r__law_take ) :=
  gf T sc__law_take (fun _ _ _ _ _ _ us hl => match us, hl with | [_, _], _ => rfl) l__law_take (b__law_take B ) rd__law_take
theorem g__law_alike (B : Fr mg)  (T : Tx K mg "_law_alike" s__law_alike) : Gf P w K mg base 1 "_law_alike" ["_law_found", "_law_due"] (r__law_alike ) :=
  gf T sc__law_alike (fun _ _ _ _ _ _ us hl => match us, hl with | [_, _], _ => rfl) l__law_alike (b__law_alike B ) rd__law_alike
theorem g__law_names (B : Fr mg)  (G__law_take : Gf P w K mg base 1 "_law_take" ["_law_bag_here", "_law_many"] (r__law_take )) (T : Tx K mg "_law_names" s__law_names) : Gf P w K mg base 2 "_law_names" ["_law_bag_here", "_law_many"] (r__law_names ) :=
  gf T sc__law_names (fun _ _ _ _ _ _ us hl => match us, hl with | [_, _], _ => rfl) l__law_names (b__law_names B G__law_take) rd__law_names
theorem g__law_number (B : Fr mg)  (G__law_take : Gf P w K mg base 1 "_law_take" ["_law_bag_here", "_law_many"] (r__law_take )) (T : Tx K mg "_law_number" s__law_number) : Gf P w K mg base 2 "_law_number" ["_law_bag_here"] (r__law_number ) :=
  gf T sc__law_number (fun _ _ _ _ _ _ us hl => match us, hl with | [_], _ => rfl) l__law_number (b__law_number B G__law_take) rd__law_number
theorem g__law_shape (B : Fr mg)  (G__law_take : Gf P w K mg base 1 "_law_take" ["_law_bag_here", "_law_many"] (r__law_take )) (T : Tx K mg "_law_shape" s__law_shape) : Gf P w K mg base 2 "_law_shape" ["_law_bag_here"] (r__law_shape ) :=
  gf T sc__law_shape (fun _ _ _ _ _ _ us hl => match us, hl with | [_], _ => rfl) l__law_shape (b__law_shape B G__law_take) rd__law_shape
theorem g__law_some (B : Fr mg)  (G__law_take : Gf P w K mg base 1 "_law_take" ["_law_bag_here", "_law_many"] (r__law_take )) (T : Tx K mg "_law_some" s__law_some) : Gf P w K mg base 2 "_law_some" ["_law_bag_here", "_law_words", "_law_many"] (r__law_some ) :=
  gf T sc__law_some (fun _ _ _ _ _ _ us hl => match us, hl with | [_, _, _], _ => rfl) l__law_some (b__law_some B G__law_take) rd__law_some
theorem g__law_kept_row (B : Fr mg)  (G__law_take : Gf P w K mg base 1 "_law_take" ["_law_bag_here", "_law_many"] (r__law_take )) (G__law_shape : Gf P w K mg base 2 "_law_shape" ["_law_bag_here"] (r__law_shape )) (T : Tx K mg "_law_kept_row" s__law_kept_row) : Gf P w K mg base 3 "_law_kept_row" ["_law_bag_here", "_law_word", "_law_name"] (r__law_kept_row ) :=
  gf T sc__law_kept_row (fun _ _ _ _ _ _ us hl => match us, hl with | [_, _, _], _ => rfl) l__law_kept_row (b__law_kept_row B G__law_take G__law_shape) rd__law_kept_row
theorem g__law_hook_row (B : Fr mg)  (G__law_take : Gf P w K mg base 1 "_law_take" ["_law_bag_here", "_law_many"] (r__law_take )) (G__law_shape : Gf P w K mg base 2 "_law_shape" ["_law_bag_here"] (r__law_shape )) (G__law_some : Gf P w K mg base 2 "_law_some" ["_law_bag_here", "_law_words", "_law_many"] (r__law_some )) (T : Tx K mg "_law_hook_row" s__law_hook_row) : Gf P w K mg base 3 "_law_hook_row" ["_law_bag_here", "_law_hook", "_law_part", "_law_parts"] (r__law_hook_row ) :=
  gf T sc__law_hook_row (fun _ _ _ _ _ _ us hl => match us, hl with | [_, _, _, _], _ => rfl) l__law_hook_row (b__law_hook_row B G__law_take G__law_shape G__law_some) rd__law_hook_row
theorem g__law_face (B : Fr mg)  (G__law_take : Gf P w K mg base 1 "_law_take" ["_law_bag_here", "_law_many"] (r__law_take )) (G__law_some : Gf P w K mg base 2 "_law_some" ["_law_bag_here", "_law_words", "_law_many"] (r__law_some )) (G__law_kept_row : Gf P w K mg base 3 "_law_kept_row" ["_law_bag_here", "_law_word", "_law_name"] (r__law_kept_row )) (G__law_number : Gf P w K mg base 2 "_law_number" ["_law_bag_here"] (r__law_number )) (G__law_hook_row : Gf P w K mg base 3 "_law_hook_row" ["_law_bag_here", "_law_hook", "_law_part", "_law_parts"] (r__law_hook_row )) (G__law_shape : Gf P w K mg base 2 "_law_shape" ["_law_bag_here"] (r__law_shape )) (T : Tx K mg "_law_face" s__law_face) : Gf P w K mg base 4 "_law_face" ["_law_bag_here", "_law_part", "_law_parts"] (r__law_face ) :=
  gf T sc__law_face (fun _ _ _ _ _ _ us hl => match us, hl with | [_, _, _], _ => rfl) l__law_face (b__law_face B G__law_take G__law_some G__law_kept_row G__law_number G__law_hook_row G__law_shape) rd__law_face
theorem g__law_step (B : Fr mg)  (G__law_take : Gf P w K mg base 1 "_law_take" ["_law_bag_here", "_law_many"] (r__law_take )) (G__law_number : Gf P w K mg base 2 "_law_number" ["_law_bag_here"] (r__law_number )) (T : Tx K mg "_law_step" s__law_step) : Gf P w K mg base 3 "_law_step" ["_law_bag_here", "_law_at", "_law_many"] (r__law_step ) :=
  gf T sc__law_step (fun _ _ _ _ _ _ us hl => match us, hl with | [_, _, _], _ => rfl) l__law_step (b__law_step B G__law_take G__law_number) rd__law_step
theorem g__law_body (B : Fr mg)  (G__law_take : Gf P w K mg base 1 "_law_take" ["_law_bag_here", "_law_many"] (r__law_take )) (G__law_step : Gf P w K mg base 3 "_law_step" ["_law_bag_here", "_law_at", "_law_many"] (r__law_step )) (T : Tx K mg "_law_body" s__law_body) : Gf P w K mg base 4 "_law_body" ["_law_bag_here", "_law_face_here", "_law_names_here"] (r__law_body ) :=
  gf T sc__law_body (fun _ _ _ _ _ _ us hl => match us, hl with | [_, _, _], _ => rfl) l__law_body (b__law_body B G__law_take G__law_step) rd__law_body
theorem g__law_make (B : Fr mg)  (G__law_body : Gf P w K mg base 4 "_law_body" ["_law_bag_here", "_law_face_here", "_law_names_here"] (r__law_body )) (G__law_face : Gf P w K mg base 4 "_law_face" ["_law_bag_here", "_law_part", "_law_parts"] (r__law_face )) (T : Tx K mg "_law_make" s__law_make) : Gf P w K mg base 5 "_law_make" ["_law_bag_here", "_law_part", "_law_version", "_law_parts", "_law_names_here"] (r__law_make ) :=
  gf T sc__law_make (fun _ _ _ _ _ _ us hl => match us, hl with | [_, _, _, _, _], _ => rfl) l__law_make (b__law_make B G__law_body G__law_face) rd__law_make
theorem g__law_turned (B : Fr mg)  (G__law_take : Gf P w K mg base 1 "_law_take" ["_law_bag_here", "_law_many"] (r__law_take )) (T : Tx K mg "_law_turned" s__law_turned) : Gf P w K mg base 2 "_law_turned" ["_law_bag_here", "_law_some_here"] (r__law_turned ) :=
  gf T sc__law_turned (fun _ _ _ _ _ _ us hl => match us, hl with | [_, _], _ => rfl) l__law_turned (b__law_turned B G__law_take) rd__law_turned
theorem g__law_any (B : Fr mg)  (G__law_take : Gf P w K mg base 1 "_law_take" ["_law_bag_here", "_law_many"] (r__law_take )) (T : Tx K mg "_law_any" s__law_any) : Gf P w K mg base 2 "_law_any" ["_law_bag_here", "_law_some_here"] (r__law_any ) :=
  gf T sc__law_any (fun _ _ _ _ _ _ us hl => match us, hl with | [_, _], _ => rfl) l__law_any (b__law_any B G__law_take) rd__law_any
theorem g__law_righted (B : Fr mg)  (G__law_take : Gf P w K mg base 1 "_law_take" ["_law_bag_here", "_law_many"] (r__law_take )) (T : Tx K mg "_law_righted" s__law_righted) : Gf P w K mg base 2 "_law_righted" ["_law_bag_here", "_law_part", "_law_rows"] (r__law_righted ) :=
  gf T sc__law_righted (fun _ _ _ _ _ _ us hl => match us, hl with | [_, _, _], _ => rfl) l__law_righted (b__law_righted B G__law_take) rd__law_righted
theorem g__law_right_rows (B : Fr mg)  (G__law_some : Gf P w K mg base 2 "_law_some" ["_law_bag_here", "_law_words", "_law_many"] (r__law_some )) (G__law_take : Gf P w K mg base 1 "_law_take" ["_law_bag_here", "_law_many"] (r__law_take )) (T : Tx K mg "_law_right_rows" s__law_right_rows) : Gf P w K mg base 3 "_law_right_rows" ["_law_bag_here"] (r__law_right_rows ) :=
  gf T sc__law_right_rows (fun _ _ _ _ _ _ us hl => match us, hl with | [_], _ => rfl) l__law_right_rows (b__law_right_rows B G__law_some G__law_take) rd__law_right_rows
theorem g__law_makes (B : Fr mg)  (G__law_take : Gf P w K mg base 1 "_law_take" ["_law_bag_here", "_law_many"] (r__law_take )) (G__law_make : Gf P w K mg base 5 "_law_make" ["_law_bag_here", "_law_part", "_law_version", "_law_parts", "_law_names_here"] (r__law_make )) (G__law_righted : Gf P w K mg base 2 "_law_righted" ["_law_bag_here", "_law_part", "_law_rows"] (r__law_righted )) (G__law_right_rows : Gf P w K mg base 3 "_law_right_rows" ["_law_bag_here"] (r__law_right_rows )) (T : Tx K mg "_law_makes" s__law_makes) : Gf P w K mg base 6 "_law_makes" ["_law_bag_here", "_law_parts"] (r__law_makes ) :=
  gf T sc__law_makes (fun _ _ _ _ _ _ us hl => match us, hl with | [_, _], _ => rfl) l__law_makes (b__law_makes B G__law_take G__law_make G__law_righted G__law_right_rows) rd__law_makes
theorem g__law_most (B : Fr mg)  (T : Tx K mg "_law_most" s__law_most) : Gf P w K mg base 1 "_law_most" ["_law_makes_here", "_law_part", "_law_word", "_law_what"] (r__law_most ) :=
  gf T sc__law_most (fun _ _ _ _ _ _ us hl => match us, hl with | [_, _, _, _], _ => rfl) l__law_most (b__law_most B ) rd__law_most
theorem g__law_wanted (B : Fr mg)  (G__law_any : Gf P w K mg base 2 "_law_any" ["_law_bag_here", "_law_some_here"] (r__law_any )) (T : Tx K mg "_law_wanted" s__law_wanted) : Gf P w K mg base 3 "_law_wanted" ["_law_bag_here", "_law_parts"] (r__law_wanted ) :=
  gf T sc__law_wanted (fun _ _ _ _ _ _ us hl => match us, hl with | [_, _], _ => rfl) l__law_wanted (b__law_wanted B G__law_any) rd__law_wanted
theorem g__law_let (B : Fr mg) {C_R : Addr} (T_R : TxR K C_R) (G_Rights_use : Gm P w K mg base 4 C_R "use" ["self", "part", "word", "what"] (r_Rights_use C_R)) (T : Tx K mg "_law_let" s__law_let) : Gf P w K mg base 5 "_law_let" ["_law_rights", "_law_row"] (r__law_let C_R) :=
  gf T sc__law_let (fun _ _ _ _ _ _ us hl => match us, hl with | [_, _], _ => rfl) (l__law_let C_R) (b__law_let B T_R G_Rights_use) (rd__law_let C_R)
theorem g_law (B : Fr mg) {C_R : Addr} (T_R : TxR K C_R) (G__law_alike : Gf P w K mg base 1 "_law_alike" ["_law_found", "_law_due"] (r__law_alike )) (G__law_let : Gf P w K mg base 5 "_law_let" ["_law_rights", "_law_row"] (r__law_let C_R)) (G__law_turned : Gf P w K mg base 2 "_law_turned" ["_law_bag_here", "_law_some_here"] (r__law_turned )) (G__law_most : Gf P w K mg base 1 "_law_most" ["_law_makes_here", "_law_part", "_law_word", "_law_what"] (r__law_most )) (G__law_take : Gf P w K mg base 1 "_law_take" ["_law_bag_here", "_law_many"] (r__law_take )) (G__law_wanted : Gf P w K mg base 3 "_law_wanted" ["_law_bag_here", "_law_parts"] (r__law_wanted )) (G__law_makes : Gf P w K mg base 6 "_law_makes" ["_law_bag_here", "_law_parts"] (r__law_makes )) (G__law_names : Gf P w K mg base 2 "_law_names" ["_law_bag_here", "_law_many"] (r__law_names )) (G__law_bag : Gf P w K mg base 1 "_law_bag" ["_law_script"] (r__law_bag )) (G_Rights : Gk P w K mg base 1 "Rights" C_R ["self", "makes", "bars"] [.non] (r_Rights___init__ C_R)) (T : Tx K mg "law" s_law) : Gf P w K mg base 7 "law" ["_law_script"] (r_law ) :=
  gf T sc_law (fun _ _ _ _ _ _ us hl => match us, hl with | [_], _ => rfl) l_law (b_law B T_R G__law_alike G__law_let G__law_turned G__law_most G__law_take G__law_wanted G__law_makes G__law_names G__law_bag G_Rights) (rd_law C_R)

theorem g_Rights (B : Fr mg) {C_R : Addr} (T_R : TxR K C_R) {f : Addr} {fd : FuncData} (F : FunD K "__init__" "Rights.__init__" (defArgs s_Rights___init__) (defBody s_Rights___init__) (defScope s_Rights___init__) [] [("bars", .non)] f fd) (M : Mk K C_R f) (hm : mg "Rights" = some (.ref C_R)) :
    Gk P w K mg base 1 "Rights" C_R ["self", "makes", "bars"] [.non] (r_Rights___init__ C_R) := by
  obtain ⟨ds, hv, hb⟩ := F.binds0 (ps := ["self", "makes", "bars"]) 2 (by simp) rfl fun D doc pm an cdv ct us ks h1 h2 => match us, ks, h1, h2 with
    | [_, _], [_], _, _ => ⟨_, _, _, _, _, _, rfl, rfl, rfl⟩
  exact ⟨⟨f, fd, [.non], ds, def2t F sc_Rights___init__ (l_Rights___init__ C_R) (fun f cdv A outer s H E hr => b_Rights___init__ B T_R f cdv A outer s H E hr) (rd_Rights___init__ C_R), M, hm, hb, hv, fun _ => .cons .non .nil⟩⟩
end
def d_is_of : He.DefD := ⟨("is_of", none), "is_of", "is_of", defArgs s_is_of, defBody s_is_of, defScope s_is_of, [], []⟩
def d_is_barred : He.DefD := ⟨("is_barred", none), "is_barred", "is_barred", defArgs s_is_barred, defBody s_is_barred, defScope s_is_barred, [], []⟩
def d__law_bag : He.DefD := ⟨("_law_bag", none), "_law_bag", "_law_bag", defArgs s__law_bag, defBody s__law_bag, defScope s__law_bag, [], []⟩
def d__law_take : He.DefD := ⟨("_law_take", none), "_law_take", "_law_take", defArgs s__law_take, defBody s__law_take, defScope s__law_take, [], []⟩
def d__law_alike : He.DefD := ⟨("_law_alike", none), "_law_alike", "_law_alike", defArgs s__law_alike, defBody s__law_alike, defScope s__law_alike, [], []⟩
def d__law_names : He.DefD := ⟨("_law_names", none), "_law_names", "_law_names", defArgs s__law_names, defBody s__law_names, defScope s__law_names, [], []⟩
def d__law_number : He.DefD := ⟨("_law_number", none), "_law_number", "_law_number", defArgs s__law_number, defBody s__law_number, defScope s__law_number, [], []⟩
def d__law_shape : He.DefD := ⟨("_law_shape", none), "_law_shape", "_law_shape", defArgs s__law_shape, defBody s__law_shape, defScope s__law_shape, [], []⟩
def d__law_some : He.DefD := ⟨("_law_some", none), "_law_some", "_law_some", defArgs s__law_some, defBody s__law_some, defScope s__law_some, [], []⟩
def d__law_kept_row : He.DefD := ⟨("_law_kept_row", none), "_law_kept_row", "_law_kept_row", defArgs s__law_kept_row, defBody s__law_kept_row, defScope s__law_kept_row, [], []⟩
def d__law_hook_row : He.DefD := ⟨("_law_hook_row", none), "_law_hook_row", "_law_hook_row", defArgs s__law_hook_row, defBody s__law_hook_row, defScope s__law_hook_row, [], []⟩
def d__law_face : He.DefD := ⟨("_law_face", none), "_law_face", "_law_face", defArgs s__law_face, defBody s__law_face, defScope s__law_face, [], []⟩
def d__law_step : He.DefD := ⟨("_law_step", none), "_law_step", "_law_step", defArgs s__law_step, defBody s__law_step, defScope s__law_step, [], []⟩
def d__law_body : He.DefD := ⟨("_law_body", none), "_law_body", "_law_body", defArgs s__law_body, defBody s__law_body, defScope s__law_body, [], []⟩
def d__law_make : He.DefD := ⟨("_law_make", none), "_law_make", "_law_make", defArgs s__law_make, defBody s__law_make, defScope s__law_make, [], []⟩
def d__law_turned : He.DefD := ⟨("_law_turned", none), "_law_turned", "_law_turned", defArgs s__law_turned, defBody s__law_turned, defScope s__law_turned, [], []⟩
def d__law_any : He.DefD := ⟨("_law_any", none), "_law_any", "_law_any", defArgs s__law_any, defBody s__law_any, defScope s__law_any, [], []⟩
def d__law_righted : He.DefD := ⟨("_law_righted", none), "_law_righted", "_law_righted", defArgs s__law_righted, defBody s__law_righted, defScope s__law_righted, [], []⟩
def d__law_right_rows : He.DefD := ⟨("_law_right_rows", none), "_law_right_rows", "_law_right_rows", defArgs s__law_right_rows, defBody s__law_right_rows, defScope s__law_right_rows, [], []⟩
def d__law_makes : He.DefD := ⟨("_law_makes", none), "_law_makes", "_law_makes", defArgs s__law_makes, defBody s__law_makes, defScope s__law_makes, [], []⟩
def d__law_most : He.DefD := ⟨("_law_most", none), "_law_most", "_law_most", defArgs s__law_most, defBody s__law_most, defScope s__law_most, [], []⟩
def d__law_wanted : He.DefD := ⟨("_law_wanted", none), "_law_wanted", "_law_wanted", defArgs s__law_wanted, defBody s__law_wanted, defScope s__law_wanted, [], []⟩
def d__law_let : He.DefD := ⟨("_law_let", none), "_law_let", "_law_let", defArgs s__law_let, defBody s__law_let, defScope s__law_let, [], []⟩
def d_law : He.DefD := ⟨("law", none), "law", "law", defArgs s_law, defBody s_law, defScope s_law, [], []⟩
def d_Rights___init__ : He.DefD := ⟨("Rights", some "__init__"), "__init__", "Rights.__init__", defArgs s_Rights___init__, defBody s_Rights___init__, defScope s_Rights___init__, [], [("bars", He.Dv.non)]⟩
def d_Rights_used : He.DefD := ⟨("Rights", some "used"), "used", "Rights.used", defArgs s_Rights_used, defBody s_Rights_used, defScope s_Rights_used, [], []⟩
def d_Rights_barred : He.DefD := ⟨("Rights", some "barred"), "barred", "Rights.barred", defArgs s_Rights_barred, defBody s_Rights_barred, defScope s_Rights_barred, [], []⟩
def d_Rights_use : He.DefD := ⟨("Rights", some "use"), "use", "Rights.use", defArgs s_Rights_use, defBody s_Rights_use, defScope s_Rights_use, [], []⟩
def fn : List He.DefD := [d_is_of, d_is_barred, d__law_bag, d__law_take, d__law_alike, d__law_names, d__law_number, d__law_shape, d__law_some, d__law_kept_row, d__law_hook_row, d__law_face, d__law_step, d__law_body, d__law_make, d__law_turned, d__law_any, d__law_righted, d__law_right_rows, d__law_makes, d__law_most, d__law_wanted, d__law_let, d_law, d_Rights___init__, d_Rights_used, d_Rights_barred, d_Rights_use]
def fa : List He.Fa := [.glo "is_of", .glo "is_barred", .glo "_law_bag", .glo "_law_take", .glo "_law_alike", .glo "_law_names", .glo "_law_number", .glo "_law_shape", .glo "_law_some", .glo "_law_kept_row", .glo "_law_hook_row", .glo "_law_face", .glo "_law_step", .glo "_law_body", .glo "_law_make", .glo "_law_turned", .glo "_law_any", .glo "_law_righted", .glo "_law_right_rows", .glo "_law_makes", .glo "_law_most", .glo "_law_wanted", .glo "_law_let", .glo "law", .glo "Rights", .cls "Rights", .mkr "Rights", .meth "Rights" "used", .meth "Rights" "barred", .meth "Rights" "use", .noat "Rights" "bar_rows", .noat "Rights" "most_of", .noat "Rights" "done_of", .free "abs", .free "all", .free "any", .free "enumerate", .free "int", .free "len", .free "list", .free "min", .free "range", .free "repr", .free "sorted", .free "tuple", .str "ANY" "*", .str "BAR" "bar", .str "OFTEN" "often", .str "RIGHT" "right"]
abbrev R : PySem.W.OpenRow := PySem.W.OpenLaw.row PySem.Challenge.rw_plughall_k65_whole_never_oftener
abbrev hk : PySem.W.Hook := He.hookD 6 fa fn
def ob (s : PySem.W.SharedT) : He.AlD := He.obsDG 6 fa fn (HandSHeadRun.getT s)
theorem ob_eq (s : PySem.W.SharedT) : ob s = hk.obs s.abs := He.obsDG_eq (HandSHeadRun.getT_eq s)
theorem facts {P : Program} {w : World} {K : Frg} {h : Heap} {mg : Str → Option Value} {f : Addr} (X : K.In h) (G : h.Ns mainGlobals mg) (hfa : mg ("law" : Str) = some (.ref f)) (c : He.SaysD fa fn K) :
    ∃ fd : FuncData, (∀ (s : Shared) (v : Value), BindsTo s fd ⟨[v], []⟩ [("_law_script", v)]) ∧ ∀ base : Heap, K.In base → base.Ns mainGlobals mg → FnG P w K mg base CX0 7 f fd ["_law_script"] (LF K r_law) := by
  have B : Fr mg := ⟨He.free_ok X G (c.fact 33 (f := .free "abs") rfl), He.free_ok X G (c.fact 34 (f := .free "all") rfl), He.free_ok X G (c.fact 35 (f := .free "any") rfl), He.free_ok X G (c.fact 36 (f := .free "enumerate") rfl), He.free_ok X G (c.fact 37 (f := .free "int") rfl), He.free_ok X G (c.fact 38 (f := .free "len") rfl), He.free_ok X G (c.fact 39 (f := .free "list") rfl), He.free_ok X G (c.fact 40 (f := .free "min") rfl), He.free_ok X G (c.fact 41 (f := .free "range") rfl), He.free_ok X G (c.fact 42 (f := .free "repr") rfl), He.free_ok X G (c.fact 43 (f := .free "sorted") rfl), He.free_ok X G (c.fact 44 (f := .free "tuple") rfl), He.str_ok X G (c.fact 45 (f := .str "ANY" "*") rfl), He.str_ok X G (c.fact 46 (f := .str "BAR" "bar") rfl), He.str_ok X G (c.fact 47 (f := .str "OFTEN" "often") rfl), He.str_ok X G (c.fact 48 (f := .str "RIGHT" "right") rfl)⟩
  have T_R : TxR K (He.ga K "Rights") := ⟨He.cls_ok (c.fact 25 (f := .cls "Rights") rfl), He.noat_ok (c.fact 30 (f := .noat "Rights" "bar_rows") rfl), He.noat_ok (c.fact 31 (f := .noat "Rights" "most_of") rfl), He.noat_ok (c.fact 32 (f := .noat "Rights" "done_of") rfl)⟩
  have x_is_of : Tx K mg "is_of" s_is_of := by
    obtain ⟨fd, F⟩ := c.def_ 0 (d := d_is_of) rfl
    exact ⟨_, fd, F, He.glo_ok X G (c.fact 0 (f := .glo "is_of") rfl)⟩
  have x_is_barred : Tx K mg "is_barred" s_is_barred := by
    obtain ⟨fd, F⟩ := c.def_ 1 (d := d_is_barred) rfl
    exact ⟨_, fd, F, He.glo_ok X G (c.fact 1 (f := .glo "is_barred") rfl)⟩
  have x__law_bag : Tx K mg "_law_bag" s__law_bag := by
    obtain ⟨fd, F⟩ := c.def_ 2 (d := d__law_bag) rfl
    exact ⟨_, fd, F, He.glo_ok X G (c.fact 2 (f := .glo "_law_bag") rfl)⟩
  have x__law_take : Tx K mg "_law_take" s__law_take := by
    obtain ⟨fd, F⟩ := c.def_ 3 (d := d__law_take) rfl
    exact ⟨_, fd, F, He.glo_ok X G (c.fact 3 (f := .glo "_law_take") rfl)⟩
  have x__law_alike : Tx K mg "_law_alike" s__law_alike := by
    obtain ⟨fd, F⟩ := c.def_ 4 (d := d__law_alike) rfl
    exact ⟨_, fd, F, He.glo_ok X G (c.fact 4 (f := .glo "_law_alike") rfl)⟩
  have x__law_names : Tx K mg "_law_names" s__law_names := by
    obtain ⟨fd, F⟩ := c.def_ 5 (d := d__law_names) rfl
    exact ⟨_, fd, F, He.glo_ok X G (c.fact 5 (f := .glo "_law_names") rfl)⟩
  have x__law_number : Tx K mg "_law_number" s__law_number := by
    obtain ⟨fd, F⟩ := c.def_ 6 (d := d__law_number) rfl
    exact ⟨_, fd, F, He.glo_ok X G (c.fact 6 (f := .glo "_law_number") rfl)⟩
  have x__law_shape : Tx K mg "_law_shape" s__law_shape := by
    obtain ⟨fd, F⟩ := c.def_ 7 (d := d__law_shape) rfl
    exact ⟨_, fd, F, He.glo_ok X G (c.fact 7 (f := .glo "_law_shape") rfl)⟩
  have x__law_some : Tx K mg "_law_some" s__law_some := by
    obtain ⟨fd, F⟩ := c.def_ 8 (d := d__law_some) rfl
    exact ⟨_, fd, F, He.glo_ok X G (c.fact 8 (f := .glo "_law_some") rfl)⟩
  have x__law_kept_row : Tx K mg "_law_kept_row" s__law_kept_row := by
    obtain ⟨fd, F⟩ := c.def_ 9 (d := d__law_kept_row) rfl
    exact ⟨_, fd, F, He.glo_ok X G (c.fact 9 (f := .glo "_law_kept_row") rfl)⟩
  have x__law_hook_row : Tx K mg "_law_hook_row" s__law_hook_row := by
    obtain ⟨fd, F⟩ := c.def_ 10 (d := d__law_hook_row) rfl
    exact ⟨_, fd, F, He.glo_ok X G (c.fact 10 (f := .glo "_law_hook_row") rfl)⟩
  have x__law_face : Tx K mg "_law_face" s__law_face := by
    obtain ⟨fd, F⟩ := c.def_ 11 (d := d__law_face) rfl
    exact ⟨_, fd, F, He.glo_ok X G (c.fact 11 (f := .glo "_law_face") rfl)⟩
  have x__law_step : Tx K mg "_law_step" s__law_step := by
    obtain ⟨fd, F⟩ := c.def_ 12 (d := d__law_step) rfl
    exact ⟨_, fd, F, He.glo_ok X G (c.fact 12 (f := .glo "_law_step") rfl)⟩
  have x__law_body : Tx K mg "_law_body" s__law_body := by
    obtain ⟨fd, F⟩ := c.def_ 13 (d := d__law_body) rfl
    exact ⟨_, fd, F, He.glo_ok X G (c.fact 13 (f := .glo "_law_body") rfl)⟩
  have x__law_make : Tx K mg "_law_make" s__law_make := by
    obtain ⟨fd, F⟩ := c.def_ 14 (d := d__law_make) rfl
    exact ⟨_, fd, F, He.glo_ok X G (c.fact 14 (f := .glo "_law_make") rfl)⟩
  have x__law_turned : Tx K mg "_law_turned" s__law_turned := by
    obtain ⟨fd, F⟩ := c.def_ 15 (d := d__law_turned) rfl
    exact ⟨_, fd, F, He.glo_ok X G (c.fact 15 (f := .glo "_law_turned") rfl)⟩
  have x__law_any : Tx K mg "_law_any" s__law_any := by
    obtain ⟨fd, F⟩ := c.def_ 16 (d := d__law_any) rfl
    exact ⟨_, fd, F, He.glo_ok X G (c.fact 16 (f := .glo "_law_any") rfl)⟩
  have x__law_righted : Tx K mg "_law_righted" s__law_righted := by
    obtain ⟨fd, F⟩ := c.def_ 17 (d := d__law_righted) rfl
    exact ⟨_, fd, F, He.glo_ok X G (c.fact 17 (f := .glo "_law_righted") rfl)⟩
  have x__law_right_rows : Tx K mg "_law_right_rows" s__law_right_rows := by
    obtain ⟨fd, F⟩ := c.def_ 18 (d := d__law_right_rows) rfl
    exact ⟨_, fd, F, He.glo_ok X G (c.fact 18 (f := .glo "_law_right_rows") rfl)⟩
  have x__law_makes : Tx K mg "_law_makes" s__law_makes := by
    obtain ⟨fd, F⟩ := c.def_ 19 (d := d__law_makes) rfl
    exact ⟨_, fd, F, He.glo_ok X G (c.fact 19 (f := .glo "_law_makes") rfl)⟩
  have x__law_most : Tx K mg "_law_most" s__law_most := by
    obtain ⟨fd, F⟩ := c.def_ 20 (d := d__law_most) rfl
    exact ⟨_, fd, F, He.glo_ok X G (c.fact 20 (f := .glo "_law_most") rfl)⟩
  have x__law_wanted : Tx K mg "_law_wanted" s__law_wanted := by
    obtain ⟨fd, F⟩ := c.def_ 21 (d := d__law_wanted) rfl
    exact ⟨_, fd, F, He.glo_ok X G (c.fact 21 (f := .glo "_law_wanted") rfl)⟩
  have x__law_let : Tx K mg "_law_let" s__law_let := by
    obtain ⟨fd, F⟩ := c.def_ 22 (d := d__law_let) rfl
    exact ⟨_, fd, F, He.glo_ok X G (c.fact 22 (f := .glo "_law_let") rfl)⟩
  obtain ⟨fdI, FI⟩ := c.def_ 24 (d := d_Rights___init__) rfl
  have x_Rights_used : Tm K (He.ga K "Rights") "used" "Rights.used" s_Rights_used := by
    obtain ⟨fd, F⟩ := c.def_ 25 (d := d_Rights_used) rfl
    exact ⟨_, fd, F, He.meth_ok (c.fact 27 (f := .meth "Rights" "used") rfl)⟩
  have x_Rights_barred : Tm K (He.ga K "Rights") "barred" "Rights.barred" s_Rights_barred := by
    obtain ⟨fd, F⟩ := c.def_ 26 (d := d_Rights_barred) rfl
    exact ⟨_, fd, F, He.meth_ok (c.fact 28 (f := .meth "Rights" "barred") rfl)⟩
  have x_Rights_use : Tm K (He.ga K "Rights") "use" "Rights.use" s_Rights_use := by
    obtain ⟨fd, F⟩ := c.def_ 27 (d := d_Rights_use) rfl
    exact ⟨_, fd, F, He.meth_ok (c.fact 29 (f := .meth "Rights" "use") rfl)⟩
  obtain ⟨fdL, FL⟩ := c.def_ 23 (d := d_law) rfl
  have eL := hfa.symm.trans (He.glo_ok X G (c.fact 23 (f := .glo "law") rfl))
  cases eL
  have bL := FunD.bindsA (ps := ["_law_script"]) FL fun _ _ _ _ _ _ us hl => match us, hl with | [_], _ => rfl
  refine ⟨fdL, fun s v => bL s [v] rfl, fun base kb nb => ?_⟩
  have G_is_of := g_is_of (P := P) (w := w) (base := base) B  x_is_of
  have G_is_barred := g_is_barred (P := P) (w := w) (base := base) B G_is_of x_is_barred
  have G_Rights : Gk P w K mg base 1 "Rights" _ _ _ _ := g_Rights B T_R FI (He.mkr_ok (c.fact 26 (f := .mkr "Rights") rfl)) (He.glo_ok X G (c.fact 24 (f := .glo "Rights") rfl))
  have G_Rights_used := g_Rights_used (P := P) (w := w) (base := base) B T_R  x_Rights_used
  have G_Rights_barred := g_Rights_barred (P := P) (w := w) (base := base) B T_R G_is_barred G_Rights_used x_Rights_barred
  have G_Rights_use := g_Rights_use (P := P) (w := w) (base := base) B T_R G_Rights_used G_Rights_barred x_Rights_use
  have G__law_bag := g__law_bag (P := P) (w := w) (base := base) B  x__law_bag
  have G__law_take := g__law_take (P := P) (w := w) (base := base) B  x__law_take
  have G__law_alike := g__law_alike (P := P) (w := w) (base := base) B  x__law_alike
  have G__law_names := g__law_names (P := P) (w := w) (base := base) B G__law_take x__law_names
  have G__law_number := g__law_number (P := P) (w := w) (base := base) B G__law_take x__law_number
  have G__law_shape := g__law_shape (P := P) (w := w) (base := base) B G__law_take x__law_shape
  have G__law_some := g__law_some (P := P) (w := w) (base := base) B G__law_take x__law_some
  have G__law_kept_row := g__law_kept_row (P := P) (w := w) (base := base) B G__law_take G__law_shape x__law_kept_row
  have G__law_hook_row := g__law_hook_row (P := P) (w := w) (base := base) B G__law_take G__law_shape G__law_some x__law_hook_row
  have G__law_face := g__law_face (P := P) (w := w) (base := base) B G__law_take G__law_some G__law_kept_row G__law_number G__law_hook_row G__law_shape x__law_face
  have G__law_step := g__law_step (P := P) (w := w) (base := base) B G__law_take G__law_number x__law_step
  have G__law_body := g__law_body (P := P) (w := w) (base := base) B G__law_take G__law_step x__law_body
  have G__law_make := g__law_make (P := P) (w := w) (base := base) B G__law_body G__law_face x__law_make
  have G__law_turned := g__law_turned (P := P) (w := w) (base := base) B G__law_take x__law_turned
  have G__law_any := g__law_any (P := P) (w := w) (base := base) B G__law_take x__law_any
  have G__law_righted := g__law_righted (P := P) (w := w) (base := base) B G__law_take x__law_righted
  have G__law_right_rows := g__law_right_rows (P := P) (w := w) (base := base) B G__law_some G__law_take x__law_right_rows
  have G__law_makes := g__law_makes (P := P) (w := w) (base := base) B G__law_take G__law_make G__law_righted G__law_right_rows x__law_makes
  have G__law_most := g__law_most (P := P) (w := w) (base := base) B  x__law_most
  have G__law_wanted := g__law_wanted (P := P) (w := w) (base := base) B G__law_any x__law_wanted
  have G__law_let := g__law_let (P := P) (w := w) (base := base) B T_R G_Rights_use x__law_let
  exact def_g FL sc_law (lf_len l_law) fun cdv A outer s H vs Q E hr hg hsp => ⟨_, PSs.nox (b_law B T_R G__law_alike G__law_let G__law_turned G__law_most G__law_take G__law_wanted G__law_makes G__law_names G__law_bag G_Rights _ cdv A outer s H E hr hg), lf_trim (rd_law _) hsp⟩
def loose : List PySem.Str := (["_wall", "__name__", "ANY", "is_of", "is_barred", "BAR", "RIGHT", "OFTEN", "Rights", "_law_bag", "_law_take", "_law_alike", "_law_names", "_law_number", "_law_shape", "_law_some", "_law_kept_row", "_law_hook_row", "_law_face", "_law_step", "_law_body", "_law_make", "_law_turned", "_law_any", "_law_righted", "_law_right_rows", "_law_makes", "_law_most", "_law_wanted", "_law_let"] : List PySem.Str)
theorem run (w : World) : HandSHeadRun.RunEq R (PySem.W.view R.prog [32]) hk ob 6000 loose w := by
  intro os
  kernel_rfl
end K65
open PySem PySem.W PySem.Calls PyProof.Rows
theorem PySem.Challenge.cw_plughall_k65_whole_never_oftener_holds : PySem.Challenge.rw_plughall_k65_whole_never_oftener.Holds := by
  w_on; o_law
  refine HandSHeadRun.head_any (r := OpenLaw.row PySem.Challenge.rw_plughall_k65_whole_never_oftener) (q := view (OpenLaw.row PySem.Challenge.rw_plughall_k65_whole_never_oftener).prog [32]) (H := K65.hk) (ob := K65.ob) (M := 6000) (loose := K65.loose) (d := HandSHeadRun.topDef (OpenLaw.row PySem.Challenge.rw_plughall_k65_whole_never_oftener).prog 32) (kwd := []) K65.ob_eq
    (by kernel_rfl) (fun s => by kernel_rfl) K65.run (by kernel_rfl) (by kernel_rfl) (by kernel_rfl) (by rfl) (by first | assumption | decide +kernel) (by decide +kernel) ⟨rfl, rfl, rfl, rfl, rfl, by decide +kernel⟩ ?hw ?hc
  case hw => w_witness2
  case hc =>
    refine Dl.walkG (l := PySem.Challenge.rw_plughall_k65_whole_never_oftener) (n := 63) (k := 7) (x := "_law_script") (r2 := K65.r_law) rfl (by decide) (by kernel_rfl) ⟨rfl, by decide, by decide⟩ ?F fun ns hl => ⟨ns, rfl, hl, fun _ => rfl, fun _ => rfl⟩
    intro w mg fa h Y G named
    obtain ⟨K, KX, c⟩ := Y
    have named' : mg ("law" : PySem.Str) = some (.ref fa) := by
      have e : (HandSHeadRun.topDef (OpenLaw.row PySem.Challenge.rw_plughall_k65_whole_never_oftener).prog 32).name = ("law" : PySem.Str) := by kernel_rfl
      rw [← e]
      exact named
    obtain ⟨fd, hb, hF⟩ := K65.facts (P := (PySem.Challenge.rw_plughall_k65_whole_never_oftener).prog) (w := w) KX G named' c
    exact ⟨K, fd, KX, hb, hF⟩
