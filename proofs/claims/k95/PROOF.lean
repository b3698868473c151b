import PyProof.Rows.All
import Wide.All
import OpenK.AllK
import Wide.FinOn
import HandS.ForMost
import HandS.IsInst
import HandS.Style
import HandS.Wide
import HandS.Codes
import HandS.TupAny
import HandS.Steps
import KE.KRevSl
import HandS.Deep
import HandS.Conv
import HandS.WordsDict
import HandS.Gcd
import HandS.SortInts
import HandS.Replace
import PyProof.Rows.SortShellAny
import PyProof.Rows.RegReprOcc
import PyProof.StrLawsFirst
import HandS.Set
import HandS.Strs
import HandS.SetTxt0
import KE.DataMinMax
import HandS.TupMul
import KE.DataCmp
import KE.SortData
import HandS.Dict
import HandS.TupSets
import KE.GoesEnum
import PyProof.ListStr
import PyProof.CollectStr
import HandS.WideBits
import HandS.TupLen
import HandS.More
import KE.KDictSum
import KE.KDictDisplayH
import PySem.Challenge.RW_wholewords_k95_whole_patterns_met
set_option Elab.async false
set_option linter.all false
set_option maxRecDepth 100000
namespace DL
open PySem PySem.Spec PyProof.Rows L2

/-- plain data -/
inductive D where
  | non | bl (b : Bool) | int (i : Int) | str (s : List Nat)
  | tup (ds : List D) | lst (ds : List D) | dic (ks : List Key) (ds : List D) | frl (ds : List D)
  /-- a dict whose keys are tuples of ints and texts -/
  | dct (ks : List (List Key)) (ds : List D)
  /-- a dict that is gone through meanwhile -/
  | lkd (ks : List Key) (ds : List D) | lkt (ks : List (List Key)) (ds : List D)

def mkS (s : List Nat) : Str := ⟨s.toArray⟩
def okS (s : List Nat) : Prop := s.length ≤ sizeLine ∧ ∀ c ∈ s, c < 0x110000

mutual
def Rp (K : PySem.W.Frag) (F : Hp) : D → V → Prop
  | .non, v => v = .non
  | .bl b, v => v = .bl b
  | .int i, v => v = .int i
  | .str s, v => v = .str (mkS s) ∧ okS s
  | .tup ds, v => ∃ a vs, v = .ref a ∧ F a = some (.tup vs) ∧ RpL K F ds vs
  | .lst ds, v => ∃ a vs, v = .ref a ∧ F a = some (.lst vs) ∧ RpL K F ds vs
  | .dic ks ds, v => ∃ a vs, v = .ref a ∧ F a = some (.dK (ks.zip vs)) ∧ RpL K F ds vs ∧ ks.length = ds.length
  | .frl ds, v => ∃ a vs, v = .ref a ∧ SqL K F a vs ∧ RpL K F ds vs
  | .dct ks ds, v => ∃ a vs, v = .ref a ∧ F a = some (.dT (ks.zip vs)) ∧ RpL K F ds vs ∧ ks.length = ds.length
  | .lkd ks ds, v => ∃ a vs o, v = .ref a ∧ F a = some (.frz o (.dK (ks.zip vs))) ∧ RpL K F ds vs ∧ ks.length = ds.length
  | .lkt ks ds, v => ∃ a vs o, v = .ref a ∧ F a = some (.frz o (.dT (ks.zip vs))) ∧ RpL K F ds vs ∧ ks.length = ds.length
def RpL (K : PySem.W.Frag) (F : Hp) : List D → List V → Prop
  | [], vs => vs = []
  | d :: ds, vs => ∃ v r, vs = v :: r ∧ Rp K F d v ∧ RpL K F ds r
end

theorem sqT_mono {K : PySem.W.Frag} {F F' : Hp} (h : Same F F') {a : Addr} {xs : List V} (q : SqT K F a xs) : SqT K F' a xs := by
  rcases q with (q | ⟨o, q⟩) | q
  · exact .inl (.inl (h _ _ q))
  · exact .inl (.inr ⟨o, h _ _ q⟩)
  · exact .inr q
mutual
theorem Rp.mono {K : PySem.W.Frag} {F F' : Hp} (h : Same F F') : ∀ (d : D) (v : V), Rp K F d v → Rp K F' d v
  | .non, _, q => by unfold Rp at q ⊢; exact q
  | .bl _, _, q => by unfold Rp at q ⊢; exact q
  | .int _, _, q => by unfold Rp at q ⊢; exact q
  | .str _, _, q => by unfold Rp at q ⊢; exact q
  | .tup ds, _, q => by
    unfold Rp at q ⊢
    obtain ⟨a, vs, e, s, r⟩ := q
    exact ⟨a, vs, e, h _ _ s, RpL.mono h ds vs r⟩
  | .lst ds, _, q => by
    unfold Rp at q ⊢
    obtain ⟨a, vs, e, s, r⟩ := q
    exact ⟨a, vs, e, h _ _ s, RpL.mono h ds vs r⟩
  | .dic ks ds, _, q => by
    unfold Rp at q ⊢
    obtain ⟨a, vs, e, s, r, l⟩ := q
    exact ⟨a, vs, e, h _ _ s, RpL.mono h ds vs r, l⟩
  | .frl ds, _, q => by
    unfold Rp at q ⊢
    obtain ⟨a, vs, e, s, r⟩ := q
    exact ⟨a, vs, e, h.seq s, RpL.mono h ds vs r⟩
  | .dct ks ds, _, q => by
    unfold Rp at q ⊢
    obtain ⟨a, vs, e, s, r, l⟩ := q
    exact ⟨a, vs, e, h _ _ s, RpL.mono h ds vs r, l⟩
  | .lkd ks ds, _, q => by
    unfold Rp at q ⊢
    obtain ⟨a, vs, o, e, s, r, l⟩ := q
    exact ⟨a, vs, o, e, h _ _ s, RpL.mono h ds vs r, l⟩
  | .lkt ks ds, _, q => by
    unfold Rp at q ⊢
    obtain ⟨a, vs, o, e, s, r, l⟩ := q
    exact ⟨a, vs, o, e, h _ _ s, RpL.mono h ds vs r, l⟩
theorem RpL.mono {K : PySem.W.Frag} {F F' : Hp} (h : Same F F') : ∀ (ds : List D) (vs : List V), RpL K F ds vs → RpL K F' ds vs
  | [], _, q => by unfold RpL at q ⊢; exact q
  | d :: ds, _, q => by
    unfold RpL at q ⊢
    obtain ⟨v, r, e, a, b⟩ := q
    exact ⟨v, r, e, Rp.mono h d v a, RpL.mono h ds r b⟩
end
section
variable {K : PySem.W.Frag} {F : Hp}
theorem rpl_nil : RpL K F [] [] := by unfold RpL; rfl
theorem rpl_cons {d : D} {v : V} {ds : List D} {vs : List V} (a : Rp K F d v) (b : RpL K F ds vs) : RpL K F (d :: ds) (v :: vs) := by
  unfold RpL; exact ⟨v, vs, rfl, a, b⟩
theorem rpl_cons_inv {d : D} {ds : List D} {vs : List V} (h : RpL K F (d :: ds) vs) : ∃ v r, vs = v :: r ∧ Rp K F d v ∧ RpL K F ds r := by
  unfold RpL at h; exact h
theorem rpl_nil_inv {vs : List V} (h : RpL K F [] vs) : vs = [] := by unfold RpL at h; exact h
theorem rpl_len : ∀ {ds : List D} {vs : List V}, RpL K F ds vs → ds.length = vs.length
  | [], _, h => by rw [rpl_nil_inv h]; rfl
  | d :: ds, _, h => by
    obtain ⟨v, r, rfl, _, b⟩ := rpl_cons_inv h
    simp [rpl_len b]
theorem rpl_get : ∀ {ds : List D} {vs : List V} {i : Nat} {d : D}, RpL K F ds vs → ds[i]? = some d → ∃ v, vs[i]? = some v ∧ Rp K F d v
  | [], _, i, d, h, e => by simp at e
  | d :: ds, _, 0, d', h, e => by
    obtain ⟨v, r, rfl, a, b⟩ := rpl_cons_inv h
    simp at e; subst e
    exact ⟨v, rfl, a⟩
  | d :: ds, _, i + 1, d', h, e => by
    obtain ⟨v, r, rfl, a, b⟩ := rpl_cons_inv h
    obtain ⟨w, e1, q⟩ := rpl_get (i := i) b (by simpa using e)
    exact ⟨w, by simpa using e1, q⟩
theorem rpl_get' : ∀ {ds : List D} {vs : List V} {i : Nat} {v : V}, RpL K F ds vs → vs[i]? = some v → ∃ d, ds[i]? = some d ∧ Rp K F d v := by
  intro ds vs i v h e
  have hi : i < vs.length := (List.getElem?_eq_some_iff.mp e).1
  rw [← rpl_len h] at hi
  obtain ⟨w, e1, q⟩ := rpl_get h (List.getElem?_eq_getElem hi)
  rw [e] at e1; cases e1
  exact ⟨_, List.getElem?_eq_getElem hi, q⟩
theorem rpl_append : ∀ {ds es : List D} {vs ws : List V}, RpL K F ds vs → RpL K F es ws → RpL K F (ds ++ es) (vs ++ ws)
  | [], _, _, _, h, q => by rw [rpl_nil_inv h]; exact q
  | d :: ds, _, _, _, h, q => by
    obtain ⟨v, r, rfl, a, b⟩ := rpl_cons_inv h
    exact rpl_cons a (rpl_append b q)
theorem rpl_take : ∀ {ds : List D} {vs : List V} (n : Nat), RpL K F ds vs → RpL K F (ds.take n) (vs.take n)
  | _, _, 0, _ => rpl_nil
  | [], _, n + 1, h => by rw [rpl_nil_inv h]; exact rpl_nil
  | d :: ds, _, n + 1, h => by
    obtain ⟨v, r, rfl, a, b⟩ := rpl_cons_inv h
    exact rpl_cons a (rpl_take n b)
theorem rpl_drop : ∀ {ds : List D} {vs : List V} (n : Nat), RpL K F ds vs → RpL K F (ds.drop n) (vs.drop n)
  | _, _, 0, h => h
  | [], _, n + 1, h => by rw [rpl_nil_inv h]; exact rpl_nil
  | d :: ds, _, n + 1, h => by
    obtain ⟨v, r, rfl, a, b⟩ := rpl_cons_inv h
    exact rpl_drop n b
theorem rpl_set {d : D} {v : V} (q : Rp K F d v) : ∀ {ds : List D} {vs : List V} (n : Nat), RpL K F ds vs → RpL K F (ds.set n d) (vs.set n v)
  | [], _, n, h => by rw [rpl_nil_inv h]; exact rpl_nil
  | e :: ds, _, 0, h => by
    obtain ⟨w, r, rfl, a, b⟩ := rpl_cons_inv h
    exact rpl_cons q b
  | e :: ds, _, n + 1, h => by
    obtain ⟨w, r, rfl, a, b⟩ := rpl_cons_inv h
    exact rpl_cons a (rpl_set q n b)
theorem rpl_reverse : ∀ {ds : List D} {vs : List V}, RpL K F ds vs → RpL K F ds.reverse vs.reverse
  | [], _, h => by rw [rpl_nil_inv h]; exact rpl_nil
  | d :: ds, _, h => by
    obtain ⟨v, r, rfl, a, b⟩ := rpl_cons_inv h
    rw [List.reverse_cons, List.reverse_cons]
    exact rpl_append (rpl_reverse b) (rpl_cons a rpl_nil)
theorem rpl_dropLast {ds : List D} {vs : List V} (h : RpL K F ds vs) : RpL K F ds.dropLast vs.dropLast := by
  rw [List.dropLast_eq_take, List.dropLast_eq_take, rpl_len h]
  exact rpl_take _ h
theorem rpl_erase : ∀ {ds : List D} {vs : List V} (n : Nat), RpL K F ds vs → RpL K F (ds.eraseIdx n) (vs.eraseIdx n)
  | [], _, n, h => by rw [rpl_nil_inv h]; exact rpl_nil
  | e :: ds, _, 0, h => by
    obtain ⟨w, r, rfl, a, b⟩ := rpl_cons_inv h
    exact b
  | e :: ds, _, n + 1, h => by
    obtain ⟨w, r, rfl, a, b⟩ := rpl_cons_inv h
    exact rpl_cons a (rpl_erase n b)
theorem rpl_rep {ds : List D} {vs : List V} (h : RpL K F ds vs) : ∀ n : Nat, RpL K F (List.replicate n ds).flatten (List.replicate n vs).flatten
  | 0 => rpl_nil
  | n + 1 => by
    rw [List.replicate_succ, List.replicate_succ, List.flatten_cons, List.flatten_cons]
    exact rpl_append h (rpl_rep h n)
theorem rpl_ints : ∀ (ns : List Int), RpL K F (ns.map D.int) (ns.map V.int)
  | [] => rpl_nil
  | n :: ns => rpl_cons (by unfold Rp; rfl) (rpl_ints ns)
end

/-! ### what a name's slot holds -/
inductive Sl where
  | un | val (d : D) | own (io : Bool) (d : D) | nst (io : Bool) (ds : List D)
abbrev Gm := List Sl
/-- an object that a name owns: what stands at a in the heap -/
def OwnAt (K : PySem.W.Frag) (F H : Hp) (a : Addr) : D → Prop
  | .lst ds => ∃ vs, H a = some (.lst vs) ∧ RpL K F ds vs
  | .dic ks ds => ∃ vs, H a = some (.dK (ks.zip vs)) ∧ RpL K F ds vs ∧ ks.length = ds.length
  | .dct ks ds => ∃ vs, H a = some (.dT (ks.zip vs)) ∧ RpL K F ds vs ∧ ks.length = ds.length
  | _ => False
theorem OwnAt.mono {K : PySem.W.Frag} {F F' H H' : Hp} {a : Addr} {d : D} (o : OwnAt K F H a d) (h : Same F F') (e : ∀ o, H a = some o → H' a = some o) : OwnAt K F' H' a d := by
  unfold OwnAt at o ⊢
  split at o
  · obtain ⟨vs, x, r⟩ := o
    exact ⟨vs, e _ x, RpL.mono h _ _ r⟩
  · obtain ⟨vs, x, r, l⟩ := o
    exact ⟨vs, e _ x, RpL.mono h _ _ r, l⟩
  · obtain ⟨vs, x, r, l⟩ := o
    exact ⟨vs, e _ x, RpL.mono h _ _ r, l⟩
  · exact o.elim
theorem OwnAt.there {K : PySem.W.Frag} {F H : Hp} {a : Addr} {d : D} (o : OwnAt K F H a d) : ∃ u, H a = some u := by
  unfold OwnAt at o
  split at o
  · obtain ⟨vs, x, r⟩ := o
    exact ⟨_, x⟩
  · obtain ⟨vs, x, r, l⟩ := o
    exact ⟨_, x⟩
  · obtain ⟨vs, x, r, l⟩ := o
    exact ⟨_, x⟩
  · exact o.elim

theorem OwnAt.nt {K : PySem.W.Frag} {F H : Hp} {a : Addr} {d : D} {u : HO} (o : OwnAt K F H a d) (e : H a = some u) : ∀ vs, u ≠ .tup vs := by
  unfold OwnAt at o
  split at o
  · obtain ⟨vs, x, r⟩ := o
    rw [x] at e; cases e; intro _ h; cases h
  · obtain ⟨vs, x, r, l⟩ := o
    rw [x] at e; cases e; intro _ h; cases h
  · obtain ⟨vs, x, r, l⟩ := o
    rw [x] at e; cases e; intro _ h; cases h
  · exact o.elim

/-! ### lists that own lists (or dicts) -/
def isInn : D → Bool
  | .lst _ => true
  | .dic _ _ => true
  | .dct _ _ => true
  | _ => false
/-- the items of a list that owns some of them: bs are the addresses of those -/
inductive NstL (K : PySem.W.Frag) (F H : Hp) : List D → List V → List Addr → Prop
  | nil : NstL K F H [] [] []
  | pl {d : D} {v : V} {ds : List D} {vs : List V} {bs : List Addr} : isInn d = false → Rp K F d v → NstL K F H ds vs bs → NstL K F H (d :: ds) (v :: vs) bs
  | inn {d : D} {b : Addr} {ds : List D} {vs : List V} {bs : List Addr} : isInn d = true → OwnAt K F H b d → F b = none → NstL K F H ds vs bs → NstL K F H (d :: ds) (.ref b :: vs) (b :: bs)
theorem NstL.mono {K : PySem.W.Frag} {F F' H H' : Hp} {ds : List D} {vs : List V} {bs : List Addr} (n : NstL K F H ds vs bs) (h : Same F F') (e : ∀ b ∈ bs, ∀ o, H b = some o → H' b = some o) (f : ∀ b ∈ bs, F b = none → F' b = none) : NstL K F' H' ds vs bs := by
  induction n with
  | nil => exact .nil
  | pl h1 h2 _ ih => exact .pl h1 (Rp.mono h _ _ h2) (ih e f)
  | @inn d b ds vs bs h1 h2 h3 _ ih => exact .inn h1 (h2.mono h (e b List.mem_cons_self)) (f b List.mem_cons_self h3) (ih (fun b hb => e b (List.mem_cons_of_mem _ hb)) fun b hb => f b (List.mem_cons_of_mem _ hb))
theorem NstL.there {K : PySem.W.Frag} {F H : Hp} {ds : List D} {vs : List V} {bs : List Addr} (n : NstL K F H ds vs bs) : ∀ b ∈ bs, (∃ o, H b = some o) ∧ F b = none := by
  induction n with
  | nil => intro b hb; cases hb
  | pl _ _ _ ih => exact ih
  | inn _ h2 h3 _ ih =>
    intro c hc
    rcases List.mem_cons.mp hc with rfl | hc
    · exact ⟨h2.there, h3⟩
    · exact ih c hc
theorem NstL.len {K : PySem.W.Frag} {F H : Hp} {ds : List D} {vs : List V} {bs : List Addr} (n : NstL K F H ds vs bs) : ds.length = vs.length ∧ bs.length = (ds.filter isInn).length := by
  induction n with
  | nil => exact ⟨rfl, rfl⟩
  | pl h1 _ _ ih => exact ⟨by simp [ih.1], by rw [List.filter_cons_of_neg (by rw [h1]; decide)]; exact ih.2⟩
  | inn h1 _ _ _ ih => exact ⟨by simp [ih.1], by rw [List.filter_cons_of_pos h1]; simp [ih.2]⟩
/-- a list at a that owns what stands at bs -/
def NstAt (K : PySem.W.Frag) (F H : Hp) (a : Addr) (bs : List Addr) (ds : List D) : Prop := ∃ vs, H a = some (.lst vs) ∧ NstL K F H ds vs bs ∧ (a :: bs).Nodup
theorem NstAt.mono {K : PySem.W.Frag} {F F' H H' : Hp} {a : Addr} {bs : List Addr} {ds : List D} (n : NstAt K F H a bs ds) (h : Same F F') (e : ∀ b ∈ a :: bs, ∀ o, H b = some o → H' b = some o) (f : ∀ b ∈ bs, F b = none → F' b = none) : NstAt K F' H' a bs ds := by
  obtain ⟨vs, h1, h2, h3⟩ := n
  exact ⟨vs, e a List.mem_cons_self _ h1, h2.mono h (fun b hb => e b (List.mem_cons_of_mem _ hb)) f, h3⟩
theorem NstAt.there {K : PySem.W.Frag} {F H : Hp} {a : Addr} {bs : List Addr} {ds : List D} (n : NstAt K F H a bs ds) : ∀ b ∈ a :: bs, ∃ o, H b = some o := by
  obtain ⟨vs, h1, h2, h3⟩ := n
  intro b hb
  rcases List.mem_cons.mp hb with rfl | hb
  · exact ⟨_, h1⟩
  · exact (h2.there b hb).1
def ninn (ds : List D) : Nat := (ds.filter isInn).length
/-- where the address of what the list in slot i owns k-th is kept -/
def gix (n i k : Nat) : Nat := n * (k + 1) + i
theorem gix_ge {n i k : Nat} : n ≤ gix n i k := by unfold gix; exact Nat.le_trans (Nat.le_mul_of_pos_right n (Nat.succ_pos k)) (Nat.le_add_right _ _)
theorem gix_inj {n i j k l : Nat} (hi : i < n) (hj : j < n) (h : gix n i k = gix n j l) : i = j ∧ k = l := by
  unfold gix at h
  have m1 : (n * (k + 1) + i) % n = i := by rw [Nat.mul_add_mod]; exact Nat.mod_eq_of_lt hi
  have m2 : (n * (l + 1) + j) % n = j := by rw [Nat.mul_add_mod]; exact Nat.mod_eq_of_lt hj
  have e : i = j := by rw [← m1, ← m2, h]
  subst e
  have : n * (k + 1) = n * (l + 1) := by omega
  have := Nat.eq_of_mul_eq_mul_left (by omega : 0 < n) this
  exact ⟨rfl, by omega⟩
def isOwned : Sl → Bool
  | .own _ _ => true
  | .nst _ _ => true
  | _ => false
/-- an index whose address is owned now -/
def Act (Γ : Gm) (j : Nat) : Prop := (∃ s, Γ[j]? = some s ∧ isOwned s = true) ∨ ∃ i io ds k, Γ[i]? = some (.nst io ds) ∧ k < ninn ds ∧ j = gix Γ.length i k
theorem Act.own {Γ : Gm} {i : Nat} {io : Bool} {d : D} (h : Γ[i]? = some (.own io d)) : Act Γ i := .inl ⟨_, h, rfl⟩
theorem Act.nst {Γ : Gm} {i : Nat} {io : Bool} {ds : List D} (h : Γ[i]? = some (.nst io ds)) : Act Γ i := .inl ⟨_, h, rfl⟩
theorem Act.inn {Γ : Gm} {i k : Nat} {io : Bool} {ds : List D} (h : Γ[i]? = some (.nst io ds)) (hk : k < ninn ds) : Act Γ (gix Γ.length i k) := .inr ⟨i, io, ds, k, h, hk, rfl⟩
theorem act_set {Γ : Gm} {i j : Nat} {s : Sl} (hi : i < Γ.length) (h : Act (Γ.set i s) j) : (j = i ∧ isOwned s = true) ∨ (∃ io ds k, s = .nst io ds ∧ k < ninn ds ∧ j = gix Γ.length i k) ∨ (Act Γ j ∧ j ≠ i ∧ ∀ k, j ≠ gix Γ.length i k) := by
  rcases h with ⟨s', h1, h2⟩ | ⟨i', io, ds, k, h1, h2, rfl⟩
  · by_cases hj : j = i
    · subst hj
      rw [List.getElem?_set_self hi] at h1
      cases h1
      exact .inl ⟨rfl, h2⟩
    · rw [List.getElem?_set_ne (Ne.symm hj)] at h1
      refine .inr (.inr ⟨.inl ⟨s', h1, h2⟩, hj, fun k e => ?_⟩)
      have := (List.getElem?_eq_some_iff.mp h1).1
      have := gix_ge (n := Γ.length) (i := i) (k := k)
      omega
  · rw [List.length_set]
    by_cases hj : i' = i
    · subst hj
      rw [List.getElem?_set_self hi] at h1
      cases h1
      exact .inr (.inl ⟨io, ds, k, rfl, h2, rfl⟩)
    · rw [List.getElem?_set_ne (Ne.symm hj)] at h1
      have hl := (List.getElem?_eq_some_iff.mp h1).1
      refine .inr (.inr ⟨.inr ⟨i', io, ds, k, h1, h2, rfl⟩, fun e => ?_, fun k' e => ?_⟩)
      · have := gix_ge (n := Γ.length) (i := i') (k := k); omega
      · exact hj (gix_inj hl hi e).1
structure Wd where
  K : PySem.W.Frag
  B : Hp
  F0 : Hp
  /-- the objects that were handed in to be changed, by slot -/
  R : Nat → Option Addr
  P : List Addr
  /-- objects that no name holds yet -/
  pins : List (Addr × HO)
  /-- how many slots there are -/
  n : Nat
abbrev Wd.pin (W : Wd) (a : Addr) (o : HO) : Wd := { W with pins := (a, o) :: W.pins }

/-- whose addresses those are -/
def OkR (W : Wd) (n i : Nat) (io : Bool) (a : Addr) (bs : List Addr) : Prop := if io = true then (W.R i = some a ∧ (∀ k : Nat, bs[k]? = W.R (gix n i k))) ∧ ∀ b ∈ a :: bs, b ∈ W.P else ∀ b ∈ a :: bs, b ∉ W.P ∧ W.B b = none
def SlOk (W : Wd) (F H : Hp) (n i : Nat) (r : Option Addr) (g : Nat → Option Addr) (x : Option (Option V)) : Sl → Prop
  | .un => r = none
  | .val d => ∃ v, x = some (some v) ∧ Rp W.K F d v ∧ ∀ a, r = some a → v = .ref a ∧ ∃ o, F a = some o
  | .own io d => ∃ a, r = some a ∧ x = some (some (.ref a)) ∧ OwnAt W.K F H a d ∧ F a = none ∧ (if io = true then W.R i = some a ∧ a ∈ W.P else a ∉ W.P ∧ W.B a = none)
  | .nst io ds => ∃ a bs, r = some a ∧ x = some (some (.ref a)) ∧ NstAt W.K F H a bs ds ∧ F a = none ∧ (∀ (k : Nat) (b : Addr), bs[k]? = some b → g k = some b) ∧ OkR W n i io a bs

def noTup (o : HO) : Prop := ∀ vs, o ≠ .tup vs
/-- what is known of the tuples: those that stood at the start are frozen -/
structure Ext (W : Wd) (H : Hp) : Prop where
  tb : ∀ a vs, W.B a = some (.tup vs) → W.F0 a = some (.tup vs)
  pnt : ∀ a ∈ W.P, ∃ o, H a = some o ∧ noTup o
  ptn : ∀ p ∈ W.pins, noTup p.2
theorem Ext.up {W : Wd} {H H' : Hp} (E : Ext W H) (h : ∀ a ∈ W.P, ∀ o, H a = some o → noTup o → ∃ o', H' a = some o' ∧ noTup o') : Ext W H' :=
  ⟨E.tb, fun a ha => let ⟨o, e, n⟩ := E.pnt a ha; h a ha o e n, E.ptn⟩
theorem Ext.grow {W : Wd} {H H' : Hp} (E : Ext W H) (k : Same H H') : Ext W H' := E.up fun a _ o e n => ⟨o, k _ _ e, n⟩
/-- the state: F what is never written any more, ρ the addresses of the owned objects -/
structure Sim (W : Wd) (F H : Hp) (ρ : Nat → Option Addr) (σ : L2.St) (Γ : Gm) : Prop where
  sub : Same F H
  new : ∀ a o, F a = some o → W.F0 a = some o ∨ W.B a = none
  keep : ∀ a o, W.B a = some o → a ∉ W.P → H a = some o
  pal : ∀ a ∈ W.P, ∃ o, H a = some o
  ro : ∀ i a, ρ i = some a → ∃ o, H a = some o
  len : σ.length = Γ.length
  gl : Γ.length = W.n
  slot : ∀ i s, Γ[i]? = some s → SlOk W F H Γ.length i (ρ i) (fun k => ρ (gix Γ.length i k)) σ[i]? s
  one : ∀ i j a, Act Γ i → ρ i = some a → ρ j = some a → i = j
  pin : ∀ p ∈ W.pins, H p.1 = some p.2 ∧ F p.1 = none ∧ ∀ i, ρ i ≠ some p.1
  ext : Ext W H
theorem Sim.inj {W : Wd} {F H : Hp} {ρ : Nat → Option Addr} {σ : L2.St} {Γ : Gm} (S : Sim W F H ρ σ Γ) (i j : Nat) (a : Addr) (io jo : Bool) (d e : D) (h1 : Γ[i]? = some (.own io d)) (_ : Γ[j]? = some (.own jo e)) (h3 : ρ i = some a) (h4 : ρ j = some a) : i = j := S.one i j a (Act.own h1) h3 h4

section
variable {W : Wd} {F F' H H' : Hp} {ρ : Nat → Option Addr} {σ : L2.St} {Γ : Gm} {p : Addr} {o : HO} {i : Nat}
theorem same_upd {H : Hp} {p : Addr} {o : HO} (h : H p = none) : Same H (upd H p o) := fun b x e => by
  rw [upd_ne (ne_of_none e h)]; exact e
theorem SlOk.mono {n : Nat} {r : Option Addr} {g : Nat → Option Addr} {x : Option (Option V)} {s : Sl} (q : SlOk W F H n i r g x s) (h : Same F F') (e : ∀ a, (r = some a ∨ ∃ k, g k = some a) → ∀ o, H a = some o → H' a = some o) (hf : ∀ a, (r = some a ∨ ∃ k, g k = some a) → F a = none → F' a = none) : SlOk W F' H' n i r g x s := by
  cases s with
  | un => exact q
  | val d =>
    obtain ⟨v, e1, e2, e3⟩ := q
    exact ⟨v, e1, Rp.mono h d v e2, fun a ea => ⟨(e3 a ea).1, let ⟨o, eo⟩ := (e3 a ea).2; ⟨o, h _ _ eo⟩⟩⟩
  | own io d =>
    obtain ⟨a, e1, e2, e3, e4, e5⟩ := q
    exact ⟨a, e1, e2, e3.mono h (e a (.inl e1)), hf a (.inl e1) e4, e5⟩
  | nst io ds =>
    obtain ⟨a, bs, e1, e2, e3, e4, e5, e6⟩ := q
    have gk : ∀ b ∈ bs, ∃ k, g k = some b := fun b hb => by
      obtain ⟨k, hk, rfl⟩ := List.getElem_of_mem hb
      exact ⟨k, e5 k _ (List.getElem?_eq_getElem hk)⟩
    refine ⟨a, bs, e1, e2, e3.mono h (fun b hb => ?_) (fun b hb => hf b (.inr (gk b hb))), hf a (.inl e1) e4, e5, e6⟩
    rcases List.mem_cons.mp hb with rfl | hb
    · exact e _ (.inl e1)
    · exact e b (.inr (gk b hb))
theorem Sim.rho (S : Sim W F H ρ σ Γ) (i : Nat) (a : Addr) (e : ρ i = some a) : ∃ o, H a = some o := S.ro i a e
/-- a new object stands at p -/
structure New (W : Wd) (F H : Hp) (ρ : Nat → Option Addr) (p : Addr) : Prop where
  f : F p = none
  b : W.B p = none
  np : p ∉ W.P
  r : ∀ i, ρ i ≠ some p
  n : ∀ q ∈ W.pins, q.1 ≠ p
theorem Sim.fresh (S : Sim W F H ρ σ Γ) (h : H p = none) : New W F H ρ p := by
  refine ⟨S.sub.free h, ?_, ?_, ?_, ?_⟩
  · cases q : W.B p with
    | none => rfl
    | some o =>
      by_cases hp : p ∈ W.P
      · obtain ⟨o, e⟩ := S.pal p hp; rw [h] at e; cases e
      · have := S.keep p o q hp; rw [h] at this; cases this
  · intro hp; obtain ⟨o, e⟩ := S.pal p hp; rw [h] at e; cases e
  · intro i e; obtain ⟨o, e⟩ := S.rho i p e; rw [h] at e; cases e
  · intro q hq e; have := (S.pin q hq).1; rw [e, h] at this; cases this
theorem Sim.grow (S : Sim W F H ρ σ Γ) (k : Same H H') : Sim W F H' ρ σ Γ :=
  ⟨S.sub.trans k, S.new, fun a o e h => k _ _ (S.keep a o e h), fun a h => let ⟨o, e⟩ := S.pal a h; ⟨o, k _ _ e⟩, fun i a e => let ⟨o, q⟩ := S.ro i a e; ⟨o, k _ _ q⟩, S.len, S.gl,
    fun i s e => (S.slot i s e).mono (Same.refl F) (fun _ _ _ q => k _ _ q) fun _ _ q => q, S.one, fun p hp => let ⟨a, b, c⟩ := S.pin p hp; ⟨k _ _ a, b, c⟩, S.ext.grow k⟩
theorem Sim.alloc (S : Sim W F H ρ σ Γ) (h : H p = none) : Sim W F (upd H p o) ρ σ Γ := S.grow (same_upd h)
/-- what stands at p is frozen -/
theorem Sim.frz (S : Sim W F H ρ σ Γ) (e : H p = some o) (N : New W F H ρ p) : Same F (upd F p o) ∧ Sim W (upd F p o) H ρ σ Γ := by
  have k : Same F (upd F p o) := same_upd N.f
  refine ⟨k, fun b x q => ?_, fun b x q => ?_, S.keep, S.pal, S.ro, S.len, S.gl, fun i s q => (S.slot i s q).mono k (fun _ _ _ q => q) fun a ea q => ?_, S.one, fun q hq => ?_, S.ext⟩
  · by_cases hb : b = p
    · subst hb; rw [upd_same] at q; cases q; exact e
    · rw [upd_ne hb] at q; exact S.sub _ _ q
  · by_cases hb : b = p
    · subst hb; exact .inr N.b
    · rw [upd_ne hb] at q; exact S.new _ _ q
  · rw [upd_ne fun z => ?_]
    · exact q
    · rcases ea with ea | ⟨k, ea⟩
      · exact N.r _ (by rw [ea, z])
      · exact N.r _ (by rw [ea, z])
  · obtain ⟨a, b, c⟩ := S.pin q hq
    exact ⟨a, by rw [upd_ne (N.n q hq)]; exact b, c⟩
theorem New.up (N : New W F H ρ p) : New W F (upd H p o) ρ p := ⟨N.f, N.b, N.np, N.r, N.n⟩
/-- a new frozen object -/
theorem Sim.allocF (S : Sim W F H ρ σ Γ) (h : H p = none) : Same F (upd F p o) ∧ Sim W (upd F p o) (upd H p o) ρ σ Γ :=
  (S.alloc (o := o) h).frz upd_same (S.fresh h).up
/-- an object is held meanwhile -/
theorem Sim.hold (S : Sim W F H ρ σ Γ) (e : H p = some o) (N : New W F H ρ p) (nt : noTup o := by intro _ h; cases h) : Sim (W.pin p o) F H ρ σ Γ :=
  ⟨S.sub, S.new, S.keep, S.pal, S.ro, S.len, S.gl, S.slot, S.one, fun q hq => by
    rcases List.mem_cons.mp hq with rfl | hq
    · exact ⟨e, N.f, N.r⟩
    · exact S.pin q hq,
   ⟨S.ext.tb, S.ext.pnt, fun q hq => by
    rcases List.mem_cons.mp hq with rfl | hq
    · exact nt
    · exact S.ext.ptn q hq⟩⟩
theorem Sim.unhold (S : Sim (W.pin p o) F H ρ σ Γ) : Sim W F H ρ σ Γ ∧ H p = some o ∧ F p = none ∧ ∀ i, ρ i ≠ some p :=
  ⟨⟨S.sub, S.new, S.keep, S.pal, S.ro, S.len, S.gl, S.slot, S.one, fun q hq => S.pin q (List.mem_cons_of_mem _ hq), ⟨S.ext.tb, S.ext.pnt, fun q hq => S.ext.ptn q (List.mem_cons_of_mem _ hq)⟩⟩, S.pin (p, o) List.mem_cons_self⟩
end

/-! ### what an expression gives -/
inductive EV where
  | imm (d : D) | fr (d : D) | frn (ds : List D) | bor (i : Nat) | inn (i k : Nat) | tl (es : List EV) | tt (es : List EV)
mutual
def RpE (W : Wd) (F H : Hp) (ρ : Nat → Option Addr) : EV → V → Prop
  | .imm d, v => Rp W.K F d v
  | .fr d, v => ∃ a, v = .ref a ∧ OwnAt W.K F H a d ∧ New W F H ρ a
  | .frn ds, v => ∃ a bs, v = .ref a ∧ NstAt W.K F H a bs ds ∧ F a = none ∧ ∀ b ∈ a :: bs, New W F H ρ b
  | .bor i, v => ∃ a, ρ i = some a ∧ v = .ref a
  | .inn i k, v => ∃ b, ρ (gix W.n i k) = some b ∧ v = .ref b
  | .tl es, v => ∃ a vs, v = .ref a ∧ F a = some (.lst vs) ∧ RpEs W F H ρ es vs
  | .tt es, v => ∃ a vs, v = .ref a ∧ F a = some (.tup vs) ∧ RpEs W F H ρ es vs
def RpEs (W : Wd) (F H : Hp) (ρ : Nat → Option Addr) : List EV → List V → Prop
  | [], vs => vs = []
  | e :: es, vs => ∃ v r, vs = v :: r ∧ RpE W F H ρ e v ∧ RpEs W F H ρ es r
end
/-- no fresh object of its own within -/
def EV.fz : EV → EV
  | .fr d => .imm d
  | e => e
mutual
def EV.ok : EV → Bool
  | .imm _ => true
  | .fr _ => false
  | .frn _ => false
  | .bor _ => true
  | .inn _ _ => true
  | .tl es => EV.oks es
  | .tt es => EV.oks es
def EV.oks : List EV → Bool
  | [] => true
  | e :: es => e.ok && EV.oks es
end
mutual
theorem RpE.mono {W : Wd} {F F' H H' : Hp} {ρ : Nat → Option Addr} (h : Same F F') : ∀ (e : EV) (v : V), e.ok = true → RpE W F H ρ e v → RpE W F' H' ρ e v
  | .imm d, v, _, q => by unfold RpE at q ⊢; exact Rp.mono h d v q
  | .fr _, _, k, _ => by simp [EV.ok] at k
  | .frn _, _, k, _ => by simp [EV.ok] at k
  | .bor i, v, _, q => by unfold RpE at q ⊢; exact q
  | .inn i k, v, _, q => by unfold RpE at q ⊢; exact q
  | .tl es, v, k, q => by
    unfold RpE at q ⊢
    unfold EV.ok at k
    obtain ⟨a, vs, e, x, r⟩ := q
    exact ⟨a, vs, e, h _ _ x, RpEs.mono h es vs k r⟩
  | .tt es, v, k, q => by
    unfold RpE at q ⊢
    unfold EV.ok at k
    obtain ⟨a, vs, e, x, r⟩ := q
    exact ⟨a, vs, e, h _ _ x, RpEs.mono h es vs k r⟩
theorem RpEs.mono {W : Wd} {F F' H H' : Hp} {ρ : Nat → Option Addr} (h : Same F F') : ∀ (es : List EV) (vs : List V), EV.oks es = true → RpEs W F H ρ es vs → RpEs W F' H' ρ es vs
  | [], _, _, q => by unfold RpEs at q ⊢; exact q
  | e :: es, vs, k, q => by
    unfold RpEs at q ⊢
    unfold EV.oks at k
    rw [Bool.and_eq_true] at k
    obtain ⟨v, r, x, a, b⟩ := q
    exact ⟨v, r, x, RpE.mono h e v k.1 a, RpEs.mono h es r k.2 b⟩
end

/-! ### results -/
inductive ERes where
  | ok (e : EV) (Γ : Gm)
  | stuck
def ERes.bind (r : ERes) (k : EV → Gm → ERes) : ERes :=
  match r with
  | .ok e Γ => k e.fz Γ
  | .stuck => .stuck
@[simp] theorem ERes.bind_ok (e : EV) (Γ : Gm) (k : EV → Gm → ERes) : ERes.bind (.ok e Γ) k = k e.fz Γ := rfl
@[simp] theorem fz_imm (d : D) : (EV.imm d).fz = .imm d := rfl
@[simp] theorem fz_fr (d : D) : (EV.fr d).fz = .imm d := rfl
@[simp] theorem fz_frn (ds : List D) : (EV.frn ds).fz = .frn ds := rfl
@[simp] theorem fz_bor (i : Nat) : (EV.bor i).fz = .bor i := rfl
@[simp] theorem fz_inn (i k : Nat) : (EV.inn i k).fz = .inn i k := rfl
@[simp] theorem fz_tl (es : List EV) : (EV.tl es).fz = .tl es := rfl
@[simp] theorem fz_tt (es : List EV) : (EV.tt es).fz = .tt es := rfl

abbrev EM := Gm → ERes
/-- the transformer of a data meaning -/
def tE (K : PySem.W.Frag) (f : EM) : TE := fun σ H Q => ∃ (W : Wd) (F : Hp) (ρ : Nat → Option Addr) (Γ : Gm), W.K = K ∧ Sim W F H ρ σ Γ ∧ ∃ e Γ', f Γ = .ok e Γ' ∧ e.fz.ok = true ∧
  ∀ v F' H', Same F F' → Sim W F' H' ρ σ Γ' → RpE W F' H' ρ e v → Q v H'
def DE (X : Cx) (e : Expr) (f : EM) : Prop := PE X e (tE X.K f)
theorem pe_imp {X : Cx} {e : Expr} {t t' : TE} (h : PE X e t) (i : ∀ σ H Q, t' σ H Q → t σ H Q) : PE X e t' := ⟨fun pins s σ H Q I q => h.run pins s σ H Q I (i σ H Q q)⟩
theorem own_ho {K : PySem.W.Frag} {F H : Hp} {a : Addr} {d : D} (o : OwnAt K F H a d) : ∃ u, H a = some u ∧ ∀ F', F' a = some u → Same F F' → Rp K F' d (.ref a) := by
  unfold OwnAt at o
  split at o
  · obtain ⟨vs, x, r⟩ := o
    refine ⟨_, x, fun F' e k => ?_⟩
    unfold Rp
    exact ⟨a, vs, rfl, e, RpL.mono k _ _ r⟩
  · obtain ⟨vs, x, r, l⟩ := o
    refine ⟨_, x, fun F' e k => ?_⟩
    unfold Rp
    exact ⟨a, vs, rfl, e, RpL.mono k _ _ r, l⟩
  · obtain ⟨vs, x, r, l⟩ := o
    refine ⟨_, x, fun F' e k => ?_⟩
    unfold Rp
    exact ⟨a, vs, rfl, e, RpL.mono k _ _ r, l⟩
  · exact o.elim
/-- a fresh object may be frozen -/
theorem cont_fz {W : Wd} {F F' H' : Hp} {ρ : Nat → Option Addr} {σ : L2.St} {Γ' : Gm} {e : EV} {v : V} {P : Prop} (hF : Same F F') (S : Sim W F' H' ρ σ Γ') (r : RpE W F' H' ρ e v)
    (k : ∀ F'', Same F F'' → Sim W F'' H' ρ σ Γ' → RpE W F'' H' ρ e.fz v → P) : P := by
  cases e with
  | fr d =>
    unfold RpE at r
    obtain ⟨a, rfl, o, N⟩ := r
    obtain ⟨u, hu, hr⟩ := own_ho o
    obtain ⟨k1, S1⟩ := S.frz hu N
    refine k _ (hF.trans k1) S1 ?_
    show RpE W _ H' ρ (.imm d) _
    unfold RpE
    exact hr _ upd_same k1
  | imm d => exact k F' hF S r
  | frn ds => exact k F' hF S r
  | bor i => exact k F' hF S r
  | inn i j => exact k F' hF S r
  | tl es => exact k F' hF S r
  | tt es => exact k F' hF S r
end DL

namespace DL
open PySem PySem.Spec PyProof.Rows L2

/-! ### strings -/
theorem mkS_len (s : List Nat) : (mkS s).length = s.length := by simp [mkS, Str.length]
theorem mkS_cps (s : List Nat) : (mkS s).cps.toList = s := by simp [mkS]
theorem mkS_inj {s t : List Nat} (h : mkS s = mkS t) : s = t := by
  have := congrArg (fun z : Str => z.cps.toList) h
  simpa [mkS] using this
theorem mkS_app (s t : List Nat) : mkS s ++ mkS t = mkS (s ++ t) := by
  show Str.append _ _ = _
  simp [Str.append, mkS]
theorem okS_app {s t : List Nat} (h : okS s) (h' : okS t) (l : s.length + t.length ≤ sizeLine) : okS (s ++ t) :=
  ⟨by rw [List.length_append]; exact l, fun c hc => (List.mem_append.mp hc).elim (h.2 c) (h'.2 c)⟩
theorem okS_sub {s t : List Nat} (h : okS s) (l : t.length ≤ s.length) (m : ∀ c ∈ t, c ∈ s) : okS t := ⟨Nat.le_trans l h.1, fun c hc => h.2 c (m c hc)⟩
theorem okS_one {s : List Nat} {c : Nat} (h : okS s) (m : c ∈ s) : okS [c] := ⟨by show 1 ≤ sizeLine; rw [sizeLine_eq]; decide, fun d hd => by
  have : d = c := by simpa using hd
  subst this; exact h.2 d m⟩

/-! ### what may be read of a value -/
def slotD (Γ : Gm) (i : Nat) : Option D :=
  match Γ[i]? with
  | some (.val d) => some d
  | some (.own _ d) => some d
  | _ => none
/-- what the list in slot i owns k-th -/
def nstD (Γ : Gm) (i k : Nat) : Option D :=
  match Γ[i]? with
  | some (.nst _ ds) => (ds.filter isInn)[k]?
  | _ => none
def eGet (Γ : Gm) : EV → Option D
  | .imm d => some d
  | .bor i => slotD Γ i
  | .inn i k => nstD Γ i k
  | _ => none
@[simp] theorem eGet_imm (Γ : Gm) (d : D) : eGet Γ (.imm d) = some d := rfl
@[simp] theorem eGet_bor (Γ : Gm) (i : Nat) : eGet Γ (.bor i) = slotD Γ i := rfl
@[simp] theorem eGet_inn (Γ : Gm) (i k : Nat) : eGet Γ (.inn i k) = nstD Γ i k := rfl
/-- the value as it stands in the heap, what is within it frozen -/
def RdV (K : PySem.W.Frag) (F H : Hp) : D → V → Prop
  | .lst ds, v => ∃ a vs, v = .ref a ∧ H a = some (.lst vs) ∧ RpL K F ds vs
  | .dic ks ds, v => ∃ a vs, v = .ref a ∧ H a = some (.dK (ks.zip vs)) ∧ RpL K F ds vs ∧ ks.length = ds.length
  | .dct ks ds, v => ∃ a vs, v = .ref a ∧ H a = some (.dT (ks.zip vs)) ∧ RpL K F ds vs ∧ ks.length = ds.length
  | .lkd ks ds, v => ∃ a vs o, v = .ref a ∧ H a = some (.frz o (.dK (ks.zip vs))) ∧ RpL K F ds vs ∧ ks.length = ds.length
  | .lkt ks ds, v => ∃ a vs o, v = .ref a ∧ H a = some (.frz o (.dT (ks.zip vs))) ∧ RpL K F ds vs ∧ ks.length = ds.length
  | d, v => Rp K F d v
theorem rd_of {K : PySem.W.Frag} {F H : Hp} {d : D} {v : V} (h : Rp K F d v) (s : Same F H) : RdV K F H d v := by
  cases d with
  | lst ds =>
    unfold Rp at h
    obtain ⟨a, vs, e, x, r⟩ := h
    exact ⟨a, vs, e, s _ _ x, r⟩
  | dic ks ds =>
    unfold Rp at h
    obtain ⟨a, vs, e, x, r⟩ := h
    exact ⟨a, vs, e, s _ _ x, r⟩
  | dct ks ds =>
    unfold Rp at h
    obtain ⟨a, vs, e, x, r⟩ := h
    exact ⟨a, vs, e, s _ _ x, r⟩
  | lkd ks ds =>
    unfold Rp at h
    obtain ⟨a, vs, o, e, x, r⟩ := h
    exact ⟨a, vs, o, e, s _ _ x, r⟩
  | lkt ks ds =>
    unfold Rp at h
    obtain ⟨a, vs, o, e, x, r⟩ := h
    exact ⟨a, vs, o, e, s _ _ x, r⟩
  | tup ds => exact h
  | frl ds => exact h
  | non => exact h
  | bl b => exact h
  | int i => exact h
  | str z => exact h
section
variable {W : Wd} {F F' H H' : Hp} {ρ : Nat → Option Addr} {σ : L2.St} {Γ : Gm} {p : Addr} {o : HO}
theorem NstL.inn_at {K : PySem.W.Frag} {F H : Hp} {ds : List D} {vs : List V} {bs : List Addr} (n : NstL K F H ds vs bs) : ∀ {k : Nat} {d : D}, (ds.filter isInn)[k]? = some d → ∃ b, bs[k]? = some b ∧ OwnAt K F H b d ∧ F b = none := by
  induction n with
  | nil => intro k d h; simp at h
  | pl h1 _ _ ih => intro k d h; rw [List.filter_cons_of_neg (by rw [h1]; decide)] at h; exact ih h
  | @inn d0 b ds vs bs h1 h2 h3 _ ih =>
    intro k d h
    rw [List.filter_cons_of_pos h1] at h
    cases k with
    | zero => cases h; exact ⟨b, rfl, h2, h3⟩
    | succ k => obtain ⟨c, h4, h5⟩ := ih (by simpa using h); exact ⟨c, by simpa using h4, h5⟩
theorem Sim.nstk (S : Sim W F H ρ σ Γ) {i k : Nat} {d : D} (h : nstD Γ i k = some d) : ∃ b, ρ (gix W.n i k) = some b ∧ OwnAt W.K F H b d ∧ F b = none := by
  unfold nstD at h
  split at h
  · rename_i io ds hs
    obtain ⟨a, bs, e1, e2, ⟨vs, n1, n2, n3⟩, e4, e5, e6⟩ := S.slot i _ hs
    obtain ⟨b, hb, ho, hf⟩ := n2.inn_at h
    exact ⟨b, by rw [← S.gl]; exact e5 k b hb, ho, hf⟩
  · cases h
theorem rd_own {K : PySem.W.Frag} {F H : Hp} {a : Addr} {d : D} (o : OwnAt K F H a d) : RdV K F H d (.ref a) := by
  unfold OwnAt at o
  split at o
  · obtain ⟨vs, x, q⟩ := o
    exact ⟨a, vs, rfl, x, q⟩
  · obtain ⟨vs, x, q⟩ := o
    exact ⟨a, vs, rfl, x, q⟩
  · obtain ⟨vs, x, q⟩ := o
    exact ⟨a, vs, rfl, x, q⟩
  · exact o.elim
theorem rd_get (S : Sim W F H ρ σ Γ) {e : EV} {v : V} {d : D} (r : RpE W F H ρ e v) (g : eGet Γ e = some d) : RdV W.K F H d v := by
  cases e with
  | imm d' =>
    unfold RpE at r
    have : d' = d := by simpa using g
    subst this
    exact rd_of r S.sub
  | fr d' => cases g
  | frn ds => cases g
  | tl es => cases g
  | tt es => cases g
  | inn i k =>
    unfold RpE at r
    obtain ⟨a, ea, rfl⟩ := r
    obtain ⟨b, eb, ho, _⟩ := S.nstk (by rw [← eGet_inn]; exact g)
    rw [ea] at eb; cases eb
    exact rd_own ho
  | bor i =>
    unfold RpE at r
    obtain ⟨a, ea, rfl⟩ := r
    rw [eGet_bor] at g
    unfold slotD at g
    split at g
    · rename_i d' hs
      have : d' = d := by simpa using g
      subst this
      obtain ⟨v, e1, e2, e3⟩ := S.slot i _ hs
      rw [(e3 a ea).1] at e2
      exact rd_of e2 S.sub
    · rename_i io d' hs
      have : d' = d := by simpa using g
      subst this
      obtain ⟨a', e1, e2, e3, _⟩ := S.slot i _ hs
      rw [ea] at e1; cases e1
      unfold OwnAt at e3
      split at e3
      · obtain ⟨vs, x, q⟩ := e3
        exact ⟨a, vs, rfl, x, q⟩
      · obtain ⟨vs, x, q⟩ := e3
        exact ⟨a, vs, rfl, x, q⟩
      · obtain ⟨vs, x, q⟩ := e3
        exact ⟨a, vs, rfl, x, q⟩
      · exact e3.elim
    · cases g
theorem ok_get {Γ : Gm} {e : EV} {d : D} (g : eGet Γ e = some d) : e.ok = true := by
  cases e with
  | imm d' => rfl
  | bor i => rfl
  | inn i k => rfl
  | fr d' => cases g
  | frn ds => cases g
  | tl es => cases g
  | tt es => cases g
end

/-! ### names, constants -/
def eName (i : Nat) : EM := fun Γ =>
  match Γ[i]? with
  | some (.val d) => .ok (.imm d) Γ
  | some (.own _ _) => .ok (.bor i) Γ
  | some (.nst _ _) => .ok (.bor i) Γ
  | _ => .stuck
def eC (d : D) : EM := fun Γ => .ok (.imm d) Γ
section
variable {X : Cx} {pos : Pos}
theorem de_name {i : Nat} {x : Str} (hN : X.N[i]? = some x := by rfl) (hv : Vis X.env.scope x := by first | exact Or.inl rfl | exact Or.inr (Or.inl rfl) | exact Or.inr (Or.inr rfl)) (hd : (x == ("__debug__" : Str)) = false := by decide)
    (hcd : (x == ("__classdict__" : Str)) = false := by decide) : DE X (.Name x pos) (eName i) := by
  refine pe_imp (pe_var hN hv hd hcd) fun σ H Q h => ?_
  obtain ⟨W, F, ρ, Γ, eK, S, e, Γ', ef, ok, q⟩ := h
  unfold eName at ef
  split at ef
  · rename_i d hs
    cases ef
    obtain ⟨v, e1, e2, e3⟩ := S.slot i _ hs
    exact ⟨v, e1, q v F H (Same.refl F) S (by unfold RpE; exact e2)⟩
  · rename_i io d hs
    cases ef
    obtain ⟨a, e1, e2, e3, _⟩ := S.slot i _ hs
    exact ⟨.ref a, e2, q _ F H (Same.refl F) S (by unfold RpE; exact ⟨a, e1, rfl⟩)⟩
  · rename_i io ds hs
    cases ef
    obtain ⟨a, bs, e1, e2, e3, _⟩ := S.slot i _ hs
    exact ⟨.ref a, e2, q _ F H (Same.refl F) S (by unfold RpE; exact ⟨a, e1, rfl⟩)⟩
  · cases ef
theorem de_c {e : Expr} {v : V} {d : D} (h : PE X e (tC v)) (r : ∀ F, Rp X.K F d v) : DE X e (eC d) := by
  refine pe_imp h fun σ H Q h => ?_
  obtain ⟨W, F, ρ, Γ, eK, S, e, Γ', ef, ok, q⟩ := h
  cases ef
  exact q v F H (Same.refl F) S (by unfold RpE; rw [eK]; exact r F)
theorem de_int {i j} : DE X (.Constant (.int i) j pos) (eC (.int i)) := de_c pe_int fun F => by unfold Rp; rfl
theorem de_bl {b j} : DE X (.Constant (.bool b) j pos) (eC (.bl b)) := de_c pe_bl fun F => by unfold Rp; rfl
theorem de_non {j} : DE X (.Constant .none j pos) (eC .non) := de_c pe_non fun F => by unfold Rp; rfl
def okSb (l : List Nat) : Bool := decide (l.length ≤ 1000) && l.all (fun c => decide (c < 0x110000))
theorem okS_of {l : List Nat} (h : okSb l = true) : okS l := by
  unfold okSb at h
  rw [Bool.and_eq_true, List.all_eq_true] at h
  refine ⟨?_, fun c hc => of_decide_eq_true (h.2 c hc)⟩
  have := of_decide_eq_true h.1
  rw [sizeLine_eq]; omega
theorem de_str {x : Str} {j} (l : List Nat) (hx : x = mkS l := by decide +kernel) (hl : okSb l = true := by decide +kernel) : DE X (.Constant (.str x) j pos) (eC (.str l)) :=
  de_c pe_str fun F => by unfold Rp; exact ⟨by rw [hx], okS_of hl⟩
/-- a module's constant text -/
theorem de_gstr {x z : Str} {t : Tok} (l : List Nat) (hg : Gl X x) (hm : X.mg x = some (.str z t)) (hx : z = mkS l := by decide +kernel) (hl : okSb l = true := by decide +kernel) (hd : (x == ("__debug__" : Str)) = false := by decide) : DE X (.Name x pos) (eC (.str l)) :=
  de_c (pe_glob (v := .str z) hg hm ⟨_, rfl⟩ hd) fun F => by unfold Rp; exact ⟨by rw [hx], okS_of hl⟩

/-! ### one thing, then another -/
abbrev O1 := D → Option EV
abbrev O2 := D → D → Option EV
def ERes.of : Option EV → Gm → ERes
  | some e, Γ => .ok e Γ
  | none, _ => .stuck
@[simp] theorem ERes.of_some (e : EV) (Γ : Gm) : ERes.of (some e) Γ = .ok e Γ := rfl
def eUn (op : O1) (f : EM) : EM := fun Γ => (f Γ).bind fun e1 Γ1 => ERes.of ((eGet Γ1 e1).bind op) Γ1
def eBin (op : O2) (f g : EM) : EM := fun Γ => (f Γ).bind fun e1 Γ1 => (g Γ1).bind fun e2 Γ2 => ERes.of ((eGet Γ2 e1).bind fun x => (eGet Γ2 e2).bind fun y => op x y) Γ2
/-- what is wanted behind an operation by values -/
def Wish (W : Wd) (F : Hp) (ρ : Nat → Option Addr) (σ : L2.St) (Γ : Gm) (e : EV) (Q : VK) : Prop := ∀ v F' H', Same F F' → Sim W F' H' ρ σ Γ → RpE W F' H' ρ e v → Q v H'
def OpD (X : Cx) (r : R2) (op : O2) : Prop := ∀ (W : Wd) (F H : Hp) (ρ : Nat → Option Addr) (σ : L2.St) (Γ : Gm) (d1 d2 : D) (v1 v2 : V) (e : EV) (Q : VK), W.K = X.K → Sim W F H ρ σ Γ →
  RdV W.K F H d1 v1 → RdV W.K F H d2 v2 → op d1 d2 = some e → Wish W F ρ σ Γ e Q → r v1 v2 H Q
def UnD (X : Cx) (r : V → Hp → VK → Prop) (op : O1) : Prop := ∀ (W : Wd) (F H : Hp) (ρ : Nat → Option Addr) (σ : L2.St) (Γ : Gm) (d1 : D) (v1 : V) (e : EV) (Q : VK), W.K = X.K → Sim W F H ρ σ Γ →
  RdV W.K F H d1 v1 → op d1 = some e → Wish W F ρ σ Γ e Q → r v1 H Q
theorem bind_inv {r : ERes} {k : EV → Gm → ERes} {e : EV} {Γ : Gm} (h : r.bind k = .ok e Γ) : ∃ e1 Γ1, r = .ok e1 Γ1 ∧ k e1.fz Γ1 = .ok e Γ := by
  cases r with
  | ok e1 Γ1 => exact ⟨e1, Γ1, rfl, h⟩
  | stuck => cases h
theorem of_inv {o : Option EV} {Γ Γ' : Gm} {e : EV} (h : ERes.of o Γ = .ok e Γ') : o = some e ∧ Γ' = Γ := by
  cases o with
  | none => cases h
  | some x => cases h; exact ⟨rfl, rfl⟩
theorem obind_inv {α β : Type} {o : Option α} {k : α → Option β} {b : β} (h : o.bind k = some b) : ∃ a, o = some a ∧ k a = some b := by
  cases o with
  | none => cases h
  | some a => exact ⟨a, rfl, h⟩
variable {a b : Expr} {ta tb : TE} {f g : EM}
/-- the left operand is evaluated, then the rest -/
theorem tE_then {K : PySem.W.Frag} {σ : L2.St} {H : Hp} {Q : VK} {W : Wd} {F : Hp} {ρ : Nat → Option Addr} {Γ Γ1 : Gm} {e1 : EV} (eK : W.K = K) (S : Sim W F H ρ σ Γ) (ef : f Γ = .ok e1 Γ1) (ok : e1.fz.ok = true)
    (k : ∀ v F1 H1, Same F F1 → Sim W F1 H1 ρ σ Γ1 → RpE W F1 H1 ρ e1.fz v → Q v H1) : tE K f σ H Q :=
  ⟨W, F, ρ, Γ, eK, S, e1, Γ1, ef, ok, fun v F' H' hs S' r => cont_fz hs S' r fun F'' h1 h2 h3 => k v F'' H' h1 h2 h3⟩
theorem bin_core {X : Cx} {r : R2} {op : O2} {σ : L2.St} {H : Hp} {Q : VK} (hop : OpD X r op) (h : tE X.K (eBin op f g) σ H Q) : tE X.K f σ H (fun x H1 => tE X.K g σ H1 fun y H2 => r x y H2 Q) := by
  obtain ⟨W, F, ρ, Γ, eK, S, e, Γ', ef, ok, q⟩ := h
  obtain ⟨e1, Γ1, h1, ef⟩ := bind_inv ef
  obtain ⟨e2, Γ2, h2, ef⟩ := bind_inv ef
  obtain ⟨ef, rfl⟩ := of_inv ef
  obtain ⟨d1, g1, ef⟩ := obind_inv ef
  obtain ⟨d2, g2, ef⟩ := obind_inv ef
  refine tE_then eK S h1 (ok_get g1) fun v1 F1 H1 s1 S1 r1 => ?_
  refine tE_then eK S1 h2 (ok_get g2) fun v2 F2 H2 s2 S2 r2 => ?_
  refine hop W F2 H2 ρ σ Γ' d1 d2 v1 v2 e Q eK S2 (rd_get S2 (RpE.mono s2 _ _ (ok_get g1) r1) g1) (rd_get S2 r2 g2) ef fun v F' H' hs S' r' => ?_
  exact q v F' H' ((s1.trans s2).trans hs) S' r'
theorem de_bin {op : Operator} {r : R2} {o : O2} (ho : OpR X (binaryOp op) r) (hd : OpD X r o) (ha : DE X a f) (hb : DE X b g) : DE X (.BinOp a op b pos) (eBin o f g) :=
  pe_imp (pe_op ho ha hb) fun _ _ _ h => bin_core hd h
theorem de_cmp {op : CmpOp} {r : R2} {o : O2} (ho : OpR X (compareOp op) r) (hd : OpD X r o) (ha : DE X a f) (hb : DE X b g) (hm : behindInMarks op b = false := by with_unfolding_all rfl) : DE X (.Compare a [op] [b] pos) (eBin o f g) :=
  pe_imp (pe_cmpR ho ha hb hm) fun _ _ _ h => bin_core hd h
theorem de_ix {r : R2} {o : O2} (ho : IxR X r) (hd : OpD X r o) (ha : DE X a f) (hb : DE X b g) (hs : PlainIx b := by exact fun _ _ => rfl) : DE X (.Subscript a b pos) (eBin o f g) :=
  pe_imp (pe_ix ho ha hb hs) fun _ _ _ h => bin_core hd h
theorem un_core {X : Cx} {r : V → Hp → VK → Prop} {op : O1} {σ : L2.St} {H : Hp} {Q : VK} (hop : UnD X r op) (h : tE X.K (eUn op f) σ H Q) : tE X.K f σ H (fun x H1 => r x H1 Q) := by
  obtain ⟨W, F, ρ, Γ, eK, S, e, Γ', ef, ok, q⟩ := h
  obtain ⟨e1, Γ1, h1, ef⟩ := bind_inv ef
  obtain ⟨ef, rfl⟩ := of_inv ef
  obtain ⟨d1, g1, ef⟩ := obind_inv ef
  refine tE_then eK S h1 (ok_get g1) fun v1 F1 H1 s1 S1 r1 => ?_
  exact hop W F1 H1 ρ σ Γ' d1 v1 e Q eK S1 (rd_get S1 r1 g1) ef fun v F' H' hs S' r' => q v F' H' (s1.trans hs) S' r'
theorem de_un {op : UnaryOp} {r : V → Hp → VK → Prop} {o : O1} (ho : UnR X (unaryOp op) r) (hd : UnD X r o) (ha : DE X a f) : DE X (.UnaryOp op a pos) (eUn o f) :=
  pe_imp (pe_un ho ha) fun _ _ _ h => un_core hd h
/-- a wish of a frozen or plain value, the heap as it is -/
theorem Wish.here {W : Wd} {F H : Hp} {ρ : Nat → Option Addr} {σ : L2.St} {Γ : Gm} {d : D} {v : V} {Q : VK} (w : Wish W F ρ σ Γ (.imm d) Q) (S : Sim W F H ρ σ Γ) (r : Rp W.K F d v) : Q v H :=
  w v F H (Same.refl F) S (by unfold RpE; exact r)
/-- .. of a new list -/
theorem Wish.newl {W : Wd} {F H : Hp} {ρ : Nat → Option Addr} {σ : L2.St} {Γ : Gm} {ds : List D} {vs : List V} {p : Addr} {Q : VK} (w : Wish W F ρ σ Γ (.fr (.lst ds)) Q) (S : Sim W F H ρ σ Γ) (hp : H p = none) (r : RpL W.K F ds vs) : Q (.ref p) (upd H p (.lst vs)) := by
  refine w (.ref p) F _ (Same.refl F) (S.alloc hp) ?_
  unfold RpE
  exact ⟨p, rfl, ⟨vs, upd_same, r⟩, (S.fresh hp).up⟩
/-- .. of a new tuple -/
theorem Wish.newt {W : Wd} {F H : Hp} {ρ : Nat → Option Addr} {σ : L2.St} {Γ : Gm} {ds : List D} {vs : List V} {p : Addr} {Q : VK} (w : Wish W F ρ σ Γ (.imm (.tup ds)) Q) (S : Sim W F H ρ σ Γ) (hp : H p = none) (r : RpL W.K F ds vs) : Q (.ref p) (upd H p (.tup vs)) := by
  obtain ⟨k, S1⟩ := S.allocF (o := .tup vs) hp
  refine w (.ref p) _ _ k S1 ?_
  unfold RpE Rp
  exact ⟨p, vs, rfl, upd_same, RpL.mono k _ _ r⟩

/-! ### tests -/
def tT (K : PySem.W.Frag) (f : EM) : TT := fun σ H Q => ∃ (W : Wd) (F : Hp) (ρ : Nat → Option Addr) (Γ : Gm), W.K = K ∧ Sim W F H ρ σ Γ ∧ ∃ e b Γ', f Γ = .ok e Γ' ∧ e.fz = .imm (.bl b) ∧ ∀ F' H', Same F F' → Sim W F' H' ρ σ Γ' → Q b H'
def DT (X : Cx) (e : Expr) (f : EM) : Prop := PT X e (tT X.K f)
def DW (X : Cx) (e : Expr) (f : EM) : Prop := PW X e (tT X.K f)
theorem pt_imp {e : Expr} {t t' : TT} (h : PT X e t) (i : ∀ σ H Q, t' σ H Q → t σ H Q) : PT X e t' := ⟨fun pins s σ H Q I q => h.run pins s σ H Q I (i σ H Q q)⟩
theorem pw_imp {e : Expr} {t t' : TT} (h : PW X e t) (i : ∀ σ H Q, t' σ H Q → t σ H Q) : PW X e t' := ⟨fun wh pins s σ H Q I q => h.run wh pins s σ H Q I (i σ H Q q)⟩
/-- a value that is a bool, then the rest -/
theorem tE_bool {K : PySem.W.Frag} {σ : L2.St} {H : Hp} {Q : VK} {W : Wd} {F : Hp} {ρ : Nat → Option Addr} {Γ Γ1 : Gm} {e1 : EV} {b : Bool} (eK : W.K = K) (S : Sim W F H ρ σ Γ) (ef : f Γ = .ok e1 Γ1) (hb : e1.fz = .imm (.bl b))
    (k : ∀ F1 H1, Same F F1 → Sim W F1 H1 ρ σ Γ1 → Q (.bl b) H1) : tE K f σ H Q :=
  tE_then eK S ef (by rw [hb]; rfl) fun v F1 H1 s1 S1 r => by
    rw [hb] at r
    unfold RpE Rp at r
    rw [r]
    exact k F1 H1 s1 S1
theorem tT_bool {K : PySem.W.Frag} {σ : L2.St} {H : Hp} {Q : Bool → Hp → Prop} {W : Wd} {F : Hp} {ρ : Nat → Option Addr} {Γ Γ1 : Gm} {e1 : EV} {b : Bool} (eK : W.K = K) (S : Sim W F H ρ σ Γ) (ef : f Γ = .ok e1 Γ1) (hb : e1.fz = .imm (.bl b))
    (k : ∀ F1 H1, Same F F1 → Sim W F1 H1 ρ σ Γ1 → Q b H1) : tT K f σ H Q := ⟨W, F, ρ, Γ, eK, S, e1, b, Γ1, ef, hb, k⟩
theorem dt_val {e : Expr} (h : DE X e f) (he : ∀ whole, isTrue e X.env whole = (do let v ← whole; standAt e.pos; holding [v] (truthy v)) := by intro _; rfl) : DT X e f :=
  pt_imp (pt_val h he) fun _ _ _ ⟨W, F, ρ, Γ, eK, S, e1, b, Γ', ef, hb, q⟩ => tE_bool eK S ef hb fun F1 H1 s1 S1 => ⟨b, rfl, q F1 H1 s1 S1⟩
theorem DW.pt {e : Expr} (h : DW X e f) : DT X e f := PW.pt h
/-- by a truth -/
def byB (e : EV) (k1 k2 : ERes) : ERes :=
  match e with
  | .imm (.bl true) => k1
  | .imm (.bl false) => k2
  | _ => .stuck
@[simp] theorem byB_t (k1 k2 : ERes) : byB (.imm (.bl true)) k1 k2 = k1 := rfl
@[simp] theorem byB_f (k1 k2 : ERes) : byB (.imm (.bl false)) k1 k2 = k2 := rfl
theorem byB_if (b : Bool) (k1 k2 : ERes) : byB (.imm (.bl b)) k1 k2 = if b = true then k1 else k2 := by cases b <;> rfl
theorem byB_inv {e1 : EV} {k1 k2 : ERes} {e : EV} {Γ' : Gm} (h : byB e1 k1 k2 = .ok e Γ') : ∃ b, e1 = .imm (.bl b) ∧ (if b = true then k1 else k2) = .ok e Γ' := by
  unfold byB at h
  split at h
  · exact ⟨true, rfl, h⟩
  · exact ⟨false, rfl, h⟩
  · cases h
def eAnd (f g : EM) : EM := fun Γ => (f Γ).bind fun e1 Γ1 => byB e1 (g Γ1) (.ok (.imm (.bl false)) Γ1)
def eOr (f g : EM) : EM := fun Γ => (f Γ).bind fun e1 Γ1 => byB e1 (.ok (.imm (.bl true)) Γ1) (g Γ1)
def eNot (f : EM) : EM := fun Γ => (f Γ).bind fun e1 Γ1 => byB e1 (.ok (.imm (.bl false)) Γ1) (.ok (.imm (.bl true)) Γ1)
def eIf (c f g : EM) : EM := fun Γ => (c Γ).bind fun e1 Γ1 => byB e1 (f Γ1) (g Γ1)
variable {c : Expr} {h : EM} {rest : List Expr}
theorem de_and1 {op} (ha : DE X a f) : DE X (.BoolOp op [a] pos) f := pe_one ha
theorem de_and (ha : DE X a f) (hb : DE X (.BoolOp .And (b :: rest) pos) g) : DE X (.BoolOp .And (a :: b :: rest) pos) (eAnd f g) :=
  pe_imp (pe_and ha hb) fun _ _ _ ⟨W, F, ρ, Γ, eK, S, e, Γ', ef, ok, q⟩ => by
    obtain ⟨e1, Γ1, h1, ef⟩ := bind_inv ef
    obtain ⟨b, hb, ef⟩ := byB_inv ef
    refine tE_bool eK S h1 hb fun F1 H1 s1 S1 => ⟨b, rfl, ?_⟩
    cases b with
    | true => exact ⟨W, F1, ρ, Γ1, eK, S1, e, Γ', ef, ok, fun v F' H' hs S' r => q v F' H' (s1.trans hs) S' r⟩
    | false =>
      cases ef
      exact q _ F1 H1 s1 S1 (by unfold RpE Rp; rfl)
theorem de_or (ha : DE X a f) (hb : DE X (.BoolOp .Or (b :: rest) pos) g) : DE X (.BoolOp .Or (a :: b :: rest) pos) (eOr f g) :=
  pe_imp (pe_or ha hb) fun _ _ _ ⟨W, F, ρ, Γ, eK, S, e, Γ', ef, ok, q⟩ => by
    obtain ⟨e1, Γ1, h1, ef⟩ := bind_inv ef
    obtain ⟨b, hb, ef⟩ := byB_inv ef
    refine tE_bool eK S h1 hb fun F1 H1 s1 S1 => ⟨b, rfl, ?_⟩
    cases b with
    | false => exact ⟨W, F1, ρ, Γ1, eK, S1, e, Γ', ef, ok, fun v F' H' hs S' r => q v F' H' (s1.trans hs) S' r⟩
    | true =>
      cases ef
      exact q _ F1 H1 s1 S1 (by unfold RpE Rp; rfl)
theorem de_not (ha : DE X a f) : DE X (.UnaryOp .Not a pos) (eNot f) :=
  pe_imp (pe_not ha) fun _ _ _ ⟨W, F, ρ, Γ, eK, S, e, Γ', ef, ok, q⟩ => by
    obtain ⟨e1, Γ1, h1, ef⟩ := bind_inv ef
    obtain ⟨b, hb, ef⟩ := byB_inv ef
    refine tE_bool eK S h1 hb fun F1 H1 s1 S1 => ⟨b, rfl, ?_⟩
    cases b <;> (cases ef; exact q _ F1 H1 s1 S1 (by unfold RpE Rp; rfl))
theorem de_if (hc : DT X c h) (ha : DE X a f) (hb : DE X b g) : DE X (.IfExp c a b pos) (eIf h f g) :=
  pe_imp (pe_ifExp hc ha hb) fun _ _ _ ⟨W, F, ρ, Γ, eK, S, e, Γ', ef, ok, q⟩ => by
    obtain ⟨e1, Γ1, h1, ef⟩ := bind_inv ef
    obtain ⟨b, hb, ef⟩ := byB_inv ef
    refine tT_bool eK S h1 hb fun F1 H1 s1 S1 => ?_
    cases b with
    | true => exact ⟨W, F1, ρ, Γ1, eK, S1, e, Γ', ef, ok, fun v F' H' hs S' r => q v F' H' (s1.trans hs) S' r⟩
    | false => exact ⟨W, F1, ρ, Γ1, eK, S1, e, Γ', ef, ok, fun v F' H' hs S' r => q v F' H' (s1.trans hs) S' r⟩
/-- a test's meaning from the first place on -/
theorem tT_from {K : PySem.W.Frag} {σ : L2.St} {H : Hp} {Q : Bool → Hp → Prop} {W : Wd} {F : Hp} {ρ : Nat → Option Addr} {Γ Γ' : Gm} {e : EV} {b : Bool} (eK : W.K = K) (S : Sim W F H ρ σ Γ) (ef : f Γ = .ok e Γ') (he : e.fz = .imm (.bl b))
    {F0 : Hp} (s0 : Same F0 F) (q : ∀ F' H', Same F0 F' → Sim W F' H' ρ σ Γ' → Q b H') : tT K f σ H Q := ⟨W, F, ρ, Γ, eK, S, e, b, Γ', ef, he, fun F' H' hs S' => q F' H' (s0.trans hs) S'⟩
theorem dw_and1 (ha : DT X a f) : DW X (.BoolOp .And [a] pos) f := pw_and1 ha
theorem dw_or1 (ha : DT X a f) : DW X (.BoolOp .Or [a] pos) f := pw_or1 ha
theorem dw_and (ha : DT X a f) (hb : DW X (.BoolOp .And (b :: rest) pos) g) : DW X (.BoolOp .And (a :: b :: rest) pos) (eAnd f g) :=
  pw_imp (pw_and ha hb) fun _ _ _ ⟨W, F, ρ, Γ, eK, S, e, b, Γ', ef, he, q⟩ => by
    obtain ⟨e1, Γ1, h1, ef⟩ := bind_inv ef
    obtain ⟨b1, hb, ef⟩ := byB_inv ef
    refine tT_bool eK S h1 hb fun F1 H1 s1 S1 => ?_
    cases b1 with
    | true => exact tT_from eK S1 ef he s1 q
    | false =>
      cases ef
      cases he
      exact q F1 H1 s1 S1
theorem dw_or (ha : DT X a f) (hb : DW X (.BoolOp .Or (b :: rest) pos) g) : DW X (.BoolOp .Or (a :: b :: rest) pos) (eOr f g) :=
  pw_imp (pw_or ha hb) fun _ _ _ ⟨W, F, ρ, Γ, eK, S, e, b, Γ', ef, he, q⟩ => by
    obtain ⟨e1, Γ1, h1, ef⟩ := bind_inv ef
    obtain ⟨b1, hb, ef⟩ := byB_inv ef
    refine tT_bool eK S h1 hb fun F1 H1 s1 S1 => ?_
    cases b1 with
    | false => exact tT_from eK S1 ef he s1 q
    | true =>
      cases ef
      cases he
      exact q F1 H1 s1 S1
theorem dt_not (ha : DT X a f) : DT X (.UnaryOp .Not a pos) (eNot f) :=
  pt_imp (pt_not ha) fun _ _ _ ⟨W, F, ρ, Γ, eK, S, e, b, Γ', ef, he, q⟩ => by
    obtain ⟨e1, Γ1, h1, ef⟩ := bind_inv ef
    obtain ⟨b1, hb, ef⟩ := byB_inv ef
    refine tT_bool eK S h1 hb fun F1 H1 s1 S1 => ?_
    cases b1 <;> (cases ef; cases he; exact q F1 H1 s1 S1)
end
end DL

namespace DL
open PySem PySem.Spec PyProof.Rows L2

section
variable {K : PySem.W.Frag} {F H : Hp} {v : V}
theorem rd_int {i : Int} (h : RdV K F H (.int i) v) : v = .int i := by unfold RdV Rp at h; exact h
theorem rd_bl {b : Bool} (h : RdV K F H (.bl b) v) : v = .bl b := by unfold RdV Rp at h; exact h
theorem rd_non (h : RdV K F H .non v) : v = .non := by unfold RdV Rp at h; exact h
theorem rd_str {s : List Nat} (h : RdV K F H (.str s) v) : v = .str (mkS s) ∧ okS s := by unfold RdV Rp at h; exact h
theorem rd_lst {ds : List D} (h : RdV K F H (.lst ds) v) : ∃ a vs, v = .ref a ∧ H a = some (.lst vs) ∧ RpL K F ds vs := by unfold RdV at h; exact h
theorem rd_tupP {ds : List D} (h : RdV K F H (.tup ds) v) : ∃ a vs, v = .ref a ∧ F a = some (.tup vs) ∧ RpL K F ds vs := by unfold RdV Rp at h; exact h
theorem rd_tup {ds : List D} (h : RdV K F H (.tup ds) v) : ∃ a vs, v = .ref a ∧ SqT K F a vs ∧ RpL K F ds vs := by
  obtain ⟨a, vs, e, x, r⟩ := rd_tupP h
  exact ⟨a, vs, e, .inl (.inl x), r⟩
theorem rd_frl {ds : List D} (h : RdV K F H (.frl ds) v) : ∃ a vs, v = .ref a ∧ SqL K F a vs ∧ RpL K F ds vs := by unfold RdV Rp at h; exact h
theorem rp_int {i : Int} : Rp K F (.int i) (.int i) := by unfold Rp; rfl
theorem rp_bl {b : Bool} : Rp K F (.bl b) (.bl b) := by unfold Rp; rfl
theorem rp_non : Rp K F .non .non := by unfold Rp; rfl
theorem rp_str {s : List Nat} (h : okS s) : Rp K F (.str s) (.str (mkS s)) := by unfold Rp; exact ⟨rfl, h⟩
theorem rp_tup {ds : List D} {a : Addr} {vs : List V} (h : F a = some (.tup vs)) (r : RpL K F ds vs) : Rp K F (.tup ds) (.ref a) := by unfold Rp; exact ⟨a, vs, rfl, h, r⟩
theorem rp_lst {ds : List D} {a : Addr} {vs : List V} (h : F a = some (.lst vs)) (r : RpL K F ds vs) : Rp K F (.lst ds) (.ref a) := by unfold Rp; exact ⟨a, vs, rfl, h, r⟩
end

/-! ### + -/
def oAdd : O2
  | .int i, .int j => some (.imm (.int (i + j)))
  | .str s, .str t => if s.length + t.length ≤ sizeLine then some (.imm (.str (s ++ t))) else none
  | .lst a, .lst b => if a.length + b.length ≤ sizeLine then some (.fr (.lst (a ++ b))) else none
  | .tup a, .tup b => if a.length + b.length ≤ sizeLine then some (.imm (.tup (a ++ b))) else none
  | _, _ => none
theorem if_inv {p : Prop} [Decidable p] {e e' : EV} (h : (if p then some e else none) = some e') : p ∧ e' = e := by
  by_cases q : p
  · rw [if_pos q] at h; exact ⟨q, (Option.some.inj h).symm⟩
  · rw [if_neg q] at h; cases h
section
variable {X : Cx}
def rAddA (K : PySem.W.Frag) : R2 := fun x y H Q => ((∃ i j, x = .int i ∧ y = .int j ∧ Q (.int (i + j)) H) ∨ (∃ i j, x = .str i ∧ y = .str j ∧ i.length + j.length ≤ sizeLine ∧ Q (.str (i ++ j)) H)) ∨ (rCat x y H Q ∨ rCatA K x y H Q)
theorem op_addA : OpR X (binaryOp .Add) (rAddA X.K) := OpR.or (OpR.or op_add op_add_str) (OpR.or op_cat op_catA)
theorem od_add : OpD X (rAddA X.K) oAdd := by
  intro W F H ρ σ Γ d1 d2 v1 v2 e Q eK S r1 r2 h w
  rw [← eK]
  unfold oAdd at h
  split at h
  · cases h
    rw [rd_int r1, rd_int r2]
    exact .inl (.inl ⟨_, _, rfl, rfl, w.here S rp_int⟩)
  · obtain ⟨hl, rfl⟩ := if_inv h
    obtain ⟨rfl, o1⟩ := rd_str r1
    obtain ⟨rfl, o2⟩ := rd_str r2
    refine .inl (.inr ⟨_, _, rfl, rfl, by rw [mkS_len, mkS_len]; exact hl, ?_⟩)
    rw [mkS_app]
    exact w.here S (rp_str (okS_app o1 o2 hl))
  · obtain ⟨hl, rfl⟩ := if_inv h
    obtain ⟨a, vs, rfl, h1, q1⟩ := rd_lst r1
    obtain ⟨b, ws, rfl, h2, q2⟩ := rd_lst r2
    exact .inr (.inl ⟨a, b, vs, ws, rfl, rfl, h1, h2, by rw [← rpl_len q1, ← rpl_len q2]; exact hl, fun p hp => w.newl S hp (rpl_append q1 q2)⟩)
  · obtain ⟨hl, rfl⟩ := if_inv h
    obtain ⟨a, vs, rfl, h1, q1⟩ := rd_tupP r1
    obtain ⟨b, ws, rfl, h2, q2⟩ := rd_tupP r2
    refine .inr (.inr ⟨a, b, vs, ws, rfl, rfl, .inl (.inl (S.sub _ _ h1)), .inl (.inl (S.sub _ _ h2)), by rw [← rpl_len q1, ← rpl_len q2]; exact hl, fun e => ?_, fun _ e => ?_, fun _ _ p hp => w.newt S hp (rpl_append q1 q2)⟩)
    · refine w.here S (rp_tup h2 ?_)
      have := rpl_append q1 q2
      rw [e] at this
      exact this
    · refine w.here S (rp_tup h1 ?_)
      have := rpl_append q1 q2
      rw [e, List.append_nil] at this
      exact this
  · cases h

/-! ### - * // % ** -/
def oSub : O2
  | .int i, .int j => some (.imm (.int (i - j)))
  | _, _ => none
theorem od_sub : OpD X (rI0 fun i j => .int (i - j)) oSub := by
  intro W F H ρ σ Γ d1 d2 v1 v2 e Q eK S r1 r2 h w
  unfold oSub at h
  split at h
  · cases h
    rw [rd_int r1, rd_int r2]
    exact ⟨_, _, rfl, rfl, w.here S rp_int⟩
  · cases h
def mulL {α : Type} (xs : List α) (n : Int) : List α := (List.replicate n.toNat xs).flatten
theorem mulL_len {α : Type} (xs : List α) (n : Int) : (mulL xs n).length = xs.length * n.toNat := by
  unfold mulL
  simp [Nat.mul_comm]
theorem mulL_mem {α : Type} {xs : List α} {n : Int} {x : α} (h : x ∈ mulL xs n) : x ∈ xs := by
  unfold mulL at h
  obtain ⟨l, hl, hx⟩ := List.mem_flatten.mp h
  rw [(List.mem_replicate.mp hl).2] at hx
  exact hx
def oMul : O2
  | .int i, .int j => if (-(2 ^ 64) < i ∧ i < 2 ^ 64) ∨ (-(2 ^ 64) < j ∧ j < 2 ^ 64) then some (.imm (.int (i * j))) else none
  | .str s, .int n => if (-(2 ^ 62) < n ∧ n < 2 ^ 62) ∧ s.length * n.toNat ≤ sizeLine then some (.imm (.str (mulL s n))) else none
  | .lst s, .int n => if (-(2 ^ 62) < n ∧ n < 2 ^ 62) ∧ s.length * n.toNat ≤ sizeLine then some (.fr (.lst (mulL s n))) else none
  | _, _ => none
theorem foldl_arr (its : List Nat) : ∀ (k : Nat) (acc : List Nat), List.foldl (fun x1 x2 => x1 ++ x2) acc.toArray (List.replicate k its.toArray) = (acc ++ (List.replicate k its).flatten).toArray := by
  intro k
  induction k with
  | zero => intro acc; simp
  | succ k ih =>
    intro acc
    have e1 : acc.toArray ++ its.toArray = (acc ++ its).toArray := by simp
    rw [List.replicate_succ, List.foldl_cons, e1, ih, List.append_assoc, List.replicate_succ, List.flatten_cons]
theorem txt_mul (s : List Nat) (n : Int) : Txt.mul (mkS s) n = mkS (mulL s n) := by
  unfold Txt.mul mulL
  by_cases h1 : n < 1
  · rw [if_pos h1, show n.toNat = 0 by omega]; rfl
  · rw [if_neg h1]
    by_cases h2 : (n == 1 || (mkS s).length == 0) = true
    · rw [if_pos h2]
      rw [Bool.or_eq_true, beq_iff_eq, beq_iff_eq, mkS_len] at h2
      rcases h2 with h2 | h2
      · subst h2; simp
      · have : s = [] := List.length_eq_zero_iff.mp h2
        subst this; simp
    · rw [if_neg h2]
      have := foldl_arr s n.toNat []
      simp only [List.nil_append] at this
      unfold mkS
      exact congrArg Str.mk this
def rMulS : R2 := fun x y H Q => ∃ (s : List Nat) (n : Int), x = .str (mkS s) ∧ y = .int n ∧ (-(2 ^ 62) < n ∧ n < 2 ^ 62) ∧ s.length * n.toNat ≤ sizeLine ∧ Q (.str (mkS (mulL s n))) H
theorem op_mul_str : OpR X (binaryOp .Mult) rMulS := by
  intro pins s σ H x y v u Q I rx ry h
  obtain ⟨z, n, rfl, rfl, hn, hz, q⟩ := h
  obtain ⟨t, rfl⟩ := rx
  obtain ⟨t', rfl⟩ := ry
  have hs : sizeLine = 16777216 := sizeLine_eq
  refine SB.mul ⟨?_, fun h1 h2 => ?_, fun h1 h2 => ?_⟩ fun t2 k => ⟨.str (mkS (mulL z n)), H, I.tok _, ⟨t2, by rw [txt_mul]⟩, q⟩
  · rw [decide_eq_false (by omega), decide_eq_false (by omega)]; rfl
  · rw [mkS_len]
    have : (z.length : Int) * n ≤ 16777216 := by
      have e : ((z.length * n.toNat : Nat) : Int) = (z.length : Int) * n := by
        rw [Int.natCast_mul, Int.toNat_of_nonneg (by omega)]
      rw [← e]; omega
    have h3 : (z.length : Int) ≤ (2 ^ 63 - 1) / n := (Int.le_ediv_iff_mul_le (by omega)).mpr (by omega)
    omega
  · rw [mkS_len]
    unfold Builtin.Str.tooLong
    exact decide_eq_false (by omega)
def rMulA : R2 := fun x y H Q => (rI CMul (fun i j => .int (i * j)) x y H Q ∨ rMulS x y H Q) ∨ rRep x y H Q
theorem op_mulA : OpR X (binaryOp .Mult) rMulA := OpR.or (OpR.or op_mul op_mul_str) op_rep
theorem od_mul : OpD X rMulA oMul := by
  intro W F H ρ σ Γ d1 d2 v1 v2 e Q eK S r1 r2 h w
  unfold oMul at h
  split at h
  · obtain ⟨hl, rfl⟩ := if_inv h
    rw [rd_int r1, rd_int r2]
    exact .inl (.inl ⟨_, _, rfl, rfl, hl, w.here S rp_int⟩)
  · obtain ⟨hl, rfl⟩ := if_inv h
    obtain ⟨rfl, o1⟩ := rd_str r1
    rw [rd_int r2]
    refine .inl (.inr ⟨_, _, rfl, rfl, hl.1, hl.2, w.here S (rp_str ⟨by rw [mulL_len]; exact hl.2, fun c hc => o1.2 c (mulL_mem hc)⟩)⟩)
  · obtain ⟨hl, rfl⟩ := if_inv h
    obtain ⟨a, vs, rfl, h1, q1⟩ := rd_lst r1
    rw [rd_int r2]
    exact .inr ⟨a, _, vs, rfl, rfl, h1, by omega, by omega, by rw [← rpl_len q1]; exact hl.2, fun p hp => w.newl S hp (rpl_rep q1 _)⟩
  · cases h
def oDiv : O2
  | .int i, .int j => if 0 < j ∧ j < 1073741824 then some (.imm (.int (i / j))) else none
  | _, _ => none
theorem od_div : OpD X (rI CDiv fun i j => .int (i / j)) oDiv := by
  intro W F H ρ σ Γ d1 d2 v1 v2 e Q eK S r1 r2 h w
  unfold oDiv at h
  split at h
  · obtain ⟨hl, rfl⟩ := if_inv h
    rw [rd_int r1, rd_int r2]
    exact ⟨_, _, rfl, rfl, hl, w.here S rp_int⟩
  · cases h
def oMod : O2
  | .int i, .int j => if 0 < j then some (.imm (.int (i % j))) else none
  | _, _ => none
theorem od_mod : OpD X (rI (fun _ j => 0 < j) fun i j => .int (i % j)) oMod := by
  intro W F H ρ σ Γ d1 d2 v1 v2 e Q eK S r1 r2 h w
  unfold oMod at h
  split at h
  · obtain ⟨hl, rfl⟩ := if_inv h
    rw [rd_int r1, rd_int r2]
    exact ⟨_, _, rfl, rfl, hl, w.here S rp_int⟩
  · cases h
def oPow : O2
  | .int i, .int j => if 0 ≤ j ∧ j ≤ 1000000 ∧ i.natAbs < 2 ^ 64 then some (.imm (.int (i ^ j.toNat))) else none
  | _, _ => none
theorem od_pow : OpD X (rI CPow fun i j => .int (i ^ j.toNat)) oPow := by
  intro W F H ρ σ Γ d1 d2 v1 v2 e Q eK S r1 r2 h w
  unfold oPow at h
  split at h
  · obtain ⟨hl, rfl⟩ := if_inv h
    rw [rd_int r1, rd_int r2]
    exact ⟨_, _, rfl, rfl, hl, w.here S rp_int⟩
  · cases h
def oNeg : O1
  | .int i => some (.imm (.int (-i)))
  | _ => none
theorem ud_neg : UnD X (rU fun i => .int (-i)) oNeg := by
  intro W F H ρ σ Γ d1 v1 e Q eK S r1 h w
  unfold oNeg at h
  split at h
  · cases h
    rw [rd_int r1]
    exact ⟨_, rfl, w.here S rp_int⟩
  · cases h

/-! ### order -/
def oCmp (p : Int → Int → Bool) (q : List Nat → List Nat → Bool) : O2
  | .int i, .int j => some (.imm (.bl (p i j)))
  | .str s, .str t => some (.imm (.bl (q s t)))
  | _, _ => none
def rCmp (p : Int → Int → Bool) (q : List Nat → List Nat → Bool) : R2 := fun x y H Q => (∃ i j, x = .int i ∧ y = .int j ∧ Q (.bl (p i j)) H) ∨ (∃ i j, x = .str i ∧ y = .str j ∧ Q (.bl (q i.cps.toList j.cps.toList)) H)
theorem od_cmp {p : Int → Int → Bool} {q : List Nat → List Nat → Bool} : OpD X (rCmp p q) (oCmp p q) := by
  intro W F H ρ σ Γ d1 d2 v1 v2 e Q eK S r1 r2 h w
  unfold oCmp at h
  split at h
  · cases h
    rw [rd_int r1, rd_int r2]
    exact .inl ⟨_, _, rfl, rfl, w.here S rp_bl⟩
  · cases h
    obtain ⟨rfl, o1⟩ := rd_str r1
    obtain ⟨rfl, o2⟩ := rd_str r2
    refine .inr ⟨_, _, rfl, rfl, ?_⟩
    rw [mkS_cps, mkS_cps]
    exact w.here S rp_bl
  · cases h
abbrev oLt : O2 := oCmp (fun i j => decide (i < j)) (fun s t => decide (s < t))
abbrev oLe : O2 := oCmp (fun i j => decide (i ≤ j)) (fun s t => !decide (t < s))
abbrev oGt : O2 := oCmp (fun i j => decide (j < i)) (fun s t => decide (t < s))
abbrev oGe : O2 := oCmp (fun i j => decide (j ≤ i)) (fun s t => !decide (s < t))
theorem op_ltA : OpR X (compareOp .Lt) (rCmp (fun i j => decide (i < j)) (fun s t => decide (s < t))) := OpR.or op_lt op_lt_str
theorem op_leA : OpR X (compareOp .LtE) (rCmp (fun i j => decide (i ≤ j)) (fun s t => !decide (t < s))) := OpR.or op_le op_le_str
theorem op_gtA : OpR X (compareOp .Gt) (rCmp (fun i j => decide (j < i)) (fun s t => decide (t < s))) := OpR.or op_gt op_gt_str
theorem op_geA : OpR X (compareOp .GtE) (rCmp (fun i j => decide (j ≤ i)) (fun s t => !decide (s < t))) := OpR.or op_ge op_ge_str

/-! ### is None -/
def isN : D → Bool
  | .non => true
  | _ => false
theorem isN_rd {K : PySem.W.Frag} {F H : Hp} {d : D} {v : V} (h : RdV K F H d v) : decide (v = .non) = isN d := by
  cases d with
  | non => rw [rd_non h]; rfl
  | bl b => rw [rd_bl h]; rfl
  | int i => rw [rd_int h]; rfl
  | str s => rw [(rd_str h).1]; rfl
  | tup ds => obtain ⟨a, vs, rfl, _⟩ := rd_tup h; rfl
  | lst ds => obtain ⟨a, vs, rfl, _⟩ := rd_lst h; rfl
  | dic ks ds => unfold RdV at h; obtain ⟨a, vs, rfl, _⟩ := h; rfl
  | dct ks ds => unfold RdV at h; obtain ⟨a, vs, rfl, _⟩ := h; rfl
  | lkd ks ds => unfold RdV at h; obtain ⟨a, vs, o, rfl, _⟩ := h; rfl
  | lkt ks ds => unfold RdV at h; obtain ⟨a, vs, o, rfl, _⟩ := h; rfl
  | frl ds => obtain ⟨a, vs, rfl, _⟩ := rd_frl h; rfl
def oIs : O2
  | d, .non => some (.imm (.bl (isN d)))
  | _, _ => none
def oIsNot : O2
  | d, .non => some (.imm (.bl (!isN d)))
  | _, _ => none
theorem od_is : OpD X rIsN oIs := by
  intro W F H ρ σ Γ d1 d2 v1 v2 e Q eK S r1 r2 h w
  unfold oIs at h
  split at h
  · cases h
    rw [rd_non r2]
    exact ⟨rfl, by rw [isN_rd r1]; exact w.here S rp_bl⟩
  · cases h
theorem od_isNot : OpD X rNotN oIsNot := by
  intro W F H ρ σ Γ d1 d2 v1 v2 e Q eK S r1 r2 h w
  unfold oIsNot at h
  split at h
  · cases h
    rw [rd_non r2]
    exact ⟨rfl, by rw [isN_rd r1]; exact w.here S rp_bl⟩
  · cases h

/-! ### a[i] -/
def oIx : O2
  | .lst ds, .int i => (atI ds i).map .imm
  | .tup ds, .int i => (atI ds i).map .imm
  | .frl ds, .int i => (atI ds i).map .imm
  | .str s, .int i => (atI s i).map fun c => .imm (.str [c])
  | _, _ => none
theorem omap_inv {α β : Type} {o : Option α} {f : α → β} {b : β} (h : o.map f = some b) : ∃ a, o = some a ∧ f a = b := by
  cases o with
  | none => cases h
  | some a => exact ⟨a, rfl, Option.some.inj h⟩
theorem atI_rp {K : PySem.W.Frag} {F : Hp} {ds : List D} {vs : List V} {i : Int} {d : D} (r : RpL K F ds vs) (h : atI ds i = some d) : ∃ v, atI vs i = some v ∧ Rp K F d v := by
  unfold atI at h ⊢
  rw [← rpl_len r]
  cases e : ixN ds.length i with
  | none => rw [e] at h; cases h
  | some j =>
    rw [e] at h
    exact rpl_get r h
theorem od_ix : OpD X (rIx X.K) oIx := by
  intro W F H ρ σ Γ d1 d2 v1 v2 e Q eK S r1 r2 h w
  rw [← eK]
  unfold oIx at h
  split at h
  · obtain ⟨d, hd, rfl⟩ := omap_inv h
    obtain ⟨a, vs, rfl, h1, q1⟩ := rd_lst r1
    rw [rd_int r2]
    obtain ⟨v, hv, rv⟩ := atI_rp q1 hd
    exact .inl ⟨a, vs, _, v, rfl, rfl, .inl (.inl h1), hv, w.here S rv⟩
  · obtain ⟨d, hd, rfl⟩ := omap_inv h
    obtain ⟨a, vs, rfl, h1, q1⟩ := rd_tup r1
    rw [rd_int r2]
    obtain ⟨v, hv, rv⟩ := atI_rp q1 hd
    exact .inr (.inl ⟨a, vs, _, v, rfl, rfl, sqT_mono S.sub h1, hv, w.here S rv⟩)
  · obtain ⟨d, hd, rfl⟩ := omap_inv h
    obtain ⟨a, vs, rfl, h1, q1⟩ := rd_frl r1
    rw [rd_int r2]
    obtain ⟨v, hv, rv⟩ := atI_rp q1 hd
    exact .inl ⟨a, vs, _, v, rfl, rfl, S.sub.seq h1, hv, w.here S rv⟩
  · obtain ⟨c, hd, rfl⟩ := omap_inv h
    obtain ⟨rfl, o1⟩ := rd_str r1
    rw [rd_int r2]
    refine .inr (.inr ⟨_, _, c, rfl, rfl, by rw [mkS_len]; exact o1.1, by rw [mkS_cps]; exact hd, ?_⟩)
    refine w.here S (show Rp W.K F (.str [c]) (.str (mkS [c])) from rp_str (okS_one o1 ?_))
    obtain ⟨j, _, hj, _⟩ := atI_get hd
    exact List.mem_of_getElem? hj
  · cases h

/-! ### slices -/
def cutL {α : Type} (xs : List α) (lo hi : Option Int) : List α := (xs.drop (HT.sIx xs.length 0 lo)).take (HT.sIx xs.length xs.length hi - HT.sIx xs.length 0 lo)
theorem cutL_len {α : Type} (xs : List α) (lo hi : Option Int) : (cutL xs lo hi).length ≤ xs.length := by
  unfold cutL; rw [List.length_take, List.length_drop]; omega
theorem cutL_mem {α : Type} {xs : List α} {lo hi : Option Int} {x : α} (h : x ∈ cutL xs lo hi) : x ∈ xs := List.mem_of_mem_drop (List.mem_of_mem_take h)
theorem cutL_rp {K : PySem.W.Frag} {F : Hp} {ds : List D} {vs : List V} (r : RpL K F ds vs) (lo hi : Option Int) : RpL K F (cutL ds lo hi) (cutV vs lo hi) := by
  unfold cutL cutV
  rw [rpl_len r]
  exact rpl_take _ (rpl_drop _ r)
def oSl (lo hi : Option Int) : O1
  | .lst ds => some (.fr (.lst (cutL ds lo hi)))
  | .tup ds => some (.imm (.tup (cutL ds lo hi)))
  | .str s => some (.imm (.str (cutL s lo hi)))
  | _ => none
def rSlX3 (K : PySem.W.Frag) : V → Option Int → Option Int → Hp → VK → Prop := fun x lo hi H Q => (rSlL K x lo hi H Q ∨ rSlA K x lo hi H Q) ∨ rSlS x lo hi H Q
theorem sl_any3 : SlR X (rSlX3 X.K) := SlR.or (SlR.or sl_list sl_tupA) sl_str
theorem od_sl (lo hi : Option Int) : UnD X (fun x H Q => rSlX3 X.K x lo hi H Q) (oSl lo hi) := by
  intro W F H ρ σ Γ d1 v1 e Q eK S r1 h w
  rw [← eK]
  unfold oSl at h
  split at h
  · cases h
    obtain ⟨a, vs, rfl, h1, q1⟩ := rd_lst r1
    exact .inl (.inl ⟨a, vs, rfl, .inl (.inl h1), fun p hp => w.newl S hp (cutL_rp q1 lo hi)⟩)
  · cases h
    obtain ⟨a, vs, rfl, h1, q1⟩ := rd_tupP r1
    refine .inl (.inr ⟨a, vs, rfl, .inl (.inl (S.sub _ _ h1)), fun e => ?_, fun _ p hp => w.newt S hp (cutL_rp q1 lo hi)⟩)
    have q2 := cutL_rp q1 lo hi
    unfold cutV at q2
    rw [e.1, e.2, Nat.sub_zero, List.drop_zero, List.take_length] at q2
    exact w.here S (rp_tup h1 q2)
  · cases h
    obtain ⟨rfl, o1⟩ := rd_str r1
    refine .inr ⟨_, rfl, by rw [mkS_len]; exact o1.1, ?_⟩
    rename_i s
    have e : cutS (mkS s) lo hi = mkS (cutL s lo hi) := by
      unfold cutS cutL
      rw [mkS_cps, mkS_len]
      rfl
    rw [e]
    exact w.here S (rp_str (okS_sub o1 (cutL_len _ _ _) fun c hc => cutL_mem hc))
  · cases h
def eSl (f : EM) (lo hi : Option EM) : EM := fun Γ => (f Γ).bind fun e1 Γ1 =>
  match lo, hi with
  | none, none => ERes.of ((eGet Γ1 e1).bind (oSl none none)) Γ1
  | some l, none => (l Γ1).bind fun e2 Γ2 => match e2 with
    | .imm (.int i) => ERes.of ((eGet Γ2 e1).bind (oSl (some i) none)) Γ2
    | _ => .stuck
  | none, some u => (u Γ1).bind fun e2 Γ2 => match e2 with
    | .imm (.int j) => ERes.of ((eGet Γ2 e1).bind (oSl none (some j))) Γ2
    | _ => .stuck
  | some l, some u => (l Γ1).bind fun e2 Γ2 => (u Γ2).bind fun e3 Γ3 => match e2, e3 with
    | .imm (.int i), .imm (.int j) => ERes.of ((eGet Γ3 e1).bind (oSl (some i) (some j))) Γ3
    | _, _ => .stuck
variable {a b c : Expr} {f g h : EM} {pos p2 : Pos}
theorem int_inv {e1 : EV} {k : Int → ERes} {e : EV} {Γ' : Gm} (h : (match e1 with
    | .imm (.int i) => k i
    | _ => .stuck) = .ok e Γ') : ∃ i, e1 = .imm (.int i) ∧ k i = .ok e Γ' := by
  split at h
  · exact ⟨_, rfl, h⟩
  · cases h
theorem sl_fin {W : Wd} {F F1 H1 : Hp} {ρ : Nat → Option Addr} {σ : L2.St} {Γ' : Gm} {e1 e : EV} {v1 : V} {Q : VK} {lo hi : Option Int} (eK : W.K = X.K) (s : Same F F1) (S : Sim W F1 H1 ρ σ Γ') (r : RpE W F1 H1 ρ e1 v1)
    (h : (eGet Γ' e1).bind (oSl lo hi) = some e) (q : ∀ v F' H', Same F F' → Sim W F' H' ρ σ Γ' → RpE W F' H' ρ e v → Q v H') : rSlX3 X.K v1 lo hi H1 Q := by
  obtain ⟨d, g, h⟩ := obind_inv h
  exact od_sl lo hi W F1 H1 ρ σ Γ' d v1 e Q eK S (rd_get S r g) h fun v F' H' hs S' r' => q v F' H' (s.trans hs) S' r'
theorem get_ok1 {Γ : Gm} {e1 e : EV} {lo hi : Option Int} (h : (eGet Γ e1).bind (oSl lo hi) = some e) : e1.ok = true := by
  obtain ⟨d, g, h⟩ := obind_inv h
  exact ok_get g
theorem de_sl00 (ha : DE X a f) : DE X (.Subscript a (.Slice none none none p2) pos) (eSl f none none) :=
  pe_imp (pe_slice sl_any3 ha po_none po_none) fun _ _ _ ⟨W, F, ρ, Γ, eK, S, e, Γ', ef, ok, q⟩ => by
    obtain ⟨e1, Γ1, h1, ef⟩ := bind_inv ef
    obtain ⟨ef, rfl⟩ := of_inv ef
    exact tE_then eK S h1 (get_ok1 ef) fun v1 F1 H1 s1 S1 r1 => sl_fin eK s1 S1 r1 ef q
theorem de_sl10 (ha : DE X a f) (hb : DE X b g) : DE X (.Subscript a (.Slice (some b) none none p2) pos) (eSl f (some g) none) :=
  pe_imp (pe_slice sl_any3 ha (po_some hb) po_none) fun _ _ _ ⟨W, F, ρ, Γ, eK, S, e, Γ', ef, ok, q⟩ => by
    obtain ⟨e1, Γ1, h1, ef⟩ := bind_inv ef
    obtain ⟨e2, Γ2, h2, ef⟩ := bind_inv ef
    obtain ⟨i, hi, ef⟩ := int_inv ef
    obtain ⟨ef, rfl⟩ := of_inv ef
    refine tE_then eK S h1 (get_ok1 ef) fun v1 F1 H1 s1 S1 r1 => ?_
    refine tE_then eK S1 h2 (by rw [hi]; rfl) fun v2 F2 H2 s2 S2 r2 => ?_
    rw [hi] at r2
    unfold RpE at r2
    exact ⟨i, rd_int (rd_of r2 S2.sub), sl_fin eK (s1.trans s2) S2 (RpE.mono s2 _ _ (get_ok1 ef) r1) ef q⟩
theorem de_sl01 (ha : DE X a f) (hb : DE X b g) : DE X (.Subscript a (.Slice none (some b) none p2) pos) (eSl f none (some g)) :=
  pe_imp (pe_slice sl_any3 ha po_none (po_some hb)) fun _ _ _ ⟨W, F, ρ, Γ, eK, S, e, Γ', ef, ok, q⟩ => by
    obtain ⟨e1, Γ1, h1, ef⟩ := bind_inv ef
    obtain ⟨e2, Γ2, h2, ef⟩ := bind_inv ef
    obtain ⟨i, hi, ef⟩ := int_inv ef
    obtain ⟨ef, rfl⟩ := of_inv ef
    refine tE_then eK S h1 (get_ok1 ef) fun v1 F1 H1 s1 S1 r1 => ?_
    refine tE_then eK S1 h2 (by rw [hi]; rfl) fun v2 F2 H2 s2 S2 r2 => ?_
    rw [hi] at r2
    unfold RpE at r2
    exact ⟨i, rd_int (rd_of r2 S2.sub), sl_fin eK (s1.trans s2) S2 (RpE.mono s2 _ _ (get_ok1 ef) r1) ef q⟩
theorem int2_inv {e1 e2 : EV} {k : Int → Int → ERes} {e : EV} {Γ' : Gm} (h : (match e1, e2 with
    | .imm (.int i), .imm (.int j) => k i j
    | _, _ => .stuck) = .ok e Γ') : ∃ i j, e1 = .imm (.int i) ∧ e2 = .imm (.int j) ∧ k i j = .ok e Γ' := by
  split at h
  · exact ⟨_, _, rfl, rfl, h⟩
  · cases h
theorem de_sl11 (ha : DE X a f) (hb : DE X b g) (hc : DE X c h) : DE X (.Subscript a (.Slice (some b) (some c) none p2) pos) (eSl f (some g) (some h)) :=
  pe_imp (pe_slice sl_any3 ha (po_some hb) (po_some hc)) fun _ _ _ ⟨W, F, ρ, Γ, eK, S, e, Γ', ef, ok, q⟩ => by
    obtain ⟨e1, Γ1, h1, ef⟩ := bind_inv ef
    obtain ⟨e2, Γ2, h2, ef⟩ := bind_inv ef
    obtain ⟨e3, Γ3, h3, ef⟩ := bind_inv ef
    obtain ⟨i, j, hi, hj, ef⟩ := int2_inv ef
    obtain ⟨ef, rfl⟩ := of_inv ef
    refine tE_then eK S h1 (get_ok1 ef) fun v1 F1 H1 s1 S1 r1 => ?_
    refine tE_then eK S1 h2 (by rw [hi]; rfl) fun v2 F2 H2 s2 S2 r2 => ?_
    rw [hi] at r2
    unfold RpE at r2
    refine ⟨i, rd_int (rd_of r2 S2.sub), ?_⟩
    refine tE_then eK S2 h3 (by rw [hj]; rfl) fun v3 F3 H3 s3 S3 r3 => ?_
    rw [hj] at r3
    unfold RpE at r3
    exact ⟨j, rd_int (rd_of r3 S3.sub), sl_fin eK ((s1.trans s2).trans s3) S3 (RpE.mono (s2.trans s3) _ _ (get_ok1 ef) r1) ef q⟩
end
end DL

namespace DL
open PySem PySem.Spec PyProof.Rows L2

/-! ### == -/
mutual
def toPD : D → PyData
  | .non => .none
  | .bl b => .bool b
  | .int i => .int i
  | .str s => .str (mkS s)
  | .tup ds => .tuple (toPDs ds)
  | .lst ds => .list (toPDs ds)
  | .frl ds => .list (toPDs ds)
  | .dic _ _ => .none
  | .dct _ _ => .none
  | .lkd _ _ => .none
  | .lkt _ _ => .none
def toPDs : List D → List PyData
  | [] => []
  | d :: ds => toPD d :: toPDs ds
end
mutual
/-- no dict within -/
def okE : D → Bool
  | .tup ds => okEs ds
  | .lst ds => okEs ds
  | .frl ds => okEs ds
  | .dic _ _ => false
  | .dct _ _ => false
  | .lkd _ _ => false
  | .lkt _ _ => false
  | _ => true
def okEs : List D → Bool
  | [] => true
  | d :: ds => okE d && okEs ds
end
mutual
def dep : D → Nat
  | .tup ds => deps ds + 1
  | .lst ds => deps ds + 1
  | .frl ds => deps ds + 1
  | _ => 0
def deps : List D → Nat
  | [] => 0
  | d :: ds => max (dep d) (deps ds)
end
def deq (d e : D) : Bool := PyData.eqv (toPD d) (toPD e)
mutual
theorem dep_pd : ∀ d : D, (toPD d).depth = dep d
  | .non => rfl
  | .bl _ => rfl
  | .int _ => rfl
  | .str _ => rfl
  | .tup ds => by simp only [toPD, dep, PyData.depth, deps_pd ds]
  | .lst ds => by simp only [toPD, dep, PyData.depth, deps_pd ds]
  | .frl ds => by simp only [toPD, dep, PyData.depth, deps_pd ds]
  | .dic _ _ => rfl
  | .dct _ _ => rfl
  | .lkd _ _ => rfl
  | .lkt _ _ => rfl
theorem deps_pd : ∀ ds : List D, PyData.depthAll (toPDs ds) = deps ds
  | [] => rfl
  | d :: ds => by simp only [toPDs, deps, PyData.depthAll, dep_pd d, deps_pd ds]
end
theorem strOk_of {s : List Nat} (h : okS s) : PyData.strOk (mkS s) = true := by
  unfold PyData.strOk
  rw [Array.all_eq_true]
  intro i hi
  refine decide_eq_true (h.2 _ ?_)
  have : (mkS s).cps[i] = s[i]'(by simpa [mkS] using hi) := by simp [mkS]
  rw [this]
  exact List.getElem_mem _
mutual
theorem dp_of {K : PySem.W.Frag} {F H : Hp} (s : Same F H) : ∀ (d : D) (v : V), Rp K F d v → okE d = true → Dp K H v (toPD d) ∧ (toPD d).canLay0 = true
  | .non, v, r, _ => by unfold Rp at r; subst r; exact ⟨.non, rfl⟩
  | .bl b, v, r, _ => by unfold Rp at r; subst r; exact ⟨.bl b, rfl⟩
  | .int i, v, r, _ => by unfold Rp at r; subst r; exact ⟨.int i, rfl⟩
  | .str z, v, r, _ => by unfold Rp at r; obtain ⟨rfl, o⟩ := r; exact ⟨.str _, by simp only [toPD, PyData.canLay0]; exact strOk_of o⟩
  | .tup ds, v, r, k => by
    unfold Rp at r
    unfold okE at k
    obtain ⟨a, vs, rfl, h, q⟩ := r
    obtain ⟨q1, q2⟩ := dp_ofs s ds vs q k
    exact ⟨.tup (.inl (.inl (s _ _ h))) q1, by simp only [toPD, PyData.canLay0]; exact q2⟩
  | .lst ds, v, r, k => by
    unfold Rp at r
    unfold okE at k
    obtain ⟨a, vs, rfl, h, q⟩ := r
    obtain ⟨q1, q2⟩ := dp_ofs s ds vs q k
    exact ⟨.lst (.inl (.inl (s _ _ h))) q1, by simp only [toPD, PyData.canLay0]; exact q2⟩
  | .frl ds, v, r, k => by
    unfold Rp at r
    unfold okE at k
    obtain ⟨a, vs, rfl, h, q⟩ := r
    obtain ⟨q1, q2⟩ := dp_ofs s ds vs q k
    exact ⟨.lst (s.seq h) q1, by simp only [toPD, PyData.canLay0]; exact q2⟩
  | .dic _ _, _, _, k => by simp [okE] at k
  | .dct _ _, _, _, k => by simp [okE] at k
  | .lkd _ _, _, _, k => by simp [okE] at k
  | .lkt _ _, _, _, k => by simp [okE] at k
theorem dp_ofs {K : PySem.W.Frag} {F H : Hp} (s : Same F H) : ∀ (ds : List D) (vs : List V), RpL K F ds vs → okEs ds = true → DpAll K H vs (toPDs ds) ∧ PyData.canLayAll0 (toPDs ds) = true
  | [], vs, r, _ => by rw [rpl_nil_inv r]; exact ⟨.nil, rfl⟩
  | d :: ds, vs, r, k => by
    obtain ⟨v, r', rfl, q1, q2⟩ := rpl_cons_inv r
    unfold okEs at k
    rw [Bool.and_eq_true] at k
    obtain ⟨a1, a2⟩ := dp_of s d v q1 k.1
    obtain ⟨b1, b2⟩ := dp_ofs s ds r' q2 k.2
    exact ⟨.cons a1 b1, by simp only [toPDs, PyData.canLayAll0, a2, b2, Bool.and_self]⟩
end
theorem dp_rd {K : PySem.W.Frag} {F H : Hp} (s : Same F H) {d : D} {v : V} (r : RdV K F H d v) (k : okE d = true) : Dp K H v (toPD d) ∧ (toPD d).canLay0 = true := by
  cases d with
  | lst ds =>
    obtain ⟨a, vs, rfl, h, q⟩ := rd_lst r
    unfold okE at k
    obtain ⟨q1, q2⟩ := dp_ofs s ds vs q k
    exact ⟨.lst (.inl (.inl h)) q1, by simp only [toPD, PyData.canLay0]; exact q2⟩
  | dic ks ds => simp [okE] at k
  | dct ks ds => simp [okE] at k
  | lkd ks ds => simp [okE] at k
  | lkt ks ds => simp [okE] at k
  | non => exact dp_of s _ v r k
  | bl b => exact dp_of s _ v r k
  | int i => exact dp_of s _ v r k
  | str z => exact dp_of s _ v r k
  | tup ds => exact dp_of s _ v r k
  | frl ds => exact dp_of s _ v r k
def oEq (neg : Bool) : O2 := fun d e => if okE d = true ∧ okE e = true ∧ min (dep d) (dep e) ≤ 60 then some (.imm (.bl (if neg then !deq d e else deq d e))) else none
def rEqM (K : PySem.W.Frag) (neg : Bool) : R2 := fun x y H Q => ∃ d e, Dp K H x d ∧ Dp K H y e ∧ d.canLay0 = true ∧ e.canLay0 = true ∧ min d.depth e.depth ≤ 60 ∧ Q (.bl (if neg then !PyData.eqv d e else PyData.eqv d e)) H
section
variable {X : Cx}
theorem op_eqM (hu : X.A.units + 64 < cLine) : OpR X (compareOp .Eq) (rEqM X.K false) := by
  intro pins s σ H x y v u Q I rx ry ⟨d, e, hd, he, cd, ce, hm, q⟩
  obtain ⟨_, r1⟩ := Dp.reads I d x v hd rx
  obtain ⟨_, r2⟩ := Dp.reads I e y u he ry
  exact SeqAt.compareEq_reads r1 r2 cd ce (by omega) ⟨.bl _, H, I, rfl, q⟩
theorem op_neM (hu : X.A.units + 64 < cLine) : OpR X (compareOp .NotEq) (rEqM X.K true) := by
  intro pins s σ H x y v u Q I rx ry ⟨d, e, hd, he, cd, ce, hm, q⟩
  obtain ⟨_, r1⟩ := Dp.reads I d x v hd rx
  obtain ⟨_, r2⟩ := Dp.reads I e y u he ry
  exact SeqAt.compareNe_reads r1 r2 cd ce (by omega) ⟨.bl _, H, I, rfl, q⟩
theorem od_eq (neg : Bool) : OpD X (rEqM X.K neg) (oEq neg) := by
  intro W F H ρ σ Γ d1 d2 v1 v2 e Q eK S r1 r2 h w
  rw [← eK]
  unfold oEq at h
  obtain ⟨⟨k1, k2, k3⟩, rfl⟩ := if_inv h
  obtain ⟨p1, c1⟩ := dp_rd S.sub r1 k1
  obtain ⟨p2, c2⟩ := dp_rd S.sub r2 k2
  exact ⟨_, _, p1, p2, c1, c2, by rw [dep_pd, dep_pd]; exact k3, w.here S rp_bl⟩

/-! ### in -/
/-- a text within another one -/
def isub (s t : List Nat) : Bool := (List.range (t.length + 1)).any fun i => decide ((t.drop i).take s.length = s)
theorem isub_iff {s t : List Nat} : isub s t = true ↔ ∃ i, (t.drop i).take s.length = s ∧ i ≤ t.length := by
  unfold isub
  rw [List.any_eq_true]
  constructor
  · rintro ⟨i, h1, h2⟩
    exact ⟨i, of_decide_eq_true h2, by have := List.mem_range.mp h1; omega⟩
  · rintro ⟨i, h1, h2⟩
    exact ⟨i, List.mem_range.mpr (by omega), decide_eq_true h1⟩
theorem isub_occ (s t : List Nat) : (!(Builtin.Str.occurrences (mkS t) (mkS s) 0 (mkS t).length 1).isEmpty) = isub s t := by
  rw [Bool.eq_iff_iff, StrLaws.found_iff, isub_iff]
  constructor
  · rintro ⟨i, h1, h2⟩
    rw [StrLaws.subAt_eq, mkS_cps, mkS_cps, mkS_len, beq_iff_eq] at h2
    rw [mkS_len, mkS_len] at h1
    exact ⟨i, h2, by omega⟩
  · rintro ⟨i, h1, h2⟩
    refine ⟨i, ?_, ?_⟩
    · rw [mkS_len, mkS_len]
      have := congrArg List.length h1
      rw [List.length_take, List.length_drop] at this
      omega
    · rw [StrLaws.subAt_eq, mkS_cps, mkS_cps, mkS_len, beq_iff_eq]
      exact h1
def flat : D → Bool
  | .non => true
  | .bl _ => true
  | .int _ => true
  | .str _ => true
  | _ => false
theorem flat_rd {K : PySem.W.Frag} {F H : Hp} {d : D} {v : V} (r : RdV K F H d v) (h : flat d = true) : flatV v = true := by
  cases d with
  | non => rw [rd_non r]; rfl
  | bl b => rw [rd_bl r]; rfl
  | int i => rw [rd_int r]; rfl
  | str s => rw [(rd_str r).1]; rfl
  | _ => cases h
theorem eqV_deq {K : PySem.W.Frag} {F H : Hp} {d e : D} {v u : V} (r : RdV K F H d v) (r' : RdV K F H e u) (h : flat d = true) (h' : flat e = true) : eqV v u = deq d e := by
  have key : ∀ s t : List Nat, (mkS s == mkS t) = (mkS s == mkS t) := fun _ _ => rfl
  cases d with
  | non =>
    rw [rd_non r]
    cases e with
    | non => rw [rd_non r']; rfl
    | bl b => rw [rd_bl r']; rfl
    | int i => rw [rd_int r']; rfl
    | str s => rw [(rd_str r').1]; rfl
    | _ => cases h'
  | bl b =>
    rw [rd_bl r]
    cases e with
    | non => rw [rd_non r']; rfl
    | bl b => rw [rd_bl r']; rfl
    | int i => rw [rd_int r']; rfl
    | str s => rw [(rd_str r').1]; rfl
    | _ => cases h'
  | int i =>
    rw [rd_int r]
    cases e with
    | non => rw [rd_non r']; rfl
    | bl b => rw [rd_bl r']; rfl
    | int i => rw [rd_int r']; rfl
    | str s => rw [(rd_str r').1]; rfl
    | _ => cases h'
  | str s =>
    rw [(rd_str r).1]
    cases e with
    | non => rw [rd_non r']; rfl
    | bl b => rw [rd_bl r']; rfl
    | int i => rw [rd_int r']; rfl
    | str s => rw [(rd_str r').1]; rfl
    | _ => cases h'
  | _ => cases h
def inD (x : D) (ds : List D) : Bool := ds.any fun z => deq z x
theorem inV_inD {K : PySem.W.Frag} {F H : Hp} (s : Same F H) {x : D} {v : V} (r : RdV K F H x v) (hx : flat x = true) : ∀ {ds : List D} {vs : List V}, RpL K F ds vs → ds.all flat = true → inV v vs = inD x ds ∧ vs.all flatV = true
  | [], _, q, _ => by rw [rpl_nil_inv q]; exact ⟨rfl, rfl⟩
  | d :: ds, _, q, k => by
    obtain ⟨w, ws, rfl, q1, q2⟩ := rpl_cons_inv q
    rw [List.all_cons, Bool.and_eq_true] at k
    obtain ⟨i1, i2⟩ := inV_inD s r hx q2 k.2
    have rd := rd_of q1 s
    unfold inV inD at i1 ⊢
    rw [List.any_cons, List.any_cons, eqV_deq rd r k.1 hx, i1, List.all_cons, i2, flat_rd rd k.1]
    exact ⟨rfl, rfl⟩
theorem toPDs_map (ds : List D) : toPDs ds = ds.map toPD := by
  induction ds with
  | nil => rfl
  | cons d ds ih => rw [toPDs, ih]; rfl
def oIn (neg : Bool) : O2
  | .str s, .str t => some (.imm (.bl (if neg then !isub s t else isub s t)))
  | d, .lst ds => if flat d = true ∧ ds.all flat = true then some (.imm (.bl (if neg then !inD d ds else inD d ds))) else
      if okE d = true ∧ okEs ds = true ∧ dep d ≤ 60 ∧ deps ds ≤ 60 then some (.imm (.bl (if neg then !inD d ds else inD d ds))) else none
  | d, .tup ds => if flat d = true ∧ ds.all flat = true then some (.imm (.bl (if neg then !inD d ds else inD d ds))) else none
  | _, _ => none
def rInA (K : PySem.W.Frag) (neg : Bool) : R2 := fun x y H Q => ((∃ s t, x = .str (mkS s) ∧ y = .str (mkS t) ∧ Q (.bl (if neg then !isub s t else isub s t)) H) ∨ rIn K neg x y H Q) ∨ (if neg then rNotInD K x y H Q else rInD K x y H Q)
theorem op_inA (hu : X.A.units + 65 < cLine) : OpR X (compareOp .In) (rInA X.K false) := by
  refine OpR.or (OpR.or ?_ op_in_seq) (op_inD hu)
  intro pins s σ H x y v u Q I rx ry ⟨a, b, ex, ey, q⟩
  exact op_in_str pins s σ H x y v u Q I rx ry ⟨_, _, ex, ey, by rw [isub_occ]; exact q⟩
theorem op_ninA (hu : X.A.units + 65 < cLine) : OpR X (compareOp .NotIn) (rInA X.K true) := by
  refine OpR.or (OpR.or ?_ op_notIn_seq) (op_notInD hu)
  intro pins s σ H x y v u Q I rx ry ⟨a, b, ex, ey, q⟩
  exact op_notin_str pins s σ H x y v u Q I rx ry ⟨_, _, ex, ey, by rw [isub_occ]; exact q⟩
theorem shaped_of {d : PyData} (h : d.canLay0 = true) (k : d.depth ≤ 64) : SeqAt.shaped d = true := by
  unfold SeqAt.shaped
  rw [h, decide_eq_true k]; rfl
theorem od_in (neg : Bool) : OpD X (rInA X.K neg) (oIn neg) := by
  intro W F H ρ σ Γ d1 d2 v1 v2 e Q eK S r1 r2 h w
  rw [← eK]
  unfold oIn at h
  split at h
  · cases h
    obtain ⟨rfl, o1⟩ := rd_str r1
    obtain ⟨rfl, o2⟩ := rd_str r2
    exact .inl (.inl ⟨_, _, rfl, rfl, w.here S rp_bl⟩)
  · rename_i ds
    obtain ⟨a, vs, rfl, h1, q1⟩ := rd_lst r2
    by_cases c : flat d1 = true ∧ ds.all flat = true
    · rw [if_pos c] at h
      cases h
      obtain ⟨i1, i2⟩ := inV_inD S.sub r1 c.1 q1 c.2
      exact .inl (.inr ⟨a, vs, rfl, .inl (.inl (.inl h1)), flat_rd r1 c.1, i2, by rw [i1]; exact w.here S rp_bl⟩)
    · rw [if_neg c] at h
      obtain ⟨⟨k1, k2, k3, k4⟩, rfl⟩ := if_inv h
      obtain ⟨p1, c1⟩ := dp_rd S.sub r1 k1
      obtain ⟨p2, c2⟩ := dp_ofs S.sub ds vs q1 k2
      have e1 : SeqAt.shaped (toPD d1) = true := shaped_of c1 (by rw [dep_pd]; omega)
      have e2 : SeqAt.shaped (.list (toPDs ds)) = true := shaped_of (by simp only [PyData.canLay0]; exact c2) (by simp only [PyData.depth, deps_pd]; omega)
      have e3 : ((toPDs ds).any fun z => PyData.eqv z (toPD d1)) = inD d1 ds := by
        rw [toPDs_map, List.any_map]; rfl
      refine .inr ?_
      cases neg with
      | true => exact ⟨_, _, p1, .lst (.inl (.inl h1)) p2, e1, e2, by rw [e3]; exact w.here S rp_bl⟩
      | false => exact ⟨_, _, p1, .lst (.inl (.inl h1)) p2, e1, e2, by rw [e3]; exact w.here S rp_bl⟩
  · obtain ⟨a, vs, rfl, h1, q1⟩ := rd_tup r2
    obtain ⟨⟨k1, k2⟩, rfl⟩ := if_inv h
    obtain ⟨i1, i2⟩ := inV_inD S.sub r1 k1 q1 k2
    exact .inl (.inr ⟨a, vs, rfl, .inr (sqT_mono S.sub h1), flat_rd r1 k1, i2, by rw [i1]; exact w.here S rp_bl⟩)
  · cases h
end

/-! ### argument lists, displays -/
inductive ARes where
  | ok (es : List EV) (Γ : Gm)
  | stuck
abbrev AM := Gm → ARes
def aNil : AM := fun Γ => .ok [] Γ
def aCons (f : EM) (r : AM) : AM := fun Γ => match f Γ with
  | .ok e Γ1 => match r Γ1 with
    | .ok es Γ2 => .ok (e.fz :: es) Γ2
    | .stuck => .stuck
  | .stuck => .stuck
def tA (K : PySem.W.Frag) (f : AM) : TA := fun σ H Q => ∃ (W : Wd) (F : Hp) (ρ : Nat → Option Addr) (Γ : Gm), W.K = K ∧ Sim W F H ρ σ Γ ∧ ∃ es Γ', f Γ = .ok es Γ' ∧ EV.oks es = true ∧
  ∀ vs F' H', Same F F' → Sim W F' H' ρ σ Γ' → RpEs W F' H' ρ es vs → Q vs H'
def DA (X : Cx) (es : List Expr) (f : AM) : Prop := PA X es (tA X.K f)
theorem pa_imp {X : Cx} {es : List Expr} {t t' : TA} (h : PA X es t) (i : ∀ σ H Q, t' σ H Q → t σ H Q) : PA X es t' := ⟨fun pos pins s σ H Q I q => h.run pos pins s σ H Q I (i σ H Q q)⟩
theorem aCons_inv {f : EM} {r : AM} {Γ Γ2 : Gm} {es : List EV} (h : aCons f r Γ = .ok es Γ2) : ∃ e Γ1 es', f Γ = .ok e Γ1 ∧ r Γ1 = .ok es' Γ2 ∧ es = e.fz :: es' := by
  unfold aCons at h
  split at h
  · rename_i e Γ1 hf
    split at h
    · rename_i es' Γ2' hr
      cases h
      exact ⟨e, Γ1, es', hf, hr, rfl⟩
    · cases h
  · cases h
section
variable {X : Cx} {e : Expr} {es : List Expr} {f : EM} {r : AM} {pos : Pos}
theorem da_nil : DA X [] aNil := pa_imp pa_nil fun _ _ _ ⟨W, F, ρ, Γ, eK, S, es, Γ', ef, ok, q⟩ => by
  cases ef
  exact q [] F _ (Same.refl F) S (by unfold RpEs; rfl)
theorem da_cons (ha : DE X e f) (hr : DA X es r) (hs : starEach (e :: es) X.env = (false, eval e X.env) :: starEach es X.env := by rfl) : DA X (e :: es) (aCons f r) :=
  pa_imp (pa_cons ha hr hs) fun _ _ _ ⟨W, F, ρ, Γ, eK, S, es, Γ', ef, ok, q⟩ => by
    obtain ⟨e1, Γ1, es', h1, h2, rfl⟩ := aCons_inv ef
    unfold EV.oks at ok
    rw [Bool.and_eq_true] at ok
    refine tE_then eK S h1 ok.1 fun v F1 H1 s1 S1 r1 => ?_
    refine ⟨W, F1, ρ, Γ1, eK, S1, es', Γ', h2, ok.2, fun vs F2 H2 s2 S2 r2 => q _ F2 H2 (s1.trans s2) S2 ?_⟩
    unfold RpEs
    exact ⟨v, vs, rfl, RpE.mono s2 _ _ ok.1 r1, r2⟩
def allImm : List EV → Option (List D)
  | [] => some []
  | .imm d :: r => (allImm r).map (d :: ·)
  | _ => none
theorem allImm_rp {W : Wd} {F H : Hp} {ρ : Nat → Option Addr} : ∀ {es : List EV} {vs : List V} {ds : List D}, allImm es = some ds → RpEs W F H ρ es vs → RpL W.K F ds vs
  | [], _, _, h, r => by
    cases h
    unfold RpEs at r
    subst r
    exact rpl_nil
  | .imm d :: es, vs, ds, h, r => by
    unfold allImm at h
    obtain ⟨ds', h', rfl⟩ := omap_inv h
    unfold RpEs at r
    obtain ⟨v, ws, rfl, a, b⟩ := r
    unfold RpE at a
    exact rpl_cons a (allImm_rp h' b)
  | .fr d :: _, _, _, h, _ => by cases h
  | .bor i :: _, _, _, h, _ => by cases h
  | .tl _ :: _, _, _, h, _ => by cases h
  | .tt _ :: _, _, _, h, _ => by cases h
theorem rpes_len {W : Wd} {F H : Hp} {ρ : Nat → Option Addr} : ∀ {es : List EV} {vs : List V}, RpEs W F H ρ es vs → vs.length = es.length
  | [], _, r => by unfold RpEs at r; subst r; rfl
  | e :: es, _, r => by
    unfold RpEs at r
    obtain ⟨v, ws, rfl, a, b⟩ := r
    simp [rpes_len b]
def mkL (es : List EV) : EV := match allImm es with
  | some ds => .fr (.lst ds)
  | none => .tl es
def mkT (es : List EV) : EV := match allImm es with
  | some ds => .imm (.tup ds)
  | none => .tt es
def eDisp (mk : List EV → EV) (a : AM) : EM := fun Γ => match a Γ with
  | .ok es Γ' => if es.length ≤ 1000 then .ok (mk es) Γ' else .stuck
  | .stuck => .stuck
abbrev eLst := eDisp mkL
abbrev eTup := eDisp mkT
theorem disp_inv {mk : List EV → EV} {a : AM} {Γ Γ' : Gm} {e : EV} (h : eDisp mk a Γ = .ok e Γ') : ∃ es, a Γ = .ok es Γ' ∧ es.length ≤ 1000 ∧ e = mk es := by
  unfold eDisp at h
  split at h
  · rename_i es Γ1 ha
    split at h
    · rename_i hl
      cases h
      exact ⟨es, ha, hl, rfl⟩
    · cases h
  · cases h
theorem de_lst (h : DA X es r) : DE X (.List es pos) (eLst r) :=
  pe_imp (pe_lst h) fun _ _ _ ⟨W, F, ρ, Γ, eK, S, e, Γ', ef, ok, q⟩ => by
    obtain ⟨es, ha, hl, rfl⟩ := disp_inv ef
    have oks : EV.oks es = true := by
      unfold mkL at ok
      split at ok
      · rename_i ds hd
        clear ef ok q ha hl
        induction es generalizing ds with
        | nil => rfl
        | cons x xs ih =>
          cases x with
          | imm d =>
            unfold allImm at hd
            obtain ⟨ds', h', rfl⟩ := omap_inv hd
            show (true && EV.oks xs) = true
            rw [ih ds' h']; rfl
          | fr d => cases hd
          | frn _ => cases hd
          | inn _ _ => cases hd
          | bor i => cases hd
          | tl _ => cases hd
          | tt _ => cases hd
      · exact ok
    refine ⟨W, F, ρ, Γ, eK, S, es, Γ', ha, oks, fun vs F1 H1 s1 S1 r1 => ⟨by rw [rpes_len r1, sizeLine_eq]; omega, fun p hp => ?_⟩⟩
    unfold mkL at q
    split at q
    · rename_i ds hd
      exact Wish.newl (fun v F' H' s' S' r' => q v F' H' (s1.trans s') S' r') S1 hp (allImm_rp hd r1)
    · obtain ⟨k, S2⟩ := S1.allocF (o := .lst vs) hp
      refine q (.ref p) _ _ (s1.trans k) S2 ?_
      unfold RpE
      exact ⟨p, vs, rfl, upd_same, RpEs.mono k _ _ oks r1⟩
theorem de_tup {x1} (h : DA X es r) : DE X (.Tuple es x1 pos) (eTup r) :=
  pe_imp (pe_tup h) fun _ _ _ ⟨W, F, ρ, Γ, eK, S, e, Γ', ef, ok, q⟩ => by
    obtain ⟨es, ha, hl, rfl⟩ := disp_inv ef
    have oks : EV.oks es = true := by
      unfold mkT at ok
      split at ok
      · rename_i ds hd
        clear ef ok q ha hl
        induction es generalizing ds with
        | nil => rfl
        | cons x xs ih =>
          cases x with
          | imm d =>
            unfold allImm at hd
            obtain ⟨ds', h', rfl⟩ := omap_inv hd
            show (true && EV.oks xs) = true
            rw [ih ds' h']; rfl
          | fr d => cases hd
          | frn _ => cases hd
          | inn _ _ => cases hd
          | bor i => cases hd
          | tl _ => cases hd
          | tt _ => cases hd
      · exact ok
    refine ⟨W, F, ρ, Γ, eK, S, es, Γ', ha, oks, fun vs F1 H1 s1 S1 r1 => ⟨by rw [rpes_len r1, sizeLine_eq]; omega, fun p hp => ?_⟩⟩
    unfold mkT at q
    split at q
    · rename_i ds hd
      exact Wish.newt (fun v F' H' s' S' r' => q v F' H' (s1.trans s') S' r') S1 hp (allImm_rp hd r1)
    · obtain ⟨k, S2⟩ := S1.allocF (o := .tup vs) hp
      refine q (.ref p) _ _ (s1.trans k) S2 ?_
      unfold RpE
      exact ⟨p, vs, rfl, upd_same, RpEs.mono k _ _ oks r1⟩
end
end DL

namespace DL
open PySem PySem.Spec PyProof.Rows L2

section
variable {W : Wd} {F F' H H' : Hp} {ρ : Nat → Option Addr} {σ : L2.St} {Γ Γ' : Gm} {p a : Addr} {o : HO} {i : Nat} {d : D} {v : V}
/-- the slot i changes, and what it owns -/
theorem Sim.chg (S : Sim W F H ρ σ Γ) (hi : i < Γ.length) {ρ' : Nat → Option Addr} {σ' : L2.St} {s' : Sl} (k : Same F F') (fh : Same F' H') (hn : ∀ a o, F' a = some o → F a = some o ∨ W.B a = none) (hk : ∀ a o, W.B a = some o → a ∉ W.P → H' a = some o)
    (hp : ∀ a ∈ W.P, ∃ o, H' a = some o) (hro : ∀ j a, ρ' j = some a → ∃ o, H' a = some o) (hr : ∀ j, j ≠ i → (∀ k, j ≠ gix Γ.length i k) → ρ' j = ρ j) (hl : σ'.length = σ.length) (hσ : ∀ j, j ≠ i → σ'[j]? = σ[j]?)
    (hs : SlOk W F' H' Γ.length i (ρ' i) (fun k => ρ' (gix Γ.length i k)) σ'[i]? s')
    (he : ∀ j a, j ≠ i → (∀ k, j ≠ gix Γ.length i k) → ρ j = some a → Act Γ j → (∀ o, H a = some o → H' a = some o) ∧ (F a = none → F' a = none))
    (h1 : ∀ j l a, ((j = i ∧ isOwned s' = true) ∨ ∃ io ds k, s' = .nst io ds ∧ k < ninn ds ∧ j = gix Γ.length i k) → ρ' j = some a → ρ' l = some a → j = l)
    (h2 : ∀ j a l, Act Γ j → j ≠ i → (∀ k, j ≠ gix Γ.length i k) → ρ j = some a → (l = i ∨ ∃ k, l = gix Γ.length i k) → ρ' l ≠ some a)
    (hpin : ∀ q ∈ W.pins, H' q.1 = some q.2 ∧ F' q.1 = none ∧ ∀ j, ρ' j ≠ some q.1) (hx : Ext W H') : Sim W F' H' ρ' σ' (Γ.set i s') := by
  refine ⟨fh, fun a o e => ?_, hk, hp, hro, by rw [hl, List.length_set]; exact S.len, by rw [List.length_set]; exact S.gl, fun j s q => ?_, fun j l a ha e1 e2 => ?_, hpin, hx⟩
  · rcases hn a o e with z | z
    · exact S.new _ _ z
    · exact .inr z
  · rw [List.length_set]
    by_cases hj : j = i
    · subst hj
      rw [List.getElem?_set_self hi] at q
      cases q
      exact hs
    · rw [List.getElem?_set_ne (Ne.symm hj)] at q
      have hjl := (List.getElem?_eq_some_iff.mp q).1
      have ng : ∀ k, j ≠ gix Γ.length i k := fun k e => by have := gix_ge (n := Γ.length) (i := i) (k := k); omega
      have gj : ∀ k, ρ' (gix Γ.length j k) = ρ (gix Γ.length j k) := fun k => hr _ (fun e => by have := gix_ge (n := Γ.length) (i := j) (k := k); omega) fun k' e => hj (gix_inj hjl hi e).1
      have sl := S.slot j s q
      rw [hr j hj ng, hσ j hj, funext gj]
      cases s with
      | un => exact sl
      | val d =>
        obtain ⟨v, x1, x2, x3⟩ := sl
        exact ⟨v, x1, Rp.mono k _ _ x2, fun c ec => ⟨(x3 c ec).1, let ⟨o, eo⟩ := (x3 c ec).2; ⟨o, k _ _ eo⟩⟩⟩
      | own io d =>
        obtain ⟨a, e1, e2, e3, e4, e5⟩ := sl
        obtain ⟨p1, p2⟩ := he j a hj ng e1 (Act.own q)
        exact ⟨a, e1, e2, e3.mono k p1, p2 e4, e5⟩
      | nst io ds =>
        obtain ⟨a, bs, e1, e2, e3, e4, e5, e6⟩ := sl
        obtain ⟨p1, p2⟩ := he j a hj ng e1 (Act.nst q)
        have gp : ∀ b ∈ bs, (∀ o, H b = some o → H' b = some o) ∧ (F b = none → F' b = none) := fun b hb => by
          obtain ⟨k, hk, rfl⟩ := List.getElem_of_mem hb
          obtain ⟨vs, n1, n2, n3⟩ := e3
          have hk2 : k < ninn ds := by have := n2.len.2; unfold ninn; omega
          exact he _ _ (fun e => by have := gix_ge (n := Γ.length) (i := j) (k := k); omega) (fun k' e => hj (gix_inj hjl hi e).1) (e5 k _ (List.getElem?_eq_getElem hk)) (Act.inn q hk2)
        refine ⟨a, bs, e1, e2, e3.mono k (fun b hb => ?_) (fun b hb => (gp b hb).2), p2 e4, e5, e6⟩
        rcases List.mem_cons.mp hb with rfl | hb
        · exact p1
        · exact (gp b hb).1
  · rcases act_set hi ha with h | h | ⟨aj, hj, ng⟩
    · exact h1 j l a (.inl h) e1 e2
    · exact h1 j l a (.inr h) e1 e2
    · rw [hr j hj ng] at e1
      by_cases hl2 : l = i ∨ ∃ k, l = gix Γ.length i k
      · exact absurd e2 (h2 j a l aj hj ng e1 hl2)
      · rw [hr l (fun e => hl2 (.inl e)) fun k e => hl2 (.inr ⟨k, e⟩)] at e2
        exact S.one j l a aj e1 e2
theorem gix_ne {n i k : Nat} (hi : i < n) : gix n i k ≠ i := fun e => by have := gix_ge (n := n) (i := i) (k := k); omega
theorem Sim.freeze (S : Sim W F H ρ σ Γ) (hs : Γ[i]? = some (.own false d)) (ha : ρ i = some a) : ∃ F', Same F F' ∧ Sim W F' H ρ σ (Γ.set i (.val d)) ∧ Rp W.K F' d (.ref a) := by
  obtain ⟨a', e1, e2, e3, e4, e5⟩ := S.slot i _ hs
  rw [ha] at e1; cases e1
  rw [if_neg (by decide)] at e5
  obtain ⟨u, hu, hr⟩ := own_ho e3
  have k : Same F (upd F a u) := same_upd e4
  have hi : i < Γ.length := (List.getElem?_eq_some_iff.mp hs).1
  refine ⟨upd F a u, k, S.chg hi k (fun b x q => ?_) (fun b x q => ?_) S.keep S.pal S.ro (fun _ _ _ => rfl) rfl (fun _ _ => rfl) ⟨.ref a, e2, hr _ upd_same k, fun b eb => by rw [ha] at eb; cases eb; exact ⟨rfl, u, upd_same⟩⟩ (fun j b hj ng ej aj => ⟨fun _ z => z, fun z => ?_⟩) (fun j l b h => ?_) (fun j b l aj hj ng ej hl el => ?_) (fun q hq => ?_) S.ext, hr _ upd_same k⟩
  · by_cases hb : b = a
    · subst hb; rw [upd_same] at q; cases q; exact hu
    · rw [upd_ne hb] at q; exact S.sub _ _ q
  · by_cases hb : b = a
    · subst hb; exact .inr e5.2
    · rw [upd_ne hb] at q; exact .inl q
  · rw [upd_ne fun z => hj (S.one j i a aj (by rw [ej, z]) ha)]; exact z
  · rcases h with ⟨_, h⟩ | ⟨_, _, _, h, _⟩ <;> cases h
  · rcases hl with rfl | ⟨k, rfl⟩
    · exact hj (S.one j _ b aj ej el)
    · exact ng k (S.one j _ b aj ej el)
  · obtain ⟨x, y, z⟩ := S.pin q hq
    exact ⟨x, by rw [upd_ne fun e => z i (by rw [ha, e])]; exact y, z⟩

mutual
def settle : EV → Gm → Option (D × Gm)
  | .imm d, Γ => some (d, Γ)
  | .fr d, Γ => some (d, Γ)
  | .frn _, _ => none
  | .inn _ _, _ => none
  | .bor i, Γ => match Γ[i]? with
    | some (.val d) => some (d, Γ)
    | some (.own false d) => some (d, Γ.set i (.val d))
    | _ => none
  | .tl es, Γ => (settles es Γ).map fun p => (.lst p.1, p.2)
  | .tt es, Γ => (settles es Γ).map fun p => (.tup p.1, p.2)
def settles : List EV → Gm → Option (List D × Gm)
  | [], Γ => some ([], Γ)
  | e :: es, Γ => match settle e Γ with
    | none => none
    | some p => (settles es p.2).map fun q => (p.1 :: q.1, q.2)
end
@[simp] theorem settle_imm (d : D) (Γ : Gm) : settle (.imm d) Γ = some (d, Γ) := by unfold settle; rfl
mutual
theorem settle_ok {W : Wd} {H : Hp} {ρ : Nat → Option Addr} {σ : L2.St} : ∀ (e : EV) (Γ Γ' : Gm) (d : D) (F : Hp) (v : V), Sim W F H ρ σ Γ → e.ok = true → RpE W F H ρ e v → settle e Γ = some (d, Γ') → ∃ F', Same F F' ∧ Sim W F' H ρ σ Γ' ∧ Rp W.K F' d v
  | .imm x, Γ, Γ', d, F, v, S, _, r, h => by
    unfold settle at h
    cases h
    unfold RpE at r
    exact ⟨F, Same.refl F, S, r⟩
  | .fr _, _, _, _, _, _, _, k, _, _ => by simp [EV.ok] at k
  | .frn _, _, _, _, _, _, _, k, _, _ => by simp [EV.ok] at k
  | .inn _ _, _, _, _, _, _, _, _, _, h => by unfold settle at h; cases h
  | .bor i, Γ, Γ', d, F, v, S, _, r, h => by
    unfold RpE at r
    obtain ⟨a, ea, rfl⟩ := r
    unfold settle at h
    split at h
    · rename_i x hs
      cases h
      obtain ⟨w, e1, e2, e3⟩ := S.slot i _ hs
      rw [(e3 a ea).1] at e2
      exact ⟨F, Same.refl F, S, e2⟩
    · rename_i x hs
      cases h
      exact S.freeze hs ea
    · cases h
  | .tl es, Γ, Γ', d, F, v, S, k, r, h => by
    unfold RpE at r
    unfold EV.ok at k
    obtain ⟨a, vs, rfl, x, q⟩ := r
    unfold settle at h
    obtain ⟨p, hp, e⟩ := omap_inv h
    cases e
    obtain ⟨F', s, S', q'⟩ := settles_ok es Γ p.2 p.1 F vs S k q hp
    exact ⟨F', s, S', rp_lst (s _ _ x) q'⟩
  | .tt es, Γ, Γ', d, F, v, S, k, r, h => by
    unfold RpE at r
    unfold EV.ok at k
    obtain ⟨a, vs, rfl, x, q⟩ := r
    unfold settle at h
    obtain ⟨p, hp, e⟩ := omap_inv h
    cases e
    obtain ⟨F', s, S', q'⟩ := settles_ok es Γ p.2 p.1 F vs S k q hp
    exact ⟨F', s, S', rp_tup ((s _ _ x)) q'⟩
theorem settles_ok {W : Wd} {H : Hp} {ρ : Nat → Option Addr} {σ : L2.St} : ∀ (es : List EV) (Γ Γ' : Gm) (ds : List D) (F : Hp) (vs : List V), Sim W F H ρ σ Γ → EV.oks es = true → RpEs W F H ρ es vs → settles es Γ = some (ds, Γ') → ∃ F', Same F F' ∧ Sim W F' H ρ σ Γ' ∧ RpL W.K F' ds vs
  | [], Γ, Γ', ds, F, vs, S, _, r, h => by
    unfold settles at h
    cases h
    unfold RpEs at r
    subst r
    exact ⟨F, Same.refl F, S, rpl_nil⟩
  | e :: es, Γ, Γ', ds, F, vs, S, k, r, h => by
    unfold RpEs at r
    unfold EV.oks at k
    rw [Bool.and_eq_true] at k
    obtain ⟨v, ws, rfl, r1, r2⟩ := r
    unfold settles at h
    split at h
    · cases h
    · rename_i p hp
      obtain ⟨q, hq, e'⟩ := omap_inv h
      cases e'
      obtain ⟨F1, s1, S1, q1⟩ := settle_ok e Γ p.2 p.1 F v S k.1 r1 hp
      obtain ⟨F2, s2, S2, q2⟩ := settles_ok es p.2 q.2 q.1 F1 ws S1 k.2 (RpEs.mono s1 es ws k.2 r2) hq
      exact ⟨F2, s1.trans s2, S2, rpl_cons (Rp.mono s2 _ _ q1) q2⟩
end

def unset (ρ : Nat → Option Addr) (i : Nat) : Nat → Option Addr := fun j => if j = i then none else ρ j
theorem unset_same {ρ : Nat → Option Addr} {i : Nat} : unset ρ i i = none := if_pos rfl
theorem unset_ne {ρ : Nat → Option Addr} {i j : Nat} (h : j ≠ i) : unset ρ i j = ρ j := if_neg h
theorem unset_le {ρ : Nat → Option Addr} {i j : Nat} {a : Addr} (h : unset ρ i j = some a) : j ≠ i ∧ ρ j = some a := by
  unfold unset at h
  split at h
  · cases h
  · rename_i hj; exact ⟨hj, h⟩
/-- a name gets a frozen value -/
theorem Sim.setVal (S : Sim W F H ρ σ Γ) (hi : i < Γ.length) (r : Rp W.K F d v) : Sim W F H (unset ρ i) (σ.set i (some v)) (Γ.set i (.val d)) := by
  refine S.chg hi (Same.refl F) S.sub (fun a o e => .inl e) S.keep S.pal (fun j a e => S.ro j a (unset_le e).2) (fun j hj _ => unset_ne hj) (List.length_set ..) (fun j hj => List.getElem?_set_ne (Ne.symm hj)) ⟨v, List.getElem?_set_self (by rw [S.len]; exact hi), r, fun b e => by rw [unset_same] at e; cases e⟩ (fun _ _ _ _ _ _ => ⟨fun _ z => z, fun z => z⟩) (fun j l a h => ?_) (fun j b l aj hj ng ej hl el => ?_) (fun q hq => ?_) S.ext
  · rcases h with ⟨_, h⟩ | ⟨_, _, _, h, _⟩ <;> cases h
  · obtain ⟨h1, h2⟩ := unset_le el
    rcases hl with rfl | ⟨k, rfl⟩
    · exact h1 rfl
    · exact ng k (S.one j _ b aj ej h2)
  · obtain ⟨x, y, z⟩ := S.pin q hq
    exact ⟨x, y, fun j e => z j (unset_le e).2⟩
/-- a name gets an object of its own -/
theorem Sim.setOwn (S : Sim W F H ρ σ Γ) (hi : i < Γ.length) (o : OwnAt W.K F H a d) (N : New W F H ρ a) : Sim W F H (fun j => if j = i then some a else ρ j) (σ.set i (some (.ref a))) (Γ.set i (.own false d)) := by
  have key : ∀ j b, (if j = i then some a else ρ j) = some b → (j = i ∧ b = a) ∨ (j ≠ i ∧ ρ j = some b) := fun j b e => by
    by_cases hj : j = i
    · rw [if_pos hj] at e; cases e; exact .inl ⟨hj, rfl⟩
    · rw [if_neg hj] at e; exact .inr ⟨hj, e⟩
  refine S.chg hi (Same.refl F) S.sub (fun a o e => .inl e) S.keep S.pal (fun j b e => ?_) (fun j hj _ => if_neg hj) (List.length_set ..) (fun j hj => List.getElem?_set_ne (Ne.symm hj)) ⟨a, if_pos rfl, List.getElem?_set_self (by rw [S.len]; exact hi), o, N.f, by rw [if_neg (by decide)]; exact ⟨N.np, N.b⟩⟩ (fun _ _ _ _ _ _ => ⟨fun _ z => z, fun z => z⟩) (fun j l b h e1 e2 => ?_) (fun j b l aj hj ng ej hl el => ?_) (fun q hq => ?_) S.ext
  · rcases key j b e with ⟨_, rfl⟩ | ⟨_, e⟩
    · exact o.there
    · exact S.ro j b e
  · rcases h with ⟨rfl, _⟩ | ⟨_, _, _, h, _⟩
    · rcases key _ b e1 with ⟨_, rfl⟩ | ⟨h, _⟩
      · rcases key l b e2 with ⟨h, _⟩ | ⟨_, h⟩
        · exact h.symm
        · exact absurd h (N.r l)
      · exact absurd rfl h
    · cases h
  · rcases key l b el with ⟨_, rfl⟩ | ⟨hli, h⟩
    · exact N.r j ej
    · rcases hl with rfl | ⟨k, rfl⟩
      · exact hli rfl
      · exact ng k (S.one j _ b aj ej h)
  · obtain ⟨x, y, z⟩ := S.pin q hq
    refine ⟨x, y, fun j e => ?_⟩
    rcases key j _ e with ⟨_, h⟩ | ⟨_, h⟩
    · exact N.n q hq h
    · exact z j h
/-- a name gets a list that owns lists -/
def setG (ρ : Nat → Option Addr) (n i : Nat) (a : Addr) (bs : List Addr) : Nat → Option Addr := fun j => if j = i then some a else if j % n = i ∧ n ≤ j ∧ j / n - 1 < bs.length then bs[j / n - 1]? else ρ j
theorem gix_div {n i k : Nat} (hi : i < n) : gix n i k % n = i ∧ gix n i k / n - 1 = k := by
  unfold gix
  refine ⟨by rw [Nat.mul_add_mod]; exact Nat.mod_eq_of_lt hi, ?_⟩
  rw [Nat.mul_add_div (by omega), Nat.div_eq_of_lt hi]
  omega
theorem setG_i {ρ : Nat → Option Addr} {n i : Nat} {a : Addr} {bs : List Addr} : setG ρ n i a bs i = some a := if_pos rfl
theorem setG_g {ρ : Nat → Option Addr} {n i k : Nat} {a b : Addr} {bs : List Addr} (hi : i < n) (h : bs[k]? = some b) : setG ρ n i a bs (gix n i k) = some b := by
  obtain ⟨d1, d2⟩ := gix_div (k := k) hi
  have hk := (List.getElem?_eq_some_iff.mp h).1
  unfold setG
  rw [if_neg (gix_ne hi), if_pos ⟨d1, gix_ge, by omega⟩, d2, h]
theorem setG_le {ρ : Nat → Option Addr} {n i j : Nat} {a b : Addr} {bs : List Addr} (hi : i < n) (h : setG ρ n i a bs j = some b) : (j = i ∧ b = a) ∨ (∃ k, j = gix n i k ∧ bs[k]? = some b) ∨ (j ≠ i ∧ ρ j = some b) := by
  unfold setG at h
  split at h
  · rename_i hj
    cases h
    exact .inl ⟨hj, rfl⟩
  · rename_i hj
    split at h
    · rename_i hc
      refine .inr (.inl ⟨j / n - 1, ?_, h⟩)
      unfold gix
      have h1 : 1 ≤ j / n := Nat.div_pos hc.2.1 (by omega)
      rw [show j / n - 1 + 1 = j / n by omega]
      have := Nat.div_add_mod j n
      omega
    · exact .inr (.inr ⟨hj, h⟩)
theorem setG_out {ρ : Nat → Option Addr} {n i j : Nat} {a : Addr} {bs : List Addr} (hi : i < n) (hj : j ≠ i) (ng : ∀ k, j ≠ gix n i k) : setG ρ n i a bs j = ρ j := by
  unfold setG
  rw [if_neg hj, if_neg]
  rintro ⟨h1, h2, h3⟩
  refine ng (j / n - 1) ?_
  unfold gix
  have h4 : 1 ≤ j / n := Nat.div_pos h2 (by omega)
  rw [show j / n - 1 + 1 = j / n by omega]
  have := Nat.div_add_mod j n
  omega
theorem Sim.setNst {bs : List Addr} {ds : List D} (S : Sim W F H ρ σ Γ) (hi : i < Γ.length) (o : NstAt W.K F H a bs ds) (hf : F a = none) (N : ∀ b ∈ a :: bs, New W F H ρ b) : Sim W F H (setG ρ Γ.length i a bs) (σ.set i (some (.ref a))) (Γ.set i (.nst false ds)) := by
  have mem : ∀ j b, setG ρ Γ.length i a bs j = some b → b ∈ a :: bs ∨ ρ j = some b := fun j b e => by
    rcases setG_le hi e with ⟨_, rfl⟩ | ⟨k, _, h⟩ | ⟨_, h⟩
    · exact .inl List.mem_cons_self
    · exact .inl (List.mem_cons_of_mem _ (List.mem_of_getElem? h))
    · exact .inr h
  have nd : (a :: bs).Nodup := by obtain ⟨_, _, _, h⟩ := o; exact h
  have bl : bs.length = ninn ds := by obtain ⟨_, _, h, _⟩ := o; exact h.len.2
  have na : a ∉ bs := (List.nodup_cons.mp nd).1
  refine S.chg hi (Same.refl F) S.sub (fun a o e => .inl e) S.keep S.pal (fun j b e => ?_) (fun j hj ng => setG_out hi hj ng) (List.length_set ..) (fun j hj => List.getElem?_set_ne (Ne.symm hj)) ⟨a, bs, setG_i, List.getElem?_set_self (by rw [S.len]; exact hi), o, hf, fun k b h => setG_g hi h, by unfold OkR; rw [if_neg (by decide)]; exact fun b hb => ⟨(N b hb).np, (N b hb).b⟩⟩ (fun _ _ _ _ _ _ => ⟨fun _ z => z, fun z => z⟩) (fun j l b h e1 e2 => ?_) (fun j b l aj hj ng ej hl el => ?_) (fun q hq => ?_) S.ext
  · rcases mem j b e with h | h
    · exact o.there b h
    · exact S.ro j b h
  · have fresh : b ∈ a :: bs → (l = i ∧ b = a) ∨ ∃ k, l = gix Γ.length i k ∧ bs[k]? = some b := fun hb => by
      rcases setG_le hi e2 with h | h | ⟨_, h⟩
      · exact .inl h
      · exact .inr h
      · exact absurd h ((N b hb).r l)
    rcases h with ⟨rfl, _⟩ | ⟨io, ds', k, h, hk, rfl⟩
    · rw [setG_i] at e1
      cases e1
      rcases fresh List.mem_cons_self with ⟨h, _⟩ | ⟨k, _, h⟩
      · exact h.symm
      · exact absurd (List.mem_of_getElem? h) na
    · cases h
      rw [setG_g hi (List.getElem?_eq_getElem (by omega : k < bs.length))] at e1
      cases e1
      rcases fresh (List.mem_cons_of_mem _ (List.getElem_mem _)) with ⟨_, h⟩ | ⟨k', rfl, h⟩
      · exact absurd (by rw [← h]; exact List.getElem_mem _) na
      · have hk' := (List.getElem?_eq_some_iff.mp h).1
        have := (List.getElem?_eq_some_iff.mp h).2
        have : k' = k := (List.getElem_inj (List.nodup_cons.mp nd).2).mp this
        rw [this]
  · rcases setG_le hi el with ⟨_, rfl⟩ | ⟨k, _, h⟩ | ⟨hli, h⟩
    · exact (N _ List.mem_cons_self).r j ej
    · exact (N b (List.mem_cons_of_mem _ (List.mem_of_getElem? h))).r j ej
    · rcases hl with rfl | ⟨k, rfl⟩
      · exact hli rfl
      · exact ng k (S.one j _ b aj ej h)
  · obtain ⟨x, y, z⟩ := S.pin q hq
    refine ⟨x, y, fun j e => ?_⟩
    rcases mem j _ e with h | h
    · exact (N _ h).n q hq rfl
    · exact z j h
/-- an owned object is written -/
theorem Sim.write {io : Bool} {d' : D} (S : Sim W F H ρ σ Γ) (hs : Γ[i]? = some (.own io d)) (ha : ρ i = some a) (ho : OwnAt W.K F (upd H a o) a d') : Sim W F (upd H a o) ρ σ (Γ.set i (.own io d')) := by
  obtain ⟨a', e1, e2, e3, e4, e5⟩ := S.slot i _ hs
  rw [ha] at e1; cases e1
  have hi : i < Γ.length := (List.getElem?_eq_some_iff.mp hs).1
  have hB : ∀ b x, W.B b = some x → b ∉ W.P → b ≠ a := fun b x e np z => by
    subst z
    cases io with
    | true => rw [if_pos rfl] at e5; exact np e5.2
    | false => rw [if_neg (by decide)] at e5; rw [e5.2] at e; cases e
  refine S.chg hi (Same.refl F) (fun b x q => ?_) (fun a o e => .inl e) (fun b x e np => by rw [upd_ne (hB b x e np)]; exact S.keep b x e np) (fun b hb => ?_) (fun j b e => ?_) (fun _ _ _ => rfl) rfl (fun _ _ => rfl) ⟨a, ha, e2, ho, e4, e5⟩ (fun j b hj ng ej aj => ⟨fun u z => ?_, fun z => z⟩) (fun j l b h h3 h4 => ?_) (fun j b l aj hj ng ej hl el => ?_) (fun q hq => ?_) (S.ext.up fun b _ u e n => by
    by_cases hba : b = a
    · subst hba; exact ⟨o, upd_same, ho.nt upd_same⟩
    · exact ⟨u, by rw [upd_ne hba]; exact e, n⟩)
  · rw [upd_ne fun z => by subst z; rw [e4] at q; cases q]
    exact S.sub _ _ q
  · by_cases hba : b = a
    · subst hba; exact ⟨o, upd_same⟩
    · rw [upd_ne hba]; exact S.pal b hb
  · by_cases hba : b = a
    · subst hba; exact ⟨o, upd_same⟩
    · rw [upd_ne hba]; exact S.ro j b e
  · rw [upd_ne fun e => hj (S.one j i a aj (by rw [ej, e]) ha)]; exact z
  · rcases h with ⟨rfl, _⟩ | ⟨_, _, _, h, _⟩
    · exact S.one _ l b (Act.own hs) h3 h4
    · cases h
  · rcases hl with rfl | ⟨k, rfl⟩
    · exact hj (S.one j _ b aj ej el)
    · exact ng k (S.one j _ b aj ej el)
  · obtain ⟨x, y, z⟩ := S.pin q hq
    exact ⟨by rw [upd_ne fun e => z i (by rw [ha, e])]; exact x, y, z⟩
theorem NstL.nt {K : PySem.W.Frag} {F H : Hp} {ds : List D} {vs : List V} {bs : List Addr} (n : NstL K F H ds vs bs) : ∀ b ∈ bs, ∀ u, H b = some u → noTup u := by
  induction n with
  | nil => intro b hb; cases hb
  | pl _ _ _ ih => exact ih
  | inn _ o _ _ ih =>
    intro b hb u hu
    rcases List.mem_cons.mp hb with rfl | hb
    · exact o.nt hu
    · exact ih b hb u hu
theorem NstAt.nt {K : PySem.W.Frag} {F H : Hp} {a : Addr} {bs : List Addr} {ds : List D} (n : NstAt K F H a bs ds) : ∀ b ∈ a :: bs, ∀ u, H b = some u → noTup u := by
  obtain ⟨vs, h1, h2, h3⟩ := n
  intro b hb u hu
  rcases List.mem_cons.mp hb with rfl | hb
  · rw [h1] at hu; cases hu; intro _ h; cases h
  · exact h2.nt b hb u hu
def AllT (F H : Hp) : Prop := ∀ a vs, H a = some (.tup vs) → F a = some (.tup vs)
/-- all tuples are frozen -/
theorem Sim.tupz (S : Sim W F H ρ σ Γ) : ∃ F', Same F F' ∧ Sim W F' H ρ σ Γ ∧ AllT F' H := by
  let F' : Hp := fun a => match F a with
    | some o => some o
    | none => match H a with
      | some (.tup vs) => some (.tup vs)
      | _ => none
  have f1 : ∀ a o, F a = some o → F' a = some o := fun a o e => by show (match F a with | some o => some o | none => _) = _; rw [e]
  have f2 : ∀ a vs, F a = none → H a = some (.tup vs) → F' a = some (.tup vs) := fun a vs e h => by
    show (match F a with | some o => some o | none => (match H a with | some (.tup vs) => some (.tup vs) | _ => none)) = _
    rw [e, h]
  have f3 : ∀ a o, F' a = some o → F a = some o ∨ (F a = none ∧ ∃ vs, H a = some (.tup vs) ∧ o = .tup vs) := fun a o e => by
    have e : (match F a with | some o => some o | none => (match H a with | some (.tup vs) => some (.tup vs) | _ => none)) = some o := e
    cases hF : F a with
    | some u => rw [hF] at e; exact .inl e
    | none =>
      rw [hF] at e
      dsimp only at e
      split at e
      · rename_i vs hh; cases e; exact .inr ⟨rfl, vs, hh, rfl⟩
      · cases e
  have f4 : ∀ a, F a = none → (∀ u, H a = some u → noTup u) → F' a = none := fun a h n => by
    cases e : F' a with
    | none => rfl
    | some o =>
      rcases f3 a o e with z | ⟨_, vs, z, _⟩
      · rw [h] at z; cases z
      · exact absurd rfl (n _ z vs)
  have k : Same F F' := f1
  refine ⟨F', k, ⟨fun a o e => ?_, fun a o e => ?_, S.keep, S.pal, S.ro, S.len, S.gl, fun i s e => ?_, S.one, fun q hq => ?_, S.ext⟩, fun a vs e => ?_⟩
  · rcases f3 a o e with z | ⟨_, vs, z, rfl⟩
    · exact S.sub _ _ z
    · exact z
  · rcases f3 a o e with z | ⟨_, vs, z, rfl⟩
    · exact S.new _ _ z
    · cases hB : W.B a with
      | none => exact .inr rfl
      | some u =>
        by_cases hP : a ∈ W.P
        · obtain ⟨o, e1, e2⟩ := S.ext.pnt a hP
          rw [z] at e1; cases e1
          exact absurd rfl (e2 vs)
        · have := S.keep a u hB hP
          rw [z] at this; cases this
          exact .inl (S.ext.tb a vs hB)
  · have q := S.slot i s e
    cases s with
    | un => exact q
    | val d =>
      obtain ⟨v, e1, e2, e3⟩ := q
      exact ⟨v, e1, Rp.mono k d v e2, fun a ea => ⟨(e3 a ea).1, let ⟨o, eo⟩ := (e3 a ea).2; ⟨o, k _ _ eo⟩⟩⟩
    | own io d =>
      obtain ⟨a, e1, e2, e3, e4, e5⟩ := q
      exact ⟨a, e1, e2, e3.mono k (fun _ z => z), f4 a e4 fun u hu => e3.nt hu, e5⟩
    | nst io ds =>
      obtain ⟨a, bs, e1, e2, e3, e4, e5, e6⟩ := q
      have nt := e3.nt
      exact ⟨a, bs, e1, e2, e3.mono k (fun b _ o z => z) (fun b hb z => f4 b z (nt b (List.mem_cons_of_mem _ hb))), f4 a e4 (nt a List.mem_cons_self), e5, e6⟩
  · obtain ⟨a, b, c⟩ := S.pin q hq
    refine ⟨a, f4 _ b fun u hu => ?_, c⟩
    rw [a] at hu; cases hu
    exact S.ext.ptn q hq
  · cases hF : F a with
    | none => exact f2 a vs hF e
    | some o => have := S.sub _ _ hF; rw [e] at this; cases this; exact f1 a _ hF
end
end DL

namespace DL
open PySem PySem.Spec PyProof.Rows L2

inductive SRes where
  | nx (Γ : Gm) | bk (Γ : Gm) | ct (Γ : Gm) | ret (e : EV) (Γ : Gm) | stuck
abbrev SM := Gm → SRes
def SGo (W : Wd) (F : Hp) (D : Ends) : SRes → Prop
  | .nx Γ => ∀ F' H' ρ' σ', Same F F' → Sim W F' H' ρ' σ' Γ → D.nx σ' H'
  | .bk Γ => ∀ F' H' ρ' σ', Same F F' → Sim W F' H' ρ' σ' Γ → D.bk σ' H'
  | .ct Γ => ∀ F' H' ρ' σ', Same F F' → Sim W F' H' ρ' σ' Γ → D.ct σ' H'
  | .ret e Γ => ∀ v F' H' ρ' σ', Same F F' → Sim W F' H' ρ' σ' Γ → RpE W F' H' ρ' e v → D.rt v H'
  | .stuck => False
theorem SGo.mono {W : Wd} {F F' : Hp} {D : Ends} {r : SRes} (h : SGo W F D r) (s : Same F F') : SGo W F' D r := by
  cases r with
  | nx Γ => exact fun F1 H' ρ' σ' k => h F1 H' ρ' σ' (s.trans k)
  | bk Γ => exact fun F1 H' ρ' σ' k => h F1 H' ρ' σ' (s.trans k)
  | ct Γ => exact fun F1 H' ρ' σ' k => h F1 H' ρ' σ' (s.trans k)
  | ret e Γ => exact fun v F1 H' ρ' σ' k => h v F1 H' ρ' σ' (s.trans k)
  | stuck => exact h
def tS (K : PySem.W.Frag) (g : SM) : TS := fun D σ H => ∃ (W : Wd) (F : Hp) (ρ : Nat → Option Addr) (Γ : Gm), W.K = K ∧ Sim W F H ρ σ Γ ∧ SGo W F D (g Γ)
def DS (X : Cx) (s : Stmt) (g : SM) : Prop := PS X s (tS X.K g)
def DSs (X : Cx) (s : List Stmt) (g : SM) : Prop := PSs X s (tS X.K g)
theorem ps_imp {X : Cx} {s : Stmt} {t t' : TS} (h : PS X s t) (i : ∀ D σ H, t' D σ H → t D σ H) : PS X s t' := ⟨fun pins st σ H D I q => h.run pins st σ H D I (i D σ H q)⟩
theorem pss_imp {X : Cx} {s : List Stmt} {t t' : TS} (h : PSs X s t) (i : ∀ D σ H, t' D σ H → t D σ H) : PSs X s t' := ⟨fun pins st σ H D I q => h.run pins st σ H D I (i D σ H q)⟩

def sNil : SM := fun Γ => .nx Γ
def sSeq (a b : SM) : SM := fun Γ => match a Γ with
  | .nx Γ1 => b Γ1
  | r => r
def ERes.go (r : ERes) (k : EV → Gm → SRes) : SRes := match r with
  | .ok e Γ => k e Γ
  | .stuck => .stuck
@[simp] theorem go_ok (e : EV) (Γ : Gm) (k : EV → Gm → SRes) : ERes.go (.ok e Γ) k = k e Γ := rfl
def byS (e : EV) (k1 k2 : SRes) : SRes := match e with
  | .imm (.bl true) => k1
  | .imm (.bl false) => k2
  | _ => .stuck
@[simp] theorem byS_t (k1 k2 : SRes) : byS (.imm (.bl true)) k1 k2 = k1 := rfl
@[simp] theorem byS_f (k1 k2 : SRes) : byS (.imm (.bl false)) k1 k2 = k2 := rfl
theorem byS_if (b : Bool) (k1 k2 : SRes) : byS (.imm (.bl b)) k1 k2 = if b = true then k1 else k2 := by cases b <;> rfl
def sIf (c : EM) (a b : SM) : SM := fun Γ => (c Γ).go fun e Γ1 => byS e.fz (a Γ1) (b Γ1)
def sExpr (f : EM) : SM := fun Γ => (f Γ).go fun _ Γ1 => .nx Γ1
def sRet (f : EM) : SM := fun Γ => (f Γ).go fun e Γ1 => .ret e Γ1
def sRetN : SM := fun Γ => .ret (.imm .non) Γ
def isIo : Option Sl → Bool
  | some (.own true _) => true
  | some (.nst true _) => true
  | none => true
  | _ => false
def setv (i : Nat) (d : D) (Γ : Gm) : SRes := if isIo Γ[i]? = true then .stuck else .nx (Γ.set i (.val d))
def SRes.ofS (o : Option (D × Gm)) (k : D → Gm → SRes) : SRes := match o with
  | some p => k p.1 p.2
  | none => .stuck
@[simp] theorem ofS_some (d : D) (Γ : Gm) (k : D → Gm → SRes) : SRes.ofS (some (d, Γ)) k = k d Γ := rfl
def sSet (i : Nat) (f : EM) : SM := fun Γ => (f Γ).go fun e Γ1 => SRes.ofS (settle e.fz Γ1) (setv i)
/-- the name owns the new object -/
def sOwn (i : Nat) (f : EM) : SM := fun Γ => (f Γ).go fun e Γ1 => match e with
  | .fr d => if isIo Γ1[i]? = true then .stuck else .nx (Γ1.set i (.own false d))
  | _ => .stuck
section
variable {X : Cx} {pos : Pos} {st : Stmt} {rest : List Stmt} {a b : List Stmt} {f g h : EM} {s1 s2 : SM} {e c : Expr}
theorem go_inv {W : Wd} {F : Hp} {D : Ends} {r : ERes} {k : EV → Gm → SRes} (h : SGo W F D (r.go k)) : ∃ e Γ, r = .ok e Γ ∧ SGo W F D (k e Γ) := by
  cases r with
  | ok e Γ => exact ⟨e, Γ, rfl, h⟩
  | stuck => exact False.elim h
theorem byS_inv {W : Wd} {F : Hp} {D : Ends} {e : EV} {k1 k2 : SRes} (h : SGo W F D (byS e k1 k2)) : ∃ b, e = .imm (.bl b) ∧ SGo W F D (if b = true then k1 else k2) := by
  unfold byS at h
  split at h
  · exact ⟨true, rfl, h⟩
  · exact ⟨false, rfl, h⟩
  · exact False.elim h
theorem ofS_inv {W : Wd} {F : Hp} {D : Ends} {o : Option (DL.D × Gm)} {k : DL.D → Gm → SRes} (h : SGo W F D (SRes.ofS o k)) : ∃ d Γ, o = some (d, Γ) ∧ SGo W F D (k d Γ) := by
  cases o with
  | some p => exact ⟨p.1, p.2, rfl, h⟩
  | none => exact False.elim h
theorem dss_nil : DSs X [] sNil := pss_imp pss_nil fun D _ _ ⟨W, F, ρ, Γ, eK, S, h⟩ => h F _ ρ _ (Same.refl F) S
theorem dss_cons (h1 : DS X st s1) (h2 : DSs X rest s2) : DSs X (st :: rest) (sSeq s1 s2) :=
  pss_imp (pss_cons h1 h2) fun D _ _ ⟨W, F, ρ, Γ, eK, S, h⟩ => by
    refine ⟨W, F, ρ, Γ, eK, S, ?_⟩
    unfold sSeq at h
    cases q : s1 Γ with
    | nx Γ1 =>
      rw [q] at h
      exact fun F' H' ρ' σ' k S' => ⟨W, F', ρ', Γ1, eK, S', h.mono k⟩
    | bk Γ1 => rw [q] at h; exact h
    | ct Γ1 => rw [q] at h; exact h
    | ret e Γ1 => rw [q] at h; exact h
    | stuck => rw [q] at h; exact h
theorem dss_one (h1 : DS X st s1) : DSs X [st] s1 := pss_one h1
theorem ds_pass : DS X (.Pass pos) sNil := ps_imp ps_pass fun D _ _ ⟨W, F, ρ, Γ, eK, S, h⟩ => h F _ ρ _ (Same.refl F) S
theorem ds_doc {x j pos'} : DS X (.Expr (.Constant (.str x) j pos) pos') sNil := ps_imp ps_doc fun D _ _ ⟨W, F, ρ, Γ, eK, S, h⟩ => h F _ ρ _ (Same.refl F) S
theorem ds_break : DS X (.Break pos) (fun Γ => .bk Γ) := ps_imp ps_break fun D _ _ ⟨W, F, ρ, Γ, eK, S, h⟩ => h F _ ρ _ (Same.refl F) S
theorem ds_continue : DS X (.Continue pos) (fun Γ => .ct Γ) := ps_imp ps_continue fun D _ _ ⟨W, F, ρ, Γ, eK, S, h⟩ => h F _ ρ _ (Same.refl F) S
/-- code that is never come to -/
def sNo : SM := fun _ => .stuck
theorem ds_never : DS X st sNo := ps_imp ps_never fun D _ _ ⟨W, F, ρ, Γ, eK, S, h⟩ => h
theorem dss_never : DSs X rest sNo := pss_imp pss_never fun D _ _ ⟨W, F, ρ, Γ, eK, S, h⟩ => h
theorem ds_if (hc : DT X c f) (ha : DSs X a s1) (hb : DSs X b s2) : DS X (.If c a b pos) (sIf f s1 s2) :=
  ps_imp (ps_if hc ha hb) fun D _ _ ⟨W, F, ρ, Γ, eK, S, h⟩ => by
    obtain ⟨e, Γ1, ef, h⟩ := go_inv h
    obtain ⟨t, et, h⟩ := byS_inv h
    refine tT_bool eK S ef et fun F1 H1 k S1 => ?_
    cases t with
    | true => exact ⟨W, F1, ρ, Γ1, eK, S1, SGo.mono h k⟩
    | false => exact ⟨W, F1, ρ, Γ1, eK, S1, SGo.mono h k⟩
/-- an expression's outcome, then what follows; it must be well formed -/
theorem tE_any {K : PySem.W.Frag} {σ : L2.St} {H : Hp} {Q : VK} {W : Wd} {F : Hp} {ρ : Nat → Option Addr} {Γ Γ1 : Gm} {e1 : EV} (eK : W.K = K) (S : Sim W F H ρ σ Γ) (ef : f Γ = .ok e1 Γ1) (ok : e1.fz.ok = true)
    (k : ∀ v F1 H1, Same F F1 → Sim W F1 H1 ρ σ Γ1 → RpE W F1 H1 ρ e1 v → Q v H1) : tE K f σ H Q := ⟨W, F, ρ, Γ, eK, S, e1, Γ1, ef, ok, k⟩
def sExprOk (f : EM) : SM := fun Γ => (f Γ).go fun e Γ1 => if e.fz.ok = true then .nx Γ1 else .stuck
theorem ifok_inv {W : Wd} {F : Hp} {D : Ends} {c : Bool} {k : SRes} (h : SGo W F D (if c = true then k else .stuck)) : c = true ∧ SGo W F D k := by
  cases c with
  | true => exact ⟨rfl, h⟩
  | false => exact False.elim h
theorem ds_expr (he : DE X e f) (hs : swapsWith e none pos.line X.env = pure false := by rfl) : DS X (.Expr e pos) (sExprOk f) :=
  ps_imp (ps_expr he hs) fun D _ _ ⟨W, F, ρ, Γ, eK, S, h⟩ => by
    obtain ⟨e, Γ1, ef, h⟩ := go_inv h
    obtain ⟨ok, h⟩ := ifok_inv h
    exact tE_any eK S ef ok fun v F1 H1 k S1 _ => h F1 H1 ρ _ k S1
def sRetOk (f : EM) : SM := fun Γ => (f Γ).go fun e Γ1 => if e.fz.ok = true then .ret e Γ1 else .stuck
theorem ds_ret (he : DE X e f) : DS X (.Return (some e) pos) (sRetOk f) :=
  ps_imp (ps_ret he) fun D _ _ ⟨W, F, ρ, Γ, eK, S, h⟩ => by
    obtain ⟨e, Γ1, ef, h⟩ := go_inv h
    obtain ⟨ok, h⟩ := ifok_inv h
    exact tE_any eK S ef ok fun v F1 H1 k S1 r => h v F1 H1 ρ _ k S1 r
theorem ds_retN : DS X (.Return none pos) sRetN := ps_imp ps_retN fun D _ H ⟨W, F, ρ, Γ, eK, S, h⟩ => h .non F H ρ _ (Same.refl F) S (by unfold RpE; exact rp_non)
theorem isIo_lt {Γ : Gm} {i : Nat} (h : ¬ isIo Γ[i]? = true) : i < Γ.length := by
  by_cases hi : i < Γ.length
  · exact hi
  · rw [List.getElem?_eq_none (by omega)] at h
    exact absurd rfl h
theorem setv_inv {W : Wd} {F : Hp} {D : Ends} {i : Nat} {d : DL.D} {Γ : Gm} (h : SGo W F D (setv i d Γ)) : i < Γ.length ∧ SGo W F D (.nx (Γ.set i (.val d))) := by
  unfold setv at h
  split at h
  · exact False.elim h
  · rename_i hn; exact ⟨isIo_lt hn, h⟩
theorem ok_fz_settle {e : EV} {Γ : Gm} {p : D × Gm} (h : settle e.fz Γ = some p) (ok : e.fz.ok = true) : True := trivial
def sSetOk (i : Nat) (f : EM) : SM := fun Γ => (f Γ).go fun e Γ1 => if e.fz.ok = true then SRes.ofS (settle e.fz Γ1) (setv i) else .stuck
theorem ds_set {i : Nat} {x : Str} {pos' : Pos} (hN : X.N.Nodup) (he : DE X e f) (hi : X.N[i]? = some x := by rfl) (hx : Loc X.env.scope x := by first | exact Or.inl rfl | exact Or.inr rfl) (hs : swapsWith e (some (.Name x pos')) pos.line X.env = pure false := by rfl)
    (hf : X.fn x = true ∨ X.env.scope.names.lookup x = some .local := by first | exact .inl rfl | exact .inr rfl) : DS X (.Assign [.Name x pos'] e pos) (sSetOk i f) :=
  ps_imp (ps_set hN hi hx he hs hf) fun D σ _ ⟨W, F, ρ, Γ, eK, S, h⟩ => by
    obtain ⟨e, Γ1, ef, h⟩ := go_inv h
    obtain ⟨ok, h⟩ := ifok_inv h
    obtain ⟨d, Γ2, hd, h⟩ := ofS_inv h
    obtain ⟨hl, h⟩ := setv_inv h
    refine tE_then eK S ef ok fun v F1 H1 k S1 r => ?_
    obtain ⟨F2, k2, S2, r2⟩ := settle_ok _ _ _ _ _ _ S1 ok r hd
    exact h F2 H1 _ _ (k.trans k2) (S2.setVal hl r2)
def ownK (i : Nat) (e : EV) (Γ : Gm) : SRes := match e with
  | .fr d => if isIo Γ[i]? = true then .stuck else .nx (Γ.set i (.own false d))
  | _ => .stuck
def sOwnOk (i : Nat) (f : EM) : SM := fun Γ => (f Γ).go (ownK i)
theorem ownK_inv {W : Wd} {F : Hp} {D : Ends} {i : Nat} {e : EV} {Γ : Gm} (h : SGo W F D (ownK i e Γ)) : ∃ d, e = .fr d ∧ i < Γ.length ∧ SGo W F D (.nx (Γ.set i (.own false d))) := by
  cases e with
  | fr d =>
    unfold ownK at h
    dsimp only at h
    split at h
    · exact False.elim h
    · rename_i hn; exact ⟨d, rfl, isIo_lt hn, h⟩
  | imm d => exact False.elim h
  | frn d => exact False.elim h
  | inn i k => exact False.elim h
  | bor d => exact False.elim h
  | tl d => exact False.elim h
  | tt d => exact False.elim h
theorem ds_own {i : Nat} {x : Str} {pos' : Pos} (hN : X.N.Nodup) (he : DE X e f) (hi : X.N[i]? = some x := by rfl) (hx : Loc X.env.scope x := by first | exact Or.inl rfl | exact Or.inr rfl) (hs : swapsWith e (some (.Name x pos')) pos.line X.env = pure false := by rfl)
    (hf : X.fn x = true ∨ X.env.scope.names.lookup x = some .local := by first | exact .inl rfl | exact .inr rfl) : DS X (.Assign [.Name x pos'] e pos) (sOwnOk i f) :=
  ps_imp (ps_set hN hi hx he hs hf) fun D σ _ ⟨W, F, ρ, Γ, eK, S, h⟩ => by
    obtain ⟨e, Γ1, ef, h⟩ := go_inv h
    obtain ⟨d, rfl, hl, h⟩ := ownK_inv h
    refine tE_any eK S ef rfl fun v F1 H1 k S1 r => ?_
    unfold RpE at r
    obtain ⟨a, rfl, o, N⟩ := r
    exact h F1 H1 _ _ k (S1.setOwn hl o N)
end

/-! ### targets -/
inductive Tg where
  | nm (i : Nat) | tp (ts : List Tg)
mutual
def Tg.sl : Tg → List Nat
  | .nm i => [i]
  | .tp ts => Tg.sls ts
def Tg.sls : List Tg → List Nat
  | [] => []
  | t :: ts => t.sl ++ Tg.sls ts
end
def isOwn : Option Sl → Bool
  | some (.own _ _) => true
  | some (.nst _ _) => true
  | none => true
  | _ => false
mutual
def setT : Tg → D → Gm → Option Gm
  | .nm i, d, Γ => if isOwn Γ[i]? = true then none else some (Γ.set i (.val d))
  | .tp ts, .tup ds, Γ => setTs ts ds Γ
  | .tp _, _, _ => none
def setTs : List Tg → List D → Gm → Option Gm
  | [], [], Γ => some Γ
  | t :: ts, d :: ds, Γ => (setT t d Γ).bind fun Γ1 => setTs ts ds Γ1
  | _, _, _ => none
end
def Off (sl : List Nat) (σ σ' : L2.St) (ρ ρ' : Nat → Option Addr) : Prop := σ'.length = σ.length ∧ ∀ i, i ∉ sl → σ'[i]? = σ[i]? ∧ ρ' i = ρ i
theorem Off.refl {sl : List Nat} {σ : L2.St} {ρ : Nat → Option Addr} : Off sl σ σ ρ ρ := ⟨rfl, fun _ _ => ⟨rfl, rfl⟩⟩
def gT (K : PySem.W.Frag) (t : Tg) : TG := fun v σ H Q => ∃ (W : Wd) (F : Hp) (ρ : Nat → Option Addr) (Γ : Gm) (d : D) (Γ' : Gm), W.K = K ∧ Sim W F H ρ σ Γ ∧ Rp W.K F d v ∧ setT t d Γ = some Γ' ∧ ∀ ρ' σ', Sim W F H ρ' σ' Γ' → Off t.sl σ σ' ρ ρ' → Q σ' H
def gTs (K : PySem.W.Frag) (ts : List Tg) : TGs := fun vs σ H Q => ∃ (W : Wd) (F : Hp) (ρ : Nat → Option Addr) (Γ : Gm) (ds : List D) (Γ' : Gm), W.K = K ∧ Sim W F H ρ σ Γ ∧ RpL W.K F ds vs ∧ setTs ts ds Γ = some Γ' ∧ ∀ ρ' σ', Sim W F H ρ' σ' Γ' → Off (Tg.sls ts) σ σ' ρ ρ' → Q σ' H
def DG (X : Cx) (e : Expr) (t : Tg) : Prop := PG X e (gT X.K t)
def DGs (X : Cx) (es : List Expr) (ts : List Tg) : Prop := PGs X es (gTs X.K ts)
theorem pg_imp {X : Cx} {e : Expr} {t t' : TG} (h : PG X e t) (i : ∀ v σ H Q, t' v σ H Q → t v σ H Q) : PG X e t' := ⟨fun pins s σ H v u Q I r q => h.run pins s σ H v u Q I r (i v σ H Q q)⟩
theorem pgs_imp {X : Cx} {e : List Expr} {t t' : TGs} (h : PGs X e t) (i : ∀ v σ H Q, t' v σ H Q → t v σ H Q) : PGs X e t' := ⟨fun pins s σ H v u Q I r q => h.run pins s σ H v u Q I r (i v σ H Q q)⟩
section
variable {X : Cx} {pos : Pos} {e : Expr} {es : List Expr} {t : Tg} {ts : List Tg}
theorem dg_nm {i : Nat} {x : Str} (hN : X.N.Nodup) (hi : X.N[i]? = some x := by rfl) (hx : Loc X.env.scope x := by first | exact Or.inl rfl | exact Or.inr rfl) (hf : X.fn x = true ∨ X.env.scope.names.lookup x = some .local := by first | exact .inl rfl | exact .inr rfl) : DG X (.Name x pos) (.nm i) :=
  pg_imp (pg_name hN hi hx hf) fun v σ H Q ⟨W, F, ρ, Γ, d, Γ', eK, S, r, h, q⟩ => by
    unfold setT at h
    split at h
    · cases h
    · rename_i hn
      cases h
      have hl : i < Γ.length := by
        by_cases hi : i < Γ.length
        · exact hi
        · rw [List.getElem?_eq_none (by omega)] at hn
          exact absurd rfl hn
      refine q _ _ (S.setVal hl r) ⟨by rw [List.length_set], fun j hj => ?_⟩
      have hji : j ≠ i := by simpa [Tg.sl] using hj
      exact ⟨List.getElem?_set_ne (Ne.symm hji), unset_ne hji⟩
theorem dgs_nil : DGs X [] [] := pgs_imp pgs_nil fun v σ H Q ⟨W, F, ρ, Γ, ds, Γ', eK, S, r, h, q⟩ => by
  cases ds with
  | nil =>
    unfold setTs at h
    cases h
    exact ⟨rpl_nil_inv r, q ρ σ S Off.refl⟩
  | cons d ds => unfold setTs at h; cases h
theorem dgs_cons (h1 : DG X e t) (h2 : DGs X es ts) (hs : (assignEach (e :: es) X.env).map (·.2) = assign e X.env :: (assignEach es X.env).map (·.2) := by rfl) : DGs X (e :: es) (t :: ts) :=
  pgs_imp (pgs_cons h1 h2 hs) fun vs σ H Q ⟨W, F, ρ, Γ, ds, Γ', eK, S, r, h, q⟩ => by
    cases ds with
    | nil => unfold setTs at h; cases h
    | cons d ds =>
      unfold setTs at h
      obtain ⟨Γ1, h1, h⟩ := obind_inv h
      obtain ⟨v, ws, rfl, r1, r2⟩ := rpl_cons_inv r
      refine ⟨v, ws, rfl, W, F, ρ, Γ, d, Γ1, eK, S, r1, h1, fun ρ1 σ1 S1 o1 => ?_⟩
      refine ⟨W, F, ρ1, Γ1, ds, Γ', eK, S1, r2, h, fun ρ2 σ2 S2 o2 => q ρ2 σ2 S2 ⟨o2.1.trans o1.1, fun i hi => ?_⟩⟩
      unfold Tg.sls at hi
      rw [List.mem_append, not_or] at hi
      exact ⟨(o2.2 i hi.2).1.trans (o1.2 i hi.1).1, (o2.2 i hi.2).2.trans (o1.2 i hi.1).2⟩
theorem setTs_len : ∀ {ts : List Tg} {ds : List D} {Γ Γ' : Gm}, setTs ts ds Γ = some Γ' → ds.length = ts.length
  | [], [], _, _, _ => rfl
  | [], _ :: _, _, _, h => by unfold setTs at h; cases h
  | _ :: _, [], _, _, h => by unfold setTs at h; cases h
  | t :: ts, d :: ds, _, _, h => by
    unfold setTs at h
    obtain ⟨Γ1, _, h⟩ := obind_inv h
    rw [List.length_cons, List.length_cons, setTs_len h]
theorem dg_tp {k : Nat} (hc : X.calm = true) (h : DGs X es ts) (hn : (assignEach es X.env).length = ts.length := by rfl) (hst : (assignEach es X.env).findIdx? (·.1) = none := by rfl) : DG X (.Tuple es k pos) (.tp ts) :=
  pg_imp (pg_tup hc h hn hst) fun v σ H Q ⟨W, F, ρ, Γ, d, Γ', eK, S, r, h, q⟩ => by
    cases d with
    | tup ds =>
      obtain ⟨a, vs, rfl, hs, r⟩ := rd_tup (F := F) (H := H) (rd_of r S.sub)
      have h' : setTs ts ds Γ = some Γ' := by unfold setT at h; exact h
      refine ⟨a, vs, rfl, by rw [← eK]; exact sqT_mono S.sub hs, by rw [← rpl_len r]; exact setTs_len h', W, F, ρ, Γ, ds, Γ', eK, S, r, h', fun ρ' σ' S' o => q ρ' σ' S' (by unfold Tg.sl; exact o)⟩
    | _ => unfold setT at h; cases h
def sTup (t : Tg) (f : EM) : SM := fun Γ => (f Γ).go fun e Γ1 => if e.fz.ok = true then SRes.ofS (settle e.fz Γ1) (fun d Γ2 => match setT t d Γ2 with
  | some Γ3 => .nx Γ3
  | none => .stuck) else .stuck
/-- target = value, the target a tuple (or a name) -/
theorem ds_tup {tg e : Expr} {f : EM} (he : DE X e f) (hg : DG X tg t) (hs : swapsWithSole [tg] e pos.line X.env = pure false := by rfl) (hw : swappedStores [tg] e X.env = pure none := by rfl)
    (h1 : (assignEach [tg] X.env).map (·.2) = [assign tg X.env] := by rfl) : DS X (.Assign [tg] e pos) (sTup t f) :=
  ps_imp (ps_asg he hg hs hw h1) fun D σ _ ⟨W, F, ρ, Γ, eK, S, h⟩ => by
    obtain ⟨e, Γ1, ef, h⟩ := go_inv h
    obtain ⟨ok, h⟩ := ifok_inv h
    obtain ⟨d, Γ2, hd, h⟩ := ofS_inv h
    refine tE_then eK S ef ok fun v F1 H1 k S1 r => ?_
    obtain ⟨F2, k2, S2, r2⟩ := settle_ok _ _ _ _ _ _ S1 ok r hd
    cases ht : setT t d Γ2 with
    | none => rw [ht] at h; exact False.elim h
    | some Γ3 =>
      rw [ht] at h
      exact ⟨W, F2, ρ, Γ2, d, Γ3, eK, S2, r2, ht, fun ρ' σ' S' _ => h F2 H1 ρ' σ' (k.trans k2) S'⟩
end

/-! ### while -/
def whileF (c : EM) (b : SM) : Nat → SM
  | 0 => fun _ => .stuck
  | n + 1 => fun Γ => (c Γ).go fun e Γ1 => byS e.fz (match b Γ1 with
    | .nx Γ2 => whileF c b n Γ2
    | .ct Γ2 => whileF c b n Γ2
    | .bk Γ2 => .nx Γ2
    | .ret e Γ2 => .ret e Γ2
    | .stuck => .stuck) (.nx Γ1)
open Classical in
noncomputable def sWhile (c : EM) (b : SM) : SM := fun Γ => if h : ∃ n, whileF c b n Γ ≠ .stuck then whileF c b h.choose Γ else .stuck
theorem whileF_succ (c : EM) (b : SM) : ∀ (n : Nat) (Γ : Gm), whileF c b n Γ ≠ .stuck → whileF c b (n + 1) Γ = whileF c b n Γ
  | 0, Γ, h => absurd rfl h
  | n + 1, Γ, h => by
    unfold whileF at h ⊢
    cases hc : c Γ with
    | stuck => rfl
    | ok e Γ1 =>
      rw [hc] at h
      simp only [go_ok] at h ⊢
      cases hb : e.fz with
      | imm d =>
        rw [hb] at h
        cases d with
        | bl t =>
          cases t with
          | false => rfl
          | true =>
            simp only [byS_t] at h ⊢
            cases hr : b Γ1 with
            | nx Γ2 => rw [hr] at h; exact whileF_succ c b n Γ2 h
            | ct Γ2 => rw [hr] at h; exact whileF_succ c b n Γ2 h
            | bk Γ2 => rfl
            | ret e Γ2 => rfl
            | stuck => rfl
        | _ => rfl
      | _ => rfl
theorem whileF_le (c : EM) (b : SM) {n m : Nat} {Γ : Gm} (h : whileF c b n Γ ≠ .stuck) (l : n ≤ m) : whileF c b m Γ = whileF c b n Γ := by
  induction m with
  | zero => have : n = 0 := by omega
            subst this; rfl
  | succ m ih =>
    by_cases e : n = m + 1
    · subst e; rfl
    · have q := ih (by omega)
      rw [whileF_succ c b m Γ (by rw [q]; exact h), q]
theorem sWhile_of {c : EM} {b : SM} {n : Nat} {Γ : Gm} (h : whileF c b n Γ ≠ .stuck) : sWhile c b Γ = whileF c b n Γ := by
  have hx : ∃ n, whileF c b n Γ ≠ .stuck := ⟨n, h⟩
  unfold sWhile
  rw [dif_pos hx]
  have q := hx.choose_spec
  by_cases l : n ≤ hx.choose
  · exact whileF_le c b h l
  · exact (whileF_le c b q (by omega)).symm
theorem sWhile_some {c : EM} {b : SM} {Γ : Gm} (h : sWhile c b Γ ≠ .stuck) : ∃ n, whileF c b n Γ = sWhile c b Γ := by
  by_cases hx : ∃ n, whileF c b n Γ ≠ .stuck
  · obtain ⟨n, hn⟩ := hx
    exact ⟨n, (sWhile_of hn).symm⟩
  · unfold sWhile at h
    rw [dif_neg hx] at h
    exact absurd rfl h
section
variable {X : Cx} {pos : Pos} {c : Expr} {body : List Stmt} {f : EM} {g : SM}
theorem sgo_ns {W : Wd} {F : Hp} {D : Ends} {r : SRes} (h : SGo W F D r) : r ≠ .stuck := by
  intro e; subst e; exact h
theorem ds_while (hp : PassesOwn (model X.prog X.w) X.A X.env X.xe) (hc : DT X c f) (hb : DSs X body g) : DS X (.While c body [] pos) (sWhile f g) :=
  ps_imp (ps_while hp hc hb) fun D σ H ⟨W, F, ρ, Γ, eK, S, h⟩ => by
    obtain ⟨n, hn⟩ := sWhile_some (sgo_ns h)
    rw [← hn] at h
    refine ⟨fun m σ H => ∃ (F : Hp) (ρ : Nat → Option Addr) (Γ : Gm), Sim W F H ρ σ Γ ∧ SGo W F D (whileF f g m Γ), ⟨n, F, ρ, Γ, S, h⟩, ?_⟩
    rintro m σ H ⟨F, ρ, Γ, S, h⟩
    cases m with
    | zero => exact False.elim h
    | succ m =>
      unfold whileF at h
      obtain ⟨e, Γ1, ef, h⟩ := go_inv h
      obtain ⟨t, et, h⟩ := byS_inv h
      refine tT_bool eK S ef et fun F1 H1 k S1 => ?_
      cases t with
      | false => exact h F1 H1 ρ _ k S1
      | true =>
        rw [if_pos rfl] at h ⊢
        refine ⟨fun σ' H' => ∃ (F : Hp) (ρ : Nat → Option Addr) (Γ : Gm), Sim W F H' ρ σ' Γ ∧ SGo W F D (whileF f g m Γ), fun σ' H' q => ⟨m, Nat.lt_succ_self m, q⟩, W, F1, ρ, Γ1, eK, S1, ?_⟩
        cases hr : g Γ1 with
        | nx Γ2 => rw [hr] at h; exact fun F' H' ρ' σ' k' S' => ⟨F', ρ', Γ2, S', SGo.mono h (k.trans k')⟩
        | ct Γ2 => rw [hr] at h; exact fun F' H' ρ' σ' k' S' => ⟨F', ρ', Γ2, S', SGo.mono h (k.trans k')⟩
        | bk Γ2 => rw [hr] at h; exact fun F' H' ρ' σ' k' S' => h F' H' ρ' σ' (k.trans k') S'
        | ret e Γ2 => rw [hr] at h; exact fun v F' H' ρ' σ' k' S' r => h v F' H' ρ' σ' (k.trans k') S' r
        | stuck => rw [hr] at h; exact h
end

/-! ### for -/
inductive IRes where
  | ok (ds : List D) (Γ : Gm)
  | stuck
abbrev IM := Gm → IRes
/-- the walk J gives the items ds, frozen, whatever happens meanwhile -/
def ItD (W : Wd) (Fs : Hp) (J : It) (ds : List D) : Prop := ∀ (i : Nat) (W' : Wd) (F H : Hp) (ρ : Nat → Option Addr) (σ : L2.St) (Γ : Gm), W'.K = W.K → Same Fs F → Sim W' F H ρ σ Γ →
  (ds.length ≤ i → J.stop i H) ∧ ∀ d, ds[i]? = some d → J.go i H ∧ ∀ x H', J.yld i H x H' → ∃ F', Same F F' ∧ Sim W' F' H' ρ σ Γ ∧ Rp W'.K F' d x ∧ Same H H'
def tI (K : PySem.W.Frag) (f : IM) : TI := fun σ H R => ∃ (W : Wd) (F : Hp) (ρ : Nat → Option Addr) (Γ : Gm), W.K = K ∧ Sim W F H ρ σ Γ ∧ ∃ ds Γ', f Γ = .ok ds Γ' ∧ ∀ J F' H', Same F F' → Sim W F' H' ρ σ Γ' → ItD W F' J ds → R J H'
def DI (X : Cx) (tg e : Expr) (f : IM) : Prop := PI X tg e (tI X.K f)
theorem pi_imp {X : Cx} {tg e : Expr} {t t' : TI} (h : PI X tg e t) (i : ∀ σ H R, t' σ H R → t σ H R) : PI X tg e t' := ⟨fun pins s σ H R I q => h.run pins s σ H R I (i σ H R q)⟩
def forL (t : Tg) (b : SM) : List D → SM
  | [] => fun Γ => .nx Γ
  | d :: ds => fun Γ => match setT t d Γ with
    | none => .stuck
    | some Γ1 => match b Γ1 with
      | .nx Γ2 => forL t b ds Γ2
      | .ct Γ2 => forL t b ds Γ2
      | .bk Γ2 => .nx Γ2
      | .ret e Γ2 => .ret e Γ2
      | .stuck => .stuck
def sFor (it : IM) (t : Tg) (b : SM) : SM := fun Γ => match it Γ with
  | .ok ds Γ1 => forL t b ds Γ1
  | .stuck => .stuck
section
variable {X : Cx} {pos : Pos} {tg iter : Expr} {body : List Stmt} {f : IM} {g : SM} {t : Tg}
theorem ds_for (hp : PassesOwn (model X.prog X.w) X.A X.env X.xe) (hc : X.calm = true) (hi : DI X tg iter f) (hg : DG X tg t) (hb : DSs X body g) (hs : ∀ x, foldedSetIterable iter X.env x = pure x := by intro _; rfl) :
    DS X (.For tg iter body [] pos) (sFor f t g) :=
  ps_imp (ps_for hp hc hi hg hb hs) fun D σ H ⟨W, F, ρ, Γ, eK, S, h⟩ => by
    unfold sFor at h
    cases hf : f Γ with
    | stuck => rw [hf] at h; exact False.elim h
    | ok ds Γ1 =>
      rw [hf] at h
      refine ⟨W, F, ρ, Γ, eK, S, ds, Γ1, hf, fun J F1 H1 k S1 it => ?_⟩
      refine ⟨fun i m σ H => m = ds.length - i ∧ i ≤ ds.length ∧ ∃ (F : Hp) (ρ : Nat → Option Addr) (Γ : Gm), Same F1 F ∧ Sim W F H ρ σ Γ ∧ SGo W F D (forL t g (ds.drop i) Γ), ⟨ds.length, by simp, Nat.zero_le _, F1, ρ, Γ1, Same.refl _, S1, by rw [List.drop_zero]; exact h.mono k⟩, ?_⟩
      rintro i m σ H ⟨rfl, hi, F2, ρ2, Γ2, k2, S2, h2⟩
      obtain ⟨stop, go⟩ := it i W F2 H ρ2 σ Γ2 rfl k2 S2
      by_cases hl : i < ds.length
      · rw [List.drop_eq_getElem_cons hl] at h2
        unfold forL at h2
        obtain ⟨go1, go2⟩ := go ds[i] (List.getElem?_eq_getElem hl)
        refine .inr ⟨go1, fun σ' H' => ∃ (F : Hp) (ρ : Nat → Option Addr) (Γ : Gm), Same F1 F ∧ Sim W F H' ρ σ' Γ ∧ SGo W F D (forL t g (ds.drop (i + 1)) Γ), fun σ' H' q => ⟨ds.length - (i + 1), by omega, rfl, by omega, q⟩, fun x H' y => ?_⟩
        obtain ⟨F3, k3, S3, r3, _⟩ := go2 x H' y
        cases ht : setT t ds[i] Γ2 with
        | none => rw [ht] at h2; exact False.elim h2
        | some Γ3 =>
          rw [ht] at h2
          refine ⟨W, F3, ρ2, Γ2, ds[i], Γ3, eK, S3, r3, ht, fun ρ4 σ4 S4 _ => ⟨W, F3, ρ4, Γ3, eK, S4, ?_⟩⟩
          dsimp only at h2
          cases hr : g Γ3 with
          | nx Γ5 => rw [hr] at h2; exact fun F' H' ρ' σ' k' S' => ⟨F', ρ', Γ5, (k2.trans k3).trans k', S', SGo.mono h2 (k3.trans k')⟩
          | ct Γ5 => rw [hr] at h2; exact fun F' H' ρ' σ' k' S' => ⟨F', ρ', Γ5, (k2.trans k3).trans k', S', SGo.mono h2 (k3.trans k')⟩
          | bk Γ5 => rw [hr] at h2; exact fun F' H' ρ' σ' k' S' => h2 F' H' ρ' σ' (k3.trans k') S'
          | ret e Γ5 => rw [hr] at h2; exact fun v F' H' ρ' σ' k' S' r => h2 v F' H' ρ' σ' (k3.trans k') S' r
          | stuck => rw [hr] at h2; exact h2
      · rw [List.drop_eq_nil_of_le (by omega)] at h2
        exact .inl ⟨stop (by omega), h2 F2 H ρ2 _ (Same.refl _) S2⟩
end
end DL

namespace DL
open PySem PySem.Spec PyProof.Rows L2

def itemsOf : D → Option (List D)
  | .lst ds => some ds
  | .tup ds => some ds
  | .frl ds => some ds
  | .str s => some (s.map fun c => .str [c])
  | _ => none
def IRes.ofO (o : Option (D × Gm)) : IRes := match o with
  | some p => match itemsOf p.1 with
    | some ds => .ok ds p.2
    | none => .stuck
  | none => .stuck
def iAny (f : EM) : IM := fun Γ => match f Γ with
  | .ok e Γ1 => if e.fz.ok = true then IRes.ofO (settle e.fz Γ1) else .stuck
  | .stuck => .stuck
def isI : EV → Option Int
  | .imm (.int n) => some n
  | _ => none
def iR1 (f : EM) : IM := fun Γ => match f Γ with
  | .ok e Γ1 => match isI e.fz with
    | some n => if -(2 ^ 62) ≤ n ∧ n < 2 ^ 62 then .ok ((List.range n.toNat).map fun i => .int (0 + (i : Nat))) Γ1 else .stuck
    | none => .stuck
  | .stuck => .stuck
def iR2 (f g : EM) : IM := fun Γ => match f Γ with
  | .ok e Γ1 => match g Γ1 with
    | .ok e2 Γ2 => match isI e.fz, isI e2.fz with
      | some i, some j => if -(2 ^ 62) ≤ i ∧ i < 2 ^ 62 ∧ -(2 ^ 62) ≤ j ∧ j < 2 ^ 62 then .ok ((List.range (j - i).toNat).map fun k => .int (i + (k : Nat))) Γ2 else .stuck
      | _, _ => .stuck
    | .stuck => .stuck
  | .stuck => .stuck
def iR3 (f g h : EM) : IM := fun Γ => match f Γ with
  | .ok e Γ1 => match g Γ1 with
    | .ok e2 Γ2 => match h Γ2 with
      | .ok e3 Γ3 => match isI e.fz, isI e2.fz, isI e3.fz with
        | some i, some j, some k => if k = -1 ∧ -(2 ^ 62) ≤ i ∧ i < 2 ^ 62 ∧ -(2 ^ 62) ≤ j ∧ j < 2 ^ 62 then .ok ((List.range (i - j).toNat).map fun k => .int (i + (k : Nat) * (-1))) Γ3 else .stuck
        | _, _, _ => .stuck
      | .stuck => .stuck
    | .stuck => .stuck
  | .stuck => .stuck
theorem isI_inv {e : EV} {n : Int} (h : isI e = some n) : e = .imm (.int n) := by
  unfold isI at h
  split at h
  · cases h; rfl
  · cases h
section
variable {X : Cx} {tg e a b c : Expr} {f g : EM} {r : AM} {p pos : Pos}
theorem pi_or {t t' : TI} (h : PI X tg e t) (h' : PI X tg e t') : PI X tg e (fun σ H R => t σ H R ∨ t' σ H R) := ⟨fun pins s σ H R I q => q.elim (h.run pins s σ H R I) (h'.run pins s σ H R I)⟩
theorem itd_list {W : Wd} {F : Hp} {a : Addr} {vs : List V} {ds : List D} (h : SqL W.K F a vs) (r : RpL W.K F ds vs) : ItD W F (Itl W.K a) ds := by
  intro i W' F' H ρ σ Γ eK s S
  have hs : SqL W.K H a vs := (s.trans S.sub).seq h
  refine ⟨fun hl => ⟨vs, hs, by rw [← rpl_len r]; exact hl⟩, fun d hd => ?_⟩
  obtain ⟨v, hv, rv⟩ := rpl_get r hd
  refine ⟨⟨vs, v, hs, hv⟩, fun x H' y => ?_⟩
  obtain ⟨e, y⟩ := y
  subst e
  have := y vs hs
  rw [hv] at this; cases this
  exact ⟨F', Same.refl _, S, by rw [eK]; exact Rp.mono s _ _ rv, Same.refl _⟩
theorem itd_tup {W : Wd} {F : Hp} {a : Addr} {vs : List V} {ds : List D} (h : SqT W.K F a vs) (r : RpL W.K F ds vs) : ItD W F (Itt W.K a) ds := by
  intro i W' F' H ρ σ Γ eK s S
  have hs : SqT W.K H a vs := sqT_mono (s.trans S.sub) h
  refine ⟨fun hl => ⟨vs, hs, by rw [← rpl_len r]; exact hl⟩, fun d hd => ?_⟩
  obtain ⟨v, hv, rv⟩ := rpl_get r hd
  refine ⟨⟨vs, v, hs, hv⟩, fun x H' y => ?_⟩
  obtain ⟨e, y⟩ := y
  subst e
  have := y vs hs
  rw [hv] at this; cases this
  exact ⟨F', Same.refl _, S, by rw [eK]; exact Rp.mono s _ _ rv, Same.refl _⟩
theorem itd_str {W : Wd} {F : Hp} {z : List Nat} (ok : okS z) : ItD W F (Its (mkS z)) (z.map fun c => .str [c]) := by
  intro i W' F' H ρ σ Γ eK s S
  have hz : (mkS z).cps.size = z.length := by simp [mkS]
  refine ⟨fun hl => by show (mkS z).cps.size ≤ i; rw [hz]; simpa using hl, fun d hd => ?_⟩
  rw [List.getElem?_map] at hd
  obtain ⟨c, hc, rfl⟩ := omap_inv hd
  refine ⟨by show i < (mkS z).cps.size; rw [hz]; exact (List.getElem?_eq_some_iff.mp hc).1, fun x H' y => ?_⟩
  obtain ⟨rfl, c', hc', rfl⟩ := y
  have : (mkS z).cps[i]? = z[i]? := by simp [mkS]
  rw [this, hc] at hc'; cases hc'
  exact ⟨F', Same.refl _, S, rp_str (okS_one ok (List.mem_of_getElem? hc)), Same.refl _⟩
theorem ofO_inv {o : Option (D × Gm)} {ds : List D} {Γ : Gm} (h : IRes.ofO o = .ok ds Γ) : ∃ d, o = some (d, Γ) ∧ itemsOf d = some ds := by
  cases o with
  | none => cases h
  | some p =>
    unfold IRes.ofO at h
    dsimp only at h
    split at h
    · rename_i ds' hi; cases h; exact ⟨p.1, rfl, hi⟩
    · cases h
theorem di_any (he : DE X e f) : DI X tg e (iAny f) :=
  pi_imp (pi_or (pi_or (pi_list he) (pi_tup he)) (pi_str he)) fun σ H R ⟨W, F, ρ, Γ, eK, S, ds, Γ', ef, q⟩ => by
    unfold iAny at ef
    cases hf : f Γ with
    | stuck => rw [hf] at ef; cases ef
    | ok e1 Γ1 =>
      rw [hf] at ef
      dsimp only at ef
      split at ef
      · rename_i ok
        obtain ⟨d, hd, hi⟩ := ofO_inv ef
        have go : ∀ (k : V → Hp → Prop), (∀ v F2 H1, Same F F2 → Sim W F2 H1 ρ σ Γ' → Rp W.K F2 d v → k v H1) → tE X.K f σ H k := fun k hk =>
          tE_then eK S hf ok fun v F1 H1 k1 S1 r => by
            obtain ⟨F2, k2, S2, r2⟩ := settle_ok _ _ _ _ _ _ S1 ok r hd
            exact hk v F2 H1 (k1.trans k2) S2 r2
        cases d with
        | lst xs =>
          cases hi
          refine .inl (.inl (go _ fun v F2 H1 k S2 r => ?_))
          obtain ⟨a, vs, rfl, h1, r1⟩ := rd_lst (rd_of r (Same.refl F2))
          rw [← eK]
          exact ⟨a, rfl, ⟨vs, .inl (.inl (S2.sub _ _ h1))⟩, q _ F2 H1 k S2 (itd_list (.inl (.inl h1)) r1)⟩
        | frl xs =>
          cases hi
          refine .inl (.inl (go _ fun v F2 H1 k S2 r => ?_))
          obtain ⟨a, vs, rfl, h1, r1⟩ := rd_frl (rd_of r S2.sub)
          rw [← eK]
          exact ⟨a, rfl, ⟨vs, S2.sub.seq h1⟩, q _ F2 H1 k S2 (itd_list h1 r1)⟩
        | tup xs =>
          cases hi
          refine .inl (.inr (go _ fun v F2 H1 k S2 r => ?_))
          obtain ⟨a, vs, rfl, h1, r1⟩ := rd_tup (rd_of r S2.sub)
          rw [← eK]
          exact ⟨a, rfl, ⟨vs, sqT_mono S2.sub h1⟩, q _ F2 H1 k S2 (itd_tup h1 r1)⟩
        | str z =>
          cases hi
          refine .inr (go _ fun v F2 H1 k S2 r => ?_)
          obtain ⟨rfl, ok⟩ := rd_str (rd_of r S2.sub)
          exact ⟨_, rfl, q _ F2 H1 k S2 (itd_str ok)⟩
        | _ => cases hi
      · cases ef
theorem itd_rng {W : Wd} {F : Hp} {lo : Int} {n : Nat} : ItD W F (Itr lo n) ((List.range n).map fun i => .int (lo + (i : Nat))) := by
  intro i W' F' H ρ σ Γ eK s S
  refine ⟨fun hl => by show n ≤ i; simpa using hl, fun d hd => ?_⟩
  rw [List.getElem?_map] at hd
  obtain ⟨c, hc, rfl⟩ := omap_inv hd
  obtain ⟨h1, h2⟩ := List.getElem?_eq_some_iff.mp hc
  have hi : i < n := by simpa using h1
  have hci : c = i := by rw [← h2]; simp
  subst hci
  refine ⟨hi, fun x H' y => ?_⟩
  obtain ⟨rfl, rfl⟩ := y
  exact ⟨F', Same.refl _, S, rp_int, Same.refl _⟩
theorem itd_rngC {W : Wd} {F : Hp} {lo c : Int} {n : Nat} : ItD W F (Itc lo c n) ((List.range n).map fun i => .int (lo + (i : Nat) * c)) := by
  intro i W' F' H ρ σ Γ eK s S
  refine ⟨fun hl => by show n ≤ i; simpa using hl, fun d hd => ?_⟩
  rw [List.getElem?_map] at hd
  obtain ⟨k, hc, rfl⟩ := omap_inv hd
  obtain ⟨h1, h2⟩ := List.getElem?_eq_some_iff.mp hc
  have hi : i < n := by simpa using h1
  have hci : k = i := by rw [← h2]; simp
  subst hci
  refine ⟨hi, fun x H' y => ?_⟩
  obtain ⟨rfl, rfl⟩ := y
  exact ⟨F', Same.refl _, S, rp_int, Same.refl _⟩
theorem rpes_ints {W : Wd} {F H : Hp} {ρ : Nat → Option Addr} : ∀ {ns : List Int} {vs : List V}, RpEs W F H ρ (ns.map fun n => .imm (.int n)) vs → vs = ns.map V.int
  | [], vs, r => by unfold List.map RpEs at r; subst r; rfl
  | n :: ns, vs, r => by
    unfold List.map RpEs at r
    obtain ⟨v, ws, rfl, a, b⟩ := r
    unfold RpE at a
    rw [rpes_ints b, rd_int (F := F) (H := F) (rd_of a (Same.refl F))]; rfl
theorem ri_inv {c : Prop} [Decidable c] {ds ds' : List D} {Γ Γ' : Gm} (h : (if c then IRes.ok ds Γ else .stuck) = .ok ds' Γ') : c ∧ ds' = ds ∧ Γ' = Γ := by
  split at h
  · rename_i hc; cases h; exact ⟨hc, rfl, rfl⟩
  · cases h
theorem di_range1 (hm : X.mg "range" = none) (ha : DE X a f) (hg : Gl X "range" := by rfl) (hs : starEach [a] X.env = [(false, eval a X.env)] := by rfl) (hs1 : starEach [a] X.env = (false, eval a X.env) :: starEach [] X.env := by rfl) : DI X tg (.Call (.Name "range" p) [a] [] pos) (iR1 f) :=
  pi_imp (pi_range1 hg hm (da_cons ha da_nil hs1) hs) fun σ H R ⟨W, F, ρ, Γ, eK, S, ds, Γ', ef, q⟩ => by
    unfold iR1 at ef
    cases hf : f Γ with
    | stuck => rw [hf] at ef; cases ef
    | ok e Γ1 =>
      rw [hf] at ef
      dsimp only at ef
      cases hi : isI e.fz with
      | none => rw [hi] at ef; cases ef
      | some n =>
        rw [hi] at ef
        obtain ⟨hc, rfl, rfl⟩ := ri_inv ef
        have he := isI_inv hi
        refine ⟨W, F, ρ, Γ, eK, S, [.imm (.int n)], _, by simp only [aCons, hf, aNil, he], rfl, fun vs F1 H1 k S1 r1 => ⟨n, rpes_ints (ns := [n]) r1, hc.1, hc.2, q _ F1 H1 k S1 itd_rng⟩⟩
theorem di_range2 (hm : X.mg "range" = none) (ha : DE X a f) (hb : DE X b g) (hg : Gl X "range" := by rfl) (hs : starEach [a, b] X.env = [(false, eval a X.env), (false, eval b X.env)] := by rfl) (hs2 : starEach [b] X.env = [(false, eval b X.env)] := by rfl) (hs1 : starEach [b] X.env = (false, eval b X.env) :: starEach [] X.env := by rfl) :
    DI X tg (.Call (.Name "range" p) [a, b] [] pos) (iR2 f g) :=
  pi_imp (pi_range2 hg hm (da_cons ha (da_cons hb da_nil hs1) (hs.trans (by rw [hs2]))) hs hs2) fun σ H R ⟨W, F, ρ, Γ, eK, S, ds, Γ', ef, q⟩ => by
    unfold iR2 at ef
    cases hf : f Γ with
    | stuck => rw [hf] at ef; cases ef
    | ok e Γ1 =>
      rw [hf] at ef
      dsimp only at ef
      cases hf2 : g Γ1 with
      | stuck => rw [hf2] at ef; cases ef
      | ok e2 Γ2 =>
        rw [hf2] at ef
        dsimp only at ef
        cases hi : isI e.fz with
        | none => rw [hi] at ef; cases ef
        | some i =>
          cases hj : isI e2.fz with
          | none => rw [hi, hj] at ef; cases ef
          | some j =>
            rw [hi, hj] at ef
            obtain ⟨hc, rfl, rfl⟩ := ri_inv ef
            have he := isI_inv hi
            have he2 := isI_inv hj
            refine ⟨W, F, ρ, Γ, eK, S, [.imm (.int i), .imm (.int j)], _, by simp only [aCons, hf, hf2, aNil, he, he2], rfl, fun vs F1 H1 k S1 r1 => ⟨i, j, rpes_ints (ns := [i, j]) r1, hc, q _ F1 H1 k S1 itd_rng⟩⟩
theorem di_range3 {h : EM} (hm : X.mg "range" = none) (ha : DE X a f) (hb : DE X b g) (hc : DE X c h) (hg : Gl X "range" := by rfl) (hs : starEach [a, b, c] X.env = (false, eval a X.env) :: starEach [b, c] X.env := by rfl) (hs2 : starEach [b, c] X.env = (false, eval b X.env) :: starEach [c] X.env := by rfl) (hs3 : starEach [c] X.env = (false, eval c X.env) :: starEach [] X.env := by rfl) (hpl : (backTo pos (starEach [b, c] X.env)).any (·.1) = false := by rfl) :
    DI X tg (.Call (.Name "range" p) [a, b, c] [] pos) (iR3 f g h) :=
  pi_imp (pi_range3 hg hm (da_cons ha (da_cons hb (da_cons hc da_nil hs3) hs2) hs) hs hpl) fun σ H R ⟨W, F, ρ, Γ, eK, S, ds, Γ', ef, q⟩ => by
    unfold iR3 at ef
    cases hf : f Γ with
    | stuck => rw [hf] at ef; cases ef
    | ok e Γ1 =>
      rw [hf] at ef
      dsimp only at ef
      cases hf2 : g Γ1 with
      | stuck => rw [hf2] at ef; cases ef
      | ok e2 Γ2 =>
        rw [hf2] at ef
        dsimp only at ef
        cases hf3 : h Γ2 with
        | stuck => rw [hf3] at ef; cases ef
        | ok e3 Γ3 =>
          rw [hf3] at ef
          dsimp only at ef
          cases hi : isI e.fz with
          | none => rw [hi] at ef; cases ef
          | some i =>
            cases hj : isI e2.fz with
            | none => rw [hi, hj] at ef; cases ef
            | some j =>
              cases hk : isI e3.fz with
              | none => rw [hi, hj, hk] at ef; cases ef
              | some k =>
                rw [hi, hj, hk] at ef
                obtain ⟨hc, rfl, rfl⟩ := ri_inv ef
                obtain ⟨rfl, hc⟩ := hc
                have he := isI_inv hi
                have he2 := isI_inv hj
                have he3 := isI_inv hk
                refine ⟨W, F, ρ, Γ, eK, S, [.imm (.int i), .imm (.int j), .imm (.int (-1))], _, by simp only [aCons, hf, hf2, hf3, aNil, he, he2, he3], rfl, fun vs F1 H1 k S1 r1 => ⟨i, j, -1, _, rpes_ints (ns := [i, j, -1]) r1, RgC.neg hc.1 hc.2.1 hc.2.2.1 hc.2.2.2, q _ F1 H1 k S1 itd_rngC⟩⟩
end

/-! ### comprehensions -/
def wipeG (Γ : Gm) : List Nat → Gm
  | [] => Γ
  | v :: vs => (wipeG Γ vs).set v .un
def resG (Γ1 : Gm) (Γ : Gm) : List Nat → Gm
  | [] => Γ
  | v :: vs => match Γ1[v]? with
    | some s => (resG Γ1 Γ vs).set v s
    | none => resG Γ1 Γ vs
theorem wipeG_len (Γ : Gm) : ∀ vs, (wipeG Γ vs).length = Γ.length
  | [] => rfl
  | v :: vs => by unfold wipeG; rw [List.length_set, wipeG_len Γ vs]
theorem wipeG_out {Γ : Gm} {i : Nat} : ∀ {vs : List Nat}, i ∉ vs → (wipeG Γ vs)[i]? = Γ[i]?
  | [], _ => rfl
  | v :: vs, h => by
    rw [List.mem_cons, not_or] at h
    unfold wipeG
    rw [List.getElem?_set_ne (Ne.symm h.1), wipeG_out h.2]
theorem wipeG_in {Γ : Gm} {i : Nat} {s : Sl} : ∀ {vs : List Nat}, i ∈ vs → (wipeG Γ vs)[i]? = some s → s = .un
  | [], h, _ => by simp at h
  | v :: vs, h, e => by
    unfold wipeG at e
    by_cases hv : v = i
    · subst hv
      have hl : v < (wipeG Γ vs).length := by
        have := (List.getElem?_eq_some_iff.mp e).1
        rwa [List.length_set] at this
      rw [List.getElem?_set_self hl] at e
      exact (Option.some.inj e).symm
    · rw [List.getElem?_set_ne hv] at e
      rcases List.mem_cons.mp h with h | h
      · exact absurd h.symm hv
      · exact wipeG_in h e
theorem resG_len (Γ1 Γ : Gm) : ∀ vs, (resG Γ1 Γ vs).length = Γ.length
  | [] => rfl
  | v :: vs => by
    unfold resG
    cases Γ1[v]? with
    | none => exact resG_len Γ1 Γ vs
    | some s => dsimp only; rw [List.length_set, resG_len Γ1 Γ vs]
theorem resG_out {Γ1 Γ : Gm} {i : Nat} : ∀ {vs : List Nat}, i ∉ vs → (resG Γ1 Γ vs)[i]? = Γ[i]?
  | [], _ => rfl
  | v :: vs, h => by
    rw [List.mem_cons, not_or] at h
    unfold resG
    cases Γ1[v]? with
    | none => exact resG_out h.2
    | some s => dsimp only; rw [List.getElem?_set_ne (Ne.symm h.1), resG_out h.2]
theorem resG_in {Γ1 Γ : Gm} (hl : Γ1.length = Γ.length) {i : Nat} : ∀ {vs : List Nat}, i ∈ vs → (resG Γ1 Γ vs)[i]? = Γ1[i]?
  | [], h => by simp at h
  | v :: vs, h => by
    unfold resG
    by_cases hv : v = i
    · subst hv
      cases e : Γ1[v]? with
      | none =>
        dsimp only
        have : Γ1.length ≤ v := List.getElem?_eq_none_iff.mp e
        rw [List.getElem?_eq_none (by rw [resG_len]; omega)]
      | some s =>
        dsimp only
        have : v < Γ1.length := (List.getElem?_eq_some_iff.mp e).1
        rw [List.getElem?_set_self (by rw [resG_len]; omega)]
    · have hi : i ∈ vs := (List.mem_cons.mp h).resolve_left fun z => hv z.symm
      cases Γ1[v]? with
      | none => exact resG_in hl hi
      | some s => dsimp only; rw [List.getElem?_set_ne hv]; exact resG_in hl hi
theorem wipe_at {σ : L2.St} {i : Nat} (h : i < σ.length) : ∀ {vs : List Nat}, i ∈ vs → (wipe σ vs)[i]? = some none
  | [], q => by simp at q
  | v :: vs, q => by
    unfold wipe
    by_cases hv : v = i
    · subst hv; rw [List.getElem?_set_self (by rw [wipe_length]; exact h)]
    · rw [List.getElem?_set_ne hv]
      exact wipe_at h ((List.mem_cons.mp q).resolve_left fun z => hv z.symm)
theorem wipe_ext {σ σ' : L2.St} {vs : List Nat} (hl : σ'.length = σ.length) (h : ∀ i, i ∉ vs → σ'[i]? = σ[i]?) : wipe σ' vs = wipe σ vs := by
  apply List.ext_getElem?
  intro i
  by_cases hi : i ∈ vs
  · by_cases hs : i < σ.length
    · rw [wipe_at hs hi, wipe_at (by omega) hi]
    · rw [List.getElem?_eq_none (by rw [wipe_length]; omega), List.getElem?_eq_none (by rw [wipe_length]; omega)]
  · rw [wipe_out hi, wipe_out hi, h i hi]
def wipR (ρ : Nat → Option Addr) (vs : List Nat) : Nat → Option Addr := fun j => if j ∈ vs then none else ρ j
theorem wipR_in {ρ : Nat → Option Addr} {vs : List Nat} {j : Nat} (h : j ∈ vs) : wipR ρ vs j = none := if_pos h
theorem wipR_out {ρ : Nat → Option Addr} {vs : List Nat} {j : Nat} (h : j ∉ vs) : wipR ρ vs j = ρ j := if_neg h
theorem wipR_le {ρ : Nat → Option Addr} {vs : List Nat} {j : Nat} {a : Addr} (h : wipR ρ vs j = some a) : j ∉ vs ∧ ρ j = some a := by
  unfold wipR at h
  split at h
  · cases h
  · rename_i hj; exact ⟨hj, h⟩
section
variable {W : Wd} {F F1 H H1 : Hp} {ρ : Nat → Option Addr} {σ : L2.St} {Γ Γ1 Γe : Gm} {p : Addr} {o o' : HO} {vs : List Nat}
theorem act_wipe {Γ : Gm} {vs : List Nat} {j : Nat} (h : Act (wipeG Γ vs) j) : Act Γ j ∧ j ∉ vs ∨ (∃ i k, j = gix Γ.length i k ∧ i < Γ.length ∧ i ∉ vs ∧ Act Γ j) := by
  rcases h with ⟨s, h1, h2⟩ | ⟨i, io, ds, k, h1, h2, rfl⟩
  · by_cases hj : j ∈ vs
    · rw [wipeG_in hj h1] at h2; cases h2
    · rw [wipeG_out hj] at h1
      exact .inl ⟨.inl ⟨s, h1, h2⟩, hj⟩
  · by_cases hi : i ∈ vs
    · have := wipeG_in hi h1; cases this
    · rw [wipeG_out hi] at h1
      rw [wipeG_len]
      exact .inr ⟨i, k, rfl, (List.getElem?_eq_some_iff.mp h1).1, hi, Act.inn h1 h2⟩
/-- no own list in the wiped slots, or any: those are put aside -/
theorem Sim.wipe (S : Sim W F H ρ σ Γ) (vs : List Nat) (hv : ∀ v ∈ vs, v < Γ.length) : Sim W F H (wipR ρ vs) (L2.wipe σ vs) (wipeG Γ vs) := by
  have gv : ∀ i k, gix Γ.length i k ∉ vs := fun i k h => by have := hv _ h; have := gix_ge (n := Γ.length) (i := i) (k := k); omega
  refine ⟨S.sub, S.new, S.keep, S.pal, fun i a e => S.ro i a (wipR_le e).2, by rw [wipe_length, wipeG_len]; exact S.len, by rw [wipeG_len]; exact S.gl, fun i s e => ?_, fun i j a ha h3 h4 => ?_, fun q hq => ?_, S.ext⟩
  · rw [wipeG_len]
    by_cases hi : i ∈ vs
    · rw [wipeG_in hi e, wipR_in hi]; exact rfl
    · rw [wipeG_out hi] at e
      rw [wipR_out hi, wipe_out hi, funext fun k => wipR_out (gv i k)]
      exact S.slot i s e
  · obtain ⟨hi, h3⟩ := wipR_le h3
    obtain ⟨hj, h4⟩ := wipR_le h4
    rcases act_wipe ha with ⟨h, _⟩ | ⟨_, _, _, _, _, h⟩
    · exact S.one i j a h h3 h4
    · exact S.one i j a h h3 h4
  · obtain ⟨a, b, c⟩ := S.pin q hq
    exact ⟨a, b, fun i e => c i (wipR_le e).2⟩
theorem act_res {Γ1 Γe : Gm} {vs : List Nat} {j : Nat} (hl : Γ1.length = Γe.length) (hv : ∀ v ∈ vs, v < Γ1.length) (ho : ∀ i ∈ vs, isOwn Γ1[i]? = false) (h : Act (resG Γ1 Γe vs) j) : Act Γe j ∧ j ∉ vs := by
  rcases h with ⟨s, h1, h2⟩ | ⟨i, io, ds, k, h1, h2, rfl⟩
  · by_cases hj : j ∈ vs
    · rw [resG_in hl hj] at h1
      have no := ho j hj
      rw [h1] at no
      cases s with
      | un => cases h2
      | val d => cases h2
      | own io d => cases no
      | nst io d => cases no
    · rw [resG_out hj] at h1
      exact ⟨.inl ⟨s, h1, h2⟩, hj⟩
  · by_cases hi : i ∈ vs
    · rw [resG_in hl hi] at h1
      have no := ho i hi
      rw [h1] at no
      cases no
    · rw [resG_out hi] at h1
      rw [resG_len]
      exact ⟨Act.inn h1 h2, fun h => by have := hv _ h; have := gix_ge (n := Γe.length) (i := i) (k := k); omega⟩
theorem Sim.restore (S1 : Sim W F1 H1 ρ σ Γ1) (k : Same F1 F) (S : Sim W F H (wipR ρ vs) (L2.wipe σ vs) Γe) (ho : ∀ i ∈ vs, isOwn Γ1[i]? = false) : Sim W F H ρ σ (resG Γ1 Γe vs) := by
  have hl : Γ1.length = Γe.length := by rw [← S1.len, ← S.len, wipe_length]
  have hv : ∀ v ∈ vs, v < Γ1.length := fun v hv => by
    have := ho v hv
    by_cases h : v < Γ1.length
    · exact h
    · rw [List.getElem?_eq_none (by omega)] at this; cases this
  have gv : ∀ i k, gix Γe.length i k ∉ vs := fun i k h => by have := hv _ h; have := gix_ge (n := Γe.length) (i := i) (k := k); omega
  have fz : ∀ i ∈ vs, ∀ a, ρ i = some a → ∃ o, F a = some o := fun i hi a e => by
    have no := ho i hi
    have hil := hv i hi
    have q := S1.slot i _ (List.getElem?_eq_getElem hil)
    cases hs : Γ1[i] with
    | un => rw [hs] at q; have q : ρ i = none := q; rw [q] at e; cases e
    | val d =>
      rw [hs] at q
      obtain ⟨v, e1, e2, e3⟩ := q
      obtain ⟨o, eo⟩ := (e3 a e).2
      exact ⟨o, k _ _ eo⟩
    | own io d => rw [List.getElem?_eq_getElem hil, hs] at no; cases no
    | nst io d => rw [List.getElem?_eq_getElem hil, hs] at no; cases no
  refine ⟨S.sub, S.new, S.keep, S.pal, fun i a e => ?_, by rw [resG_len, ← hl]; exact S1.len, by rw [resG_len]; exact S.gl, fun i s e => ?_, fun i j a ha h3 h4 => ?_, fun q hq => ?_, S.ext⟩
  · by_cases hi : i ∈ vs
    · obtain ⟨o, eo⟩ := fz i hi a e
      exact ⟨o, S.sub _ _ eo⟩
    · exact S.ro i a (by rw [wipR_out hi]; exact e)
  · rw [resG_len]
    by_cases hi : i ∈ vs
    · rw [resG_in hl hi] at e
      have q := S1.slot i s e
      have no := ho i hi
      rw [e] at no
      cases s with
      | un => exact q
      | val d =>
        obtain ⟨v, e1, e2, e3⟩ := q
        exact ⟨v, e1, Rp.mono k _ _ e2, fun a ea => ⟨(e3 a ea).1, let ⟨o, eo⟩ := (e3 a ea).2; ⟨o, k _ _ eo⟩⟩⟩
      | own io d => cases no
      | nst io d => cases no
    · rw [resG_out hi] at e
      have q := S.slot i s e
      rw [wipR_out hi, wipe_out hi, funext fun k => wipR_out (gv i k)] at q
      exact q
  · obtain ⟨ae, hi⟩ := act_res hl hv ho ha
    by_cases hj : j ∈ vs
    · obtain ⟨o, eo⟩ := fz j hj a h4
      exfalso
      have nf : F a = none := by
        rcases ae with ⟨s, e1, e2⟩ | ⟨i', io, ds, kk, e1, e2, rfl⟩
        · have q := S.slot i s e1
          rw [wipR_out hi] at q
          cases s with
          | own io d => obtain ⟨b, b1, b2, b3, b4, _⟩ := q; rw [h3] at b1; cases b1; exact b4
          | nst io d => obtain ⟨b, bs, b1, b2, b3, b4, _⟩ := q; rw [h3] at b1; cases b1; exact b4
          | _ => cases e2
        · obtain ⟨b, bs, b1, b2, b3, b4, b5, _⟩ := S.slot i' _ e1
          obtain ⟨vs', n1, n2, n3⟩ := b3
          have hk : kk < bs.length := by have := n2.len.2; unfold ninn at e2; omega
          have this : wipR ρ vs (gix Γe.length i' kk) = some _ := b5 kk _ (List.getElem?_eq_getElem hk)
          rw [wipR_out (gv i' kk), h3] at this
          cases this
          exact (n2.there _ (List.getElem_mem hk)).2
      rw [nf] at eo; cases eo
    · exact S.one i j a ae (by rw [wipR_out hi]; exact h3) (by rw [wipR_out hj]; exact h4)
  · obtain ⟨a, b, _⟩ := S.pin q hq
    exact ⟨a, b, (S1.pin q hq).2.2⟩
theorem Sim.pinWrite (S : Sim (W.pin p o) F H ρ σ Γ) (hB : W.B p = none) (hP : p ∉ W.P) (hn : ∀ q ∈ W.pins, q.1 ≠ p) (nt : noTup o' := by intro _ h; cases h) : Sim (W.pin p o') F (upd H p o') ρ σ Γ := by
  obtain ⟨p1, p2, p3⟩ := S.pin (p, o) List.mem_cons_self
  refine ⟨fun b x e => ?_, S.new, fun b x e np => ?_, fun b hb => ?_, fun i a e => ?_, S.len, S.gl, fun i s e => ?_, S.one, fun q hq => ?_, ⟨S.ext.tb, fun b hb => (S.ext.up (H' := upd H p o') fun b hb u e n => ⟨u, by rw [upd_ne fun z => hP (by rw [← z]; exact hb)]; exact e, n⟩).pnt b hb, fun q hq => ?_⟩⟩
  rotate_right
  · rcases List.mem_cons.mp hq with rfl | hq
    · exact nt
    · exact S.ext.ptn q (List.mem_cons_of_mem _ hq)
  · rw [upd_ne fun z => by rw [z] at e; rw [p2] at e; cases e]; exact S.sub _ _ e
  · rw [upd_ne fun z => by rw [z] at e; have : W.B p = some x := e; rw [hB] at this; cases this]; exact S.keep b x e np
  · rw [upd_ne fun z => hP (by rw [← z]; exact hb)]; exact S.pal b hb
  · rw [upd_ne fun z => p3 i (by rw [e, z])]; exact S.ro i a e
  · have q := S.slot i s e
    refine SlOk.mono (W := W.pin p o) q (Same.refl F) (fun a ea u hu => ?_) fun _ _ z => z
    rw [upd_ne fun z => ?_]
    · exact hu
    · rcases ea with ea | ⟨k, ea⟩
      · exact p3 _ (by rw [ea, z])
      · exact p3 _ (by rw [ea, z])
  · rcases List.mem_cons.mp hq with rfl | hq
    · exact ⟨upd_same, p2, p3⟩
    · obtain ⟨a, b, c⟩ := S.pin q (List.mem_cons_of_mem _ hq)
      exact ⟨by rw [upd_ne (hn q hq)]; exact a, b, c⟩
end
def condG (c : Option EM) (Γ : Gm) : Option (Bool × Gm) := match c with
  | none => some (true, Γ)
  | some c => match c Γ with
    | .ok e Γ' => match e.fz with
      | .imm (.bl b) => some (b, Γ')
      | _ => none
    | .stuck => none
def eltG (f : EM) (Γ : Gm) : Option (D × Gm) := match f Γ with
  | .ok e Γ' => if e.fz.ok = true then settle e.fz Γ' else none
  | .stuck => none
def lcL (t : Tg) (vs : List Nat) (c : Option EM) (f : EM) : List D → List D → Gm → Option (List D × Gm)
  | [], acc, Γ => some (acc, Γ)
  | d :: ds, acc, Γ => (setT t d Γ).bind fun Γ1 => (condG c Γ1).bind fun p => if p.1 = true then (eltG f p.2).bind fun q => if acc.length < sizeLine then lcL t vs c f ds (acc ++ [q.1]) (wipeG q.2 vs) else none
    else lcL t vs c f ds acc (wipeG p.2 vs)
def eLc (vs : List Nat) (it : IM) (t : Tg) (c : Option EM) (f : EM) : EM := fun Γ => match it Γ with
  | .ok ds Γ1 => if (vs.all fun i => !isOwn Γ1[i]?) = true ∧ (t.sl.all fun i => vs.contains i) = true then match lcL t vs c f ds [] (wipeG Γ1 vs) with
    | some q => .ok (.fr (.lst q.1)) (resG Γ1 q.2 vs)
    | none => .stuck
    else .stuck
  | .stuck => .stuck
/-- the conditions of a comprehension -/
def tC2 (K : PySem.W.Frag) : Option EM → TT
  | none => tYes
  | some c => tT K c
theorem elt_inv {f : EM} {Γ Γ' : Gm} {d : D} (h : eltG f Γ = some (d, Γ')) : ∃ e Γ1, f Γ = .ok e Γ1 ∧ e.fz.ok = true ∧ settle e.fz Γ1 = some (d, Γ') := by
  unfold eltG at h
  cases hf : f Γ with
  | stuck => rw [hf] at h; cases h
  | ok e Γ1 =>
    rw [hf] at h
    dsimp only at h
    split at h
    · rename_i ok; exact ⟨e, Γ1, rfl, ok, h⟩
    · cases h
theorem cond_tT {K : PySem.W.Frag} {c : Option EM} {W : Wd} {F H : Hp} {ρ : Nat → Option Addr} {σ : L2.St} {Γ Γ' : Gm} {b : Bool} {Q : Bool → Hp → Prop} (eK : W.K = K) (S : Sim W F H ρ σ Γ) (h : condG c Γ = some (b, Γ'))
    (k : ∀ F1 H1, Same F F1 → Sim W F1 H1 ρ σ Γ' → Q b H1) : tC2 K c σ H Q := by
  cases c with
  | none => cases h; exact k F H (Same.refl F) S
  | some c =>
    unfold condG at h
    dsimp only at h
    cases hc : c Γ with
    | stuck => rw [hc] at h; cases h
    | ok e Γ1 =>
      rw [hc] at h
      dsimp only at h
      split at h
      · rename_i b' hb
        cases h
        exact tT_bool eK S hc hb k
      · cases h
theorem vs_lt {Γ : Gm} {vs : List Nat} (h : ∀ i ∈ vs, isOwn Γ[i]? = false) : ∀ v ∈ vs, v < Γ.length := fun v hv => by
  have := h v hv
  by_cases hl : v < Γ.length
  · exact hl
  · rw [List.getElem?_eq_none (by omega)] at this; cases this
theorem len2 {W W' : Wd} {F F' H H' : Hp} {ρ ρ' : Nat → Option Addr} {σ σ' : L2.St} {Γ Γ' : Gm} (S : Sim W F H ρ σ Γ) (S' : Sim W' F' H' ρ' σ' Γ') (h : σ'.length = σ.length) : Γ'.length = Γ.length := by
  rw [← S.len, ← S'.len, h]
/-- the heart: a comprehension's meaning gives the layer's reading -/
theorem lc_read {K : PySem.W.Frag} {vs : List Nat} {it : IM} {t : Tg} {c : Option EM} {f : EM} {σ : L2.St} {H : Hp} {Q : VK} (h : tE K (eLc vs it t c f) σ H Q) : tLc (tI K it) (gT K t) (tC2 K c) (tE K f) vs σ H Q := by
  obtain ⟨W, F, ρ, Γ, eK, S, e, Γ', ef, ok, q⟩ := h
  unfold eLc at ef
  cases hi : it Γ with
  | stuck => rw [hi] at ef; cases ef
  | ok ds Γ1 =>
    rw [hi] at ef
    dsimp only at ef
    split at ef
    · rename_i hc
      have hown : ∀ i ∈ vs, isOwn Γ1[i]? = false := fun i hv => by
        have := List.all_eq_true.mp hc.1 i hv
        simpa using this
      have hsub : ∀ i ∈ t.sl, i ∈ vs := fun i hv => by
        have := List.all_eq_true.mp hc.2 i hv
        simpa using this
      cases hr : lcL t vs c f ds [] (wipeG Γ1 vs) with
      | none => rw [hr] at ef; cases ef
      | some qq =>
        rw [hr] at ef
        cases ef
        refine ⟨W, F, ρ, Γ, eK, S, ds, Γ1, hi, fun J F1 H1 k1 S1 itd => fun p hp => ?_⟩
        have N := S1.fresh hp
        have S2 : Sim (W.pin p (.lst [])) F1 (upd H1 p (.lst [])) ρ σ Γ1 := (S1.alloc (o := .lst []) hp).hold upd_same N.up
        refine ⟨fun i m H => m = ds.length - i ∧ i ≤ ds.length ∧ ∃ (F2 : Hp) (acc : List D) (av : List V) (Γ2 : Gm), Same F1 F2 ∧ Sim (W.pin p (.lst av)) F2 H (wipR ρ vs) (wipe σ vs) Γ2 ∧ RpL W.K F2 acc av ∧ lcL t vs c f (ds.drop i) acc Γ2 = some qq,
          ⟨ds.length, by simp, Nat.zero_le _, F1, [], [], wipeG Γ1 vs, Same.refl _, S2.wipe vs (vs_lt hown), rpl_nil, by rw [List.drop_zero]; exact hr⟩, ?_⟩
        rintro i m H ⟨rfl, hil, F2, acc, av, Γ2, k2, S2, ra, h2⟩
        obtain ⟨stop, go⟩ := itd i (W.pin p (.lst av)) F2 H _ _ Γ2 rfl k2 S2
        by_cases hl : i < ds.length
        · rw [List.drop_eq_getElem_cons hl] at h2
          unfold lcL at h2
          obtain ⟨Γ3, h3, h2⟩ := obind_inv h2
          obtain ⟨pc, hpc, h2⟩ := obind_inv h2
          obtain ⟨go1, go2⟩ := go ds[i] (List.getElem?_eq_getElem hl)
          refine .inr ⟨go1, fun H' => ∃ (F2 : Hp) (acc : List D) (av : List V) (Γ2 : Gm), Same F1 F2 ∧ Sim (W.pin p (.lst av)) F2 H' (wipR ρ vs) (wipe σ vs) Γ2 ∧ RpL W.K F2 acc av ∧ lcL t vs c f (ds.drop (i + 1)) acc Γ2 = some qq,
            fun H' z => ⟨ds.length - (i + 1), by omega, rfl, by omega, z⟩, fun x H' y => ?_⟩
          obtain ⟨F3, k3, S3, r3, _⟩ := go2 x H' y
          refine ⟨W.pin p (.lst av), F3, _, Γ2, ds[i], Γ3, eK, S3, r3, h3, fun ρ4 σ4 S4 off => ?_⟩
          have hw : wipe σ4 vs = wipe σ vs := wipe_ext (off.1.trans (wipe_length σ vs)) fun j hj => ((off.2 j fun z => hj (hsub j z)).1).trans (wipe_out hj)
          have hR : wipR ρ4 vs = wipR ρ vs := by
            funext j
            by_cases hj : j ∈ vs
            · rw [wipR_in hj, wipR_in hj]
            · rw [wipR_out hj, (off.2 j fun z => hj (hsub j z)).2]
          refine ⟨hw, cond_tT (W := W.pin p (.lst av)) eK S4 hpc fun F5 H5 k5 S5 => ?_⟩
          obtain ⟨b, Γ5⟩ := pc
          cases b with
          | false =>
            rw [if_neg Bool.false_ne_true] at h2 ⊢
            refine ⟨F5, acc, av, wipeG Γ5 vs, (k2.trans k3).trans k5, ?_, RpL.mono (k3.trans k5) _ _ ra, h2⟩
            have := S5.wipe vs fun v hv => by rw [len2 S1 S5 (off.1.trans (wipe_length σ vs))]; exact vs_lt hown v hv
            rw [hR, hw] at this
            exact this
          | true =>
            rw [if_pos rfl] at h2 ⊢
            obtain ⟨qe, hqe, h2⟩ := obind_inv h2
            obtain ⟨dd, Γ6⟩ := qe
            obtain ⟨e1, Γ7, hf, ok1, hst⟩ := elt_inv hqe
            refine tE_then (W := W.pin p (.lst av)) eK S5 hf ok1 fun v F6 H6 k6 S6 r6 => ?_
            obtain ⟨F7, k7, S7, r7⟩ := settle_ok _ _ _ _ _ _ S6 ok1 r6 hst
            split at h2
            · rename_i hz
              have hpin := S7.pin (p, .lst av) List.mem_cons_self
              refine ⟨av, hpin.1, by rw [← rpl_len ra]; exact hz, F7, acc ++ [dd], av ++ [v], wipeG Γ6 vs, (((k2.trans k3).trans k5).trans k6).trans k7, ?_, ?_, h2⟩
              · have S8 := S7.pinWrite (o' := .lst (av ++ [v])) N.b N.np N.n
                have := S8.wipe vs fun v hv => by rw [len2 S1 S8 (off.1.trans (wipe_length σ vs))]; exact vs_lt hown v hv
                rw [hR, hw] at this
                exact this
              · exact rpl_append (RpL.mono (((k3.trans k5).trans k6).trans k7) _ _ ra) (rpl_cons r7 rpl_nil)
            · cases h2
        · rw [List.drop_eq_nil_of_le (by omega)] at h2
          unfold lcL at h2
          cases h2
          obtain ⟨S3, hp3, hf3, hr3⟩ := S2.unhold
          refine .inl ⟨stop (by omega), q (.ref p) F2 H (k1.trans k2) (S1.restore k2 S3 hown) ?_⟩
          unfold RpE
          exact ⟨p, rfl, ⟨av, hp3, ra⟩, hf3, N.b, N.np, N.r, N.n⟩
    · cases ef
section
variable {X : Cx} {elt tg iter : Expr} {ifs : List Expr} {scope : Scope} {own : List (Str × Nat)} {pos spos : Pos} {it : IM} {t : Tg} {c : Option EM} {f : EM}
def DTs (X : Cx) (ifs : List Expr) (c : Option EM) : Prop := PTs X ifs (tC2 X.K c)
theorem dts_nil : DTs X [] none := pts_nil
theorem dts_one {b : Expr} {g : EM} (h : DT X b g) : DTs X [b] (some g) := pts_one h
theorem de_lc (hc : X.calm = true) (hN : X.N.Nodup) (ok : BlkOk X.N X.env.scope scope own) (hi : DI X tg iter it)
    (hg : ∀ (s : Shared) (H : Hp) (C : Addr) (cl : List (Str × Addr)) (fp : List Addr), DG (X.blk s H scope (compEnvC scope cl C X.env) fp) tg t) (ht : ∀ (s : Shared) (H : Hp) (C : Addr) (cl : List (Str × Addr)) (fp : List Addr), DTs (X.blk s H scope (compEnvC scope cl C X.env) fp) ifs c)
    (he : ∀ (s : Shared) (H : Hp) (C : Addr) (cl : List (Str × Addr)) (fp : List Addr), DE (X.blk s H scope (compEnvC scope cl C X.env) fp) elt f) (hs : ∀ x, foldedSetIterable iter X.env x = pure x := by intro _; rfl) :
    DE X (.ListComp elt [⟨tg, iter, ifs, 0⟩] scope pos) (eLc (own.map (·.2)) it t c f) := pe_imp (pe_lc (wi := tI X.K it) (g := gT X.K t) (tt := tC2 X.K c) (te := tE X.K f) hc hN hi ok hg ht he hs) fun _ _ _ h => lc_read h
/-- storing what a reading gives -/
theorem set_core {st : Stmt} {te : TE} {i : Nat} (h : PS X st (tAsg te (gName i))) (hi : ∀ σ H Q, tE X.K f σ H Q → te σ H Q) : DS X st (sSetOk i f) :=
  ps_imp h fun D σ _ ⟨W, F, ρ, Γ, eK, S, h⟩ => by
    obtain ⟨e, Γ1, ef, h⟩ := go_inv h
    obtain ⟨ok, h⟩ := ifok_inv h
    obtain ⟨d, Γ2, hd, h⟩ := ofS_inv h
    obtain ⟨hl, h⟩ := setv_inv h
    refine hi _ _ _ (tE_then eK S ef ok fun v F1 H1 k S1 r => ?_)
    obtain ⟨F2, k2, S2, r2⟩ := settle_ok _ _ _ _ _ _ S1 ok r hd
    exact h F2 H1 _ _ (k.trans k2) (S2.setVal hl r2)
theorem own_core {st : Stmt} {te : TE} {i : Nat} (h : PS X st (tAsg te (gName i))) (hi : ∀ σ H Q, tE X.K f σ H Q → te σ H Q) : DS X st (sOwnOk i f) :=
  ps_imp h fun D σ _ ⟨W, F, ρ, Γ, eK, S, h⟩ => by
    obtain ⟨e, Γ1, ef, h⟩ := go_inv h
    obtain ⟨d, rfl, hl, h⟩ := ownK_inv h
    refine hi _ _ _ (tE_any eK S ef rfl fun v F1 H1 k S1 r => ?_)
    unfold RpE at r
    obtain ⟨a, rfl, o, N⟩ := r
    exact h F1 H1 _ _ k (S1.setOwn hl o N)
theorem set_lc {i : Nat} {y : Str} {py : Pos} (hc : X.calm = true) (hN : X.N.Nodup) (hy : X.N[i]? = some y) (hyl : X.env.scope.names.lookup y = some .local) (hsw : swapsWith (.ListComp elt [⟨tg, iter, ifs, 0⟩] scope pos) (some (.Name y py)) spos.line X.env = pure true)
    (ok : BlkOk X.N X.env.scope scope own) (hi : DI X tg iter it)
    (hg : ∀ (s : Shared) (H : Hp) (C : Addr) (cl : List (Str × Addr)) (fp : List Addr), DG (X.blk s H scope (compEnvC scope cl C X.env) fp) tg t) (ht : ∀ (s : Shared) (H : Hp) (C : Addr) (cl : List (Str × Addr)) (fp : List Addr), DTs (X.blk s H scope (compEnvC scope cl C X.env) fp) ifs c)
    (he : ∀ (s : Shared) (H : Hp) (C : Addr) (cl : List (Str × Addr)) (fp : List Addr), DE (X.blk s H scope (compEnvC scope cl C X.env) fp) elt f) (hs : ∀ x, foldedSetIterable iter X.env x = pure x := by intro _; rfl) :
    PS X (.Assign [.Name y py] (.ListComp elt [⟨tg, iter, ifs, 0⟩] scope pos) spos) (tAsg (tLc (tI X.K it) (gT X.K t) (tC2 X.K c) (tE X.K f) (own.map (·.2))) (gName i)) := ps_setLc (wi := tI X.K it) (g := gT X.K t) (tt := tC2 X.K c) (te := tE X.K f) hc hN hy hyl hsw hi ok hg ht he hs
end
end DL

namespace DL
open PySem PySem.Spec PyProof.Rows L2

/-- what a function does: its value (new or not) and what the handed lists hold behind it; okN: a new list that owns lists -/
inductive FRes where
  | ok (fr : Bool) (d : D) (ios : List D)
  | okN (ds : List D) (ios : List D)
  | stuck
abbrev FS := List D → FRes
/-- an object that is handed in to be changed; .tup stands for a list that owns lists -/
def IoAt (K : PySem.W.Frag) (F H : Hp) (a : Addr) (bs : List Addr) : D → Prop
  | .tup ds => NstAt K F H a bs ds
  | d => bs = [] ∧ OwnAt K F H a d
theorem IoAt.there {K : PySem.W.Frag} {F H : Hp} {a : Addr} {bs : List Addr} {d : D} (h : IoAt K F H a bs d) : ∀ b ∈ a :: bs, ∃ o, H b = some o := by
  have own : ∀ d, bs = [] ∧ OwnAt K F H a d → ∀ b ∈ a :: bs, ∃ o, H b = some o := fun d ⟨e, ho⟩ b hb => by
    subst e
    rw [List.mem_singleton.mp hb]
    exact OwnAt.there ho
  cases d with
  | tup ds => exact NstAt.there h
  | _ => exact own _ h
theorem IoAt.nodup {K : PySem.W.Frag} {F H : Hp} {a : Addr} {bs : List Addr} {d : D} (h : IoAt K F H a bs d) : (a :: bs).Nodup := by
  have own : ∀ d, bs = [] ∧ OwnAt K F H a d → (a :: bs).Nodup := fun d ⟨e, h⟩ => by subst e; simp
  cases d with
  | tup ds => obtain ⟨_, _, _, h⟩ := h; exact h
  | _ => exact own _ h
/-- .. behind a call -/
def IoBk (K : PySem.W.Frag) (F H : Hp) (a : Addr) (bs : List Addr) : D → Prop
  | .tup ds => NstAt K F H a bs ds
  | d => OwnAt K F H a d
abbrev Held1 := Option (Addr × List Addr)
def fl1 : Held1 → List Addr
  | none => []
  | some p => p.1 :: p.2
def addrs (as : List Held1) : List Addr := as.flatMap fl1
inductive ArgsOk (K : PySem.W.Frag) (F H : Hp) : List Bool → List V → List D → List Held1 → Prop
  | nil : ArgsOk K F H [] [] [] []
  | pl {ms : List Bool} {v : V} {vs : List V} {d : D} {ds : List D} {as : List Held1} : Rp K F d v → ArgsOk K F H ms vs ds as → ArgsOk K F H (false :: ms) (v :: vs) (d :: ds) (none :: as)
  | io {ms : List Bool} {a : Addr} {bs : List Addr} {vs : List V} {d : D} {ds : List D} {as : List Held1} : IoAt K F H a bs d → F a = none → ArgsOk K F H ms vs ds as → ArgsOk K F H (true :: ms) (.ref a :: vs) (d :: ds) (some (a, bs) :: as)
/-- what stands in them behind the call -/
inductive IosOk (K : PySem.W.Frag) (F' H' : Hp) : List Held1 → List D → Prop
  | nil : IosOk K F' H' [] []
  | pl {as : List Held1} {ios : List D} : IosOk K F' H' as ios → IosOk K F' H' (none :: as) ios
  | io {a : Addr} {bs : List Addr} {d : D} {as : List Held1} {ios : List D} : IoBk K F' H' a bs d → F' a = none → IosOk K F' H' as ios → IosOk K F' H' (some (a, bs) :: as) (d :: ios)
structure Post (K : PySem.W.Frag) (F H : Hp) (as : List Held1) (F' H' : Hp) (ios : List D) : Prop where
  ff : Same F F'
  fh : Same F' H'
  new : ∀ a o, F' a = some o → F a = some o ∨ H a = none
  keep : ∀ a o, H a = some o → a ∉ addrs as → H' a = some o
  pal : ∀ a ∈ addrs as, ∃ o, H' a = some o
  ios : IosOk K F' H' as ios
def RpR (K : PySem.W.Frag) (H F' H' : Hp) (fr : Bool) (d : D) (v : V) : Prop :=
  if fr = true then ∃ a, v = .ref a ∧ OwnAt K F' H' a d ∧ F' a = none ∧ H a = none else Rp K F' d v
def RpN (K : PySem.W.Frag) (H F' H' : Hp) (ds : List D) (v : V) : Prop := ∃ a bs, v = .ref a ∧ NstAt K F' H' a bs ds ∧ F' a = none ∧ ∀ b ∈ a :: bs, H b = none
/-- a def's promise by its meaning -/
def spD (K : PySem.W.Frag) (ms : List Bool) (fn : FS) : Sp := fun vs H Q _ => ∃ (F : Hp) (ds : List D) (as : List Held1), Same F H ∧ AllT F H ∧ ArgsOk K F H ms vs ds as ∧ (addrs as).Nodup ∧ ((∃ fr d ios, fn ds = .ok fr d ios ∧
  ∀ v F' H', Post K F H as F' H' ios → RpR K H F' H' fr d v → Q v H') ∨ ∃ es ios, fn ds = .okN es ios ∧ ∀ v F' H', Post K F H as F' H' ios → RpN K H F' H' es v → Q v H')
theorem args_len {K : PySem.W.Frag} {F H : Hp} {ms : List Bool} {vs : List V} {ds : List D} {as : List Held1} (h : ArgsOk K F H ms vs ds as) : vs.length = ms.length ∧ ds.length = ms.length ∧ as.length = ms.length := by
  induction h with
  | nil => exact ⟨rfl, rfl, rfl⟩
  | pl _ _ ih => simp [ih]
  | io _ _ _ ih => simp [ih]
theorem io_there {K : PySem.W.Frag} {F H : Hp} {ms : List Bool} {vs : List V} {ds : List D} {as : List Held1} (h : ArgsOk K F H ms vs ds as) : ∀ a ∈ addrs as, ∃ o, H a = some o := by
  induction h with
  | nil => intro a ha; cases ha
  | pl _ _ ih => exact ih
  | @io ms a bs vs d ds as h1 h2 _ ih =>
    intro c hc
    have hc : c ∈ (a :: bs) ++ addrs as := hc
    rcases List.mem_append.mp hc with hc | hc
    · exact h1.there c hc
    · exact ih c hc
theorem IoAt.nt {K : PySem.W.Frag} {F H : Hp} {a : Addr} {bs : List Addr} {d : D} (h : IoAt K F H a bs d) : ∀ b ∈ a :: bs, ∀ u, H b = some u → noTup u := by
  have own : ∀ d, bs = [] ∧ OwnAt K F H a d → ∀ b ∈ a :: bs, ∀ u, H b = some u → noTup u := fun d ⟨e, o⟩ b hb u hu => by
    subst e
    rw [List.mem_singleton.mp hb] at hu
    exact o.nt hu
  cases d with
  | tup ds => exact NstAt.nt h
  | _ => exact own _ h
theorem io_nt {K : PySem.W.Frag} {F H : Hp} {ms : List Bool} {vs : List V} {ds : List D} {as : List Held1} (h : ArgsOk K F H ms vs ds as) : ∀ a ∈ addrs as, ∀ u, H a = some u → noTup u := by
  induction h with
  | nil => intro a ha; cases ha
  | pl _ _ ih => exact ih
  | @io ms a bs vs d ds as h1 h2 _ ih =>
    intro c hc
    have hc : c ∈ (a :: bs) ++ addrs as := hc
    rcases List.mem_append.mp hc with hc | hc
    · exact h1.nt c hc
    · exact ih c hc
/-- what is at an index -/
theorem args_at {K : PySem.W.Frag} {F H : Hp} {ms : List Bool} {vs : List V} {ds : List D} {as : List Held1} (h : ArgsOk K F H ms vs ds as) : ∀ {i : Nat}, i < ms.length → (∃ d v, ds[i]? = some d ∧ ms[i]? = some false ∧ vs[i]? = some v ∧ Rp K F d v ∧ as[i]? = some none) ∨ ∃ d a bs, ds[i]? = some d ∧ ms[i]? = some true ∧ vs[i]? = some (.ref a) ∧ IoAt K F H a bs d ∧ F a = none ∧ as[i]? = some (some (a, bs)) := by
  induction h with
  | nil => intro i hi; simp at hi
  | @pl ms v vs d ds as h1 _ ih =>
    intro i hi
    cases i with
    | zero => exact .inl ⟨d, v, rfl, rfl, rfl, h1, rfl⟩
    | succ i => simpa using ih (by simpa using hi)
  | @io ms a bs vs d ds as h1 h2 _ ih =>
    intro i hi
    cases i with
    | zero => exact .inr ⟨d, a, bs, rfl, rfl, rfl, h1, h2, rfl⟩
    | succ i => simpa using ih (by simpa using hi)

/-! ### a body -/
def ioS : D → Sl
  | .tup ds => .nst true ds
  | d => .own true d
def slots0 : List Bool → List D → Gm
  | m :: ms, d :: ds => (if m = true then ioS d else .val d) :: slots0 ms ds
  | _, _ => []
def iosOf : List Bool → Gm → Option (List D)
  | [], _ => some []
  | true :: ms, .own true d :: Γ => (iosOf ms Γ).map (d :: ·)
  | true :: ms, .nst true ds :: Γ => (iosOf ms Γ).map (.tup ds :: ·)
  | false :: ms, _ :: Γ => iosOf ms Γ
  | _, _ => none
/-- the value that is handed back -/
def retV (e : EV) (Γ : Gm) : Option (Bool × D × Gm) := match e with
  | .fr d => some (true, d, Γ)
  | .bor i => match Γ[i]? with
    | some (.own false d) => some (true, d, Γ)
    | _ => (settle (.bor i) Γ).map fun p => (false, p.1, p.2)
  | e => (settle e Γ).map fun p => (false, p.1, p.2)
/-- .. a list that owns lists -/
def retN (e : EV) (Γ : Gm) : Option (List D) := match e with
  | .frn ds => some ds
  | .bor i => match Γ[i]? with
    | some (.nst false ds) => some ds
    | _ => none
  | _ => none
def finR (ms : List Bool) : Option (Bool × D × Gm) → FRes
  | some (fr, d, Γ) => match iosOf ms Γ with
    | some ios => .ok fr d ios
    | none => .stuck
  | none => .stuck
def finN (ms : List Bool) (ds : List D) (Γ : Gm) : FRes := match iosOf ms Γ with
  | some ios => .okN ds ios
  | none => .stuck
def runF (n : Nat) (ms : List Bool) (g : SM) : FS := fun ds => if ds.length = ms.length ∧ ms.length ≤ n then match g (slots0 ms ds ++ List.replicate (n - ms.length) .un) with
    | .nx Γ => finR ms (some (false, .non, Γ))
    | .ret e Γ => match retN e Γ with
      | some es => finN ms es Γ
      | none => if e.fz.ok = true then finR ms (retV e Γ) else .stuck
    | _ => .stuck
  else .stuck
theorem finR_inv {ms : List Bool} {o : Option (Bool × D × Gm)} {r : FRes} (h : finR ms o = r) (hr : r ≠ .stuck) : ∃ fr d Γ ios, o = some (fr, d, Γ) ∧ iosOf ms Γ = some ios ∧ r = .ok fr d ios := by
  cases o with
  | none => exact absurd h.symm hr
  | some p =>
    obtain ⟨fr', d', Γ⟩ := p
    unfold finR at h
    dsimp only at h
    split at h
    · rename_i ios' hi; exact ⟨_, _, _, _, rfl, hi, h.symm⟩
    · exact absurd h.symm hr
theorem slots0_len : ∀ {ms : List Bool} {ds : List D}, ds.length = ms.length → (slots0 ms ds).length = ms.length
  | [], _, _ => by unfold slots0; rfl
  | m :: ms, [], h => by cases h
  | m :: ms, d :: ds, h => by
    unfold slots0
    rw [List.length_cons, List.length_cons, slots0_len (by simpa using h)]
theorem slots0_at : ∀ {ms : List Bool} {ds : List D} {i : Nat} {m : Bool} {d : D}, ms[i]? = some m → ds[i]? = some d → (slots0 ms ds)[i]? = some (if m = true then ioS d else .val d)
  | [], _, i, m, d, h, _ => by simp at h
  | _ :: _, [], i, m, d, _, h => by simp at h
  | m :: ms, d :: ds, 0, m', d', h1, h2 => by
    simp at h1 h2
    subst h1 h2
    unfold slots0
    rfl
  | m :: ms, d :: ds, i + 1, m', d', h1, h2 => by
    unfold slots0
    rw [List.getElem?_cons_succ]
    exact slots0_at (by simpa using h1) (by simpa using h2)
/-- the addresses at the entry: by slots, and what those own behind -/
def rhoA (n : Nat) (as : List Held1) : Nat → Option Addr := fun j => if j < n then (match as[j]? with
    | some (some p) => some p.1
    | _ => none) else match as[j % n]? with
    | some (some p) => p.2[j / n - 1]?
    | _ => none
theorem rhoA_i {n i : Nat} {as : List Held1} {a : Addr} {bs : List Addr} (hi : i < n) (h : as[i]? = some (some (a, bs))) : rhoA n as i = some a := by
  unfold rhoA; rw [if_pos hi, h]
theorem rhoA_n {n i : Nat} {as : List Held1} (hi : i < n) (h : as[i]? = some none ∨ as[i]? = none) : rhoA n as i = none := by
  unfold rhoA; rw [if_pos hi]
  rcases h with h | h <;> rw [h]
theorem rhoA_g {n i k : Nat} {as : List Held1} {a : Addr} {bs : List Addr} (hi : i < n) (h : as[i]? = some (some (a, bs))) : rhoA n as (gix n i k) = bs[k]? := by
  obtain ⟨d1, d2⟩ := gix_div (k := k) hi
  unfold rhoA
  rw [if_neg (by have := gix_ge (n := n) (i := i) (k := k); omega), d1, d2, h]
theorem rhoA_inv {n j : Nat} {as : List Held1} {b : Addr} (hn : as.length ≤ n) (h : rhoA n as j = some b) : ∃ i a bs, i < n ∧ as[i]? = some (some (a, bs)) ∧ ((j = i ∧ b = a) ∨ ∃ k, j = gix n i k ∧ bs[k]? = some b) := by
  unfold rhoA at h
  split at h
  · rename_i hj
    split at h
    · rename_i p hp
      cases h
      exact ⟨j, p.1, p.2, hj, hp, .inl ⟨rfl, rfl⟩⟩
    · cases h
  · rename_i hj
    split at h
    · rename_i p hp
      have hl := (List.getElem?_eq_some_iff.mp hp).1
      refine ⟨j % n, p.1, p.2, by omega, hp, .inr ⟨j / n - 1, ?_, h⟩⟩
      unfold gix
      have h1 : 1 ≤ j / n := Nat.div_pos (by omega) (by omega)
      rw [show j / n - 1 + 1 = j / n by omega]
      have := Nat.div_add_mod j n
      omega
    · cases h
theorem addrs_mem {as : List Held1} {i : Nat} {a : Addr} {bs : List Addr} (h : as[i]? = some (some (a, bs))) : ∀ b ∈ a :: bs, b ∈ addrs as := fun b hb => List.mem_flatMap.mpr ⟨_, List.mem_of_getElem? h, hb⟩
theorem rhoA_mem {n j : Nat} {as : List Held1} {b : Addr} (hn : as.length ≤ n) (h : rhoA n as j = some b) : b ∈ addrs as := by
  obtain ⟨i, a, bs, _, h1, h2⟩ := rhoA_inv hn h
  refine addrs_mem h1 b ?_
  rcases h2 with ⟨_, rfl⟩ | ⟨k, _, h2⟩
  · exact List.mem_cons_self
  · exact List.mem_cons_of_mem _ (List.mem_of_getElem? h2)
theorem rhoA_inj {n i j : Nat} {as : List Held1} {b : Addr} (hn : as.length ≤ n) (nd : (addrs as).Nodup) (h1 : rhoA n as i = some b) (h2 : rhoA n as j = some b) : i = j := by
  obtain ⟨i', a, bs, hi, a1, a2⟩ := rhoA_inv hn h1
  obtain ⟨j', c, cs, hj, c1, c2⟩ := rhoA_inv hn h2
  have nd' := List.pairwise_flatMap.mp (show (as.flatMap fl1).Pairwise (· ≠ ·) from nd)
  have m1 : b ∈ fl1 (some (a, bs)) := by
    rcases a2 with ⟨_, rfl⟩ | ⟨k, _, h⟩
    · exact List.mem_cons_self
    · exact List.mem_cons_of_mem _ (List.mem_of_getElem? h)
  have m2 : b ∈ fl1 (some (c, cs)) := by
    rcases c2 with ⟨_, rfl⟩ | ⟨k, _, h⟩
    · exact List.mem_cons_self
    · exact List.mem_cons_of_mem _ (List.mem_of_getElem? h)
  have e : i' = j' := by
    have pw := List.pairwise_iff_getElem.mp nd'.2
    obtain ⟨hi2, ei⟩ := List.getElem?_eq_some_iff.mp a1
    obtain ⟨hj2, ej⟩ := List.getElem?_eq_some_iff.mp c1
    rcases Nat.lt_trichotomy i' j' with h | h | h
    · exact absurd rfl (pw i' j' hi2 hj2 h b (by rw [ei]; exact m1) b (by rw [ej]; exact m2))
    · exact h
    · exact absurd rfl (pw j' i' hj2 hi2 h b (by rw [ej]; exact m2) b (by rw [ei]; exact m1))
  subst e
  rw [a1] at c1
  cases c1
  have nb : (a :: bs).Nodup := nd'.1 _ (List.mem_of_getElem? a1)
  have na : a ∉ bs := (List.nodup_cons.mp nb).1
  rcases a2 with ⟨rfl, rfl⟩ | ⟨k, rfl, ha⟩
  · rcases c2 with ⟨rfl, _⟩ | ⟨l, _, hc⟩
    · rfl
    · exact absurd (List.mem_of_getElem? hc) na
  · rcases c2 with ⟨_, rfl⟩ | ⟨l, rfl, hc⟩
    · exact absurd (List.mem_of_getElem? ha) na
    · obtain ⟨hk, ek⟩ := List.getElem?_eq_some_iff.mp ha
      obtain ⟨hl, el⟩ := List.getElem?_eq_some_iff.mp hc
      have : k = l := (List.getElem_inj (List.nodup_cons.mp nb).2).mp (by rw [ek, el])
      rw [this]
theorem sim_start {K : PySem.W.Frag} {F H : Hp} {ms : List Bool} {vs : List V} {ds : List D} {as : List Held1} {N : List Str} (hs : Same F H) (hT : AllT F H) (ha : ArgsOk K F H ms vs ds as) (nd : (addrs as).Nodup) (hn : ms.length ≤ N.length) :
    Sim ⟨K, H, F, rhoA N.length as, addrs as, [], N.length⟩ F H (rhoA N.length as) (L2.start N vs) (slots0 ms ds ++ List.replicate (N.length - ms.length) .un) := by
  obtain ⟨l1, l2, l4⟩ := args_len ha
  have l3 := slots0_len l2
  have gl : (slots0 ms ds ++ List.replicate (N.length - ms.length) Sl.un).length = N.length := by rw [List.length_append, l3, List.length_replicate]; omega
  refine ⟨hs, fun a o e => .inl e, fun a o e _ => e, io_there ha, fun i a e => io_there ha a (rhoA_mem (by omega) e), ?_, gl, fun i s e => ?_, fun i j a _ h1 h2 => rhoA_inj (by omega) nd h1 h2, fun q hq => absurd hq (by simp), ⟨hT, fun a h => let ⟨o, e⟩ := io_there ha a h; ⟨o, e, io_nt ha a h o e⟩, fun q hq => absurd hq (by simp)⟩⟩
  · rw [gl]
    unfold L2.start
    rw [List.length_append, List.length_map, List.length_replicate]
    omega
  · rw [gl]
    have hil : i < N.length := by have := (List.getElem?_eq_some_iff.mp e).1; omega
    by_cases hi : i < ms.length
    · have sv : (L2.start N vs)[i]? = (vs[i]?).map some := by
        unfold L2.start
        rw [List.getElem?_append_left (by rw [List.length_map]; omega), List.getElem?_map]
      rw [List.getElem?_append_left (by rw [l3]; exact hi)] at e
      rcases args_at ha hi with ⟨d, v, h1, h2, h3, h4, h5⟩ | ⟨d, a, bs, h1, h2, h3, h4, h5, h6⟩
      · rw [slots0_at h2 h1] at e
        cases e
        rw [if_neg Bool.false_ne_true]
        exact ⟨v, by rw [sv, h3]; rfl, h4, fun a ea => by rw [rhoA_n hil (.inl h5)] at ea; cases ea⟩
      · rw [slots0_at h2 h1, if_pos rfl] at e
        cases e
        have hm := addrs_mem h6
        have own : ∀ d, bs = [] ∧ OwnAt K F H a d → SlOk ⟨K, H, F, rhoA N.length as, addrs as, [], N.length⟩ F H N.length i (rhoA N.length as i) (fun k => rhoA N.length as (gix N.length i k)) (L2.start N vs)[i]? (.own true d) := fun d ⟨_, o⟩ =>
          ⟨a, rhoA_i hil h6, by rw [sv, h3]; rfl, o, h5, by rw [if_pos rfl]; exact ⟨rhoA_i hil h6, hm a List.mem_cons_self⟩⟩
        cases d with
        | tup es => exact ⟨a, bs, rhoA_i hil h6, by rw [sv, h3]; rfl, h4, h5, fun k b hb => by show rhoA N.length as (gix N.length i k) = some b; rw [rhoA_g hil h6]; exact hb, by unfold OkR; rw [if_pos rfl]; exact ⟨⟨rhoA_i hil h6, fun k => (rhoA_g hil h6).symm⟩, hm⟩⟩
        | _ => exact own _ h4
    · rw [List.getElem?_append_right (by rw [l3]; omega), List.getElem?_replicate] at e
      split at e
      · cases e
        exact rhoA_n hil (.inr (List.getElem?_eq_none (by omega)))
      · cases e
theorem ios_fin {W : Wd} {F H : Hp} {n : Nat} {as0 : List Held1} {Γ0 : Gm} {ρ : Nat → Option Addr} {σ : L2.St} (S : Sim W F H ρ σ Γ0) (hR : W.R = rhoA n as0) (hP : Γ0.length = n) : ∀ {ms : List Bool} {Γ : Gm} {ios : List D} {as : List Held1} (j : Nat), Γ = Γ0.drop j → as = as0.drop j → ms.length = as.length → j + as.length ≤ n →
    (∀ i : Nat, ms[i]? = some false → as[i]? = some none) → (∀ i : Nat, ms[i]? = some true → ∃ a bs, as[i]? = some (some (a, bs))) → iosOf ms Γ = some ios → IosOk W.K F H as ios
  | [], Γ, ios, as, j, _, _, hl, _, _, _, h => by
    unfold iosOf at h
    cases h
    rw [List.eq_nil_of_length_eq_zero (l := as) (by simpa using hl.symm)]
    exact .nil
  | m :: ms, Γ, ios, [], j, _, _, hl, _, _, _, _ => by cases hl
  | m :: ms, [], ios, p :: as, j, _, _, hl, _, _, _, h => by cases m <;> (unfold iosOf at h; cases h)
  | false :: ms, s :: Γ, ios, p :: as, j, e1, e2, hl, hn, hf, ht, h => by
    have h' : iosOf ms Γ = some ios := by cases s <;> (unfold iosOf at h; exact h)
    have hp : p = none := by simpa using hf 0 rfl
    subst hp
    refine .pl (ios_fin S hR hP (j + 1) ?_ ?_ (by simpa using hl) (by simp at hn; omega) (fun i hi => by simpa using hf (i + 1) (by simpa using hi)) (fun i hi => by simpa using ht (i + 1) (by simpa using hi)) h')
    · rw [← List.drop_drop, ← e1]; rfl
    · rw [← List.drop_drop, ← e2]; rfl
  | true :: ms, s :: Γ, ios, p :: as, j, e1, e2, hl, hn, hf, ht, h => by
    obtain ⟨a, bs, hp⟩ := ht 0 rfl
    have hp : p = some (a, bs) := by simpa using hp
    subst hp
    have hs : Γ0[j]? = some s := by have := congrArg (·[0]?) e1; simpa using this.symm
    have ha : as0[j]? = some (some (a, bs)) := by have := congrArg (·[0]?) e2; simpa using this.symm
    have hj : j < n := by simp at hn; omega
    have hRa : W.R j = some a := by rw [hR]; exact rhoA_i hj ha
    have rest : ∀ ios', iosOf ms Γ = some ios' → IosOk W.K F H as ios' := fun ios' h' => ios_fin S hR hP (j + 1) (by rw [← List.drop_drop, ← e1]; rfl) (by rw [← List.drop_drop, ← e2]; rfl) (by simpa using hl) (by simp at hn; omega) (fun i hi => by simpa using hf (i + 1) (by simpa using hi)) (fun i hi => by simpa using ht (i + 1) (by simpa using hi)) h'
    have q := S.slot j s hs
    cases s with
    | own io d =>
      cases io with
      | true =>
        unfold iosOf at h
        obtain ⟨ios', h', rfl⟩ := omap_inv h
        obtain ⟨b, q1, q2, q3, q4, q5⟩ := q
        rw [if_pos rfl] at q5
        rw [hRa] at q5
        cases q5.1
        refine .io ?_ q4 (rest _ h')
        cases d with
        | tup ds => unfold OwnAt at q3; exact q3.elim
        | _ => exact q3
      | false => unfold iosOf at h; cases h
    | nst io ds =>
      cases io with
      | true =>
        unfold iosOf at h
        obtain ⟨ios', h', rfl⟩ := omap_inv h
        obtain ⟨b, cs, q1, q2, q3, q4, q5, q6⟩ := q
        unfold OkR at q6
        rw [if_pos rfl] at q6
        rw [hRa] at q6
        obtain ⟨⟨e6, r6⟩, m6⟩ := q6
        cases e6
        have ec : cs = bs := List.ext_getElem? fun k => by rw [r6 k, hP, hR, rhoA_g hj ha]
        rw [← ec]
        exact .io q3 q4 (rest _ h')
      | false => unfold iosOf at h; cases h
    | un => unfold iosOf at h; cases h
    | val d => unfold iosOf at h; cases h
theorem post_of {K : PySem.W.Frag} {F H F' H' : Hp} {ms : List Bool} {vs : List V} {ds : List D} {as : List Held1} {n : Nat} {ρ : Nat → Option Addr} {σ : L2.St} {Γ : Gm} {ios : List D} (ha : ArgsOk K F H ms vs ds as) (hn : ms.length ≤ n) (k : Same F F') (S : Sim ⟨K, H, F, rhoA n as, addrs as, [], n⟩ F' H' ρ σ Γ) (h : iosOf ms Γ = some ios) : Post K F H as F' H' ios := by
  obtain ⟨l1, l2, l4⟩ := args_len ha
  refine ⟨k, S.sub, S.new, S.keep, S.pal, ios_fin S rfl S.gl 0 rfl rfl l4.symm (by omega) (fun i hi => ?_) (fun i hi => ?_) h⟩
  · rcases args_at ha (List.getElem?_eq_some_iff.mp hi).1 with ⟨_, _, _, _, _, _, h5⟩ | ⟨_, _, _, _, h2, _⟩
    · exact h5
    · rw [hi] at h2; cases h2
  · rcases args_at ha (List.getElem?_eq_some_iff.mp hi).1 with ⟨_, _, _, h2, _⟩ | ⟨_, a, bs, _, _, _, _, _, h6⟩
    · rw [hi] at h2; cases h2
    · exact ⟨a, bs, h6⟩
section
variable {P : Program} {w : World} {K : PySem.W.Frag} {mg : Str → Option Value} {base : Heap}
/-- THE RULE for a def -/
theorem dfun {x qual : Str} {st : Stmt} {f : Addr} {fd : FuncData} {N ps : List Str} {k : Nat} {ms : List Bool} {g : SM} (Fn : Fun K x qual st f fd) (S : FnScope N ps (defScope st)) (hl : ps.length = ms.length)
    (hb : ∀ (cdv : Value) (A : Around) (outer : List PySem.Env) (s : Shared) (H : Hp) (E : XK), Room k (A.deeper (envOfC qual (defScope st) s.heap.objs.size f cdv)) → DSs (cxOf CX0 P w K mg base N qual (defScope st) f cdv A outer s H E).nox (defBody st) g) :
    FnOk P w K mg base CX0 (k + 1) f fd ps (spD K ms (runF N.length ms g)) := by
  have hpl : ps.length ≤ N.length := by have := congrArg List.length S.pre; rw [List.length_take] at this; omega
  refine Fn.ok S (fun vs H Q E h => ?_) (fun cdv A outer s H vs Q E hr h => ⟨_, hb cdv A outer s H E hr, ?_⟩)
  · obtain ⟨F, ds, as, _, _, ha, _⟩ := h
    rw [(args_len ha).1, hl]
  · obtain ⟨F, ds, as, hs, hT, ha, nd, hcase⟩ := h
    obtain ⟨l1, l2, l4⟩ := args_len ha
    have hml : ms.length ≤ N.length := by omega
    have S0 := sim_start (N := N) hs hT ha nd hml
    have qok : ∀ {fr d ios}, runF N.length ms g ds = .ok fr d ios → ∀ v F' H', Post K F H as F' H' ios → RpR K H F' H' fr d v → Q v H' := fun {fr d ios} e => by
      rcases hcase with ⟨fr', d', ios', ef, q⟩ | ⟨es, ios', ef, q⟩
      · rw [ef] at e; cases e; exact q
      · rw [ef] at e; cases e
    have qokN : ∀ {es ios}, runF N.length ms g ds = .okN es ios → ∀ v F' H', Post K F H as F' H' ios → RpN K H F' H' es v → Q v H' := fun {es ios} e => by
      rcases hcase with ⟨fr', d', ios', ef, q⟩ | ⟨es', ios', ef, q⟩
      · rw [ef] at e; cases e
      · rw [ef] at e; cases e; exact q
    have ns : runF N.length ms g ds ≠ .stuck := by
      rcases hcase with ⟨fr', d', ios', ef, q⟩ | ⟨es', ios', ef, q⟩ <;> (rw [ef]; intro z; cases z)
    refine ⟨_, F, _, _, rfl, S0, ?_⟩
    unfold runF at qok qokN ns
    rw [if_pos ⟨l2, by omega⟩] at qok qokN ns
    cases hg : g (slots0 ms ds ++ List.replicate (N.length - ms.length) .un) with
    | nx Γ =>
      rw [hg] at qok qokN ns
      dsimp only at qok qokN ns
      obtain ⟨fr, d, Γ', ios, e1, e2, e3⟩ := finR_inv rfl ns
      cases e1
      intro F' H' ρ' σ' k S'
      refine qok e3 .non F' H' (post_of ha hml k S' e2) ?_
      unfold RpR
      rw [if_neg Bool.false_ne_true]
      exact rp_non
    | ret e Γ =>
      rw [hg] at qok qokN ns
      dsimp only at qok qokN ns
      intro v F' H' ρ' σ' k S' r
      cases hN : retN e Γ with
      | some es =>
        rw [hN] at qok qokN ns
        dsimp only at qok qokN ns
        unfold finN at qok qokN ns
        cases hio : iosOf ms Γ with
        | none => rw [hio] at ns; exact absurd rfl ns
        | some ios =>
          rw [hio] at qokN
          have pp := post_of ha hml k S' hio
          refine qokN rfl v F' H' pp ?_
          unfold retN at hN
          split at hN
          · cases hN
            unfold RpE at r
            obtain ⟨a, bs, rfl, o, hf, N⟩ := r
            exact ⟨a, bs, rfl, o, hf, fun b hb => (N b hb).b⟩
          · rename_i i
            split at hN
            · rename_i es' hs'
              cases hN
              unfold RpE at r
              obtain ⟨a, ea, rfl⟩ := r
              obtain ⟨a', bs, x1, x2, x3, x4, x5, x6⟩ := S'.slot i _ hs'
              rw [ea] at x1; cases x1
              unfold OkR at x6
              rw [if_neg Bool.false_ne_true] at x6
              exact ⟨a, bs, rfl, x3, x4, fun b hb => (x6 b hb).2⟩
            · cases hN
          · cases hN
      | none =>
        rw [hN] at qok qokN ns
        dsimp only at qok qokN ns
        split at ns
        · rename_i ok
          rw [if_pos ok] at qok
          obtain ⟨fr, d, Γ', ios, e1, e2, e3⟩ := finR_inv rfl ns
          have q := qok e3
          have plain : ∀ e', e'.ok = true → RpE _ F' H' ρ' e' v → (settle e' Γ).map (fun p => (false, p.1, p.2)) = some (fr, d, Γ') → Q v H' := fun e' ok' r' h' => by
            obtain ⟨p, hp, ep⟩ := omap_inv h'
            cases ep
            obtain ⟨F2, k2, S2, r2⟩ := settle_ok _ _ _ _ _ _ S' ok' r' hp
            refine q v F2 H' (post_of ha hml (k.trans k2) S2 e2) ?_
            unfold RpR
            rw [if_neg Bool.false_ne_true]
            exact r2
          cases e with
          | fr d' =>
            cases e1
            unfold RpE at r
            obtain ⟨a, rfl, o, N⟩ := r
            refine q _ F' H' (post_of ha hml k S' e2) ?_
            unfold RpR
            rw [if_pos rfl]
            exact ⟨a, rfl, o, N.f, N.b⟩
          | frn ds' => cases hN
          | inn i k => exact plain _ rfl r e1
          | imm d' => exact plain _ rfl r e1
          | tl es => exact plain _ ok r e1
          | tt es => exact plain _ ok r e1
          | bor i =>
            unfold retV at e1
            dsimp only at e1
            split at e1
            · rename_i d' hs'
              cases e1
              unfold RpE at r
              obtain ⟨a, ea, rfl⟩ := r
              obtain ⟨a', x1, x2, x3, x4, x5⟩ := S'.slot i _ hs'
              rw [ea] at x1; cases x1
              rw [if_neg Bool.false_ne_true] at x5
              refine q _ F' H' (post_of ha hml k S' e2) ?_
              unfold RpR
              rw [if_pos rfl]
              exact ⟨a, rfl, x3, x4, x5.2⟩
            · exact plain _ rfl r e1
        · exact absurd rfl ns
    | bk Γ => rw [hg] at ns; exact absurd rfl ns
    | ct Γ => rw [hg] at ns; exact absurd rfl ns
    | stuck => rw [hg] at ns; exact absurd rfl ns
end
end DL

namespace DL
open PySem PySem.Spec PyProof.Rows L2

mutual
def deref (Γ : Gm) : EV → Option D
  | .imm d => some d
  | .fr _ => none
  | .frn _ => none
  | .bor i => slotD Γ i
  | .inn i k => nstD Γ i k
  | .tl es => (derefs Γ es).map .lst
  | .tt es => (derefs Γ es).map .tup
def derefs (Γ : Gm) : List EV → Option (List D)
  | [] => some []
  | e :: es => (deref Γ e).bind fun d => (derefs Γ es).map (d :: ·)
end
def ioArgs (Γ : Gm) : List Bool → List EV → Option (List D)
  | [], [] => some []
  | false :: ms, .imm d :: es => (ioArgs Γ ms es).map (d :: ·)
  | true :: ms, .bor i :: es => match Γ[i]? with
    | some (.own _ d) => (ioArgs Γ ms es).map (d :: ·)
    | some (.nst _ xs) => (ioArgs Γ ms es).map (.tup xs :: ·)
    | _ => none
  | _, _ => none
def ioSlots : List Bool → List EV → List Nat
  | true :: ms, .bor i :: es => i :: ioSlots ms es
  | _ :: ms, _ :: es => ioSlots ms es
  | _, _ => []
def mkR (fr : Bool) (d : D) : EV := if fr = true then .fr d else .imm d
def pureR (ms : List Bool) (fn : FS) (ds : List D) (Γ : Gm) : ERes := if ms.any id = true then .stuck else match fn ds with
  | .ok fr d [] => .ok (mkR fr d) Γ
  | _ => .stuck
def setlR (ms : List Bool) (fn : FS) (o : Option (List D × Gm)) : ERes := match o with
  | some p => pureR ms fn p.1 p.2
  | none => .stuck
/-- what a slot holds behind a call that changed it -/
def ioPut : Option Sl → D → Option Sl
  | some (.own _ _), .tup _ => none
  | some (.own b _), d => some (.own b d)
  | some (.nst b _), .tup ds => some (.nst b ds)
  | _, _ => none
def ioR (ms : List Bool) (fn : FS) (es : List EV) (Γ : Gm) : ERes := match ioSlots ms es, ioArgs Γ ms es with
  | [i], some ds => match fn ds with
    | .ok fr d [d'] => match ioPut Γ[i]? d' with
      | some s => .ok (mkR fr d) (Γ.set i s)
      | none => .stuck
    | _ => .stuck
  | _, _ => .stuck
def isFlatR : FRes → Option D
  | .ok _ d [] => if flat d = true then some d else none
  | _ => none
def borR (ms : List Bool) (fn : FS) (es : List EV) (Γ : Gm) : ERes := match (derefs Γ es).bind fun ds => isFlatR (fn ds) with
  | some d => .ok (.imm d) Γ
  | none => setlR ms fn (settles es Γ)
def callR (ms : List Bool) (fn : FS) (es : List EV) (Γ : Gm) : ERes := match allImm es with
  | some ds => pureR ms fn ds Γ
  | none => if ms.any id = true then ioR ms fn es Γ else borR ms fn es Γ
def eCall (ms : List Bool) (fn : FS) (a : AM) : EM := fun Γ => match a Γ with
  | .ok es Γ1 => callR ms fn es Γ1
  | .stuck => .stuck

section
variable {W : Wd} {F F' H H' : Hp} {ρ : Nat → Option Addr} {σ : L2.St} {Γ : Gm}
theorem Sim.after (S : Sim W F H ρ σ Γ) (k : Same F F') (fh : Same F' H') (hk : Same H H') (hn : ∀ a o, F' a = some o → F a = some o ∨ H a = none) : Sim W F' H' ρ σ Γ := by
  have no : ∀ a o, H a = some o → F a = none → F' a = none := fun a o h f => by
    cases q : F' a with
    | none => rfl
    | some u =>
      rcases hn a u q with z | z
      · rw [f] at z; cases z
      · rw [h] at z; cases z
  refine ⟨fh, fun a o e => ?_, fun a o e np => hk _ _ (S.keep a o e np), fun a h => let ⟨o, e⟩ := S.pal a h; ⟨o, hk _ _ e⟩, fun i a e => let ⟨o, q⟩ := S.ro i a e; ⟨o, hk _ _ q⟩, S.len, S.gl, fun i s e => ?_, S.one, fun q hq => ?_, S.ext.grow hk⟩
  · rcases hn a o e with z | z
    · exact S.new _ _ z
    · exact .inr (S.fresh z).b
  · refine (S.slot i s e).mono k (fun _ _ _ z => hk _ _ z) fun a ea f => ?_
    have : ∃ o, H a = some o := by
      rcases ea with ea | ⟨_, ea⟩
      · exact S.ro _ a ea
      · exact S.ro _ a ea
    obtain ⟨o, ho⟩ := this
    exact no a o ho f
  · obtain ⟨a, b, c⟩ := S.pin q hq
    exact ⟨hk _ _ a, no _ _ a b, c⟩
/-- the objects of slot i have changed, and nothing else -/
theorem Sim.afterC {i : Nat} {s s' : Sl} {as : List Addr} (S : Sim W F H ρ σ Γ) (hs : Γ[i]? = some s) (hmem : ∀ b ∈ as, ρ i = some b ∨ ∃ k, ρ (gix Γ.length i k) = some b) (k : Same F F') (fh : Same F' H') (hk : ∀ x o, H x = some o → x ∉ as → H' x = some o) (hp : ∀ x ∈ as, ∃ o, H' x = some o)
    (hn : ∀ a o, F' a = some o → F a = some o ∨ H a = none) (hB : ∀ x u, W.B x = some u → x ∉ W.P → x ∉ as) (hf : ∀ b ∈ as, F' b = none) (hnt : ∀ b ∈ as, ∀ o, H' b = some o → noTup o)
    (hsl : SlOk W F' H' Γ.length i (ρ i) (fun k => ρ (gix Γ.length i k)) σ[i]? s')
    (hact : ∀ j, ((j = i ∧ isOwned s' = true) ∨ ∃ io ds k, s' = .nst io ds ∧ k < ninn ds ∧ j = gix Γ.length i k) → Act Γ j) (hall : ∀ a, (ρ i = some a ∨ ∃ k, ρ (gix Γ.length i k) = some a) → a ∈ as → ∃ j, Act Γ j ∧ ρ j = some a) : Sim W F' H' ρ σ (Γ.set i s') := by
  have hi : i < Γ.length := (List.getElem?_eq_some_iff.mp hs).1
  have no : ∀ a o, H a = some o → F a = none → F' a = none := fun a o h f => by
    cases q : F' a with
    | none => rfl
    | some u =>
      rcases hn a u q with z | z
      · rw [f] at z; cases z
      · rw [h] at z; cases z
  have dec : ∀ x, x ∈ as ∨ x ∉ as := fun x => Classical.em _
  refine S.chg hi k fh (fun a o e => ?_) (fun x o e np => hk _ _ (S.keep x o e np) (hB x o e np)) (fun x h => ?_) (fun j x e => ?_) (fun _ _ _ => rfl) rfl (fun _ _ => rfl) hsl (fun j b hj ng ej aj => ?_) (fun j l b h h3 h4 => S.one j l b (hact j h) h3 h4) (fun j b l aj hj ng ej hl el => ?_) (fun q hq => ?_) (S.ext.up fun x _ o e n => by
    rcases dec x with h' | h'
    · obtain ⟨o', e'⟩ := hp x h'; exact ⟨o', e', hnt x h' o' e'⟩
    · exact ⟨o, hk _ _ e h', n⟩)
  · rcases hn a o e with z | z
    · exact .inl z
    · exact .inr (S.fresh z).b
  · rcases dec x with h' | h'
    · exact hp x h'
    · obtain ⟨o, e⟩ := S.pal x h; exact ⟨o, hk _ _ e h'⟩
  · rcases dec x with h' | h'
    · exact hp x h'
    · obtain ⟨o, q⟩ := S.ro j x e; exact ⟨o, hk _ _ q h'⟩
  · have nb : b ∉ as := fun hb => by
      rcases hmem b hb with h | ⟨k, h⟩
      · exact hj (S.one j i b aj ej h)
      · exact ng k (S.one j _ b aj ej h)
    obtain ⟨o, ho⟩ := S.ro j b ej
    exact ⟨fun u z => hk _ _ z nb, fun z => no b o ho z⟩
  · rcases hl with rfl | ⟨k, rfl⟩
    · exact hj (S.one j _ b aj ej el)
    · exact ng k (S.one j _ b aj ej el)
  · obtain ⟨x, y, z⟩ := S.pin q hq
    have nb : q.1 ∉ as := fun hb => by
      rcases hmem _ hb with h | ⟨k, h⟩
      · exact z i h
      · exact z _ h
    exact ⟨hk _ _ x nb, no _ _ x y, z⟩
theorem Sim.after1 {i : Nat} {a : Addr} {b : Bool} {d d' : D} (S : Sim W F H ρ σ Γ) (hs : Γ[i]? = some (.own b d)) (ha : ρ i = some a) (k : Same F F') (fh : Same F' H') (hk : ∀ x o, H x = some o → x ≠ a → H' x = some o)
    (hn : ∀ a o, F' a = some o → F a = some o ∨ H a = none) (ho : OwnAt W.K F' H' a d') (hf : F' a = none) : Sim W F' H' ρ σ (Γ.set i (.own b d')) := by
  obtain ⟨a', e1, e2, e3, e4, e5⟩ := S.slot i _ hs
  rw [ha] at e1; cases e1
  refine S.afterC (as := [a]) hs (fun b hb => .inl (by rw [List.mem_singleton.mp hb]; exact ha)) k fh (fun x o e hx => hk x o e fun z => hx (by rw [z]; simp)) (fun x hx => by rw [List.mem_singleton.mp hx]; exact ho.there) hn (fun x u e np hx => ?_) (fun x hx => by rw [List.mem_singleton.mp hx]; exact hf) (fun x hx o e => by rw [List.mem_singleton.mp hx] at e; exact ho.nt e) ⟨a, ha, e2, ho, hf, e5⟩ (fun j h => ?_) (fun x hx hm => ⟨i, Act.own hs, by rw [List.mem_singleton.mp hm]; exact ha⟩)
  · rw [List.mem_singleton.mp hx] at e np
    cases b with
    | true => rw [if_pos rfl] at e5; exact np e5.2
    | false => rw [if_neg Bool.false_ne_true] at e5; rw [e5.2] at e; cases e
  · rcases h with ⟨rfl, _⟩ | ⟨_, _, _, h, _⟩
    · exact Act.own hs
    · cases h
theorem Sim.after1N {i : Nat} {a : Addr} {b : Bool} {bs : List Addr} {ds ds' : List D} (S : Sim W F H ρ σ Γ) (hs : Γ[i]? = some (.nst b ds)) (ha : ρ i = some a) (hg : ∀ (k : Nat) (c : Addr), bs[k]? = some c → ρ (gix Γ.length i k) = some c) (hR : OkR W Γ.length i b a bs) (hbl : bs.length = ninn ds) (k : Same F F') (fh : Same F' H') (hk : ∀ x o, H x = some o → x ∉ a :: bs → H' x = some o)
    (hn : ∀ a o, F' a = some o → F a = some o ∨ H a = none) (ho : NstAt W.K F' H' a bs ds') (hf : F' a = none) : Sim W F' H' ρ σ (Γ.set i (.nst b ds')) := by
  obtain ⟨a', _, e1, e2, _⟩ := S.slot i _ hs
  rw [ha] at e1; cases e1
  have gk : ∀ c ∈ bs, ∃ k, ρ (gix Γ.length i k) = some c ∧ k < bs.length := fun c hc => by
    obtain ⟨k, hk, rfl⟩ := List.getElem_of_mem hc
    exact ⟨k, hg k _ (List.getElem?_eq_getElem hk), hk⟩
  have hbl' : bs.length = ninn ds' := by obtain ⟨_, _, h, _⟩ := ho; exact h.len.2
  have hi : ∀ c ∈ a :: bs, ρ i = some c ∨ ∃ k, ρ (gix Γ.length i k) = some c := fun c hc => by
    rcases List.mem_cons.mp hc with rfl | hc
    · exact .inl ha
    · obtain ⟨k, h, _⟩ := gk c hc; exact .inr ⟨k, h⟩
  have hfb : ∀ c ∈ a :: bs, F' c = none := fun c hc => by
    rcases List.mem_cons.mp hc with rfl | hc
    · exact hf
    · obtain ⟨_, _, h, _⟩ := ho; exact (h.there c hc).2
  refine S.afterC (as := a :: bs) hs hi k fh hk (ho.there) hn (fun x u e np hx => ?_) hfb ho.nt ⟨a, bs, ha, e2, ho, hf, hg, hR⟩ (fun j h => ?_) (fun x hx hm => ?_)
  · unfold OkR at hR
    cases b with
    | true => rw [if_pos rfl] at hR; exact np (hR.2 x hx)
    | false => rw [if_neg Bool.false_ne_true] at hR; rw [(hR x hx).2] at e; cases e
  · rcases h with ⟨rfl, _⟩ | ⟨_, _, k, h, hk, rfl⟩
    · exact Act.nst hs
    · cases h
      exact Act.inn hs (by omega)
  · rcases List.mem_cons.mp hm with rfl | hm
    · exact ⟨i, Act.nst hs, ha⟩
    · obtain ⟨k, h, hk⟩ := gk x hm
      exact ⟨_, Act.inn hs (by omega), h⟩
/-- the frozen part with all that names own: all that stands -/
def FP (F H : Hp) (ρ : Nat → Option Addr) : Hp := H
theorem FP_own (S : Sim W F H ρ σ Γ) {i : Nat} {a : Addr} (e : ρ i = some a) : FP F H ρ a = H a := rfl
theorem FP_le (S : Sim W F H ρ σ Γ) : Same F (FP F H ρ) ∧ Same (FP F H ρ) H := ⟨S.sub, Same.refl H⟩
mutual
theorem deref_ok (S : Sim W F H ρ σ Γ) : ∀ (e : EV) (d : D) (v : V), RpE W F H ρ e v → deref Γ e = some d → Rp W.K (FP F H ρ) d v
  | .imm x, d, v, r, h => by
    unfold deref at h
    cases h
    unfold RpE at r
    exact Rp.mono (FP_le S).1 _ _ r
  | .fr _, _, _, _, h => by unfold deref at h; cases h
  | .frn _, _, _, _, h => by unfold deref at h; cases h
  | .bor i, d, v, r, h => by
    unfold deref slotD at h
    unfold RpE at r
    obtain ⟨a, ea, rfl⟩ := r
    split at h
    · rename_i d' hs
      cases h
      obtain ⟨w, e1, e2, e3⟩ := S.slot i _ hs
      rw [(e3 a ea).1] at e2
      exact Rp.mono (FP_le S).1 _ _ e2
    · rename_i io d' hs
      cases h
      obtain ⟨a', e1, e2, e3, _⟩ := S.slot i _ hs
      rw [ea] at e1; cases e1
      obtain ⟨u, hu, hr⟩ := own_ho e3
      exact hr _ (by rw [FP_own S ea]; exact hu) (FP_le S).1
    · cases h
  | .inn i k, d, v, r, h => by
    unfold deref at h
    unfold RpE at r
    obtain ⟨a, ea, rfl⟩ := r
    obtain ⟨b, eb, ho, _⟩ := S.nstk h
    rw [ea] at eb; cases eb
    obtain ⟨u, hu, hr⟩ := own_ho ho
    exact hr _ (by rw [FP_own S ea]; exact hu) (FP_le S).1
  | .tl es, d, v, r, h => by
    unfold deref at h
    unfold RpE at r
    obtain ⟨ds, hd, rfl⟩ := omap_inv h
    obtain ⟨a, vs, rfl, x, q⟩ := r
    exact rp_lst ((FP_le S).1 _ _ x) (derefs_ok S es ds vs q hd)
  | .tt es, d, v, r, h => by
    unfold deref at h
    unfold RpE at r
    obtain ⟨ds, hd, rfl⟩ := omap_inv h
    obtain ⟨a, vs, rfl, x, q⟩ := r
    exact rp_tup (((FP_le S).1 _ _ x)) (derefs_ok S es ds vs q hd)
theorem derefs_ok (S : Sim W F H ρ σ Γ) : ∀ (es : List EV) (ds : List D) (vs : List V), RpEs W F H ρ es vs → derefs Γ es = some ds → RpL W.K (FP F H ρ) ds vs
  | [], ds, vs, r, h => by
    unfold derefs at h
    cases h
    unfold RpEs at r
    subst r
    exact rpl_nil
  | e :: es, ds, vs, r, h => by
    unfold derefs at h
    unfold RpEs at r
    obtain ⟨v, ws, rfl, a, b⟩ := r
    obtain ⟨d, hd, h⟩ := obind_inv h
    obtain ⟨ds', hds, rfl⟩ := omap_inv h
    exact rpl_cons (deref_ok S e d v a hd) (derefs_ok S es ds' ws b hds)
end
theorem noio_args {K : PySem.W.Frag} {F H : Hp} : ∀ {ms : List Bool} {vs : List V} {ds : List D}, ms.any id = false → RpL K F ds vs → ds.length = ms.length → ∃ as, ArgsOk K F H ms vs ds as ∧ addrs as = []
  | [], vs, ds, _, r, l => by
    have : ds = [] := List.length_eq_zero_iff.mp l
    subst this
    rw [rpl_nil_inv r]
    exact ⟨[], .nil, rfl⟩
  | m :: ms, vs, [], _, r, l => by cases l
  | true :: ms, vs, d :: ds, h, r, l => by simp at h
  | false :: ms, vs, d :: ds, h, r, l => by
    obtain ⟨v, ws, rfl, a, b⟩ := rpl_cons_inv r
    obtain ⟨as, x, y⟩ := noio_args (K := K) (F := F) (H := H) (ms := ms) (by simpa using h) b (by simpa using l)
    exact ⟨none :: as, .pl a x, y⟩
theorem flat_rp {K : PySem.W.Frag} {F F' : Hp} {d : D} {v : V} (h : flat d = true) (r : Rp K F d v) : Rp K F' d v := by
  cases d with
  | non => unfold Rp at r ⊢; exact r
  | bl b => unfold Rp at r ⊢; exact r
  | int b => unfold Rp at r ⊢; exact r
  | str b => unfold Rp at r ⊢; exact r
  | _ => cases h
/-- what a slot that is handed in has -/
def SlA (W : Wd) (F H : Hp) (ρ : Nat → Option Addr) (Γ : Gm) (i : Nat) (a : Addr) (bs : List Addr) : Prop := (∃ b d, Γ[i]? = some (.own b d) ∧ bs = []) ∨ ∃ b ds, Γ[i]? = some (.nst b ds) ∧ (∀ (k : Nat) (c : Addr), bs[k]? = some c → ρ (gix Γ.length i k) = some c) ∧ OkR W Γ.length i b a bs ∧ bs.length = ninn ds
theorem io_args (S : Sim W F H ρ σ Γ) : ∀ {ms : List Bool} {es : List EV} {vs : List V} {ds : List D}, RpEs W F H ρ es vs → ioArgs Γ ms es = some ds →
    (ioSlots ms es = [] → ∃ as, ArgsOk W.K F H ms vs ds as ∧ addrs as = [] ∧ ∀ ios F' H', IosOk W.K F' H' as ios → ios = []) ∧
    (∀ i, ioSlots ms es = [i] → ∃ as a bs, ArgsOk W.K F H ms vs ds as ∧ addrs as = a :: bs ∧ (a :: bs).Nodup ∧ ρ i = some a ∧ SlA W F H ρ Γ i a bs ∧ ∀ ios F' H', IosOk W.K F' H' as ios → ∃ d', ios = [d'] ∧ IoBk W.K F' H' a bs d' ∧ F' a = none)
  | [], [], vs, ds, r, h => by
    unfold ioArgs at h; cases h; unfold RpEs at r; subst r
    exact ⟨fun _ => ⟨[], .nil, rfl, fun ios F' H' q => by cases q; rfl⟩, fun i q => by unfold ioSlots at q; cases q⟩
  | [], _ :: _, _, _, _, h => by unfold ioArgs at h; cases h
  | false :: _, [], _, _, _, h => by unfold ioArgs at h; cases h
  | true :: _, [], _, _, _, h => by unfold ioArgs at h; cases h
  | false :: ms, e :: es, vs, ds, r, h => by
    unfold RpEs at r
    obtain ⟨v, ws, rfl, a, b⟩ := r
    cases e with
    | imm d =>
      unfold ioArgs at h
      obtain ⟨ds', h', rfl⟩ := omap_inv h
      unfold RpE at a
      obtain ⟨i1, i2⟩ := io_args S b h'
      refine ⟨fun q => ?_, fun i q => ?_⟩
      · unfold ioSlots at q
        obtain ⟨as, x, y, z⟩ := i1 q
        exact ⟨none :: as, .pl a x, y, fun ios F' H' w => by cases w with | pl w => exact z _ _ _ w⟩
      · unfold ioSlots at q
        obtain ⟨as, c, bs, x, y, nd, z1, z2, z⟩ := i2 i q
        exact ⟨none :: as, c, bs, .pl a x, y, nd, z1, z2, fun ios F' H' w => by cases w with | pl w => exact z _ _ _ w⟩
    | _ => unfold ioArgs at h; cases h
  | true :: ms, e :: es, vs, ds, r, h => by
    unfold RpEs at r
    obtain ⟨v, ws, rfl, a, b⟩ := r
    cases e with
    | bor i =>
      unfold ioArgs at h
      unfold RpE at a
      obtain ⟨x, ex, rfl⟩ := a
      have fin : ∀ {ds' : List D} {d : D} {bs : List Addr}, ioArgs Γ ms es = some ds' → IoAt W.K F H x bs d → F x = none → SlA W F H ρ Γ i x bs → ∀ j, ioSlots (true :: ms) (.bor i :: es) = [j] → ∃ as a bs, ArgsOk W.K F H (true :: ms) (.ref x :: ws) (d :: ds') as ∧ addrs as = a :: bs ∧ (a :: bs).Nodup ∧ ρ j = some a ∧ SlA W F H ρ Γ j a bs ∧ ∀ ios F' H', IosOk W.K F' H' as ios → ∃ d', ios = [d'] ∧ IoBk W.K F' H' a bs d' ∧ F' a = none := fun {ds' d bs} h' o hf sl j q => by
        unfold ioSlots at q
        injection q with q1 q2
        subst q1
        obtain ⟨as, y1, y2, y3⟩ := (io_args S b h').1 q2
        refine ⟨some (x, bs) :: as, x, bs, .io o hf y1, ?_, o.nodup, ex, sl, fun ios F' H' w => ?_⟩
        · show (x :: bs) ++ addrs as = _
          rw [y2, List.append_nil]
        · cases w with
          | io w1 w2 w3 =>
            rw [y3 _ _ _ w3]
            exact ⟨_, rfl, w1, w2⟩
      split at h
      · rename_i io d hs
        obtain ⟨ds', h', rfl⟩ := omap_inv h
        obtain ⟨x', e1, e2, e3, e4, _⟩ := S.slot i _ hs
        rw [ex] at e1; cases e1
        refine ⟨fun q => (by unfold ioSlots at q; cases q), fin h' (bs := []) ?_ e4 (.inl ⟨_, _, hs, rfl⟩)⟩
        cases d with
        | tup ds => unfold OwnAt at e3; exact e3.elim
        | _ => exact ⟨rfl, e3⟩
      · rename_i io xs hs
        obtain ⟨ds', h', rfl⟩ := omap_inv h
        obtain ⟨x', bs, e1, e2, e3, e4, e5, e6⟩ := S.slot i _ hs
        rw [ex] at e1; cases e1
        refine ⟨fun q => (by unfold ioSlots at q; cases q), fin h' (d := .tup xs) e3 e4 (.inr ⟨_, _, hs, e5, e6, ?_⟩)⟩
        obtain ⟨_, _, h, _⟩ := e3
        exact h.len.2
      · cases h
    | _ => unfold ioArgs at h; cases h
end
/-- what a call hands on -/
theorem call_ok {K : PySem.W.Frag} {ms : List Bool} {fn : FS} {W : Wd} {F H : Hp} {ρ : Nat → Option Addr} {σ : L2.St} {Γ Γ' : Gm} {es : List EV} {vs : List V} {e : EV} {Q : VK} {E : XK} (eK : W.K = K) (S : Sim W F H ρ σ Γ) (ok : EV.oks es = true) (r : RpEs W F H ρ es vs)
    (h : callR ms fn es Γ = .ok e Γ') (hlen : ∀ ds, fn ds ≠ .stuck → ds.length = ms.length) (q : Wish W F ρ σ Γ' e Q) : spD K ms fn vs H Q E := by
  subst eK
  have pure : ∀ {F1 : Hp} {ds : List D} {Γ1 : Gm}, Same F F1 → Sim W F1 H ρ σ Γ1 → RpL W.K F1 ds vs → pureR ms fn ds Γ1 = .ok e Γ' → spD W.K ms fn vs H Q E := fun {F0 ds Γ1} k0 S0 r0 h => by
    obtain ⟨F1, k01, S1, aT⟩ := S0.tupz
    have k1 := k0.trans k01
    have r1 := RpL.mono k01 _ _ r0
    unfold pureR at h
    split at h
    · cases h
    · rename_i hm
      have hm : ms.any id = false := by simpa using hm
      split at h
      · rename_i fr d hf
        cases h
        obtain ⟨as, a1, a2⟩ := noio_args (H := H) hm r1 (hlen ds (by rw [hf]; intro z; cases z))
        refine ⟨F1, ds, as, S1.sub, aT, a1, by rw [a2]; exact List.nodup_nil, .inl ⟨fr, d, [], hf, fun v F' H' p rr => ?_⟩⟩
        have hk : Same H H' := fun a o e => p.keep a o e (by rw [a2]; simp)
        have S2 := S1.after p.ff p.fh hk p.new
        refine q v F' H' (k1.trans p.ff) S2 ?_
        unfold RpR at rr
        unfold mkR
        split at rr
        · rename_i hfr
          rw [if_pos hfr]
          obtain ⟨a, rfl, o, f1, f2⟩ := rr
          have N := S1.fresh f2
          unfold RpE
          exact ⟨a, rfl, o, f1, N.b, N.np, N.r, N.n⟩
        · rename_i hfr
          rw [if_neg hfr]
          unfold RpE
          exact rr
      · cases h
  unfold callR at h
  split at h
  · rename_i ds hd
    exact pure (Same.refl F) S (allImm_rp hd r) h
  · split at h
    · -- a list that is handed in to be changed
      rename_i hm
      unfold ioR at h
      split at h
      · rename_i i ds hi hd
        split at h
        · rename_i fr d d' hf
          split at h
          · rename_i s' hs'
            cases h
            obtain ⟨F0, k0, S, aT⟩ := S.tupz
            have r := RpEs.mono (H' := H) k0 _ _ ok r
            obtain ⟨as, a, bs, a1, a2, nd, ea, sl, fin⟩ := (io_args S r hd).2 i hi
            refine ⟨F0, ds, as, S.sub, aT, a1, by rw [a2]; exact nd, .inl ⟨fr, d, [d'], hf, fun v F' H' p rr => ?_⟩⟩
            obtain ⟨d2, e2, o1, o2⟩ := fin _ _ _ p.ios
            cases e2
            have hk : ∀ x o, H x = some o → x ∉ a :: bs → H' x = some o := fun x o e hx => p.keep x o e (by rw [a2]; exact hx)
            have S2 : Sim W F' H' ρ σ (Γ.set i s') := by
              rcases sl with ⟨b, d0, hs, rfl⟩ | ⟨b, xs, hs, g1, g2, g3⟩
              · rw [hs] at hs'
                have own : ∀ d', OwnAt W.K F' H' a d' → Sim W F' H' ρ σ (Γ.set i (.own b d')) := fun d' o => S.after1 hs ea p.ff p.fh (fun x o e hx => hk x o e (by simpa using hx)) p.new o o2
                cases d' with
                | tup ys => cases hs'
                | lst ys => cases hs'; exact own _ o1
                | dic ks ys => cases hs'; exact own _ o1
                | dct ks ys => cases hs'; exact own _ o1
                | lkd ks ys => cases hs'; exact own _ o1
                | lkt ks ys => cases hs'; exact own _ o1
                | non => cases hs'; exact own _ o1
                | bl _ => cases hs'; exact own _ o1
                | int _ => cases hs'; exact own _ o1
                | str _ => cases hs'; exact own _ o1
                | frl _ => cases hs'; exact own _ o1
              · rw [hs] at hs'
                cases d' with
                | tup ys =>
                  cases hs'
                  exact S.after1N hs ea g1 g2 g3 p.ff p.fh hk p.new o1 o2
                | _ => cases hs'
            refine q v F' H' (k0.trans p.ff) S2 ?_
            unfold RpR at rr
            unfold mkR
            split at rr
            · rename_i hfr
              rw [if_pos hfr]
              obtain ⟨c, rfl, o, f1, f2⟩ := rr
              have N := S.fresh f2
              unfold RpE
              exact ⟨c, rfl, o, f1, N.b, N.np, N.r, N.n⟩
            · rename_i hfr
              rw [if_neg hfr]
              unfold RpE
              exact rr
          · cases h
        · cases h
      · cases h
    · rename_i hm
      have hm : ms.any id = false := by simpa using hm
      unfold borR at h
      split at h
      · rename_i d hd
        cases h
        obtain ⟨ds, hds, hd⟩ := obind_inv hd
        unfold isFlatR at hd
        split at hd
        · rename_i fr d0 hf
          split at hd
          · rename_i hfl
            cases hd
            obtain ⟨k1, k2⟩ := FP_le S
            obtain ⟨as, a1, a2⟩ := noio_args (H := H) hm (derefs_ok S es ds vs r hds) (hlen ds (by rw [hf]; intro z; cases z))
            refine ⟨FP F H ρ, ds, as, k2, fun _ _ e => e, a1, by rw [a2]; exact List.nodup_nil, .inl ⟨fr, d, [], hf, fun v F' H' p rr => ?_⟩⟩
            have hk : Same H H' := fun a o e => p.keep a o e (by rw [a2]; simp)
            refine q v F H' (Same.refl F) (S.grow hk) ?_
            unfold RpE
            unfold RpR at rr
            split at rr
            · obtain ⟨a, rfl, o, _⟩ := rr
              unfold OwnAt at o
              cases d with
              | lst _ => cases hfl
              | dic _ _ => cases hfl
              | dct _ _ => cases hfl
              | lkd _ _ => cases hfl
              | lkt _ _ => cases hfl
              | _ => exact o.elim
            · exact flat_rp hfl rr
          · cases hd
        · cases hd
      · unfold setlR at h
        split at h
        · rename_i p hp
          obtain ⟨F1, k1, S1, r1⟩ := settles_ok _ _ _ _ _ _ S ok r hp
          exact pure k1 S1 r1 h
        · cases h
theorem runF_len {n : Nat} {ms : List Bool} {g : SM} (ds : List D) (h : runF n ms g ds ≠ .stuck) : ds.length = ms.length := by
  unfold runF at h
  split at h
  · rename_i hc; exact hc.1
  · exact absurd rfl h
theorem call_inv {ms : List Bool} {fn : FS} {a : AM} {Γ Γ' : Gm} {e : EV} (h : eCall ms fn a Γ = .ok e Γ') : ∃ es Γ1, a Γ = .ok es Γ1 ∧ callR ms fn es Γ1 = .ok e Γ' := by
  unfold eCall at h
  split at h
  · rename_i es Γ1 ha; exact ⟨es, Γ1, ha, h⟩
  · cases h
theorem pure_oks {ms : List Bool} {fn : FS} {es : List EV} {Γ Γ' : Gm} {e : EV} : True := trivial
/-- the argument lists that callR takes are well formed; said once as a check -/
def eCallOk (ms : List Bool) (fn : FS) (a : AM) : EM := fun Γ => match a Γ with
  | .ok es Γ1 => if EV.oks es = true then callR ms fn es Γ1 else .stuck
  | .stuck => .stuck
theorem callOk_inv {ms : List Bool} {fn : FS} {a : AM} {Γ Γ' : Gm} {e : EV} (h : eCallOk ms fn a Γ = .ok e Γ') : ∃ es Γ1, a Γ = .ok es Γ1 ∧ EV.oks es = true ∧ callR ms fn es Γ1 = .ok e Γ' := by
  unfold eCallOk at h
  split at h
  · rename_i es Γ1 ha
    split at h
    · rename_i ok; exact ⟨es, Γ1, ha, ok, h⟩
    · cases h
  · cases h
section
variable {X : Cx} {k : Nat} {f : Addr} {fd : FuncData} {ps ks : List Str} {x : Str} {p pos : Pos} {e : Expr} {es : List Expr} {kws : List Keyword} {ms : List Bool} {fn : FS} {a b : AM}
theorem de_call (F : FnOk X.prog X.w X.K X.mg X.base CX0 k f fd ps (spD X.K ms fn)) (hr : Room k X.A) (hm : X.mg x = some (.ref f)) (hk : PySem.W.keepIn X.K (.ref f) = true) (hb : Binds X.K fd ps []) (hlen : ∀ ds, fn ds ≠ .stuck → ds.length = ms.length) (ha : DA X (e :: es) a)
    (hg : Gl X x := by rfl) (hdb : (x == ("__debug__" : Str)) = false := by decide) (he : starEach (e :: es) X.env = (false, eval e X.env) :: starEach es X.env := by rfl) (hpl : (backTo pos (starEach es X.env)).any (·.1) = false := by rfl) :
    DE X (.Call (.Name x p) (e :: es) [] pos) (eCallOk ms fn a) :=
  pe_imp (pe_call F hr hg hm hk hb .nil pass0 ha hdb he hpl) fun _ _ _ ⟨W, F, ρ, Γ, eK, S, e, Γ', ef, ok, q⟩ => by
    obtain ⟨es, Γ1, ha, oks, h⟩ := callOk_inv ef
    refine ⟨W, F, ρ, Γ, eK, S, es, Γ1, ha, oks, fun vs F1 H1 k1 S1 r1 => ?_⟩
    show spD X.K ms fn (vs ++ []) H1 _ _
    rw [List.append_nil]
    exact call_ok eK S1 oks r1 h hlen fun v F' H' k' S' r' => q v F' H' (k1.trans k') S' r'

/-! ### keywords -/
/-- the arguments in the parameters' order: n by place, m by name -/
def permL {α : Type} (π : List Nat) (n m : Nat) (us ws : List α) : List α := if us.length = n ∧ ws.length = m then π.filterMap ((us ++ ws)[·]?) else []
theorem perm_vals {π : List Nat} {n m : Nat} {vs zs : List V} {us ws : List Value} (r : Vals vs us) (q : Vals zs ws) : Vals (permL π n m vs zs) (permL π n m us ws) := by
  unfold permL
  rw [r.length, q.length]
  split
  · have ra := r.append q
    induction π with
    | nil => exact .nil
    | cons i π ih =>
      cases h : (vs ++ zs)[i]? with
      | none =>
        have h2 := Vals.none_of ra h
        rw [List.filterMap_cons_none h, List.filterMap_cons_none h2]
        exact ih
      | some v =>
        obtain ⟨u, hu, rv⟩ := ra.get h
        rw [List.filterMap_cons_some h, List.filterMap_cons_some hu]
        exact .cons rv ih
  · exact .nil
theorem kbinds {K : PySem.W.Frag} {fd : FuncData} {ps ks : List Str} {π : List Nat} {n m : Nat} (hp : ps.length ≠ 0) (h : ∀ us ws : List Value, us.length = n → ws.length = m → bindArgs fd ⟨us, ks.zip ws⟩ = pure (ps.zip (permL π n m us ws))) : KBinds K fd ps ks (permL π n m) (permL π n m) :=
  ⟨fun s us ws _ hl => by
    by_cases hc : us.length = n ∧ ws.length = m
    · exact .of_eq (h us ws hc.1 hc.2)
    · unfold permL at hl
      rw [if_neg hc] at hl
      exact absurd hl.symm hp, fun r q => perm_vals r q⟩
def DK (X : Cx) (kws : List Keyword) (f : AM) : Prop := PK X kws (tA X.K f)
theorem pk_imp {t t' : TA} (h : PK X kws t) (i : ∀ σ H Q, t' σ H Q → t σ H Q) : PK X kws t' := ⟨fun pos pins s σ H Q I q => h.run pos pins s σ H Q I (i σ H Q q)⟩
theorem dk_nil : DK X [] aNil := pk_imp pk_nil fun _ _ _ ⟨W, F, ρ, Γ, eK, S, es, Γ', ef, ok, q⟩ => by
  cases ef
  exact q [] F _ (Same.refl F) S (by unfold RpEs; rfl)
theorem dk_cons {f : EM} {r : AM} {nm : Option Str} {kpos : Pos} (ha : DE X e f) (hr : DK X kws r) : DK X (⟨nm, e, kpos⟩ :: kws) (aCons f r) :=
  pk_imp (pk_cons ha hr) fun _ _ _ ⟨W, F, ρ, Γ, eK, S, es, Γ', ef, ok, q⟩ => by
    obtain ⟨e1, Γ1, es', h1, h2, rfl⟩ := aCons_inv ef
    unfold EV.oks at ok
    rw [Bool.and_eq_true] at ok
    refine tE_then eK S h1 ok.1 fun v F1 H1 s1 S1 r1 => ?_
    refine ⟨W, F1, ρ, Γ1, eK, S1, es', Γ', h2, ok.2, fun vs F2 H2 s2 S2 r2 => q _ F2 H2 (s1.trans s2) S2 ?_⟩
    unfold RpEs
    exact ⟨v, vs, rfl, RpE.mono s2 _ _ ok.1 r1, r2⟩
/-- both lists, then the parameters' order -/
def aPerm (π : List Nat) (n m : Nat) (a b : AM) : AM := fun Γ => match a Γ with
  | .ok es Γ1 => match b Γ1 with
    | .ok fs Γ2 => if EV.oks es = true ∧ EV.oks fs = true then .ok (permL π n m es fs) Γ2 else .stuck
    | .stuck => .stuck
  | .stuck => .stuck
theorem perm_inv {π : List Nat} {n m : Nat} {Γ Γ' : Gm} {es : List EV} (h : aPerm π n m a b Γ = .ok es Γ') : ∃ es1 Γ1 es2, a Γ = .ok es1 Γ1 ∧ b Γ1 = .ok es2 Γ' ∧ EV.oks es1 = true ∧ EV.oks es2 = true ∧ es = permL π n m es1 es2 := by
  unfold aPerm at h
  split at h
  · rename_i es1 Γ1 h1
    split at h
    · rename_i es2 Γ2 h2
      split at h
      · rename_i ok; cases h; exact ⟨es1, Γ1, es2, h1, h2, ok.1, ok.2, rfl⟩
      · cases h
    · cases h
  · cases h
theorem rpes_app {W : Wd} {F H : Hp} {ρ : Nat → Option Addr} : ∀ {es fs : List EV} {vs ws : List V}, RpEs W F H ρ es vs → RpEs W F H ρ fs ws → RpEs W F H ρ (es ++ fs) (vs ++ ws)
  | [], _, _, _, r, q => by unfold RpEs at r; subst r; exact q
  | e :: es, fs, _, ws, r, q => by
    unfold RpEs at r
    obtain ⟨v, vs, rfl, a, b⟩ := r
    rw [List.cons_append, List.cons_append]
    unfold RpEs
    exact ⟨v, _, rfl, a, rpes_app b q⟩
theorem rpes_get {W : Wd} {F H : Hp} {ρ : Nat → Option Addr} : ∀ {es : List EV} {vs : List V} {i : Nat}, RpEs W F H ρ es vs → (∀ e, es[i]? = some e → ∃ v, vs[i]? = some v ∧ RpE W F H ρ e v) ∧ (es[i]? = none → vs[i]? = none)
  | [], _, i, r => by unfold RpEs at r; subst r; exact ⟨fun e h => by simp at h, fun _ => by simp⟩
  | e :: es, _, 0, r => by
    unfold RpEs at r
    obtain ⟨v, vs, rfl, a, b⟩ := r
    exact ⟨fun e' h => by simp at h; subst h; exact ⟨v, rfl, a⟩, fun h => by simp at h⟩
  | e :: es, _, i + 1, r => by
    unfold RpEs at r
    obtain ⟨v, vs, rfl, a, b⟩ := r
    obtain ⟨x, y⟩ := rpes_get (i := i) b
    exact ⟨fun e' h => by rw [List.getElem?_cons_succ] at h ⊢; exact x e' h, fun h => by rw [List.getElem?_cons_succ] at h ⊢; exact y h⟩
theorem rpes_perm {W : Wd} {F H : Hp} {ρ : Nat → Option Addr} {π : List Nat} {n m : Nat} {es fs : List EV} {vs ws : List V} (r : RpEs W F H ρ es vs) (q : RpEs W F H ρ fs ws) : RpEs W F H ρ (permL π n m es fs) (permL π n m vs ws) := by
  unfold permL
  rw [rpes_len r, rpes_len q]
  split
  · have ra := rpes_app r q
    induction π with
    | nil => show RpEs _ _ _ _ [] []; unfold RpEs; rfl
    | cons i π ih =>
      obtain ⟨x, y⟩ := rpes_get (i := i) ra
      cases h : (es ++ fs)[i]? with
      | none => rw [List.filterMap_cons_none h, List.filterMap_cons_none (y h)]; exact ih
      | some e =>
        obtain ⟨v, hv, re⟩ := x e h
        rw [List.filterMap_cons_some h, List.filterMap_cons_some hv]
        unfold RpEs
        exact ⟨v, _, rfl, re, ih⟩
  · show RpEs _ _ _ _ [] []; unfold RpEs; rfl
theorem de_callK {π : List Nat} {n m : Nat} (F : FnOk X.prog X.w X.K X.mg X.base CX0 k f fd ps (spD X.K ms fn)) (hr : Room k X.A) (hm : X.mg x = some (.ref f)) (hk : PySem.W.keepIn X.K (.ref f) = true) (hb : KBinds X.K fd ps ks (permL π n m) (permL π n m)) (hlen : ∀ ds, fn ds ≠ .stuck → ds.length = ms.length) (ha : DA X (e :: es) a) (hkw : DK X kws b)
    (hg : Gl X x := by rfl) (hall : (backToKw pos (keywordEach kws X.env)).all (·.1.isSome) = true := by rfl) (hks : (backToKw pos (keywordEach kws X.env)).filterMap (·.1) = ks := by rfl)
    (hdb : (x == ("__debug__" : Str)) = false := by decide) (he : starEach (e :: es) X.env = (false, eval e X.env) :: starEach es X.env := by rfl)
    (hpl : ((backTo pos (starEach (e :: es) X.env)).any (·.1) || (backToKw pos (keywordEach kws X.env)).any (·.1.isNone)) = false := by rfl) :
    DE X (.Call (.Name x p) (e :: es) kws pos) (eCallOk ms fn (aPerm π n m a b)) :=
  pe_imp (pe_callK F hr hg hm hk hb pass0 ha hkw hall hks hdb he hpl) fun _ _ _ ⟨W, F, ρ, Γ, eK, S, e, Γ', ef, ok, q⟩ => by
    obtain ⟨es, Γ1, ha, oks, h⟩ := callOk_inv ef
    obtain ⟨es1, Γ0, es2, h1, h2, o1, o2, rfl⟩ := perm_inv ha
    refine ⟨W, F, ρ, Γ, eK, S, es1, Γ0, h1, o1, fun vs F1 H1 k1 S1 r1 => ⟨W, F1, ρ, Γ0, eK, S1, es2, Γ1, h2, o2, fun ws F2 H2 k2 S2 r2 => ?_⟩⟩
    exact call_ok eK S2 oks (rpes_perm (RpEs.mono k2 _ _ o1 r1) r2) h hlen fun v F' H' k' S' r' => q v F' H' ((k1.trans k2).trans k') S' r'
def tCallK0 (sp : Sp) (gV : List V → List V → List V) (E : XK) (tk : TA) : TE := fun σ H Q => tk σ H fun zs H2 => sp (gV [] zs) H2 Q E
theorem pe_callK0 {CX : CXT} {sp : Sp} {E : XK} {tk : TA} {g : List Value → List Value → List Value} {gV : List V → List V → List V} (F : FnOk X.prog X.w X.K X.mg X.base CX k f fd ps sp) (hr : Room k X.A) (hg : Gl X x) (hm : X.mg x = some (.ref f)) (hk : PySem.W.keepIn X.K (.ref f) = true) (hb : KBinds X.K fd ps ks g gV) (hx : Passes CX X E)
    (hkw : PK X kws tk) (hall : (backToKw pos (keywordEach kws X.env)).all (·.1.isSome) = true) (hks : (backToKw pos (keywordEach kws X.env)).filterMap (·.1) = ks)
    (hdb : (x == ("__debug__" : Str)) = false) (hpl : ((backTo pos (starEach [] X.env)).any (·.1) || (backToKw pos (keywordEach kws X.env)).any (·.1.isNone)) = false) : PE X (.Call (.Name x p) [] kws pos) (tCallK0 sp gV E tk) :=
  ⟨fun pins s σ H Q I h => wpAny_Call_Name_kw (ld_glob I hg hm (PySem.W.callWith_KW0 (h₀ := X.base) I.ok.mod.kin hk hall (thn (hkw.run pos pins s σ H _ I h) fun ws s2 ⟨zs, H2, I2, rz, q2⟩ => ⟨I2.kIn, by
    rw [hks]
    exact run_fnk (us := []) F hr hb hx I2 .nil rz q2⟩) hpl) hdb)⟩
theorem de_callK0 {π : List Nat} {m : Nat} (F : FnOk X.prog X.w X.K X.mg X.base CX0 k f fd ps (spD X.K ms fn)) (hr : Room k X.A) (hm : X.mg x = some (.ref f)) (hk : PySem.W.keepIn X.K (.ref f) = true) (hb : KBinds X.K fd ps ks (permL π 0 m) (permL π 0 m)) (hlen : ∀ ds, fn ds ≠ .stuck → ds.length = ms.length) (hkw : DK X kws b)
    (hg : Gl X x := by rfl) (hall : (backToKw pos (keywordEach kws X.env)).all (·.1.isSome) = true := by rfl) (hks : (backToKw pos (keywordEach kws X.env)).filterMap (·.1) = ks := by rfl)
    (hdb : (x == ("__debug__" : Str)) = false := by decide) (hpl : ((backTo pos (starEach [] X.env)).any (·.1) || (backToKw pos (keywordEach kws X.env)).any (·.1.isNone)) = false := by rfl) :
    DE X (.Call (.Name x p) [] kws pos) (eCallOk ms fn (aPerm π 0 m aNil b)) :=
  pe_imp (pe_callK0 F hr hg hm hk hb pass0 hkw hall hks hdb hpl) fun _ _ _ ⟨W, F, ρ, Γ, eK, S, e, Γ', ef, ok, q⟩ => by
    obtain ⟨es, Γ1, ha, oks, h⟩ := callOk_inv ef
    obtain ⟨es1, Γ0, es2, h1, h2, o1, o2, rfl⟩ := perm_inv ha
    cases h1
    refine ⟨W, F, ρ, _, eK, S, es2, Γ1, h2, o2, fun ws F2 H2 k2 S2 r2 => ?_⟩
    have r0 : RpEs W F2 H2 ρ ([] : List EV) [] := by unfold RpEs; rfl
    exact call_ok eK S2 oks (rpes_perm (vs := []) r0 r2) h hlen fun v F' H' k' S' r' => q v F' H' (k2.trans k') S' r'
end
end DL

namespace DL
open PySem PySem.Spec PyProof.Rows L2

def gets (Γ : Gm) : List EV → Option (List D)
  | [] => some []
  | e :: es => (eGet Γ e).bind fun d => (gets Γ es).map (d :: ·)
def RdVs (K : PySem.W.Frag) (F H : Hp) : List D → List V → Prop
  | [], vs => vs = []
  | d :: ds, vs => ∃ v r, vs = v :: r ∧ RdV K F H d v ∧ RdVs K F H ds r
abbrev OL := List D → Option EV
def eB (op : OL) (a : AM) : EM := fun Γ => match a Γ with
  | .ok es Γ1 => ERes.of ((gets Γ1 es).bind op) Γ1
  | .stuck => .stuck
def CallD (X : Cx) (r : List V → Hp → VK → Prop) (op : OL) : Prop := ∀ (W : Wd) (F H : Hp) (ρ : Nat → Option Addr) (σ : L2.St) (Γ : Gm) (ds : List D) (vs : List V) (e : EV) (Q : VK), W.K = X.K → Sim W F H ρ σ Γ →
  RdVs W.K F H ds vs → op ds = some e → Wish W F ρ σ Γ e Q → r vs H Q
theorem gets_oks {Γ : Gm} : ∀ {es : List EV} {ds : List D}, gets Γ es = some ds → EV.oks es = true
  | [], _, _ => rfl
  | e :: es, ds, h => by
    unfold gets at h
    obtain ⟨d, hd, h⟩ := obind_inv h
    obtain ⟨ds', hds, rfl⟩ := omap_inv h
    unfold EV.oks
    rw [ok_get hd, gets_oks hds]; rfl
theorem gets_rd {W : Wd} {F H : Hp} {ρ : Nat → Option Addr} {σ : L2.St} {Γ : Gm} (S : Sim W F H ρ σ Γ) : ∀ {es : List EV} {vs : List V} {ds : List D}, RpEs W F H ρ es vs → gets Γ es = some ds → RdVs W.K F H ds vs
  | [], vs, ds, r, h => by
    unfold gets at h
    cases h
    unfold RpEs at r
    exact r
  | e :: es, vs, ds, r, h => by
    unfold gets at h
    obtain ⟨d, hd, h⟩ := obind_inv h
    obtain ⟨ds', hds, rfl⟩ := omap_inv h
    unfold RpEs at r
    obtain ⟨v, ws, rfl, a, b⟩ := r
    exact ⟨v, ws, rfl, rd_get S a hd, gets_rd S b hds⟩
theorem eB_inv {op : OL} {a : AM} {Γ Γ' : Gm} {e : EV} (h : eB op a Γ = .ok e Γ') : ∃ es ds, a Γ = .ok es Γ' ∧ gets Γ' es = some ds ∧ op ds = some e := by
  unfold eB at h
  split at h
  · rename_i es Γ1 ha
    obtain ⟨h, rfl⟩ := of_inv h
    obtain ⟨ds, hds, h⟩ := obind_inv h
    exact ⟨es, ds, ha, hds, h⟩
  · cases h
section
variable {X : Cx} {x : Str} {p pos apos : Pos} {e o : Expr} {es : List Expr} {a : AM} {f g : EM} {op : OL} {r : List V → Hp → VK → Prop} {id T : String}
theorem b_core {σ : L2.St} {H : Hp} {Q : VK} (hd : CallD X r op) (h : tE X.K (eB op a) σ H Q) : tA X.K a σ H (fun vs H1 => r vs H1 Q) := by
  obtain ⟨W, F, ρ, Γ, eK, S, e, Γ', ef, ok, q⟩ := h
  obtain ⟨es, ds, ha, hg, h⟩ := eB_inv ef
  refine ⟨W, F, ρ, Γ, eK, S, es, Γ', ha, gets_oks hg, fun vs F1 H1 k1 S1 r1 => ?_⟩
  exact hd W F1 H1 ρ σ Γ' ds vs e Q eK S1 (gets_rd S1 r1 hg) h fun v F' H' k' S' r' => q v F' H' (k1.trans k') S' r'
theorem de_callB (hc : CallR X (.builtin id) r) (hd : CallD X r op) (hm : X.mg x = none) (hv : bootBuiltins x = some (.builtin id)) (ha : DA X (e :: es) a) (hg : Gl X x := by rfl) (hn : x ≠ "__name__" := by decide) (hdb : (x == ("__debug__" : Str)) = false := by decide)
    (he : starEach (e :: es) X.env = (false, eval e X.env) :: starEach es X.env := by rfl) (hpl : (backTo pos (starEach es X.env)).any (·.1) = false := by rfl) : DE X (.Call (.Name x p) (e :: es) [] pos) (eB op a) :=
  pe_imp (pe_callB hc hg hm hv ha hn hdb he hpl) fun _ _ _ h => b_core hd h
theorem de_callTy (hc : CallR X (.type T) r) (hd : CallD X r op) (hm : X.mg x = none) (hv : bootBuiltins x = some (.type T)) (ha : DA X (e :: es) a) (hg : Gl X x := by rfl) (hn : x ≠ "__name__" := by decide) (hdb : (x == ("__debug__" : Str)) = false := by decide)
    (he : starEach (e :: es) X.env = (false, eval e X.env) :: starEach es X.env := by rfl) (hpl : (backTo pos (starEach es X.env)).any (·.1) = false := by rfl) : DE X (.Call (.Name x p) (e :: es) [] pos) (eB op a) :=
  pe_imp (pe_callTy hc hg hm hv ha hn hdb he hpl) fun _ _ _ h => b_core hd h
/-! ### len, list, tuple, int, abs, all, any, sum, max, min -/
theorem rdvs1 {K : PySem.W.Frag} {F H : Hp} {d : D} {vs : List V} (h : RdVs K F H [d] vs) : ∃ v, vs = [v] ∧ RdV K F H d v := by
  unfold RdVs at h
  obtain ⟨v, r, rfl, a, b⟩ := h
  unfold RdVs at b
  subst b
  exact ⟨v, rfl, a⟩
theorem rdvs2 {K : PySem.W.Frag} {F H : Hp} {d e : D} {vs : List V} (h : RdVs K F H [d, e] vs) : ∃ v w, vs = [v, w] ∧ RdV K F H d v ∧ RdV K F H e w := by
  unfold RdVs at h
  obtain ⟨v, r, rfl, a, b⟩ := h
  obtain ⟨w, rfl, c⟩ := rdvs1 b
  exact ⟨v, w, rfl, a, c⟩
def oLen : OL
  | [.str s] => some (.imm (.int s.length))
  | [.lst ds] => some (.imm (.int ds.length))
  | [.tup ds] => some (.imm (.int ds.length))
  | [.frl ds] => some (.imm (.int ds.length))
  | [.dic ks _] => some (.imm (.int ks.length))
  | _ => none
def rLenA (K : PySem.W.Frag) : List V → Hp → VK → Prop := fun xs H Q => (∃ x n, xs = [x] ∧ LenV K x H n ∧ Q (.int n) H) ∨ (∃ a kvs, xs = [V.ref a] ∧ H a = some (.dK kvs) ∧ Q (.int kvs.length) H)
theorem cr_len : CallR X (.builtin "len") (rLenA X.K) := CallR.or call_len call_lenD
theorem cd_len : CallD X (rLenA X.K) oLen := by
  intro W F H ρ σ Γ ds vs e Q eK S r h w
  rw [← eK]
  unfold oLen at h
  split at h
  · cases h
    obtain ⟨v, rfl, rr⟩ := rdvs1 r
    obtain ⟨rfl, ok⟩ := rd_str rr
    exact .inl ⟨_, _, rfl, ⟨by rw [mkS_len]; exact ok.1, rfl⟩, by rw [mkS_len]; exact w.here S rp_int⟩
  · cases h
    obtain ⟨v, rfl, rr⟩ := rdvs1 r
    obtain ⟨a, vs, rfl, h1, q1⟩ := rd_lst rr
    exact .inl ⟨_, _, rfl, .inl ⟨vs, .inl (.inl h1), rfl⟩, by rw [← rpl_len q1]; exact w.here S rp_int⟩
  · cases h
    obtain ⟨v, rfl, rr⟩ := rdvs1 r
    obtain ⟨a, vs, rfl, h1, q1⟩ := rd_tup rr
    exact .inl ⟨_, _, rfl, .inr ⟨vs, sqT_mono S.sub h1, rfl⟩, by rw [← rpl_len q1]; exact w.here S rp_int⟩
  · cases h
    obtain ⟨v, rfl, rr⟩ := rdvs1 r
    obtain ⟨a, vs, rfl, h1, q1⟩ := rd_frl rr
    exact .inl ⟨_, _, rfl, .inl ⟨vs, S.sub.seq h1, rfl⟩, by rw [← rpl_len q1]; exact w.here S rp_int⟩
  · cases h
    obtain ⟨v, rfl, rr⟩ := rdvs1 r
    unfold RdV at rr
    obtain ⟨a, vs, rfl, h1, q1, q2⟩ := rr
    refine .inr ⟨a, _, rfl, h1, ?_⟩
    rw [List.length_zip, ← rpl_len q1, ← q2, Nat.min_self]
    exact w.here S rp_int
  · cases h
def oList : OL
  | [.lst ds] => some (.fr (.lst ds))
  | [.tup ds] => some (.fr (.lst ds))
  | [.frl ds] => some (.fr (.lst ds))
  | _ => none
theorem cd_list : CallD X (fun xs H Q => ∃ p ys, xs = [.ref p] ∧ (SqL X.K H p ys ∨ SqT X.K H p ys) ∧ ∀ l, H l = none → Q (.ref l) (upd H l (.lst ys))) oList := by
  intro W F H ρ σ Γ ds vs e Q eK S r h w
  rw [← eK]
  unfold oList at h
  split at h
  · cases h
    obtain ⟨v, rfl, rr⟩ := rdvs1 r
    obtain ⟨a, vs, rfl, h1, q1⟩ := rd_lst rr
    exact ⟨a, vs, rfl, .inl (.inl (.inl h1)), fun l hl => w.newl S hl q1⟩
  · cases h
    obtain ⟨v, rfl, rr⟩ := rdvs1 r
    obtain ⟨a, vs, rfl, h1, q1⟩ := rd_tup rr
    exact ⟨a, vs, rfl, .inr (sqT_mono S.sub h1), fun l hl => w.newl S hl q1⟩
  · cases h
    obtain ⟨v, rfl, rr⟩ := rdvs1 r
    obtain ⟨a, vs, rfl, h1, q1⟩ := rd_frl rr
    exact ⟨a, vs, rfl, .inl (S.sub.seq h1), fun l hl => w.newl S hl q1⟩
  · cases h
def oTuple : OL
  | [.lst ds] => some (.imm (.tup ds))
  | [.tup ds] => some (.imm (.tup ds))
  | _ => none
theorem cd_tuple : CallD X (fun xs H Q => ∃ p ys, xs = [.ref p] ∧ ((SqL X.K H p ys ∧ ∀ l, H l = none → Q (.ref l) (upd H l (.tup ys))) ∨ (SqT X.K H p ys ∧ Q (.ref p) H))) oTuple := by
  intro W F H ρ σ Γ ds vs e Q eK S r h w
  rw [← eK]
  unfold oTuple at h
  split at h
  · cases h
    obtain ⟨v, rfl, rr⟩ := rdvs1 r
    obtain ⟨a, vs, rfl, h1, q1⟩ := rd_lst rr
    exact ⟨a, vs, rfl, .inl ⟨.inl (.inl h1), fun l hl => w.newt S hl q1⟩⟩
  · cases h
    obtain ⟨v, rfl, rr⟩ := rdvs1 r
    obtain ⟨a, vs, rfl, h1, q1⟩ := rd_tupP rr
    exact ⟨a, vs, rfl, .inr ⟨.inl (.inl (S.sub _ _ h1)), w.here S (rp_tup h1 q1)⟩⟩
  · cases h
def oInt : OL
  | [.int i] => some (.imm (.int i))
  | [.bl b] => some (.imm (.int (if b then 1 else 0)))
  | _ => none
theorem cd_int : CallD X (fun xs H Q => (∃ i, xs = [.int i] ∧ Q (.int i) H) ∨ ∃ k, xs = [.bl k] ∧ Q (.int (if k then 1 else 0)) H) oInt := by
  intro W F H ρ σ Γ ds vs e Q eK S r h w
  unfold oInt at h
  split at h
  · cases h
    obtain ⟨v, rfl, rr⟩ := rdvs1 r
    rw [rd_int rr]
    exact .inl ⟨_, rfl, w.here S rp_int⟩
  · cases h
    obtain ⟨v, rfl, rr⟩ := rdvs1 r
    rw [rd_bl rr]
    exact .inr ⟨_, rfl, w.here S rp_int⟩
  · cases h
def oAbs : OL
  | [.int i] => some (.imm (.int (if i < 0 then -i else i)))
  | _ => none
theorem cd_abs : CallD X (fun xs H Q => ∃ i, xs = [.int i] ∧ Q (.int (if i < 0 then -i else i)) H) oAbs := by
  intro W F H ρ σ Γ ds vs e Q eK S r h w
  unfold oAbs at h
  split at h
  · cases h
    obtain ⟨v, rfl, rr⟩ := rdvs1 r
    rw [rd_int rr]
    exact ⟨_, rfl, w.here S rp_int⟩
  · cases h
def oMax2 : OL
  | [.int i, .int j] => some (.imm (.int (if j > i then j else i)))
  | _ => none
theorem cd_max2 : CallD X (fun xs H Q => ∃ i j, xs = [.int i, .int j] ∧ Q (.int (if j > i then j else i)) H) oMax2 := by
  intro W F H ρ σ Γ ds vs e Q eK S r h w
  unfold oMax2 at h
  split at h
  · cases h
    obtain ⟨v, u, rfl, r1, r2⟩ := rdvs2 r
    rw [rd_int r1, rd_int r2]
    exact ⟨_, _, rfl, w.here S rp_int⟩
  · cases h
def oMin2 : OL
  | [.int i, .int j] => some (.imm (.int (if j < i then j else i)))
  | _ => none
theorem cd_min2 : CallD X (fun xs H Q => ∃ i j, xs = [.int i, .int j] ∧ Q (.int (if j < i then j else i)) H) oMin2 := by
  intro W F H ρ σ Γ ds vs e Q eK S r h w
  unfold oMin2 at h
  split at h
  · cases h
    obtain ⟨v, u, rfl, r1, r2⟩ := rdvs2 r
    rw [rd_int r1, rd_int r2]
    exact ⟨_, _, rfl, w.here S rp_int⟩
  · cases h
def asI : D → Option Int
  | .int i => some i
  | _ => none
def asB : D → Option Bool
  | .bl b => some b
  | _ => none
def asS : D → Option (List Nat)
  | .str s => some s
  | _ => none
def mapO {α : Type} (f : D → Option α) : List D → Option (List α)
  | [] => some []
  | d :: ds => (f d).bind fun a => (mapO f ds).map (a :: ·)
theorem mapO_bools {K : PySem.W.Frag} {F : Hp} : ∀ {ds : List D} {vs : List V} {bs : List Bool}, RpL K F ds vs → mapO asB ds = some bs → vs = bs.map V.bl
  | [], vs, bs, r, h => by
    unfold mapO at h
    cases h
    rw [rpl_nil_inv r]; rfl
  | d :: ds, vs, bs, r, h => by
    unfold mapO at h
    obtain ⟨b, hb, h⟩ := obind_inv h
    obtain ⟨bs', hbs, rfl⟩ := omap_inv h
    obtain ⟨v, ws, rfl, a, c⟩ := rpl_cons_inv r
    unfold asB at hb
    split at hb
    · cases hb
      rw [rd_bl (F := F) (H := F) (rd_of a (Same.refl F)), mapO_bools c hbs]; rfl
    · cases hb
theorem mapO_ints {K : PySem.W.Frag} {F : Hp} : ∀ {ds : List D} {vs : List V} {bs : List Int}, RpL K F ds vs → mapO asI ds = some bs → vs = bs.map V.int
  | [], vs, bs, r, h => by
    unfold mapO at h
    cases h
    rw [rpl_nil_inv r]; rfl
  | d :: ds, vs, bs, r, h => by
    unfold mapO at h
    obtain ⟨b, hb, h⟩ := obind_inv h
    obtain ⟨bs', hbs, rfl⟩ := omap_inv h
    obtain ⟨v, ws, rfl, a, c⟩ := rpl_cons_inv r
    unfold asI at hb
    split at hb
    · cases hb
      rw [rd_int (F := F) (H := F) (rd_of a (Same.refl F)), mapO_ints c hbs]; rfl
    · cases hb
theorem mapO_strs {K : PySem.W.Frag} {F : Hp} : ∀ {ds : List D} {vs : List V} {bs : List (List Nat)}, RpL K F ds vs → mapO asS ds = some bs → vs = (bs.map mkS).map V.str ∧ ∀ s ∈ bs, okS s
  | [], vs, bs, r, h => by
    unfold mapO at h
    cases h
    rw [rpl_nil_inv r]; exact ⟨rfl, fun s hs => by simp at hs⟩
  | d :: ds, vs, bs, r, h => by
    unfold mapO at h
    obtain ⟨b, hb, h⟩ := obind_inv h
    obtain ⟨bs', hbs, rfl⟩ := omap_inv h
    obtain ⟨v, ws, rfl, a, c⟩ := rpl_cons_inv r
    unfold asS at hb
    split at hb
    · cases hb
      obtain ⟨e1, o1⟩ := rd_str (F := F) (H := F) (rd_of a (Same.refl F))
      obtain ⟨e2, o2⟩ := mapO_strs c hbs
      exact ⟨by rw [e1, e2]; rfl, fun s hs => by
        rcases List.mem_cons.mp hs with rfl | hs
        · exact o1
        · exact o2 s hs⟩
    · cases hb
def oAll : OL
  | [.lst ds] => (mapO asB ds).map fun bs => .imm (.bl (bs.all fun b => b))
  | _ => none
def oAny : OL
  | [.lst ds] => (mapO asB ds).map fun bs => .imm (.bl (bs.any fun b => b))
  | _ => none
def oSum : OL
  | [.lst ds] => (mapO asI ds).map fun bs => .imm (.int bs.sum)
  | _ => none
theorem cd_all : CallD X (rAll X.K) oAll := by
  intro W F H ρ σ Γ ds vs e Q eK S r h w
  rw [← eK]
  unfold oAll at h
  split at h
  · obtain ⟨bs, hb, e1⟩ := omap_inv h
    subst e1
    obtain ⟨v, rfl, rr⟩ := rdvs1 r
    obtain ⟨a, vs, rfl, h1, q1⟩ := rd_lst rr
    exact ⟨a, bs, rfl, by rw [← mapO_bools q1 hb]; exact .inl (.inl h1), w.here S rp_bl⟩
  · cases h
theorem cd_any : CallD X (rAny X.K) oAny := by
  intro W F H ρ σ Γ ds vs e Q eK S r h w
  rw [← eK]
  unfold oAny at h
  split at h
  · obtain ⟨bs, hb, e1⟩ := omap_inv h
    subst e1
    obtain ⟨v, rfl, rr⟩ := rdvs1 r
    obtain ⟨a, vs, rfl, h1, q1⟩ := rd_lst rr
    exact ⟨a, bs, rfl, by rw [← mapO_bools q1 hb]; exact .inl (.inl h1), w.here S rp_bl⟩
  · cases h
theorem cd_sum : CallD X (rSum X.K) oSum := by
  intro W F H ρ σ Γ ds vs e Q eK S r h w
  rw [← eK]
  unfold oSum at h
  split at h
  · obtain ⟨bs, hb, e1⟩ := omap_inv h
    subst e1
    obtain ⟨v, rfl, rr⟩ := rdvs1 r
    obtain ⟨a, vs, rfl, h1, q1⟩ := rd_lst rr
    exact ⟨a, bs, rfl, by rw [← mapO_ints q1 hb]; exact .inl (.inl h1), w.here S rp_int⟩
  · cases h
end
end DL

namespace DL
open PySem PySem.Spec PyProof.Rows L2
section
variable {X : Cx} {x : Str} {p pos apos : Pos} {e o : Expr} {es : List Expr} {a : AM} {f g : EM} {op : OL} {r : List V → Hp → VK → Prop} {id T : String}
/-! ### isinstance -/
def tyD : D → String
  | .non => "NoneType"
  | .bl _ => "bool"
  | .int _ => "int"
  | .str _ => "str"
  | .tup _ => "tuple"
  | .lst _ => "list"
  | .frl _ => "list"
  | .dic _ _ => "dict"
  | .dct _ _ => "dict"
  | .lkd _ _ => "dict"
  | .lkt _ _ => "dict"
/-- the built-in types that are asked for -/
inductive Ty5 where
  | int | bool | str | list | tuple | dict
def Ty5.nm : Ty5 → String
  | .int => "int" | .bool => "bool" | .str => "str" | .list => "list" | .tuple => "tuple" | .dict => "dict"
def isTy (d : D) : Ty5 → Bool
  | .int => match d with
    | .int _ => true
    | .bl _ => true
    | _ => false
  | .bool => match d with
    | .bl _ => true
    | _ => false
  | .str => match d with
    | .str _ => true
    | _ => false
  | .list => match d with
    | .lst _ => true
    | .frl _ => true
    | _ => false
  | .tuple => match d with
    | .tup _ => true
    | _ => false
  | .dict => match d with
    | .dic _ _ => true
    | .dct _ _ => true
    | .lkd _ _ => true
    | .lkt _ _ => true
    | _ => false
theorem kit_0 (T : Ty5) : kitB "NoneType" T.nm = some (isTy .non T) := by cases T <;> decide +kernel
theorem kit_1 (T : Ty5) : kitB "bool" T.nm = some (isTy (.bl true) T) := by cases T <;> decide +kernel
theorem kit_2 (T : Ty5) : kitB "int" T.nm = some (isTy (.int 0) T) := by cases T <;> decide +kernel
theorem kit_3 (T : Ty5) : kitB "str" T.nm = some (isTy (.str []) T) := by cases T <;> decide +kernel
theorem kit_4 (T : Ty5) : kitB "tuple" T.nm = some (isTy (.tup []) T) := by cases T <;> decide +kernel
theorem kit_5 (T : Ty5) : kitB "list" T.nm = some (isTy (.lst []) T) := by cases T <;> decide +kernel
theorem kit_6 (T : Ty5) : kitB "dict" T.nm = some (isTy (.dic [] []) T) := by cases T <;> decide +kernel
theorem kit_d (d : D) (T : Ty5) : kitB (tyD d) T.nm = some (isTy d T) := by
  cases d with
  | non => exact kit_0 T
  | bl b => cases T <;> exact kit_1 _
  | int b => cases T <;> exact kit_2 _
  | str b => cases T <;> exact kit_3 _
  | tup b => cases T <;> exact kit_4 _
  | lst b => cases T <;> exact kit_5 _
  | frl b => cases T <;> exact kit_5 _
  | dic b c => cases T <;> exact kit_6 _
  | dct b c => cases T <;> exact kit_6 _
  | lkd b c => cases T <;> exact kit_6 _
  | lkt b c => cases T <;> exact kit_6 _
/-- also a dict with tuple keys that is gone through -/
def TyY (K : PySem.W.Frag) (H : Hp) (x : V) (t : Value) : Prop := TyX K H x t ∨ ∃ a o kvs, x = .ref a ∧ t = .type "dict" ∧ H a = some (.frz o (.dT kvs))
theorem kit_ofY {X : Cx} {pins : List (Addr × Obj)} {σ : L2.St} {H : Hp} {s : Shared} {x : V} {u t : Value} (I : Inv X pins σ H s) (rx : RelV x u) (ty : TyY X.K H x t) : ∃ P : Heap → Prop, PySem.W.KitX X.K u t P ∧ P s.heap ∧ u ≠ .builtin "__main__.__loader__#opaque" := by
  rcases ty with ty | ⟨a, o, kvs, rfl, rfl, ea⟩
  · exact kit_of I rx ty
  · cases (show u = Value.ref a from rx)
    have q : ObjOk X.prog X.w H s.heap a (.frz o (.dT kvs)) := I.hok a _ ea
    obtain ⟨_, _, _, xs, _, o', es, ep, h1, h2, _⟩ := q
    exact ⟨_, PySem.W.kitx_dict, ⟨o', h1, h2.1⟩, nofun⟩
def rIsiY (K : PySem.W.Frag) : List V → Hp → VK → Prop := fun xs H Q => ∃ (x c : V) (t u : Value) (b : Bool), xs = [x, c] ∧ ClsV c u ∧ TyY K H x t ∧ PySem.W.kitOne K t u = some b ∧ Q (.bl b) H
theorem cr_isiY {X : Cx} : CallR X (.builtin "isinstance") (rIsiY X.K) := fun pins s σ H xs us Q I r ⟨x, c, t, u, b, e0, k, ty, e, q⟩ => by
  subst e0
  obtain ⟨w1, w2, e1, r1, r2⟩ := vals2 r
  subst e1
  cases (k.eq r2)
  have ⟨P, Z, p, hx⟩ := kit_ofY I r1 ty
  exact PySem.W.kia_one Z I.kIn p e hx fun tk => ⟨.bl b, H, I.tok tk, rfl, q⟩
def rIsiTY (K : PySem.W.Frag) : List V → Hp → VK → Prop := fun xs H Q => ∃ (x : V) (tp : Addr) (cs : List V) (t : Value) (us : List Value) (b : Bool), xs = [x, .ref tp] ∧ H tp = some (.tup cs) ∧ Paired ClsV cs us ∧ TyY K H x t ∧ PySem.W.kitAny K t us = some b ∧ Q (.bl b) H
theorem cr_isiTY {X : Cx} : CallR X (.builtin "isinstance") (rIsiTY X.K) := fun pins s σ H xs us Q I r ⟨x, tp, cs, t, ws, b, e0, hT, k, ty, e, q⟩ => by
  subst e0
  obtain ⟨w1, w2, e1, r1, r2⟩ := vals2 r
  subst e1
  cases (show w2 = Value.ref tp from r2)
  have ⟨P, Z, p, hx⟩ := kit_ofY I r1 ty
  have ob : ObjOk X.prog X.w H s.heap tp (.tup cs) := I.hok tp _ hT
  obtain ⟨_, its, rv, oo, g1, g2, nn, g3⟩ := ob
  cases (ClsV.all k rv)
  obtain ⟨z1, z2, z3, z4⟩ := oo
  dsimp only at g2 g3
  cases g2
  cases g3
  exact PySem.W.kia_tup Z I.kIn p g1 e hx fun tk => ⟨.bl b, H, I.tok tk, rfl, q⟩
theorem tyx_rd {K : PySem.W.Frag} {F H : Hp} (s : Same F H) {d : D} {v : V} (r : RdV K F H d v) : TyY K H v (.type (tyD d)) := by
  cases d with
  | lkd ks ds => unfold RdV at r; obtain ⟨a, vs, o, rfl, h, _⟩ := r; exact .inl (.fDict h)
  | lkt ks ds => unfold RdV at r; obtain ⟨a, vs, o, rfl, h, _⟩ := r; exact .inr ⟨_, _, _, rfl, rfl, h⟩
  | non => rw [rd_non r]; exact .inl <| .base .non
  | bl b => rw [rd_bl r]; exact .inl <| .base (.bl b)
  | int i => rw [rd_int r]; exact .inl <| .base (.int i)
  | str z => rw [(rd_str r).1]; exact .inl <| .base (.str _)
  | lst ds => obtain ⟨a, vs, rfl, h, _⟩ := rd_lst r; exact .inl <| .base (.lst h)
  | dic ks ds => unfold RdV at r; obtain ⟨a, vs, rfl, h, _⟩ := r; exact .inl <| .base (.dK h)
  | dct ks ds => unfold RdV at r; obtain ⟨a, vs, rfl, h, _⟩ := r; exact .inl <| .base (.dT h)
  | tup ds =>
    obtain ⟨a, vs, rfl, h, _⟩ := rd_tup r
    rcases h with (h | ⟨o, h⟩) | ⟨o, its, n, h, c, _⟩
    · exact .inl <| .base (.tup (s _ _ h))
    · exact .inl <| .fTuple (s _ _ h)
    · exact .inl <| .kTuple h c
  | frl ds =>
    obtain ⟨a, vs, rfl, h, _⟩ := rd_frl r
    rcases h with (h | ⟨o, h⟩) | ⟨o, its, n, h, c, _⟩
    · exact .inl <| .base (.lst (s _ _ h))
    · exact .inl <| .base (.frz (s _ _ h))
    · exact .inl <| .kList h c
def oIsi (Ts : List Ty5) : O1 := fun d => some (.imm (.bl (Ts.any fun T => isTy d T)))
theorem de_isi (T : Ty5) {t : Str} {p2 : Pos} (hm : X.mg "isinstance" = none) (hmT : X.mg t = none) (hvT : bootBuiltins t = some (.type T.nm)) (ha : DE X e f) (hg : Gl X "isinstance" := by rfl) (hgT : Gl X t := by rfl) (hn : t ≠ "__name__" := by decide) (hdb : (t == ("__debug__" : Str)) = false := by decide)
    (he : starEach [e, .Name t p2] X.env = (false, eval e X.env) :: starEach [.Name t p2] X.env := by rfl) (he2 : starEach [.Name t p2] X.env = (false, eval (.Name t p2) X.env) :: starEach [] X.env := by rfl) (hpl : (backTo pos (starEach [.Name t p2] X.env)).any (·.1) = false := by rfl) :
    DE X (.Call (.Name "isinstance" p) [e, .Name t p2] [] pos) (eUn (oIsi [T]) f) :=
  pe_imp (pe_callB cr_isiY hg hm boot_isinstance (pa_cons ha (pa_cons (pe_bltn (v := .ty T.nm) hgT hmT hvT rfl hn hdb) pa_nil he2) he) (by decide) (by decide) he hpl) fun σ H Q ⟨W, F, ρ, Γ, eK, S, e, Γ', ef, ok, q⟩ => by
    obtain ⟨e1, Γ1, h1, ef⟩ := bind_inv ef
    obtain ⟨ef, rfl⟩ := of_inv ef
    obtain ⟨d1, g1, ef⟩ := obind_inv ef
    cases ef
    refine tE_then eK S h1 (ok_get g1) fun v1 F1 H1 s1 S1 r1 => ?_
    refine ⟨v1, .ty T.nm, .type (tyD d1), .type T.nm, isTy d1 T, rfl, .ty _, by rw [← eK]; exact tyx_rd S1.sub (rd_get S1 r1 g1), kit_ty (kit_d d1 T), ?_⟩
    have : ([T].any fun T => isTy d1 T) = isTy d1 T := by simp
    rw [← this]
    exact q _ F1 H1 s1 S1 (by unfold RpE; exact rp_bl)
theorem kitAny_d {K : PySem.W.Frag} (d : D) : ∀ Ts : List Ty5, PySem.W.kitAny K (.type (tyD d)) (Ts.map fun T => Value.type T.nm) = some (Ts.any fun T => isTy d T)
  | [] => kitAny_nil
  | T :: Ts => by
    refine kitAny_cons (kit_ty (kit_d d T)) (fun h => ?_) (fun h => ?_)
    · rw [List.any_cons, h, Bool.false_or]; exact kitAny_d d Ts
    · rw [List.any_cons, h, Bool.true_or]
/-- a tuple of two built-in types -/
theorem de_isi2 (T U : Ty5) {t u : Str} {p2 p3 p4 : Pos} {k} (hm : X.mg "isinstance" = none) (hmT : X.mg t = none) (hvT : bootBuiltins t = some (.type T.nm)) (hmU : X.mg u = none) (hvU : bootBuiltins u = some (.type U.nm)) (ha : DE X e f)
    (hg : Gl X "isinstance" := by rfl) (hgT : Gl X t := by rfl) (hgU : Gl X u := by rfl) (hn : t ≠ "__name__" := by decide) (hdb : (t == ("__debug__" : Str)) = false := by decide) (hn2 : u ≠ "__name__" := by decide) (hdb2 : (u == ("__debug__" : Str)) = false := by decide)
    (he : starEach [e, .Tuple [.Name t p2, .Name u p3] k p4] X.env = (false, eval e X.env) :: starEach [.Tuple [.Name t p2, .Name u p3] k p4] X.env := by rfl)
    (he2 : starEach [.Tuple [.Name t p2, .Name u p3] k p4] X.env = (false, eval (.Tuple [.Name t p2, .Name u p3] k p4) X.env) :: starEach [] X.env := by rfl)
    (he3 : starEach [.Name t p2, .Name u p3] X.env = (false, eval (.Name t p2) X.env) :: starEach [.Name u p3] X.env := by rfl) (he4 : starEach [.Name u p3] X.env = (false, eval (.Name u p3) X.env) :: starEach [] X.env := by rfl)
    (hpl : (backTo pos (starEach [.Tuple [.Name t p2, .Name u p3] k p4] X.env)).any (·.1) = false := by rfl) :
    DE X (.Call (.Name "isinstance" p) [e, .Tuple [.Name t p2, .Name u p3] k p4] [] pos) (eUn (oIsi [T, U]) f) :=
  pe_imp (pe_callB cr_isiTY hg hm boot_isinstance (pa_cons ha (pa_cons (pe_tup (pa_cons (pe_bltn (v := .ty T.nm) hgT hmT hvT rfl hn hdb) (pa_cons (pe_bltn (v := .ty U.nm) hgU hmU hvU rfl hn2 hdb2) pa_nil he4) he3)) pa_nil he2) he) (by decide) (by decide) he hpl) fun σ H Q ⟨W, F, ρ, Γ, eK, S, e, Γ', ef, ok, q⟩ => by
    obtain ⟨e1, Γ1, h1, ef⟩ := bind_inv ef
    obtain ⟨ef, rfl⟩ := of_inv ef
    obtain ⟨d1, g1, ef⟩ := obind_inv ef
    cases ef
    refine tE_then eK S h1 (ok_get g1) fun v1 F1 H1 s1 S1 r1 => ?_
    refine ⟨by show 2 ≤ sizeLine; rw [sizeLine_eq]; decide, fun p hp => ?_⟩
    have S2 := S1.alloc (o := .tup [V.ty T.nm, V.ty U.nm]) hp
    refine ⟨v1, p, [.ty T.nm, .ty U.nm], .type (tyD d1), [.type T.nm, .type U.nm], _, rfl, upd_same, .cons (.ty _) (.cons (.ty _) .nil), by rw [← eK]; exact tyx_rd S2.sub (rd_get (Γ := Γ') S2 (RpE.mono (Same.refl _) _ _ (ok_get g1) r1) g1), kitAny_d d1 [T, U], ?_⟩
    exact q _ F1 _ s1 S2 (by unfold RpE; exact rp_bl)
end
end DL

namespace DL
open PySem PySem.Spec PyProof.Rows L2
section
variable {X : Cx} {x : Str} {p pos apos : Pos} {e o : Expr} {es : List Expr} {a : AM} {f g : EM} {op : OL} {r : List V → Hp → VK → Prop} {id T : String}
/-! ### methods of texts -/
def joinL (sep : List Nat) : List (List Nat) → List Nat
  | [] => []
  | [x] => x
  | x :: y :: r => x ++ sep ++ joinL sep (y :: r)
theorem joinL_ok (sep : List Nat) : ∀ ys : List (List Nat), Str.join (mkS sep) (ys.map mkS) = mkS (joinL sep ys)
  | [] => rfl
  | [x] => rfl
  | x :: y :: r => by
    show mkS x ++ mkS sep ++ Str.join (mkS sep) ((y :: r).map mkS) = _
    rw [joinL_ok sep (y :: r), mkS_app, mkS_app]
    rfl
theorem txt_join (sep : List Nat) (ys : List (List Nat)) : Txt.join (mkS sep) (ys.map mkS) = mkS (joinL sep ys) := by
  rw [← joinL_ok]
  exact StrLaws.glued_eq_join _ _
theorem joinL_len (sep : List Nat) : ∀ ys : List (List Nat), (joinL sep ys).length ≤ (ys.map List.length).sum + ys.length * sep.length
  | [] => by simp [joinL]
  | [x] => by simp [joinL]
  | x :: y :: r => by
    have ih := joinL_len sep (y :: r)
    simp only [joinL, List.length_append, List.map_cons, List.sum_cons, List.length_cons] at ih ⊢
    rw [Nat.add_mul, Nat.one_mul]
    omega
theorem joinL_mem {sep : List Nat} : ∀ {ys : List (List Nat)} {c : Nat}, c ∈ joinL sep ys → c ∈ sep ∨ ∃ y ∈ ys, c ∈ y
  | [], c, h => by simp [joinL] at h
  | [x], c, h => .inr ⟨x, List.mem_singleton.mpr rfl, h⟩
  | x :: y :: r, c, h => by
    unfold joinL at h
    rcases List.mem_append.mp h with h | h
    · rcases List.mem_append.mp h with h | h
      · exact .inr ⟨x, List.mem_cons_self, h⟩
      · exact .inl h
    · rcases joinL_mem h with h | ⟨z, hz, hc⟩
      · exact .inl h
      · exact .inr ⟨z, List.mem_cons_of_mem _ hz, hc⟩
def oJoin : O2
  | .str s, .lst ds => (mapO asS ds).bind fun ys => if (ys.map List.length).sum + ys.length * s.length ≤ 16777216 then some (.imm (.str (joinL s ys))) else none
  | .str s, .tup ds => (mapO asS ds).bind fun ys => if (ys.map List.length).sum + ys.length * s.length ≤ 16777216 then some (.imm (.str (joinL s ys))) else none
  | _, _ => none
def rJoin (K : PySem.W.Frag) : V → List V → Hp → VK → Prop := fun x xs H Q => ∃ a p, ∃ ys : List Str, x = .str a ∧ xs = [.ref p] ∧ (SqL K H p (ys.map V.str) ∨ SqT K H p (ys.map V.str)) ∧
      (ys.map (·.length)).sum + ys.length * a.length ≤ 16777216 ∧ Q (.str (Txt.join a ys)) H
theorem od_join : OpD X (fun x y H Q => rJoin X.K x [y] H Q) oJoin := by
  intro W F H ρ σ Γ d1 d2 v1 v2 e Q eK S r1 r2 h w
  rw [← eK]
  have lens : ∀ ys : List (List Nat), ((ys.map mkS).map (·.length)).sum = (ys.map List.length).sum := fun ys => by
    have : (ys.map mkS).map (·.length) = ys.map List.length := by
      rw [List.map_map]
      exact List.map_congr_left fun a _ => mkS_len a
    rw [this]
  have okj : ∀ {s : List Nat} {ys : List (List Nat)}, okS s → (∀ y ∈ ys, okS y) → (ys.map List.length).sum + ys.length * s.length ≤ 16777216 → okS (joinL s ys) := fun {s ys} o1 o2 hl =>
    ⟨Nat.le_trans (joinL_len s ys) (by rw [sizeLine_eq]; exact hl), fun c hc => by
      rcases joinL_mem hc with hc | ⟨y, hy, hc⟩
      · exact o1.2 c hc
      · exact (o2 y hy).2 c hc⟩
  unfold oJoin at h
  split at h
  · obtain ⟨ys, hy, h⟩ := obind_inv h
    obtain ⟨hl, rfl⟩ := if_inv h
    obtain ⟨rfl, o1⟩ := rd_str r1
    obtain ⟨a, vs, rfl, h1, q1⟩ := rd_lst r2
    obtain ⟨ev, oy⟩ := mapO_strs q1 hy
    refine ⟨_, a, ys.map mkS, rfl, rfl, .inl (by rw [← ev]; exact .inl (.inl h1)), by rw [lens, List.length_map, mkS_len]; exact hl, ?_⟩
    rw [txt_join]
    exact w.here S (rp_str (okj o1 oy hl))
  · obtain ⟨ys, hy, h⟩ := obind_inv h
    obtain ⟨hl, rfl⟩ := if_inv h
    obtain ⟨rfl, o1⟩ := rd_str r1
    obtain ⟨a, vs, rfl, h1, q1⟩ := rd_tup r2
    obtain ⟨ev, oy⟩ := mapO_strs q1 hy
    refine ⟨_, a, ys.map mkS, rfl, rfl, .inr (by rw [← ev]; exact sqT_mono S.sub h1), by rw [lens, List.length_map, mkS_len]; exact hl, ?_⟩
    rw [txt_join]
    exact w.here S (rp_str (okj o1 oy hl))
  · cases h
def isS : EV → Bool
  | .imm (.str _) => true
  | _ => false
/-- a method of a text, with one argument -/
def eM1 (op : O2) (f g : EM) : EM := fun Γ => (f Γ).bind fun e1 Γ1 => if isS e1 = true then (g Γ1).bind fun e2 Γ2 => ERes.of ((eGet Γ2 e1).bind fun x => (eGet Γ2 e2).bind fun y => op x y) Γ2 else .stuck
theorem isS_inv {e : EV} (h : isS e = true) : ∃ s, e = .imm (.str s) := by
  unfold isS at h
  split at h
  · exact ⟨_, rfl⟩
  · cases h
theorem m1_core {r : V → List V → Hp → VK → Prop} {op : O2} {σ : L2.St} {H : Hp} {Q : VK} (hop : OpD X (fun x y H Q => r x [y] H Q) op) (h : tE X.K (eM1 op f g) σ H Q) : tM1 r (tE X.K f) (tE X.K g) σ H Q := by
  obtain ⟨W, F, ρ, Γ, eK, S, e, Γ', ef, ok, q⟩ := h
  obtain ⟨e1, Γ1, h1, ef⟩ := bind_inv ef
  split at ef
  · rename_i hs
    obtain ⟨z, hz⟩ := isS_inv hs
    obtain ⟨e2, Γ2, h2, ef⟩ := bind_inv ef
    obtain ⟨ef, rfl⟩ := of_inv ef
    obtain ⟨d1, g1, ef⟩ := obind_inv ef
    obtain ⟨d2, g2, ef⟩ := obind_inv ef
    refine tE_then eK S h1 (ok_get g1) fun v1 F1 H1 s1 S1 r1 => ⟨?_, ?_⟩
    · rw [hz] at r1
      unfold RpE at r1
      exact ⟨_, (rd_str (F := F1) (H := H1) (rd_of r1 S1.sub)).1⟩
    · refine tE_then eK S1 h2 (ok_get g2) fun v2 F2 H2 s2 S2 r2 => ?_
      exact hop W F2 H2 ρ σ Γ' d1 d2 v1 v2 e Q eK S2 (rd_get S2 (RpE.mono s2 _ _ (ok_get g1) r1) g1) (rd_get S2 r2 g2) ef fun v F' H' hs S' r' => q v F' H' ((s1.trans s2).trans hs) S' r'
  · cases ef
theorem de_join (ho : DE X o f) (he : DE X e g) (hs : starEach [e] X.env = [(false, eval e X.env)] := by rfl) (hbase : attributeBase o "join" X.env (eval o X.env) = eval o X.env := by rfl) (hline : (apos.endLine == pos.line) = true := by rfl) :
    DE X (.Call (.Attribute o "join" apos) [e] [] pos) (eM1 oJoin f g) := pe_imp (pe_join ho he hs hbase hline) fun _ _ _ h => m1_core od_join h
/-! ### s[::-1] -/
def oRev : O1
  | .lst ds => some (.fr (.lst ds.reverse))
  | .str s => some (.imm (.str s.reverse))
  | _ => none
def tRevS (te : TE) : TE := fun σ H Q => te σ H fun x H1 => ∃ s, x = .str (mkS s) ∧ s.length ≤ sizeLine ∧ Q (.str (mkS s.reverse)) H1
theorem strSlice_rev (n : Nat) : Builtin.Str.strSliceIndices none none (-1) n = (List.range n).reverse := by
  have h := PySem.W.krv_sliceRange n
  rw [PySem.W.krv_range] at h
  rw [← h]
  rfl
theorem pick_rev (s : List Nat) : (Builtin.Str.strSliceIndices none none (-1) (mkS s).length).filterMap ((mkS s).cps[·]?) = s.reverse := by
  rw [strSlice_rev, List.filterMap_reverse]
  have := PySem.W.krv_all (mkS s).cps
  have e : (mkS s).cps.size = (mkS s).length := rfl
  rw [e] at this
  rw [this, mkS_cps]
theorem pe_revS {k : Nat} {p1 p2 p3 : Pos} {te : TE} (he : PE X e te) : PE X (.Subscript e (.Slice none none (some (.UnaryOp .USub (.Constant (.int 1) k p1) p2)) p3) pos) (tRevS te) := by
  refine ⟨fun pins s σ H Q I h => Subscript_ (thn (he.run pins s σ H _ I h) fun v s1 ⟨x, H1, I1, r1, z, ex, hz, q⟩ => ?_)⟩
  subst ex
  obtain ⟨t, rfl⟩ := r1
  have hst : PO X (some (.UnaryOp .USub (.Constant (.int 1) k p1) p2)) (tPart (tUn (rU fun i => .int (-i)) (tC (.int 1)))) := po_some (pe_un un_neg pe_int)
  refine wpAny_Slice (thn (po_none.run pins s1 σ H1 (fun o H2 => o = none ∧ H2 = H1) I1 ⟨rfl, rfl⟩) fun vl s2 ⟨l, H2, I2, pl, el, e2⟩ => ?_)
  subst el e2
  refine thn (po_none.run pins s2 σ H2 (fun o H3 => o = none ∧ H3 = H2) I2 ⟨rfl, rfl⟩) fun vu s3 ⟨u, H3, I3, pu, eu, e3⟩ => ?_
  subst eu e3
  refine thn (hst.run pins s3 σ H3 (fun o H4 => o = some (-1) ∧ H4 = H3) I3 ⟨1, rfl, -1, rfl, rfl, rfl⟩) fun vs s4 ⟨o, H4, I4, ps, eo, e4⟩ => ?_
  subst eo e4
  have I5 : Inv X pins σ H4 { s4 with heap := s4.heap.push { cls := .type "slice", data := .fields #[vl, vu, vs] } } := I4.kept (t' := s4.toks) fun b ob q => Heap.get?_push_of_some _ q
  obtain ⟨os, hos, hcs, hds⟩ := Heap.IsSliceOf.new s4.heap vl vu vs
  obtain ⟨l, rfl, hl⟩ := IsPart.raw pl
  obtain ⟨u, rfl, hu⟩ := IsPart.raw pu
  obtain ⟨w', rfl, hw⟩ := IsPart.raw ps
  have el : l = none := by cases l with | none => rfl | some _ => cases hl
  have eu : u = none := by cases u with | none => rfl | some _ => cases hu
  subst el eu
  show wpAny (model X.prog X.w) X.A (subscriptTail e (.Slice none none (some (.UnaryOp .USub (.Constant (.int 1) k p1) p2)) p3) (.str (mkS z) t) (.ref s4.heap.objs.size)) (EP X pins σ Q) X.xe _
  refine tail_any (ops := [.ref s4.heap.objs.size, .str (mkS z) t]) (typeIs_str _ _ _) (F.slot_str_getitem.lookup) ?_ (by with_unfolding_all rfl)
  have hw1 : (w'.map (·.1)).getD 1 = -1 := by rw [hw]; rfl
  refine wpAny_getItem_str_slice (l := none) (u := none) (st := w') ⟨os, hos, hcs, hds⟩ (by rw [hw1]; rfl) ?_
  unfold sliceMade slicePicked
  rw [hw1, if_neg (by rw [show ((-1 : Int) == 1) = false from rfl, Bool.false_and]; exact Bool.false_ne_true)]
  show Made.post (.str ⟨((Builtin.Str.strSliceIndices none none (-1) (mkS z).length).filterMap ((mkS z).cps[·]?)).toArray⟩) _ _
  rw [pick_rev]
  exact ⟨by show (mkS z.reverse).length ≤ sizeLine; rw [mkS_len, List.length_reverse]; exact hz, .str (mkS z.reverse), H4, I5.tok _, ⟨_, rfl⟩, q⟩
theorem pe_or {e : Expr} {t t' : TE} (h : PE X e t) (h' : PE X e t') : PE X e (fun σ H Q => t σ H Q ∨ t' σ H Q) := ⟨fun pins s σ H Q I q => q.elim (h.run pins s σ H Q I) (h'.run pins s σ H Q I)⟩
theorem de_rev {k : Nat} {p1 p2 p3 : Pos} (he : DE X e f) : DE X (.Subscript e (.Slice none none (some (.UnaryOp .USub (.Constant (.int 1) k p1) p2)) p3) pos) (eUn oRev f) :=
  pe_imp (pe_or (pe_revL he) (pe_revS he)) fun σ H Q ⟨W, F, ρ, Γ, eK, S, e, Γ', ef, ok, q⟩ => by
    obtain ⟨e1, Γ1, h1, ef⟩ := bind_inv ef
    obtain ⟨ef, rfl⟩ := of_inv ef
    obtain ⟨d1, g1, ef⟩ := obind_inv ef
    cases d1 with
    | lst ds =>
      cases ef
      refine .inl (tE_then eK S h1 (ok_get g1) fun v1 F1 H1 s1 S1 r1 => ?_)
      obtain ⟨a, vs, rfl, x1, q1⟩ := rd_lst (rd_get S1 r1 g1)
      exact ⟨a, vs, rfl, .inl (.inl x1), fun p hp => Wish.newl (fun v F' H' hs S' r' => q v F' H' (s1.trans hs) S' r') S1 hp (rpl_reverse q1)⟩
    | str z =>
      cases ef
      refine .inr (tE_then eK S h1 (ok_get g1) fun v1 F1 H1 s1 S1 r1 => ?_)
      obtain ⟨rfl, o1⟩ := rd_str (rd_get S1 r1 g1)
      exact ⟨z, rfl, o1.1, q _ F1 H1 s1 S1 (by unfold RpE; exact rp_str (okS_sub o1 (by simp) fun c hc => by simpa using hc))⟩
    | _ => cases ef
end
end DL

namespace DL
open PySem PySem.Spec PyProof.Rows L2

def ownL (Γ : Gm) (i : Nat) : Option (Bool × List D) := match Γ[i]? with
  | some (.own io (.lst ds)) => some (io, ds)
  | _ => none
theorem ownL_inv {Γ : Gm} {i : Nat} {p : Bool × List D} (h : ownL Γ i = some p) : Γ[i]? = some (.own p.1 (.lst p.2)) := by
  unfold ownL at h
  split at h
  · rename_i io ds hs; cases h; exact hs
  · cases h
theorem Sim.ownl {W : Wd} {F H : Hp} {ρ : Nat → Option Addr} {σ : L2.St} {Γ : Gm} {i : Nat} {io : Bool} {ds : List D} {a : Addr} (S : Sim W F H ρ σ Γ) (h : Γ[i]? = some (.own io (.lst ds))) (ha : ρ i = some a) : ∃ vs, H a = some (.lst vs) ∧ RpL W.K F ds vs := by
  obtain ⟨a', e1, e2, e3, _⟩ := S.slot i _ h
  rw [ha] at e1; cases e1
  unfold OwnAt at e3
  exact e3
def eAppend (i : Nat) (f : EM) : EM := fun Γ => (ownL Γ i).elim .stuck fun _ => (match f Γ with
  | .ok e Γ1 => if e.fz.ok = true then (match settle e.fz Γ1 with
    | some q => (ownL q.2 i).elim .stuck fun p => if p.2.length < sizeLine then .ok (.imm .non) (q.2.set i (.own p.1 (.lst (p.2 ++ [q.1])))) else .stuck
    | none => .stuck) else .stuck
  | .stuck => .stuck)
def ePop (i : Nat) : EM := fun Γ => (ownL Γ i).elim .stuck fun p => match p.2.getLast? with
  | some d => .ok (.imm d) (Γ.set i (.own p.1 (.lst p.2.dropLast)))
  | none => .stuck
def eExtend (i : Nat) (f : EM) : EM := fun Γ => (ownL Γ i).elim .stuck fun _ => (f Γ).bind fun e Γ1 => match eGet Γ1 e with
  | some (.lst es) => (ownL Γ1 i).elim .stuck fun p => if p.2.length + es.length ≤ sizeLine then .ok (.imm .non) (Γ1.set i (.own p.1 (.lst (p.2 ++ es)))) else .stuck
  | _ => .stuck
theorem elim_inv {α : Type} {o : Option α} {k : α → ERes} {e : EV} {Γ : Gm} (h : o.elim .stuck k = .ok e Γ) : ∃ a, o = some a ∧ k a = .ok e Γ := by
  cases o with
  | none => cases h
  | some a => exact ⟨a, rfl, h⟩
section
variable {X : Cx} {x : Str} {p pos apos cpos : Pos} {e o : Expr} {f g : EM} {i : Nat}
theorem name_bor {σ : L2.St} {H : Hp} {Q : VK} {W : Wd} {F : Hp} {ρ : Nat → Option Addr} {Γ : Gm} {b : Bool} {d : D} (eK : W.K = X.K) (S : Sim W F H ρ σ Γ) (hs : Γ[i]? = some (.own b d)) (k : ∀ a F1 H1, Same F F1 → Sim W F1 H1 ρ σ Γ → ρ i = some a → Q (.ref a) H1) : tE X.K (eName i) σ H Q :=
  ⟨W, F, ρ, Γ, eK, S, .bor i, Γ, by unfold eName; rw [hs], rfl, fun v F' H' hs' S' r => by
    unfold RpE at r
    obtain ⟨a, ea, rfl⟩ := r
    exact k a F' H' hs' S' ea⟩
theorem de_append (ho : DE X (.Name x p) (eName i)) (he : DE X e f)
    (hbase : attributeBase (.Name x p) "append" X.env (eval (.Name x p) X.env) = eval (.Name x p) X.env := by rfl)
    (hfew : ((backTo cpos (starEach (e :: []) X.env)).all (fun x => !x.1) && (backToKw cpos (keywordEach [] X.env)).all (fun x => x.1.isSome)
      && decide ((e :: []).length + ([] : List Keyword).length + (if ([] : List Keyword).isEmpty then 0 else 1) < 30)) = true := by rfl)
    (hline : (apos.endLine == cpos.line) = true := by rfl) (hs : starEach (e :: []) X.env = (false, eval e X.env) :: starEach [] X.env := by rfl) (hplain : (backTo cpos (starEach [] X.env)).any (·.1) = false := by rfl) :
    DE X (.Call (.Attribute (.Name x p) "append" apos) [e] [] cpos) (eAppend i f) :=
  pe_imp (pe_bm PySem.F.plainAttrs_list PySem.F.slot_list_append PySem.F.type_list_append mt_append ho (pa_cons he pa_nil hs) hbase hfew hline hs hplain) fun σ H Q ⟨W, F, ρ, Γ, eK, S, e, Γ', ef, ok, q⟩ => by
    unfold eAppend at ef
    obtain ⟨p0, hp0, ef⟩ := elim_inv ef
    have h0 := ownL_inv hp0
    refine name_bor eK S h0 fun a F0 H0 k0 S0 ea => ?_
    obtain ⟨vs0, hv0, _⟩ := S0.ownl h0 ea
    refine ⟨.inl ⟨rfl, vs0, .inl (.inl hv0)⟩, ?_⟩
    cases hf : f Γ with
    | stuck => rw [hf] at ef; cases ef
    | ok e1 Γ1 =>
      rw [hf] at ef
      dsimp only at ef
      split at ef
      · rename_i ok1
        split at ef
        · rename_i qq hq
          obtain ⟨dd, Γ2⟩ := qq
          obtain ⟨p1, hp1, ef⟩ := elim_inv ef
          have h1 := ownL_inv hp1
          split at ef
          · rename_i hl
            cases ef
            refine tE_then eK S0 hf ok1 fun v F1 H1 k1 S1 r1 => ?_
            obtain ⟨F2, k2, S2, r2⟩ := settle_ok _ _ _ _ _ _ S1 ok1 r1 hq
            obtain ⟨vs, hv, rv⟩ := S2.ownl h1 ea
            refine ⟨a, vs, v, rfl, rfl, hv, by rw [← rpl_len rv]; exact hl, ?_⟩
            exact q .non F2 _ ((k0.trans k1).trans k2) (S2.write h1 ea ⟨vs ++ [v], upd_same, rpl_append rv (rpl_cons r2 rpl_nil)⟩) (by unfold RpE; exact rp_non)
          · cases ef
        · cases ef
      · cases ef
theorem de_pop (ho : DE X (.Name x p) (eName i)) (hbase : attributeBase (.Name x p) "pop" X.env (eval (.Name x p) X.env) = eval (.Name x p) X.env := by rfl) (hline : (apos.endLine == cpos.line) = true := by rfl) :
    DE X (.Call (.Attribute (.Name x p) "pop" apos) [] [] cpos) (ePop i) :=
  pe_imp (pe_bm0 PySem.F.plainAttrs_list PySem.F.slot_list_pop PySem.F.type_list_pop mt_pop ho hbase hline) fun σ H Q ⟨W, F, ρ, Γ, eK, S, e, Γ', ef, ok, q⟩ => by
    unfold ePop at ef
    obtain ⟨p0, hp0, ef⟩ := elim_inv ef
    have h0 := ownL_inv hp0
    split at ef
    · rename_i d hd
      cases ef
      refine name_bor eK S h0 fun a F0 H0 k0 S0 ea => ?_
      obtain ⟨vs, hv, rv⟩ := S0.ownl h0 ea
      rw [List.getLast?_eq_getElem?] at hd
      obtain ⟨y, hy, ry⟩ := rpl_get rv hd
      rw [rpl_len rv] at hy
      refine ⟨.inl ⟨rfl, vs, .inl (.inl hv)⟩, a, vs, y, rfl, rfl, hv, hy, ?_⟩
      exact q y F0 _ k0 (S0.write h0 ea ⟨vs.dropLast, upd_same, rpl_dropLast rv⟩) (by unfold RpE; exact ry)
    · cases ef
theorem de_extend (ho : DE X (.Name x p) (eName i)) (he : DE X e f)
    (hbase : attributeBase (.Name x p) "extend" X.env (eval (.Name x p) X.env) = eval (.Name x p) X.env := by rfl)
    (hfew : ((backTo cpos (starEach (e :: []) X.env)).all (fun x => !x.1) && (backToKw cpos (keywordEach [] X.env)).all (fun x => x.1.isSome)
      && decide ((e :: []).length + ([] : List Keyword).length + (if ([] : List Keyword).isEmpty then 0 else 1) < 30)) = true := by rfl)
    (hline : (apos.endLine == cpos.line) = true := by rfl) (hs : starEach (e :: []) X.env = (false, eval e X.env) :: starEach [] X.env := by rfl) (hplain : (backTo cpos (starEach [] X.env)).any (·.1) = false := by rfl) :
    DE X (.Call (.Attribute (.Name x p) "extend" apos) [e] [] cpos) (eExtend i f) :=
  pe_imp (pe_bm PySem.F.plainAttrs_list PySem.F.slot_list_extend PySem.F.type_list_extend mt_extend ho (pa_cons he pa_nil hs) hbase hfew hline hs hplain) fun σ H Q ⟨W, F, ρ, Γ, eK, S, e, Γ', ef, ok, q⟩ => by
    unfold eExtend at ef
    obtain ⟨p0, hp0, ef⟩ := elim_inv ef
    have h0 := ownL_inv hp0
    refine name_bor eK S h0 fun a F0 H0 k0 S0 ea => ?_
    obtain ⟨vs0, hv0, _⟩ := S0.ownl h0 ea
    refine ⟨.inl ⟨rfl, vs0, .inl (.inl hv0)⟩, ?_⟩
    obtain ⟨e1, Γ1, hf, ef⟩ := bind_inv ef
    split at ef
    · rename_i es hg
      obtain ⟨p1, hp1, ef⟩ := elim_inv ef
      have h1 := ownL_inv hp1
      split at ef
      · rename_i hl
        cases ef
        refine tE_then eK S0 hf (ok_get hg) fun v F1 H1 k1 S1 r1 => ?_
        obtain ⟨b, ws, rfl, hb, rb⟩ := rd_lst (rd_get S1 r1 hg)
        obtain ⟨vs, hv, rv⟩ := S1.ownl h1 ea
        refine ⟨a, b, vs, ws, rfl, rfl, hv, hb, by rw [← rpl_len rv, ← rpl_len rb]; exact hl, ?_⟩
        exact q .non F1 _ (k0.trans k1) (S1.write h1 ea ⟨vs ++ ws, upd_same, rpl_append rv rb⟩) (by unfold RpE; exact rp_non)
      · cases ef
    · cases ef
/-! ### xs[i] = e -/
def sIx (i : Nat) (ix f : EM) : SM := fun Γ => (f Γ).go fun e Γ1 => if e.fz.ok = true then SRes.ofS (settle e.fz Γ1) (fun d Γ2 => (ownL Γ2 i).elim .stuck fun _ => (ix Γ2).go fun e2 Γ3 => match isI e2.fz, ownL Γ3 i with
  | some k, some p => match ixN p.2.length k with
    | some n => .nx (Γ3.set i (.own p.1 (.lst (p.2.set n d))))
    | none => .stuck
  | _, _ => .stuck) else .stuck
theorem selim_inv {α : Type} {W : Wd} {F : Hp} {D' : Ends} {o : Option α} {k : α → SRes} (h : SGo W F D' (o.elim .stuck k)) : ∃ a, o = some a ∧ SGo W F D' (k a) := by
  cases o with
  | none => exact False.elim h
  | some a => exact ⟨a, rfl, h⟩
theorem ds_ix {ie : Expr} {ix : EM} {spos : Pos} (he : DE X e f) (ho : DE X (.Name x p) (eName i)) (hi : DE X ie ix)
    (ha : ∀ v, assign (.Subscript (.Name x p) ie pos) X.env v = (do
      let ov ← holding [v] (eval (.Name x p) X.env)
      let iv ← holding [v, ov] (eval ie X.env)
      standAt pos
      holding [v, ov, iv] (setItem ov iv v)
      release [v, ov, iv] []) := by intro _; rfl)
    (hs : swapsWithSole [.Subscript (.Name x p) ie pos] e spos.line X.env = pure false := by rfl) (hw : swappedStores [.Subscript (.Name x p) ie pos] e X.env = pure none := by rfl)
    (h1 : (assignEach [.Subscript (.Name x p) ie pos] X.env).map (·.2) = [assign (.Subscript (.Name x p) ie pos) X.env] := by rfl) :
    DS X (.Assign [.Subscript (.Name x p) ie pos] e spos) (sIx i ix f) :=
  ps_imp (ps_asg he (pg_sub ho hi set_list ha) hs hw h1) fun D' σ H ⟨W, F, ρ, Γ, eK, S, h⟩ => by
    obtain ⟨e1, Γ1, ef, h⟩ := go_inv h
    obtain ⟨ok, h⟩ := ifok_inv h
    obtain ⟨d, Γ2, hd, h⟩ := ofS_inv h
    obtain ⟨p0, hp0, h⟩ := selim_inv h
    have h0 := ownL_inv hp0
    obtain ⟨e2, Γ3, ei, h⟩ := go_inv h
    refine tE_then eK S ef ok fun v F1 H1 k1 S1 r1 => ?_
    obtain ⟨F2, k2, S2, r2⟩ := settle_ok _ _ _ _ _ _ S1 ok r1 hd
    refine name_bor eK S2 h0 fun a F3 H3 k3 S3 ea => ?_
    split at h
    · rename_i k pp hk hpp
      split at h
      · rename_i n hn
        have hk' := isI_inv hk
        refine tE_then eK S3 ei (by rw [hk']; rfl) fun vi F4 H4 k4 S4 r4 => ?_
        rw [hk'] at r4
        unfold RpE at r4
        have h3 := ownL_inv hpp
        obtain ⟨vs, hv, rv⟩ := S4.ownl h3 ea
        refine ⟨a, vs, k, n, rfl, rd_int (F := F4) (H := H4) (rd_of r4 S4.sub), hv, by rw [← rpl_len rv]; exact hn, ?_⟩
        exact h F4 _ ρ _ (((k1.trans k2).trans k3).trans k4) (S4.write h3 ea ⟨vs.set n v, upd_same, rpl_set (Rp.mono (k3.trans k4) _ _ r2) n rv⟩)
      · exact False.elim h
    · exact False.elim h
/-! ### xs[i] += e, whole numbers -/
theorem get_list : PGet X (rIxL X.K) := by
  intro pins s σ H o i ov iv Q I ro ri h
  obtain ⟨p, xs, k, z, rfl, rfl, hq, he, q⟩ := h
  cases ro
  obtain ⟨t, rfl⟩ := ri
  obtain ⟨its, r, pl, hz⟩ := I.list hq
  obtain ⟨j, h1, h2, h3, h4, h5⟩ := atI_get he
  obtain ⟨w, ew, rw'⟩ := r.get h2
  have hl := r.length
  have hn := line63
  have fin : EP X pins σ Q w s := ⟨z, H, I, rw', q⟩
  by_cases h0 : 0 ≤ k
  · have hj : k.toNat = j := by
      rw [seqIndex_of h0 h5] at h1
      exact Option.some.inj h1
    exact wpAny_getItem_list pl.isList h0 (by omega) (by rw [hj]; simpa using ew) fin
  · have hj : (k + (its.toArray.size : Int)).toNat = j := by
      rw [seqIndex_neg (by omega) h4] at h1
      rw [List.size_toArray, ← hl]
      exact Option.some.inj h1
    exact wpAny_getItem_list_neg pl.isList (by omega) (by rw [List.size_toArray] <;> omega) (by omega) (by rw [hj]; simpa using ew) fin
def asInt (o : Option D) : Option Int := match o with
  | some (.int i) => some i
  | _ => none
/-- xs[i] op= e of ints: F is the operator -/
def sAugIx (i : Nat) (ix f : EM) (op : Int → Int → Int) : SM := fun Γ => (ownL Γ i).elim .stuck fun _ => (ix Γ).go fun e1 Γ1 => match isI e1.fz, ownL Γ1 i with
  | some k, some p0 => match asInt (atI p0.2 k) with
    | some x => (f Γ1).go fun e2 Γ2 => match isI e2.fz, ownL Γ2 i with
      | some y, some p => match ixN p.2.length k with
        | some n => .nx (Γ2.set i (.own p.1 (.lst (p.2.set n (.int (op x y))))))
        | none => .stuck
      | _, _ => .stuck
    | none => .stuck
  | _, _ => .stuck
theorem ds_augIx {ie : Expr} {ix : EM} {spos : Pos} {op : Operator} {F0 : Int → Int → Int} (hop : OpR X (inplaceOp op) (rI0 fun i j => .int (F0 i j))) (ho : DE X (.Name x p) (eName i)) (hi : DE X ie ix) (he : DE X e f)
    (ha : ∀ ov iv new, augStore ie ov iv new = (do holding [new, ov, iv] (setItem ov iv new); release [new, ov, iv] []; pure .next) := by intros; rfl) :
    DS X (.AugAssign (.Subscript (.Name x p) ie pos) op e spos) (sAugIx i ix f F0) :=
  ps_imp (ps_augS ho hi get_list he hop set_list ha) fun D' σ H ⟨W, F, ρ, Γ, eK, S, h⟩ => by
    obtain ⟨p0, hp0, h⟩ := selim_inv h
    have h0 := ownL_inv hp0
    obtain ⟨e1, Γ1, ei, h⟩ := go_inv h
    refine name_bor eK S h0 fun a F1 H1 k1 S1 ea => ?_
    split at h
    · rename_i k pp hk hpp
      split at h
      · rename_i xv hx
        obtain ⟨e2, Γ2, ef, h⟩ := go_inv h
        have hk' := isI_inv hk
        refine tE_then eK S1 ei (by rw [hk']; rfl) fun vi F2 H2 k2 S2 r2 => ?_
        rw [hk'] at r2
        unfold RpE at r2
        have ev : vi = .int k := rd_int (F := F2) (H := H2) (rd_of r2 S2.sub)
        subst ev
        have h1 := ownL_inv hpp
        obtain ⟨vs, hv, rv⟩ := S2.ownl h1 ea
        have hxd : atI pp.2 k = some (.int xv) := by
          unfold asInt at hx
          split at hx
          · rename_i i' hi'; cases hx; exact hi'
          · cases hx
        obtain ⟨w, hw, rw'⟩ := atI_rp rv hxd
        rw [rd_int (F := F2) (H := H2) (rd_of rw' S2.sub)] at hw
        refine ⟨a, vs, k, .int xv, rfl, rfl, .inl (.inl hv), hw, ?_⟩
        split at h
        · rename_i y pq hy hpq
          split at h
          · rename_i n hn
            have hy' := isI_inv hy
            refine tE_then eK S2 ef (by rw [hy']; rfl) fun vy F3 H3 k3 S3 r3 => ?_
            rw [hy'] at r3
            unfold RpE at r3
            have h2 := ownL_inv hpq
            obtain ⟨vs2, hv2, rv2⟩ := S3.ownl h2 ea
            refine ⟨xv, y, rfl, rd_int (F := F3) (H := H3) (rd_of r3 S3.sub), ?_⟩
            refine ⟨a, vs2, k, n, rfl, rfl, hv2, by rw [← rpl_len rv2]; exact hn, ?_⟩
            exact h F3 _ ρ _ ((k1.trans k2).trans k3) (S3.write h2 ea ⟨vs2.set n (.int (F0 xv y)), upd_same, rpl_set rp_int n rv2⟩)
          · exact False.elim h
        · exact False.elim h
      · exact False.elim h
    · exact False.elim h
/-! ### x += e -/
def oIadd : O2
  | .int i, .int j => some (.imm (.int (i + j)))
  | .str s, .str t => if s.length + t.length ≤ sizeLine then some (.imm (.str (s ++ t))) else none
  | _, _ => none
def rIadd : R2 := fun x y H Q => rI0 (fun i j => .int (i + j)) x y H Q ∨ rAddS x y H Q
theorem op_iadd : OpR X (inplaceOp .Add) rIadd := OpR.or iop_add in_addS
theorem od_iadd : OpD X rIadd oIadd := by
  intro W F H ρ σ Γ d1 d2 v1 v2 e Q eK S r1 r2 h w
  unfold oIadd at h
  split at h
  · cases h
    rw [rd_int r1, rd_int r2]
    exact .inl ⟨_, _, rfl, rfl, w.here S rp_int⟩
  · obtain ⟨hl, rfl⟩ := if_inv h
    obtain ⟨rfl, o1⟩ := rd_str r1
    obtain ⟨rfl, o2⟩ := rd_str r2
    refine .inr ⟨_, _, rfl, rfl, by rw [mkS_len, mkS_len]; exact hl, ?_⟩
    rw [mkS_app]
    exact w.here S (rp_str (okS_app o1 o2 hl))
  · cases h
def sAug (i : Nat) (op : O2) (f : EM) : SM := fun Γ => match Γ[i]? with
  | some (.val d0) => (f Γ).go fun e Γ1 => match (eGet Γ1 e.fz).bind (op d0) with
    | some (.imm d) => setv i d Γ1
    | _ => .stuck
  | _ => .stuck
theorem ds_aug {op : Operator} {r : R2} {o2 : O2} (hop : OpR X (inplaceOp op) r) (hd : OpD X r o2) (hN : X.N.Nodup) (he : DE X e f) (hi : X.N[i]? = some x := by rfl) (hx : Loc X.env.scope x := by first | exact Or.inl rfl | exact Or.inr rfl) (hf : X.fn x = true ∨ X.env.scope.names.lookup x = some .local := by first | exact .inl rfl | exact .inr rfl) :
    DS X (.AugAssign (.Name x p) op e pos) (sAug i o2 f) :=
  ps_imp (ps_aug hN hi hx he hop hf) fun D' σ H ⟨W, F, ρ, Γ, eK, S, h⟩ => by
    unfold sAug at h
    split at h
    · rename_i d0 hs
      obtain ⟨e1, Γ1, ef, h⟩ := go_inv h
      obtain ⟨v0, x1, x2, _⟩ := S.slot i _ hs
      refine ⟨v0, x1, ?_⟩
      split at h
      · rename_i dd hb
        obtain ⟨d2, g2, hb⟩ := obind_inv hb
        obtain ⟨hl, h⟩ := setv_inv h
        refine tE_then eK S ef (ok_get g2) fun v F1 H1 k1 S1 r1 => ?_
        refine hd W F1 H1 ρ σ Γ1 d0 d2 v0 v (.imm dd) _ eK S1 (rd_of (Rp.mono k1 _ _ x2) S1.sub) (rd_get S1 r1 g2) hb fun v' F' H' k' S' r' => ?_
        unfold RpE at r'
        exact h F' H' _ _ (k1.trans k') (S'.setVal hl r')
      · exact False.elim h
    · exact False.elim h
/-! ### a, b = x, y -/
def prep (own : Bool) (e : EV) (Γ : Gm) : Option (Sl × Gm) := if own = true then match e with
    | .fr d => some (.own false d, Γ)
    | _ => none
  else if e.fz.ok = true then (settle e.fz Γ).map fun p => (.val p.1, p.2) else none
def sPar (i : Nat) (oi : Bool) (f : EM) (j : Nat) (oj : Bool) (g : EM) : SM := fun Γ => (f Γ).go fun e1 Γ1 => if (if oi = true then true else e1.fz.ok) = true then (g Γ1).go fun e2 Γ2 => match prep oi (if oi = true then e1 else e1.fz) Γ2 with
  | some q1 => match prep oj e2 q1.2 with
    | some q2 => if isIo q2.2[i]? = true ∨ isIo q2.2[j]? = true ∨ i = j then .stuck else .nx ((q2.2.set i q1.1).set j q2.1)
    | none => .stuck
  | none => .stuck
  else .stuck
/-- a slot's new content at hand: what is known of the value -/
def Held (W : Wd) (F H : Hp) (ρ : Nat → Option Addr) (v : V) : Sl → Prop
  | .val d => Rp W.K F d v
  | .own false d => ∃ a, v = .ref a ∧ OwnAt W.K F H a d ∧ New W F H ρ a
  | _ => False
theorem Held.set {W : Wd} {F H : Hp} {ρ : Nat → Option Addr} {σ : L2.St} {Γ : Gm} {v : V} {s : Sl} (S : Sim W F H ρ σ Γ) (hi : i < Γ.length) (h : Held W F H ρ v s) : ∃ ρ', Sim W F H ρ' (σ.set i (some v)) (Γ.set i s) ∧ ∀ j a, ρ' j = some a → ρ j = some a ∨ v = .ref a ∧ ∃ d, s = .own false d := by
  cases s with
  | nst b ds => cases b <;> exact h.elim
  | un => exact h.elim
  | val d => exact ⟨_, S.setVal hi h, fun j a e => .inl (unset_le e).2⟩
  | own b d =>
    cases b with
    | true => exact h.elim
    | false =>
      obtain ⟨a, rfl, o, N⟩ := h
      refine ⟨_, S.setOwn hi o N, fun j b e => ?_⟩
      by_cases hj : j = i
      · simp only [hj, if_true] at e
        cases e
        exact .inr ⟨rfl, d, rfl⟩
      · simp only [hj, if_false] at e
        exact .inl e
mutual
theorem rpe_pin {W : Wd} {F H : Hp} {ρ : Nat → Option Addr} {c : Addr} {u : HO} : ∀ (e : EV) (v : V), e.ok = true → RpE W F H ρ e v → RpE (W.pin c u) F H ρ e v
  | .imm d, v, _, q => by unfold RpE at q ⊢; exact q
  | .fr _, _, k, _ => by simp [EV.ok] at k
  | .bor i, v, _, q => by unfold RpE at q ⊢; exact q
  | .inn i k, v, _, q => by unfold RpE at q ⊢; exact q
  | .tl es, v, k, q => by
    unfold RpE at q ⊢
    unfold EV.ok at k
    obtain ⟨a, vs, e, x, r⟩ := q
    exact ⟨a, vs, e, x, rpes_pin es vs k r⟩
  | .tt es, v, k, q => by
    unfold RpE at q ⊢
    unfold EV.ok at k
    obtain ⟨a, vs, e, x, r⟩ := q
    exact ⟨a, vs, e, x, rpes_pin es vs k r⟩
theorem rpes_pin {W : Wd} {F H : Hp} {ρ : Nat → Option Addr} {c : Addr} {u : HO} : ∀ (es : List EV) (vs : List V), EV.oks es = true → RpEs W F H ρ es vs → RpEs (W.pin c u) F H ρ es vs
  | [], _, _, q => by unfold RpEs at q ⊢; exact q
  | e :: es, vs, k, q => by
    unfold RpEs at q ⊢
    unfold EV.oks at k
    rw [Bool.and_eq_true] at k
    obtain ⟨v, r, x, a, b⟩ := q
    exact ⟨v, r, x, rpe_pin e v k.1 a, rpes_pin es r k.2 b⟩
end
theorem prep_ok {W : Wd} {F H : Hp} {ρ : Nat → Option Addr} {σ : L2.St} {Γ Γ' : Gm} {e : EV} {v : V} {b : Bool} {s : Sl} (S : Sim W F H ρ σ Γ) (r : RpE W F H ρ e v) (h : prep b e Γ = some (s, Γ')) : ∃ F', Same F F' ∧ Sim W F' H ρ σ Γ' ∧ Held W F' H ρ v s := by
  unfold prep at h
  cases b with
  | true =>
    rw [if_pos rfl] at h
    cases e with
    | fr d =>
      cases h
      unfold RpE at r
      exact ⟨F, Same.refl F, S, r⟩
    | _ => cases h
  | false =>
    rw [if_neg Bool.false_ne_true] at h
    split at h
    · rename_i ok
      obtain ⟨p, hp, e1⟩ := omap_inv h
      cases e1
      refine cont_fz (Same.refl F) S r fun F1 k1 S1 r1 => ?_
      obtain ⟨F2, k2, S2, r2⟩ := settle_ok _ _ _ _ _ _ S1 ok r1 hp
      exact ⟨F2, k1.trans k2, S2, r2⟩
    · cases h
theorem ds_par {j : Nat} {x y : Str} {a b : Expr} {px py pt : Pos} {kt k2 pt2} {oi oj : Bool} (hc : X.calm = true) (hN : X.N.Nodup) (ha : DE X a f) (hb : DE X b g)
    (hx : X.env.scope.names.lookup x = some .local) (hy : X.env.scope.names.lookup y = some .local) (hij : i ≠ j)
    (hw : swappedStores [.Tuple [.Name x px, .Name y py] kt pt] (.Tuple [a, b] k2 pt2) X.env = pure (some [x, y])) (hi : X.N[i]? = some x := by rfl) (hj : X.N[j]? = some y := by rfl)
    (hs : swapsWithSole [.Tuple [.Name x px, .Name y py] kt pt] (.Tuple [a, b] k2 pt2) pos.line X.env = pure false := by rfl)
    (he1 : starEach [a, b] X.env = (false, eval a X.env) :: starEach [b] X.env := by rfl) (he2 : starEach [b] X.env = (false, eval b X.env) :: starEach [] X.env := by rfl) :
    DS X (.Assign [.Tuple [.Name x px, .Name y py] kt pt] (.Tuple [a, b] k2 pt2) pos) (sPar i oi f j oj g) :=
  ps_imp (ps_par hc hN hi hj hij hx hy (pa_cons ha (pa_cons hb pa_nil he2) he1) hw hs) fun D' σ H ⟨W, F, ρ, Γ, eK, S, h⟩ => by
    obtain ⟨e1, Γ1, ef, h⟩ := go_inv h
    obtain ⟨ok1, h⟩ := ifok_inv h
    obtain ⟨e2, Γ2, eg, h⟩ := go_inv h
    split at h
    · rename_i q1 hq1
      split at h
      · rename_i q2 hq2
        obtain ⟨s1, Γ3⟩ := q1
        obtain ⟨s2, Γ4⟩ := q2
        split at h
        · exact False.elim h
        · rename_i hio
          rw [not_or, not_or] at hio
          have hl1 := isIo_lt hio.1
          have hl2 := isIo_lt hio.2.1
          -- the end, from what is held of both
          have fin : ∀ (v w : V) (F4 H4 : Hp), Same F F4 → Sim W F4 H4 ρ σ Γ4 → Held W F4 H4 ρ v s1 → Held W F4 H4 ρ w s2 → (∀ c, (∃ d, s1 = .own false d) → (∃ d, s2 = .own false d) → v = .ref c → w ≠ .ref c) → D'.nx ((σ.set i (some v)).set j (some w)) H4 := fun v w F4 H4 k S4 h1 h2 hne => by
            obtain ⟨ρ1, S5, hρ⟩ := Held.set S4 hl1 h1
            have h2' : Held W F4 H4 ρ1 w s2 := by
              cases s2 with
              | nst bb ds => cases bb <;> exact h2.elim
              | un => exact h2
              | val d => exact h2
              | own bb d =>
                cases bb with
                | true => exact h2
                | false =>
                  obtain ⟨c, rfl, o, N⟩ := h2
                  refine ⟨c, rfl, o, N.f, N.b, N.np, fun l e => ?_, N.n⟩
                  rcases hρ l c e with z | ⟨z, z2⟩
                  · exact N.r l z
                  · exact hne c z2 ⟨d, rfl⟩ z rfl
            obtain ⟨ρ2, S6, _⟩ := Held.set (i := j) S5 (by rw [List.length_set]; exact hl2) h2'
            exact h F4 H4 ρ2 _ k S6
          cases oi with
          | false =>
            rw [if_neg Bool.false_ne_true] at hq1 ok1
            refine tE_then eK S ef ok1 fun v F1 H1 k1 S1 r1 => ?_
            have okg : (if oj = true then true else e2.fz.ok) = true := by
              unfold prep at hq2
              cases oj with
              | true => rfl
              | false =>
                rw [if_neg Bool.false_ne_true] at hq2 ⊢
                split at hq2
                · assumption
                · cases hq2
            have ok2 : e2.fz.ok = true := by
              cases oj with
              | false => exact okg
              | true =>
                unfold prep at hq2
                rw [if_pos rfl] at hq2
                cases e2 with
                | fr d => rfl
                | _ => cases hq2
            refine tE_any eK S1 eg ok2 fun w F2 H2 k2 S2 r2 => ?_
            refine ⟨v, w, rfl, ?_⟩
            cases oj with
            | false =>
              obtain ⟨F3, k3, S3, h1⟩ := prep_ok S2 (RpE.mono k2 _ _ ok1 r1) hq1
              refine cont_fz (Same.refl F2) S2 r2 fun F2' k2' S2' r2' => ?_
              obtain ⟨F3, k3, S3, h1⟩ := prep_ok S2' (RpE.mono (k2.trans k2') _ _ ok1 r1) hq1
              have hq2' : prep false e2.fz Γ3 = some (s2, Γ4) := by
                unfold prep at hq2 ⊢
                have : e2.fz.fz = e2.fz := by cases e2 <;> rfl
                rw [this]
                exact hq2
              obtain ⟨F4, k4, S4, h2⟩ := prep_ok S3 (RpE.mono k3 _ _ ok2 r2') hq2'
              have h1' : Held W F4 H2 ρ v s1 := by
                cases s1 with
                | nst bb ds => cases bb <;> exact h1.elim
                | val d => exact Rp.mono k4 _ _ h1
                | un => exact h1
                | own bb d =>
                  unfold prep at hq1
                  rw [if_neg Bool.false_ne_true] at hq1
                  split at hq1
                  · obtain ⟨p, _, e1⟩ := omap_inv hq1; cases e1
                  · cases hq1
              refine fin v w F4 H2 ((((k1.trans k2).trans k2').trans k3).trans k4) S4 h1' h2 fun c z1 _ _ => ?_
              obtain ⟨d, z1⟩ := z1
              subst z1
              unfold prep at hq1
              rw [if_neg Bool.false_ne_true] at hq1
              split at hq1
              · obtain ⟨p, _, e1⟩ := omap_inv hq1; cases e1
              · cases hq1
            | true =>
              unfold prep at hq2
              rw [if_pos rfl] at hq2
              cases e2 with
              | fr d =>
                cases hq2
                unfold RpE at r2
                obtain ⟨c, rfl, o, N⟩ := r2
                obtain ⟨u, hu, _⟩ := own_ho o
                have S2' := S2.hold hu N (o.nt hu)
                obtain ⟨F3, k3, S3, h1⟩ := prep_ok (W := W.pin c u) S2' (RpE.mono (W := W.pin c u) (F := F1) (H := H1) k2 _ _ ok1 (by
                  have : RpE W F1 H1 ρ e1.fz v := r1
                  exact rpe_pin _ _ ok1 this)) hq1
                obtain ⟨S4, u1, u2, u3⟩ := S3.unhold
                have hs1 : ∃ d, s1 = .val d := by
                  unfold prep at hq1
                  rw [if_neg Bool.false_ne_true] at hq1
                  split at hq1
                  · obtain ⟨p, _, e1⟩ := omap_inv hq1; cases e1; exact ⟨_, rfl⟩
                  · cases hq1
                obtain ⟨d1, rfl⟩ := hs1
                have h1' : Held W F3 H2 ρ v (.val d1) := h1
                refine fin v _ F3 H2 ((k1.trans k2).trans k3) S4 h1' ⟨c, rfl, o.mono k3 fun _ z => z, u2, N.b, N.np, N.r, N.n⟩ fun c' z1 _ _ => ?_
                obtain ⟨d, z1⟩ := z1
                cases z1
              | _ => cases hq2
          | true =>
            rw [if_pos rfl] at hq1
            unfold prep at hq1
            rw [if_pos rfl] at hq1
            cases e1 with
            | fr d1 =>
              cases hq1
              refine tE_any eK S ef rfl fun v F1 H1 k1 S1 r1 => ?_
              unfold RpE at r1
              obtain ⟨c, rfl, o, N⟩ := r1
              obtain ⟨u, hu, _⟩ := own_ho o
              have S1' := S1.hold hu N (o.nt hu)
              have ok2 : e2.fz.ok = true := by
                unfold prep at hq2
                cases oj with
                | false =>
                  rw [if_neg Bool.false_ne_true] at hq2
                  split at hq2
                  · assumption
                  · cases hq2
                | true =>
                  rw [if_pos rfl] at hq2
                  cases e2 with
                  | fr d => rfl
                  | _ => cases hq2
              refine tE_any (W := W.pin c u) eK S1' eg ok2 fun w F2 H2 k2 S2 r2 => ?_
              refine ⟨.ref c, w, rfl, ?_⟩
              obtain ⟨F3, k3, S3, h2⟩ := prep_ok (W := W.pin c u) S2 r2 hq2
              obtain ⟨S4, u1, u2, u3⟩ := S3.unhold
              have o3 : OwnAt W.K F3 H2 c d1 := o.mono (k2.trans k3) fun z e => by rw [hu] at e; cases e; exact u1
              refine fin (.ref c) w F3 H2 ((k1.trans k2).trans k3) S4 ⟨c, rfl, o3, u2, N.b, N.np, u3, N.n⟩ ?_ fun c' _ z2 ec => ?_
              · cases s2 with
                | nst bb ds => cases bb <;> exact h2.elim
                | un => exact h2
                | val d => exact h2
                | own bb d =>
                  cases bb with
                  | true => exact h2
                  | false =>
                    obtain ⟨c2, e2', o2, N2⟩ := h2
                    exact ⟨c2, e2', o2, N2.f, N2.b, N2.np, N2.r, fun q hq => N2.n q (List.mem_cons_of_mem _ hq)⟩
              · cases ec
                obtain ⟨d2, rfl⟩ := z2
                obtain ⟨c2, e2', o2, N2⟩ := h2
                intro ew
                rw [e2'] at ew
                cases ew
                exact N2.n (c, u) List.mem_cons_self rfl
            | _ => cases hq1
      · exact False.elim h
    · exact False.elim h
end
end DL

namespace DL
open PySem PySem.Spec PyProof.Rows L2
/-! ## A def that may be called -/
structure Df (P : Program) (w : World) (K : PySem.W.Frag) (mg : Str → Option Value) (base : Heap) (k : Nat) (x : Str) (st : Stmt) (ps : List Str) (ms : List Bool) (fn : FS) : Prop where
  ex : ∃ (f : Addr) (fd : FuncData), FnOk P w K mg base CX0 k f fd ps (spD K ms fn) ∧ mg x = some (.ref f) ∧ Fun K x x st f fd ∧ Binds K fd ps []
  len : ∀ ds, fn ds ≠ .stuck → ds.length = ms.length
/-- how a def's positional and named arguments come to its parameters -/
def KwOk (x : Str) (st : Stmt) (ps ks : List Str) (π : List Nat) (n m : Nat) : Prop := ∀ (kV doc pm : Value) (an : Option Addr) (cdv ct : Value) (us ws : List Value), us.length = n → ws.length = m →
  bindArgs (PySem.W.fnOf x x (defArgs st) (defBody st) (defScope st) .none kV doc pm an cdv ct) ⟨us, ks.zip ws⟩ = pure (ps.zip (permL π n m us ws))
section
variable {X : Cx} {k : Nat} {st : Stmt} {ps ks : List Str} {x : Str} {p pos : Pos} {e : Expr} {es : List Expr} {kws : List Keyword} {ms : List Bool} {fn : FS} {a b : AM}
theorem Df.kb {P : Program} {w : World} {K : PySem.W.Frag} {f : Addr} {fd : FuncData} {π : List Nat} {n m : Nat} (F : Fun K x x st f fd) (hp : ps.length ≠ 0) (h : KwOk x st ps ks π n m) : KBinds K fd ps ks (permL π n m) (permL π n m) := by
  obtain ⟨oc, od, kV, doc, pm, an, cdv, ct, osl, rfl, lk, hcd⟩ := F.ex
  exact kbinds hp (h kV doc pm an cdv ct)
theorem de_callD (D : Df X.prog X.w X.K X.mg X.base k x st ps ms fn) (hr : Room k X.A) (ha : DA X (e :: es) a)
    (hg : Gl X x := by rfl) (hdb : (x == ("__debug__" : Str)) = false := by decide) (he : starEach (e :: es) X.env = (false, eval e X.env) :: starEach es X.env := by rfl) (hpl : (backTo pos (starEach es X.env)).any (·.1) = false := by rfl) :
    DE X (.Call (.Name x p) (e :: es) [] pos) (eCallOk ms fn a) := by
  obtain ⟨f, fd, F, hm, Fn, hb⟩ := D.ex
  exact de_call F hr hm Fn.kp hb D.len ha hg hdb he hpl
theorem de_callDK {π : List Nat} {n m : Nat} (D : Df X.prog X.w X.K X.mg X.base k x st ps ms fn) (hr : Room k X.A) (hp : ps.length ≠ 0) (h : KwOk x st ps ks π n m) (ha : DA X (e :: es) a) (hkw : DK X kws b)
    (hg : Gl X x := by rfl) (hall : (backToKw pos (keywordEach kws X.env)).all (·.1.isSome) = true := by rfl) (hks : (backToKw pos (keywordEach kws X.env)).filterMap (·.1) = ks := by rfl)
    (hdb : (x == ("__debug__" : Str)) = false := by decide) (he : starEach (e :: es) X.env = (false, eval e X.env) :: starEach es X.env := by rfl)
    (hpl : ((backTo pos (starEach (e :: es) X.env)).any (·.1) || (backToKw pos (keywordEach kws X.env)).any (·.1.isNone)) = false := by rfl) :
    DE X (.Call (.Name x p) (e :: es) kws pos) (eCallOk ms fn (aPerm π n m a b)) := by
  obtain ⟨f, fd, F, hm, Fn, hb⟩ := D.ex
  exact de_callK F hr hm Fn.kp (Df.kb (P := X.prog) (w := X.w) Fn hp h) D.len ha hkw hg hall hks hdb he hpl
theorem de_callDK0 {π : List Nat} {m : Nat} (D : Df X.prog X.w X.K X.mg X.base k x st ps ms fn) (hr : Room k X.A) (hp : ps.length ≠ 0) (h : KwOk x st ps ks π 0 m) (hkw : DK X kws b)
    (hg : Gl X x := by rfl) (hall : (backToKw pos (keywordEach kws X.env)).all (·.1.isSome) = true := by rfl) (hks : (backToKw pos (keywordEach kws X.env)).filterMap (·.1) = ks := by rfl)
    (hdb : (x == ("__debug__" : Str)) = false := by decide) (hpl : ((backTo pos (starEach [] X.env)).any (·.1) || (backToKw pos (keywordEach kws X.env)).any (·.1.isNone)) = false := by rfl) :
    DE X (.Call (.Name x p) [] kws pos) (eCallOk ms fn (aPerm π 0 m aNil b)) := by
  obtain ⟨f, fd, F, hm, Fn, hb⟩ := D.ex
  exact de_callK0 F hr hm Fn.kp (Df.kb (P := X.prog) (w := X.w) Fn hp h) D.len hkw hg hall hks hdb hpl
end
/-! ### y = [.. for ..] -/
section
variable {X : Cx} {elt tg iter : Expr} {ifs : List Expr} {scope : Scope} {own : List (Str × Nat)} {pos spos : Pos} {it : IM} {t : Tg} {c : Option EM} {f : EM}
theorem ds_setLc {i : Nat} {y : Str} {py : Pos} (hc : X.calm = true) (hN : X.N.Nodup) (ok : BlkOk X.N X.env.scope scope own) (hi : DI X tg iter it)
    (hg : ∀ (s : Shared) (H : Hp) (C : Addr) (cl : List (Str × Addr)) (fp : List Addr), DG (X.blk s H scope (compEnvC scope cl C X.env) fp) tg t) (ht : ∀ (s : Shared) (H : Hp) (C : Addr) (cl : List (Str × Addr)) (fp : List Addr), DTs (X.blk s H scope (compEnvC scope cl C X.env) fp) ifs c)
    (he : ∀ (s : Shared) (H : Hp) (C : Addr) (cl : List (Str × Addr)) (fp : List Addr), DE (X.blk s H scope (compEnvC scope cl C X.env) fp) elt f)
    (ha : (scope.names.any fun (n, k) => n == y && (k == .local || k == .cell)) = false) (hk : X.env.scope.kind = .function := by rfl)
    (hy : X.N[i]? = some y := by rfl) (hyl : X.env.scope.names.lookup y = some .local := by rfl) (hl : (py.line == pos.line) = true := by rfl) (hs : ∀ x, foldedSetIterable iter X.env x = pure x := by intro _; rfl) (hps : spos.line = pos.line := by rfl) :
    DS X (.Assign [.Name y py] (.ListComp elt [⟨tg, iter, ifs, 0⟩] scope pos) spos) (sSetOk i (eLc (own.map (·.2)) it t c f)) :=
  set_core (set_lc hc hN hy hyl (sw_true hk hyl hl ha) ok hi hg ht he hs) fun _ _ _ h => lc_read h
theorem ds_ownLc {i : Nat} {y : Str} {py : Pos} (hc : X.calm = true) (hN : X.N.Nodup) (ok : BlkOk X.N X.env.scope scope own) (hi : DI X tg iter it)
    (hg : ∀ (s : Shared) (H : Hp) (C : Addr) (cl : List (Str × Addr)) (fp : List Addr), DG (X.blk s H scope (compEnvC scope cl C X.env) fp) tg t) (ht : ∀ (s : Shared) (H : Hp) (C : Addr) (cl : List (Str × Addr)) (fp : List Addr), DTs (X.blk s H scope (compEnvC scope cl C X.env) fp) ifs c)
    (he : ∀ (s : Shared) (H : Hp) (C : Addr) (cl : List (Str × Addr)) (fp : List Addr), DE (X.blk s H scope (compEnvC scope cl C X.env) fp) elt f)
    (ha : (scope.names.any fun (n, k) => n == y && (k == .local || k == .cell)) = false) (hk : X.env.scope.kind = .function := by rfl)
    (hy : X.N[i]? = some y := by rfl) (hyl : X.env.scope.names.lookup y = some .local := by rfl) (hl : (py.line == pos.line) = true := by rfl) (hs : ∀ x, foldedSetIterable iter X.env x = pure x := by intro _; rfl) (hps : spos.line = pos.line := by rfl) :
    DS X (.Assign [.Name y py] (.ListComp elt [⟨tg, iter, ifs, 0⟩] scope pos) spos) (sOwnOk i (eLc (own.map (·.2)) it t c f)) :=
  own_core (set_lc hc hN hy hyl (sw_true hk hyl hl ha) ok hi hg ht he hs) fun _ _ _ h => lc_read h
end
theorem Df.of {P : Program} {w : World} {K : PySem.W.Frag} {mg : Str → Option Value} {base : Heap} {k : Nat} {x : Str} {st : Stmt} {f : Addr} {fd : FuncData} {N ps : List Str} {ms : List Bool} {g : SM} (Fn : Fun K x x st f fd) (hm : mg x = some (.ref f)) (hb : Binds K fd ps [])
    (h : FnOk P w K mg base CX0 k f fd ps (spD K ms (runF N.length ms g))) : Df P w K mg base k x st ps ms (runF N.length ms g) := ⟨⟨f, fd, h, hm, Fn, hb⟩, runF_len⟩
theorem hu65 {k : Nat} {A : Around} (hr : Room k A) : A.units + 65 < cLine := by have := hr.un; omega
/-! ### what the module has not: built-in names -/
theorem bt_len : bootBuiltins "len" = some (.builtin "len") := by decide +kernel
theorem bt_all : bootBuiltins "all" = some (.builtin "all") := by decide +kernel
theorem bt_any : bootBuiltins "any" = some (.builtin "any") := by decide +kernel
theorem bt_sum : bootBuiltins "sum" = some (.builtin "sum") := by decide +kernel
theorem bt_abs : bootBuiltins "abs" = some (.builtin "abs") := by decide +kernel
theorem bt_max : bootBuiltins "max" = some (.builtin "max") := by decide +kernel
theorem bt_min : bootBuiltins "min" = some (.builtin "min") := by decide +kernel
theorem bt_sorted : bootBuiltins "sorted" = some (.builtin "sorted") := by decide +kernel
theorem bt_int : bootBuiltins "int" = some (.type "int") := by decide +kernel
theorem bt_bool : bootBuiltins "bool" = some (.type "bool") := by decide +kernel
theorem bt_str : bootBuiltins "str" = some (.type "str") := by decide +kernel
theorem bt_list : bootBuiltins "list" = some (.type "list") := by decide +kernel
theorem bt_tuple : bootBuiltins "tuple" = some (.type "tuple") := by decide +kernel
theorem bt_dict : bootBuiltins "dict" = some (.type "dict") := by decide +kernel
/-! ### comparisons as tests -/
section
variable {X : Cx} {a b c : Expr} {f g h : EM} {pos : Pos}
theorem dt_cmp {op : CmpOp} {r : R2} {o : O2} (ho : OpR X (compareOp op) r) (hd : OpD X r o) (ha : DE X a f) (hb : DE X b g) (hm : behindInMarks op b = false := by with_unfolding_all rfl) : DT X (.Compare a [op] [b] pos) (eBin o f g) :=
  pt_imp (pt_cmpR ho ha hb hm) fun σ H Q ⟨W, F, ρ, Γ, eK, S, e1, b, Γ', ef, hb, q⟩ => bin_core (Q := fun x H' => ∃ k, x = .bl k ∧ Q k H') hd (tE_bool eK S ef hb fun F1 H1 s1 S1 => ⟨b, rfl, q F1 H1 s1 S1⟩)
end
/-! ### the law's own head -/
def spTop (K : PySem.W.Frag) : Sp := fun vs H Q _ => ∃ (a : Addr) (ns : List Int), vs = [.ref a] ∧ SqL K H a (ns.map V.int) ∧ ns.length ≤ 63 ∧ ∀ H', Q (.bl true) H'
theorem rpl_int63 {K : PySem.W.Frag} {F : Hp} : ∀ ns : List Int, RpL K F (ns.map D.int) (ns.map V.int)
  | [] => by unfold RpL; rfl
  | n :: ns => by
    show RpL K F (D.int n :: ns.map D.int) (V.int n :: ns.map V.int)
    exact rpl_cons rp_int (rpl_int63 ns)
theorem top_ok {P : Program} {w : World} {K : PySem.W.Frag} {mg : Str → Option Value} {base : Heap} {k : Nat} {f : Addr} {fd : FuncData} {ps : List Str} {fn : FS} (F : FnOk P w K mg base CX0 k f fd ps (spD K [false] fn))
    (h : ∀ ns : List Int, ns.length ≤ 63 → ∃ ios, fn [.frl (ns.map D.int)] = .ok false (.bl true) ios) : FnOk P w K mg base CX0 k f fd ps (spTop K) :=
  F.imp fun vs H Q E ⟨a, ns, hv, hS, hl, q⟩ => by
    subst hv
    obtain ⟨ios, e⟩ := h ns hl
    have r : Rp K H (.frl (ns.map D.int)) (.ref a) := by unfold Rp; exact ⟨a, _, rfl, hS, rpl_int63 ns⟩
    obtain ⟨as, a1, a2⟩ := noio_args (ms := [false]) (H := H) rfl (rpl_cons r rpl_nil) rfl
    refine ⟨H, [.frl (ns.map D.int)], as, Same.refl H, fun _ _ e => e, a1, by rw [a2]; exact List.nodup_nil, .inl ⟨false, .bl true, ios, e, fun v F' H' _ r' => ?_⟩⟩
    unfold RpR at r'
    rw [if_neg Bool.false_ne_true] at r'
    unfold Rp at r'
    subst r'
    exact q H'
end DL

namespace DL
open PySem PySem.Spec PyProof.Rows L2
/-! ## What a meaning must satisfy: computed by simp -/
def mE (r : ERes) (Q : EV → Gm → Prop) : Prop := match r with
  | .ok e Γ' => Q e Γ'
  | .stuck => False
@[simp] theorem mE_ok (e : EV) (Γ : Gm) (Q : EV → Gm → Prop) : mE (.ok e Γ) Q = Q e Γ := rfl
@[simp] theorem mE_stuck (Q : EV → Gm → Prop) : mE .stuck Q = False := rfl
@[simp] theorem mE_if {p : Prop} [Decidable p] (a : ERes) (Q : EV → Gm → Prop) : mE (if p then a else .stuck) Q = (p ∧ mE a Q) := by
  by_cases h : p <;> simp [h]
def wE (f : EM) (Γ : Gm) (Q : EV → Gm → Prop) : Prop := mE (f Γ) Q
def wA (f : AM) (Γ : Gm) (Q : List EV → Gm → Prop) : Prop := match f Γ with
  | .ok e Γ' => Q e Γ'
  | .stuck => False
def wI (f : IM) (Γ : Gm) (Q : List D → Gm → Prop) : Prop := match f Γ with
  | .ok e Γ' => Q e Γ'
  | .stuck => False
def wX (r : SRes) (Q : SRes → Prop) : Prop := match r with
  | .stuck => False
  | r => Q r
structure wS (g : SM) (Γ : Gm) (Q : SRes → Prop) : Prop where
  out : wX (g Γ) Q
theorem wS_eq (g : SM) (Γ : Gm) (Q : SRes → Prop) : wS g Γ Q = wX (g Γ) Q := propext ⟨fun h => h.out, fun h => ⟨h⟩⟩
def mF (r : FRes) (Q : Bool → D → List D → Prop) : Prop := match r with
  | .ok fr d ios => Q fr d ios
  | _ => False
@[simp] theorem mF_okN (ds : List D) (ios : List D) (Q : Bool → D → List D → Prop) : mF (.okN ds ios) Q = False := rfl
@[simp] theorem mF_ok (fr : Bool) (d : D) (ios : List D) (Q : Bool → D → List D → Prop) : mF (.ok fr d ios) Q = Q fr d ios := rfl
@[simp] theorem mF_stuck (Q : Bool → D → List D → Prop) : mF .stuck Q = False := rfl
structure wF (fn : FS) (ds : List D) (Q : Bool → D → List D → Prop) : Prop where
  out : mF (fn ds) Q
theorem wF_eq (fn : FS) (ds : List D) (Q : Bool → D → List D → Prop) : wF fn ds Q = mF (fn ds) Q := propext ⟨fun h => h.out, fun h => ⟨h⟩⟩
/-- what an option holds -/
def wO {α : Type} (o : Option α) (Q : α → Prop) : Prop := ∃ a, o = some a ∧ Q a
@[simp] theorem wO_some {α : Type} (a : α) (Q : α → Prop) : wO (some a) Q = Q a := by simp [wO]
@[simp] theorem wO_none {α : Type} (Q : α → Prop) : wO none Q = False := by simp [wO]
@[simp] theorem wO_if {α : Type} {p : Prop} [Decidable p] (a : α) (Q : α → Prop) : wO (if p then some a else none) Q = (p ∧ Q a) := by
  by_cases h : p <;> simp [wO, h]
@[simp] theorem wO_map {α β : Type} (o : Option α) (f : α → β) (Q : β → Prop) : wO (o.map f) Q = wO o fun a => Q (f a) := by cases o <;> simp
@[simp] theorem wO_bind {α β : Type} (o : Option α) (f : α → Option β) (Q : β → Prop) : wO (o.bind f) Q = wO o fun a => wO (f a) Q := by cases o <;> simp
/-- the value of a name's slot, of an expression -/
def wSl (s : Option Sl) (Q : D → Prop) : Prop := match s with
  | some (.val d) => Q d
  | some (.own _ d) => Q d
  | _ => False
@[simp] theorem wSl_val (d : D) (Q : D → Prop) : wSl (some (.val d)) Q = Q d := rfl
@[simp] theorem wSl_own (b : Bool) (d : D) (Q : D → Prop) : wSl (some (.own b d)) Q = Q d := rfl
@[simp] theorem wSl_un (Q : D → Prop) : wSl (some .un) Q = False := rfl
theorem wO_slot (Γ : Gm) (i : Nat) (Q : D → Prop) : wO (slotD Γ i) Q = wSl Γ[i]? Q := by
  unfold slotD wSl
  generalize Γ[i]? = o
  cases o with
  | none => simp
  | some s => cases s <;> simp
def wV (Γ : Gm) (e : EV) (Q : D → Prop) : Prop := wO (eGet Γ e) Q
@[simp] theorem wV_imm (Γ : Gm) (d : D) (Q : D → Prop) : wV Γ (.imm d) Q = Q d := by simp [wV]
@[simp] theorem wV_bor (Γ : Gm) (i : Nat) (Q : D → Prop) : wV Γ (.bor i) Q = wSl Γ[i]? Q := by rw [wV, eGet_bor, wO_slot]
@[simp] theorem ok_imm (d : D) : (EV.imm d).ok = true := rfl
@[simp] theorem ok_bor (i : Nat) : (EV.bor i).ok = true := rfl
@[simp] theorem ok_tl (es : List EV) : (EV.tl es).ok = EV.oks es := by rw [EV.ok]
@[simp] theorem ok_tt (es : List EV) : (EV.tt es).ok = EV.oks es := by rw [EV.ok]
@[simp] theorem oks_nil : EV.oks [] = true := by rw [EV.oks]
@[simp] theorem oks_cons (e : EV) (es : List EV) : EV.oks (e :: es) = (e.ok && EV.oks es) := by rw [EV.oks]
theorem wE_bind (r : ERes) (k : EV → Gm → ERes) (Q : EV → Gm → Prop) : mE (r.bind k) Q = mE r fun e Γ1 => mE (k e.fz Γ1) Q := by cases r <;> rfl
/-! ### expressions -/
def wNm (s : Option Sl) (i : Nat) (Γ : Gm) (Q : EV → Gm → Prop) : Prop := match s with
  | some (.val d) => Q (.imm d) Γ
  | some (.own _ _) => Q (.bor i) Γ
  | some (.nst _ _) => Q (.bor i) Γ
  | _ => False
@[simp] theorem wNm_nst (b : Bool) (d : List D) (i : Nat) (Γ : Gm) (Q : EV → Gm → Prop) : wNm (some (.nst b d)) i Γ Q = Q (.bor i) Γ := rfl
@[simp] theorem wNm_val (d : D) (i : Nat) (Γ : Gm) (Q : EV → Gm → Prop) : wNm (some (.val d)) i Γ Q = Q (.imm d) Γ := rfl
@[simp] theorem wNm_own (b : Bool) (d : D) (i : Nat) (Γ : Gm) (Q : EV → Gm → Prop) : wNm (some (.own b d)) i Γ Q = Q (.bor i) Γ := rfl
@[simp] theorem wNm_un (i : Nat) (Γ : Gm) (Q : EV → Gm → Prop) : wNm (some .un) i Γ Q = False := rfl
@[simp] theorem wE_name (i : Nat) (Γ : Gm) (Q : EV → Gm → Prop) : wE (eName i) Γ Q = wNm Γ[i]? i Γ Q := by
  unfold wE eName wNm
  generalize Γ[i]? = o
  cases o with
  | none => rfl
  | some s => cases s <;> rfl
@[simp] theorem wE_c (d : D) (Γ : Gm) (Q : EV → Gm → Prop) : wE (eC d) Γ Q = Q (.imm d) Γ := rfl
theorem of_w (o : Option EV) (Γ : Gm) (Q : EV → Gm → Prop) : mE (ERes.of o Γ) Q = wO o fun e => Q e Γ := by cases o <;> simp [ERes.of]
@[simp] theorem wE_un (o : O1) (f : EM) (Γ : Gm) (Q : EV → Gm → Prop) : wE (eUn o f) Γ Q = wE f Γ fun e Γ1 => wV Γ1 e.fz fun x => wO (o x) fun e => Q e Γ1 := by
  unfold wE eUn
  simp only [wE_bind, of_w, wV, wO_bind]
@[simp] theorem wE_bin (o : O2) (f g : EM) (Γ : Gm) (Q : EV → Gm → Prop) : wE (eBin o f g) Γ Q = wE f Γ fun e1 Γ1 => wE g Γ1 fun e2 Γ2 => wV Γ2 e1.fz fun x => wV Γ2 e2.fz fun y => wO (o x y) fun e => Q e Γ2 := by
  unfold wE eBin
  simp only [wE_bind, of_w, wV, wO_bind]
@[simp] theorem wE_m1 (o : O2) (f g : EM) (Γ : Gm) (Q : EV → Gm → Prop) : wE (eM1 o f g) Γ Q = wE f Γ fun e1 Γ1 => isS e1.fz = true ∧ wE g Γ1 fun e2 Γ2 => wV Γ2 e1.fz fun x => wV Γ2 e2.fz fun y => wO (o x y) fun e => Q e Γ2 := by
  unfold wE eM1
  simp only [wE_bind, of_w, wV, wO_bind, mE_if]
@[simp] theorem isS_str (s : List Nat) : isS (.imm (.str s)) = true := rfl
/-- a truth -/
def wB (e : EV) (Q : Bool → Prop) : Prop := ∃ b, e = .imm (.bl b) ∧ Q b
@[simp] theorem wB_bl (b : Bool) (Q : Bool → Prop) : wB (.imm (.bl b)) Q = Q b := by
  unfold wB
  apply propext
  constructor
  · rintro ⟨b', h, q⟩; cases h; exact q
  · exact fun q => ⟨b, rfl, q⟩
theorem byB_w (e : EV) (k1 k2 : ERes) (Q : EV → Gm → Prop) : mE (byB e k1 k2) Q = wB e fun b => (b = true → mE (k1) Q) ∧ (b = false → mE (k2) Q) := by
  cases e with
  | imm d => cases d with
    | bl b => cases b <;> simp [byB]
    | _ => simp [byB, wB]
  | _ => simp [byB, wB]
@[simp] theorem wE_and (f g : EM) (Γ : Gm) (Q : EV → Gm → Prop) : wE (eAnd f g) Γ Q = wE f Γ fun e Γ1 => wB e.fz fun b => (b = true → wE g Γ1 Q) ∧ (b = false → Q (.imm (.bl false)) Γ1) := by
  unfold wE eAnd
  simp only [wE_bind, byB_w, mE_ok]
@[simp] theorem wE_or (f g : EM) (Γ : Gm) (Q : EV → Gm → Prop) : wE (eOr f g) Γ Q = wE f Γ fun e Γ1 => wB e.fz fun b => (b = true → Q (.imm (.bl true)) Γ1) ∧ (b = false → wE g Γ1 Q) := by
  unfold wE eOr
  simp only [wE_bind, byB_w, mE_ok]
@[simp] theorem wE_not (f : EM) (Γ : Gm) (Q : EV → Gm → Prop) : wE (eNot f) Γ Q = wE f Γ fun e Γ1 => wB e.fz fun b => Q (.imm (.bl (!b))) Γ1 := by
  unfold wE eNot
  simp only [wE_bind, byB_w, mE_ok]
  congr; funext e Γ1
  unfold wB
  apply propext
  constructor
  · rintro ⟨b, h, h1, h2⟩
    refine ⟨b, h, ?_⟩
    cases b with
    | true => exact h1 rfl
    | false => exact h2 rfl
  · rintro ⟨b, h, q⟩
    refine ⟨b, h, fun z => ?_, fun z => ?_⟩
    · subst z; exact q
    · subst z; exact q
@[simp] theorem wE_if (c f g : EM) (Γ : Gm) (Q : EV → Gm → Prop) : wE (eIf c f g) Γ Q = wE c Γ fun e Γ1 => wB e.fz fun b => (b = true → wE f Γ1 Q) ∧ (b = false → wE g Γ1 Q) := by
  unfold wE eIf
  simp only [wE_bind, byB_w, mE_ok]
/-! ### argument lists, displays -/
@[simp] theorem wA_nil (Γ : Gm) (Q : List EV → Gm → Prop) : wA aNil Γ Q = Q [] Γ := rfl
@[simp] theorem wA_cons (f : EM) (r : AM) (Γ : Gm) (Q : List EV → Gm → Prop) : wA (aCons f r) Γ Q = wE f Γ fun e Γ1 => wA r Γ1 fun es Γ2 => Q (e.fz :: es) Γ2 := by
  unfold wA wE aCons
  cases f Γ with
  | ok e Γ1 =>
    simp only [mE_ok]
    cases r Γ1 with
    | ok es Γ2 => rfl
    | stuck => rfl
  | stuck => rfl
@[simp] theorem allImm_nil : allImm [] = some [] := rfl
@[simp] theorem allImm_imm (d : D) (r : List EV) : allImm (.imm d :: r) = (allImm r).map (d :: ·) := rfl
@[simp] theorem allImm_bor (i : Nat) (r : List EV) : allImm (.bor i :: r) = none := rfl
@[simp] theorem allImm_tl (i : List EV) (r : List EV) : allImm (.tl i :: r) = none := rfl
@[simp] theorem allImm_tt (i : List EV) (r : List EV) : allImm (.tt i :: r) = none := rfl
@[simp] theorem wE_disp (mk : List EV → EV) (a : AM) (Γ : Gm) (Q : EV → Gm → Prop) : wE (eDisp mk a) Γ Q = wA a Γ fun es Γ1 => es.length ≤ 1000 ∧ Q (mk es) Γ1 := by
  unfold wE wA eDisp
  cases a Γ with
  | ok es Γ1 => simp
  | stuck => rfl
def mkL' : Option (List D) → List EV → EV
  | some ds, _ => .fr (.lst ds)
  | none, es => .tl es
def mkT' : Option (List D) → List EV → EV
  | some ds, _ => .imm (.tup ds)
  | none, es => .tt es
@[simp] theorem mkL_eq (es : List EV) : mkL es = mkL' (allImm es) es := by unfold mkL mkL'; cases allImm es <;> rfl
@[simp] theorem mkT_eq (es : List EV) : mkT es = mkT' (allImm es) es := by unfold mkT mkT'; cases allImm es <;> rfl
@[simp] theorem mkL'_some (ds : List D) (es : List EV) : mkL' (some ds) es = .fr (.lst ds) := rfl
@[simp] theorem mkL'_none (es : List EV) : mkL' none es = .tl es := rfl
@[simp] theorem mkT'_some (ds : List D) (es : List EV) : mkT' (some ds) es = .imm (.tup ds) := rfl
@[simp] theorem mkT'_none (es : List EV) : mkT' none es = .tt es := rfl
def wVs (Γ : Gm) (es : List EV) (Q : List D → Prop) : Prop := wO (gets Γ es) Q
@[simp] theorem wVs_nil (Γ : Gm) (Q : List D → Prop) : wVs Γ [] Q = Q [] := by simp [wVs, gets]
@[simp] theorem wVs_cons (Γ : Gm) (e : EV) (es : List EV) (Q : List D → Prop) : wVs Γ (e :: es) Q = wV Γ e fun d => wVs Γ es fun ds => Q (d :: ds) := by simp [wVs, gets, wV]
@[simp] theorem wE_b (op : OL) (a : AM) (Γ : Gm) (Q : EV → Gm → Prop) : wE (eB op a) Γ Q = wA a Γ fun es Γ1 => wVs Γ1 es fun ds => wO (op ds) fun e => Q e Γ1 := by
  unfold wE wA eB
  cases a Γ with
  | ok es Γ1 => simp only [of_w, wVs, wO_bind]
  | stuck => rfl
/-! ### slices -/
def wInt (e : EV) (Q : Int → Prop) : Prop := ∃ i, e = .imm (.int i) ∧ Q i
@[simp] theorem wInt_int (i : Int) (Q : Int → Prop) : wInt (.imm (.int i)) Q = Q i := by
  unfold wInt
  apply propext
  constructor
  · rintro ⟨b', h, q⟩; cases h; exact q
  · exact fun q => ⟨i, rfl, q⟩
@[simp] theorem wE_sl00 (f : EM) (Γ : Gm) (Q : EV → Gm → Prop) : wE (eSl f none none) Γ Q = wE f Γ fun e1 Γ1 => wV Γ1 e1.fz fun x => wO (oSl none none x) fun e => Q e Γ1 := by
  unfold wE eSl
  simp only [wE_bind, of_w, wV, wO_bind]
@[simp] theorem wE_sl10 (f l : EM) (Γ : Gm) (Q : EV → Gm → Prop) : wE (eSl f (some l) none) Γ Q = wE f Γ fun e1 Γ1 => wE l Γ1 fun e2 Γ2 => wInt e2.fz fun i => wV Γ2 e1.fz fun x => wO (oSl (some i) none x) fun e => Q e Γ2 := by
  unfold wE eSl
  simp only [wE_bind]
  congr; funext e1 Γ1; congr; funext e2 Γ2
  generalize e2.fz = z
  cases z with
  | imm d => cases d with
    | int i => simp only [wInt_int, of_w, wV, wO_bind]
    | _ => simp [wInt]
  | _ => simp [wInt]
@[simp] theorem wE_sl01 (f l : EM) (Γ : Gm) (Q : EV → Gm → Prop) : wE (eSl f none (some l)) Γ Q = wE f Γ fun e1 Γ1 => wE l Γ1 fun e2 Γ2 => wInt e2.fz fun i => wV Γ2 e1.fz fun x => wO (oSl none (some i) x) fun e => Q e Γ2 := by
  unfold wE eSl
  simp only [wE_bind]
  congr; funext e1 Γ1; congr; funext e2 Γ2
  generalize e2.fz = z
  cases z with
  | imm d => cases d with
    | int i => simp only [wInt_int, of_w, wV, wO_bind]
    | _ => simp [wInt]
  | _ => simp [wInt]
@[simp] theorem wE_sl11 (f l u : EM) (Γ : Gm) (Q : EV → Gm → Prop) : wE (eSl f (some l) (some u)) Γ Q = wE f Γ fun e1 Γ1 => wE l Γ1 fun e2 Γ2 => wE u Γ2 fun e3 Γ3 => wInt e2.fz fun i => wInt e3.fz fun j => wV Γ3 e1.fz fun x => wO (oSl (some i) (some j) x) fun e => Q e Γ3 := by
  unfold wE eSl
  simp only [wE_bind]
  congr; funext e1 Γ1; congr; funext e2 Γ2; congr; funext e3 Γ3
  generalize e2.fz = z
  generalize e3.fz = y
  cases z with
  | imm d => cases d with
    | int i => cases y with
      | imm d => cases d with
        | int i => simp only [wInt_int, of_w, wV, wO_bind]
        | _ => simp [wInt]
      | _ => simp [wInt]
    | _ => simp [wInt]
  | _ => simp [wInt]
end DL

namespace DL
open PySem PySem.Spec PyProof.Rows L2
/-! ## statements -/
@[simp] theorem wX_nx (Γ : Gm) (Q : SRes → Prop) : wX (.nx Γ) Q = Q (.nx Γ) := rfl
@[simp] theorem wX_bk (Γ : Gm) (Q : SRes → Prop) : wX (.bk Γ) Q = Q (.bk Γ) := rfl
@[simp] theorem wX_ct (Γ : Gm) (Q : SRes → Prop) : wX (.ct Γ) Q = Q (.ct Γ) := rfl
@[simp] theorem wX_ret (e : EV) (Γ : Gm) (Q : SRes → Prop) : wX (.ret e Γ) Q = Q (.ret e Γ) := rfl
@[simp] theorem wX_stuck (Q : SRes → Prop) : wX .stuck Q = False := rfl
@[simp] theorem wX_if {p : Prop} [Decidable p] (a : SRes) (Q : SRes → Prop) : wX (if p then a else .stuck) Q = (p ∧ wX a Q) := by
  by_cases h : p <;> simp [h]
/-- behind a statement -/
def wN (K : Gm → Prop) (Q : SRes → Prop) : SRes → Prop
  | .nx Γ => K Γ
  | r => Q r
@[simp] theorem wN_nx (K : Gm → Prop) (Q : SRes → Prop) (Γ : Gm) : wN K Q (.nx Γ) = K Γ := rfl
@[simp] theorem wN_bk (K : Gm → Prop) (Q : SRes → Prop) (Γ : Gm) : wN K Q (.bk Γ) = Q (.bk Γ) := rfl
@[simp] theorem wN_ct (K : Gm → Prop) (Q : SRes → Prop) (Γ : Gm) : wN K Q (.ct Γ) = Q (.ct Γ) := rfl
@[simp] theorem wN_ret (K : Gm → Prop) (Q : SRes → Prop) (e : EV) (Γ : Gm) : wN K Q (.ret e Γ) = Q (.ret e Γ) := rfl
@[simp] theorem wS_nil (Γ : Gm) (Q : SRes → Prop) : wS sNil Γ Q = Q (.nx Γ) := by rw [wS_eq]; rfl
@[simp] theorem wS_no (Γ : Gm) (Q : SRes → Prop) : wS sNo Γ Q = False := by rw [wS_eq]; rfl
@[simp] theorem wS_bk (Γ : Gm) (Q : SRes → Prop) : wS (fun Γ => .bk Γ) Γ Q = Q (.bk Γ) := by rw [wS_eq]; rfl
@[simp] theorem wS_ct (Γ : Gm) (Q : SRes → Prop) : wS (fun Γ => .ct Γ) Γ Q = Q (.ct Γ) := by rw [wS_eq]; rfl
@[simp] theorem wS_seq (a b : SM) (Γ : Gm) (Q : SRes → Prop) : wS (sSeq a b) Γ Q = wS a Γ (wN (fun Γ1 => wS b Γ1 Q) Q) := by
  simp only [wS_eq]
  unfold sSeq
  cases a Γ <;> simp
theorem go_w (r : ERes) (k : EV → Gm → SRes) (Q : SRes → Prop) : wX (r.go k) Q = mE r fun e Γ => wX (k e Γ) Q := by cases r <;> rfl
theorem go_wE (f : EM) (Γ : Gm) (k : EV → Gm → SRes) (Q : SRes → Prop) : wX ((f Γ).go k) Q = wE f Γ fun e Γ1 => wX (k e Γ1) Q := by
  unfold wE; rw [go_w]
theorem byS_w (e : EV) (k1 k2 : SRes) (Q : SRes → Prop) : wX (byS e k1 k2) Q = wB e fun b => (b = true → wX k1 Q) ∧ (b = false → wX k2 Q) := by
  cases e with
  | imm d => cases d with
    | bl b => cases b <;> simp [byS]
    | _ => simp [byS, wB]
  | _ => simp [byS, wB]
@[simp] theorem wS_if (c : EM) (a b : SM) (Γ : Gm) (Q : SRes → Prop) : wS (sIf c a b) Γ Q = wE c Γ fun e Γ1 => wB e.fz fun t => (t = true → wS a Γ1 Q) ∧ (t = false → wS b Γ1 Q) := by
  simp only [wS_eq]
  unfold sIf
  simp only [go_wE, byS_w]
@[simp] theorem wS_expr (f : EM) (Γ : Gm) (Q : SRes → Prop) : wS (sExprOk f) Γ Q = wE f Γ fun e Γ1 => e.fz.ok = true ∧ Q (.nx Γ1) := by
  simp only [wS_eq]
  unfold sExprOk; simp only [go_wE, wX_if, wX_nx]
@[simp] theorem wS_ret (f : EM) (Γ : Gm) (Q : SRes → Prop) : wS (sRetOk f) Γ Q = wE f Γ fun e Γ1 => e.fz.ok = true ∧ Q (.ret e Γ1) := by
  simp only [wS_eq]
  unfold sRetOk; simp only [go_wE, wX_if, wX_ret]
@[simp] theorem wS_retN (Γ : Gm) (Q : SRes → Prop) : wS sRetN Γ Q = Q (.ret (.imm .non) Γ) := by rw [wS_eq]; rfl
theorem ofS_w (o : Option (D × Gm)) (k : D → Gm → SRes) (Q : SRes → Prop) : wX (SRes.ofS o k) Q = wO o fun p => wX (k p.1 p.2) Q := by
  cases o with
  | none => simp [SRes.ofS]
  | some p => cases p; simp [SRes.ofS]
theorem setv_w (i : Nat) (d : D) (Γ : Gm) (Q : SRes → Prop) : wX (setv i d Γ) Q = (isIo Γ[i]? = false ∧ Q (.nx (Γ.set i (.val d)))) := by
  unfold setv
  by_cases h : isIo Γ[i]? = true <;> simp [h]
@[simp] theorem isIo_val (d : D) : isIo (some (.val d)) = false := rfl
@[simp] theorem isIo_un : isIo (some .un) = false := rfl
@[simp] theorem isIo_own (d : D) : isIo (some (.own false d)) = false := rfl
@[simp] theorem isOwn_val (d : D) : isOwn (some (.val d)) = false := rfl
@[simp] theorem isOwn_un : isOwn (some .un) = false := rfl
@[simp] theorem isOwn_own (b : Bool) (d : D) : isOwn (some (.own b d)) = true := rfl
@[simp] theorem wS_set (i : Nat) (f : EM) (Γ : Gm) (Q : SRes → Prop) : wS (sSetOk i f) Γ Q = wE f Γ fun e Γ1 => e.fz.ok = true ∧ wO (settle e.fz Γ1) fun p => isIo p.2[i]? = false ∧ Q (.nx (p.2.set i (.val p.1))) := by
  simp only [wS_eq]
  unfold sSetOk; simp only [go_wE, wX_if, ofS_w, setv_w]
def wFr (e : EV) (Q : D → Prop) : Prop := ∃ d, e = .fr d ∧ Q d
@[simp] theorem wFr_fr (d : D) (Q : D → Prop) : wFr (.fr d) Q = Q d := by
  unfold wFr
  apply propext
  constructor
  · rintro ⟨b', h, q⟩; cases h; exact q
  · exact fun q => ⟨d, rfl, q⟩
@[simp] theorem wS_own (i : Nat) (f : EM) (Γ : Gm) (Q : SRes → Prop) : wS (sOwnOk i f) Γ Q = wE f Γ fun e Γ1 => wFr e fun d => isIo Γ1[i]? = false ∧ Q (.nx (Γ1.set i (.own false d))) := by
  simp only [wS_eq]
  unfold sOwnOk
  simp only [go_wE]
  congr
  funext e Γ1
  unfold ownK
  cases e with
  | fr d => by_cases h : isIo Γ1[i]? = true <;> simp [h]
  | _ => simp [wFr]
/-- a slot that holds a list of its own -/
def wOl (s : Option Sl) (Q : Bool → List D → Prop) : Prop := match s with
  | some (.own b (.lst ds)) => Q b ds
  | _ => False
@[simp] theorem wOl_own (b : Bool) (ds : List D) (Q : Bool → List D → Prop) : wOl (some (.own b (.lst ds))) Q = Q b ds := rfl
theorem wO_ownL (Γ : Gm) (i : Nat) (Q : Bool × List D → Prop) : wO (ownL Γ i) Q = wOl Γ[i]? fun b ds => Q (b, ds) := by
  unfold ownL wOl
  generalize Γ[i]? = o
  cases o with
  | none => simp
  | some s => cases s with
    | own b d => cases d <;> simp
    | _ => simp
theorem elim_w {α : Type} (o : Option α) (k : α → SRes) (Q : SRes → Prop) : wX (o.elim .stuck k) Q = wO o fun a => wX (k a) Q := by cases o <;> simp
theorem eelim_w {α : Type} (o : Option α) (k : α → ERes) (Q : EV → Gm → Prop) : mE (o.elim .stuck k) Q = wO o fun a => mE (k a) Q := by cases o <;> simp
theorem isI_w (e : EV) (Q : Int → Prop) : wO (isI e) Q = wInt e Q := by
  cases e with
  | imm d => cases d <;> simp [isI, wInt]
  | _ => simp [isI, wInt]
@[simp] theorem wS_ix (i : Nat) (ix f : EM) (Γ : Gm) (Q : SRes → Prop) : wS (sIx i ix f) Γ Q = wE f Γ fun e Γ1 => e.fz.ok = true ∧ wO (settle e.fz Γ1) fun p => wOl p.2[i]? fun _ _ => wE ix p.2 fun e2 Γ3 => wInt e2.fz fun k =>
    wOl Γ3[i]? fun b ds => wO (ixN ds.length k) fun n => Q (.nx (Γ3.set i (.own b (.lst (ds.set n p.1))))) := by
  simp only [wS_eq]
  unfold sIx
  simp only [go_wE, wX_if, ofS_w, elim_w, wO_ownL]
  congr; funext e Γ1; congr; funext p; congr; funext b ds; congr; funext e2 Γ3
  rw [← isI_w]
  cases isI e2.fz with
  | none => simp
  | some k =>
    simp only [wO_some]
    rw [← wO_ownL Γ3 i (fun q => wO (ixN q.2.length k) fun n => Q (.nx (Γ3.set i (.own q.1 (.lst (q.2.set n p.1))))))]
    cases ownL Γ3 i with
    | none => simp
    | some q =>
      simp only [wO_some]
      cases ixN q.2.length k <;> simp
@[simp] theorem wS_augIx (i : Nat) (ix f : EM) (op : Int → Int → Int) (Γ : Gm) (Q : SRes → Prop) : wS (sAugIx i ix f op) Γ Q = wOl Γ[i]? fun _ _ => wE ix Γ fun e1 Γ1 => wInt e1.fz fun k => wOl Γ1[i]? fun _ ds0 => wO (asInt (atI ds0 k)) fun x =>
    wE f Γ1 fun e2 Γ2 => wInt e2.fz fun y => wOl Γ2[i]? fun b ds => wO (ixN ds.length k) fun n => Q (.nx (Γ2.set i (.own b (.lst (ds.set n (.int (op x y))))))) := by
  simp only [wS_eq]
  unfold sAugIx
  simp only [go_wE, elim_w, wO_ownL]
  congr; funext b0 dd0; congr; funext e1 Γ1
  rw [← isI_w]
  cases isI e1.fz with
  | none => simp
  | some k =>
    simp only [wO_some]
    rw [← wO_ownL Γ1 i (fun q => wO (asInt (atI q.2 k)) fun x =>
    wE f Γ1 fun e2 Γ2 => wInt e2.fz fun y => wOl Γ2[i]? fun b ds => wO (ixN ds.length k) fun n => Q (.nx (Γ2.set i (.own b (.lst (ds.set n (.int (op x y))))))))]
    cases ownL Γ1 i with
    | none => simp
    | some q =>
      simp only [wO_some]
      cases asInt (atI q.2 k) with
      | none => simp
      | some x =>
        simp only [wO_some, go_wE]
        congr; funext e2 Γ2
        rw [← isI_w]
        cases isI e2.fz with
        | none => simp
        | some y =>
          simp only [wO_some]
          rw [← wO_ownL Γ2 i (fun q => wO (ixN q.2.length k) fun n => Q (.nx (Γ2.set i (.own q.1 (.lst (q.2.set n (.int (op x y))))))))]
          cases ownL Γ2 i with
          | none => simp
          | some q2 =>
            simp only [wO_some]
            cases ixN q2.2.length k <;> simp
def wImm (e : EV) (Q : D → Prop) : Prop := ∃ d, e = .imm d ∧ Q d
@[simp] theorem wImm_imm (d : D) (Q : D → Prop) : wImm (.imm d) Q = Q d := by
  unfold wImm
  apply propext
  constructor
  · rintro ⟨b', h, q⟩; cases h; exact q
  · exact fun q => ⟨d, rfl, q⟩
def wVl (s : Option Sl) (Q : D → Prop) : Prop := match s with
  | some (.val d) => Q d
  | _ => False
@[simp] theorem wVl_val (d : D) (Q : D → Prop) : wVl (some (.val d)) Q = Q d := rfl
@[simp] theorem wS_aug (i : Nat) (op : O2) (f : EM) (Γ : Gm) (Q : SRes → Prop) : wS (sAug i op f) Γ Q = wVl Γ[i]? fun d0 => wE f Γ fun e Γ1 => wV Γ1 e.fz fun y => wO (op d0 y) fun e => wImm e fun d => isIo Γ1[i]? = false ∧ Q (.nx (Γ1.set i (.val d))) := by
  simp only [wS_eq]
  unfold sAug wVl
  generalize Γ[i]? = o
  cases o with
  | none => rfl
  | some s => cases s with
    | val d0 =>
      simp only [go_wE, wV]
      congr; funext e Γ1
      rw [← wO_bind]
      cases (eGet Γ1 e.fz).bind (op d0) with
      | none => simp
      | some e => cases e with
        | imm d => simp [setv_w]
        | _ => simp [wImm]
    | _ => rfl
@[simp] theorem wS_tup (t : Tg) (f : EM) (Γ : Gm) (Q : SRes → Prop) : wS (sTup t f) Γ Q = wE f Γ fun e Γ1 => e.fz.ok = true ∧ wO (settle e.fz Γ1) fun p => wO (setT t p.1 p.2) fun Γ3 => Q (.nx Γ3) := by
  simp only [wS_eq]
  unfold sTup
  simp only [go_wE, wX_if, ofS_w]
  congr; funext e Γ1; congr; funext p
  cases setT t p.1 p.2 <;> simp
/-! ### in place -/
@[simp] theorem wE_append (i : Nat) (f : EM) (Γ : Gm) (Q : EV → Gm → Prop) : wE (eAppend i f) Γ Q = wOl Γ[i]? fun _ _ => wE f Γ fun e Γ1 => e.fz.ok = true ∧ wO (settle e.fz Γ1) fun q => wOl q.2[i]? fun b ds => ds.length < sizeLine ∧ Q (.imm .non) (q.2.set i (.own b (.lst (ds ++ [q.1])))) := by
  unfold wE eAppend
  simp only [eelim_w, wO_ownL]
  congr; funext b0 ds0
  cases f Γ with
  | stuck => rfl
  | ok e Γ1 =>
    simp only [mE_ok]
    by_cases h : e.fz.ok = true
    · simp only [h, if_true, true_and]
      cases settle e.fz Γ1 with
      | none => simp
      | some q =>
        simp only [eelim_w, wO_ownL, wO_some]
        congr; funext b ds
        by_cases h : ds.length < sizeLine <;> simp [h]
    · simp [h]
@[simp] theorem wE_pop (i : Nat) (Γ : Gm) (Q : EV → Gm → Prop) : wE (ePop i) Γ Q = wOl Γ[i]? fun b ds => wO ds.getLast? fun d => Q (.imm d) (Γ.set i (.own b (.lst ds.dropLast))) := by
  unfold wE ePop
  simp only [eelim_w, wO_ownL]
  congr; funext b0 ds0
  cases ds0.getLast? <;> simp
/-! ### calls -/
def wC (ms : List Bool) (fn : FS) (es : List EV) (Γ : Gm) (Q : EV → Gm → Prop) : Prop := mE (callR ms fn es Γ) Q
@[simp] theorem wE_call (ms : List Bool) (fn : FS) (a : AM) (Γ : Gm) (Q : EV → Gm → Prop) : wE (eCallOk ms fn a) Γ Q = wA a Γ fun es Γ1 => EV.oks es = true ∧ wC ms fn es Γ1 Q := by
  unfold wE wA eCallOk wC
  cases a Γ with
  | stuck => rfl
  | ok es Γ1 =>
    dsimp only
    by_cases h : EV.oks es = true <;> simp [h]
/-- what is behind a call that changes the list in slot i -/
def wIo (s : Option Sl) (ds : List D) (i : Nat) (fn : FS) (Γ : Gm) (Q : EV → Gm → Prop) : Prop := match s with
  | some (.own b d) => wF fn (d :: ds) fun fr r ios => ∃ d', ios = [d'] ∧ wO (ioPut (some (.own b d)) d') fun s' => Q (mkR fr r) (Γ.set i s')
  | some (.nst b xs) => wF fn (.tup xs :: ds) fun fr r ios => ∃ d', ios = [d'] ∧ wO (ioPut (some (.nst b xs)) d') fun s' => Q (mkR fr r) (Γ.set i s')
  | _ => False
@[simp] theorem wIo_own (b : Bool) (d : D) (ds : List D) (i : Nat) (fn : FS) (Γ : Gm) (Q : EV → Gm → Prop) : wIo (some (.own b d)) ds i fn Γ Q = wF fn (d :: ds) fun fr r ios => ∃ d', ios = [d'] ∧ wO (ioPut (some (.own b d)) d') fun s' => Q (mkR fr r) (Γ.set i s') := rfl
@[simp] theorem wIo_nst (b : Bool) (xs ds : List D) (i : Nat) (fn : FS) (Γ : Gm) (Q : EV → Gm → Prop) : wIo (some (.nst b xs)) ds i fn Γ Q = wF fn (.tup xs :: ds) fun fr r ios => ∃ d', ios = [d'] ∧ wO (ioPut (some (.nst b xs)) d') fun s' => Q (mkR fr r) (Γ.set i s') := rfl
@[simp] theorem ioPut_l (b : Bool) (d : D) (ds : List D) : ioPut (some (.own b d)) (.lst ds) = some (.own b (.lst ds)) := rfl
@[simp] theorem ioPut_d (b : Bool) (d : D) (ks : List Key) (ds : List D) : ioPut (some (.own b d)) (.dic ks ds) = some (.own b (.dic ks ds)) := rfl
@[simp] theorem ioPut_n (b : Bool) (xs ds : List D) : ioPut (some (.nst b xs)) (.tup ds) = some (.nst b ds) := rfl
@[simp] theorem mkR_f (d : D) : mkR false d = .imm d := rfl
@[simp] theorem mkR_t (d : D) : mkR true d = .fr d := rfl
def wC1 (o : Option (List D)) (ms : List Bool) (fn : FS) (es : List EV) (Γ : Gm) (Q : EV → Gm → Prop) : Prop := match o with
  | some ds => ms.any id = false ∧ wF fn ds fun fr d ios => ios = [] ∧ Q (mkR fr d) Γ
  | none => wC ms fn es Γ Q
@[simp] theorem wC1_some (ds : List D) (ms : List Bool) (fn : FS) (es : List EV) (Γ : Gm) (Q : EV → Gm → Prop) : wC1 (some ds) ms fn es Γ Q = (ms.any id = false ∧ wF fn ds fun fr d ios => ios = [] ∧ Q (mkR fr d) Γ) := rfl
theorem pure_w (ms : List Bool) (fn : FS) (ds : List D) (Γ : Gm) (Q : EV → Gm → Prop) : mE (pureR ms fn ds Γ) Q = (ms.any id = false ∧ wF fn ds fun fr d ios => ios = [] ∧ Q (mkR fr d) Γ) := by
  rw [wF_eq]
  unfold pureR
  by_cases h : ms.any id = true
  · simp [h]
  · simp only [h]
    cases fn ds with
    | stuck => simp
    | okN _ _ => simp
    | ok fr d ios => cases ios <;> simp
theorem wC_eq (ms : List Bool) (fn : FS) (es : List EV) (Γ : Gm) (Q : EV → Gm → Prop) : wC ms fn es Γ Q = wC1 (allImm es) ms fn es Γ Q := by
  unfold wC1
  cases h : allImm es with
  | none => rfl
  | some ds =>
    unfold wC callR
    rw [h]
    exact pure_w ms fn ds Γ Q
@[simp] theorem wC_nil (ms : List Bool) (fn : FS) (Γ : Gm) (Q : EV → Gm → Prop) : wC ms fn [] Γ Q = wC1 (some []) ms fn [] Γ Q := wC_eq ..
@[simp] theorem wC_imm (ms : List Bool) (fn : FS) (d : D) (es : List EV) (Γ : Gm) (Q : EV → Gm → Prop) : wC ms fn (.imm d :: es) Γ Q = wC1 ((allImm es).map (d :: ·)) ms fn (.imm d :: es) Γ Q := wC_eq ..
/-- a call that changes a list in place: the list first, then values -/
theorem io_core (ms : List Bool) (fn : FS) (i : Nat) (ds : List D) (es : List EV) (Γ : Gm) (Q : EV → Gm → Prop) (h1 : ioSlots (true :: ms) (.bor i :: es) = [i]) (h2 : ioArgs Γ ms es = some ds) : wC (true :: ms) fn (.bor i :: es) Γ Q = wIo Γ[i]? ds i fn Γ Q := by
  unfold wC callR wIo
  rw [allImm_bor]
  dsimp only
  rw [if_pos (by simp)]
  unfold ioR ioArgs
  rw [h1]
  cases hs : Γ[i]? with
  | none => rfl
  | some s =>
    have key : ∀ d : D, (match [i], some (d :: ds) with
        | [i], some ds => match fn ds with
          | .ok fr d [d'] => match ioPut (some s) d' with
            | some s => ERes.ok (mkR fr d) (Γ.set i s)
            | none => .stuck
          | _ => .stuck
        | _, _ => .stuck).casesOn (motive := fun _ => Prop) (fun e Γ' => Q e Γ') False = wF fn (d :: ds) fun fr r ios => ∃ d', ios = [d'] ∧ wO (ioPut (some s) d') fun s' => Q (mkR fr r) (Γ.set i s') := fun d => by
      simp only [wF_eq]
      cases fn (d :: ds) with
      | stuck => simp
      | okN _ _ => simp
      | ok fr r ios =>
        match ios with
        | [] => simp
        | [d'] =>
          simp only [mF_ok]
          cases hp : ioPut (some s) d' <;> simp [hp]
        | _ :: _ :: _ => simp
    cases s with
    | own b d =>
      dsimp only
      rw [h2]
      simp only [Option.map_some]
      rw [← key d]
      dsimp only
      unfold mE
      cases hf : fn (d :: ds) with
      | stuck => rfl
      | okN _ _ => rfl
      | ok fr r ios =>
        match ios with
        | [] => rfl
        | [d'] =>
          dsimp only
          rw [hs]
          cases ioPut (some (.own b d)) d' <;> rfl
        | _ :: _ :: _ => rfl
    | nst b d =>
      dsimp only
      rw [h2]
      simp only [Option.map_some]
      rw [← key (.tup d)]
      dsimp only
      unfold mE
      cases hf : fn (.tup d :: ds) with
      | stuck => rfl
      | okN _ _ => rfl
      | ok fr r ios =>
        match ios with
        | [] => rfl
        | [d'] =>
          dsimp only
          rw [hs]
          cases ioPut (some (.nst b d)) d' <;> rfl
        | _ :: _ :: _ => rfl
    | _ => rfl
@[simp] theorem wC_io0 (fn : FS) (i : Nat) (Γ : Gm) (Q : EV → Gm → Prop) : wC [true] fn [.bor i] Γ Q = wIo Γ[i]? [] i fn Γ Q := io_core [] fn i [] [] Γ Q rfl rfl
@[simp] theorem wC_io1 (fn : FS) (i : Nat) (a : D) (Γ : Gm) (Q : EV → Gm → Prop) : wC [true, false] fn [.bor i, .imm a] Γ Q = wIo Γ[i]? [a] i fn Γ Q := io_core [false] fn i [a] [.imm a] Γ Q rfl rfl
@[simp] theorem wC_io2 (fn : FS) (i : Nat) (a b : D) (Γ : Gm) (Q : EV → Gm → Prop) : wC [true, false, false] fn [.bor i, .imm a, .imm b] Γ Q = wIo Γ[i]? [a, b] i fn Γ Q := io_core [false, false] fn i [a, b] [.imm a, .imm b] Γ Q rfl rfl
@[simp] theorem wC_io3 (fn : FS) (i : Nat) (a b c : D) (Γ : Gm) (Q : EV → Gm → Prop) : wC [true, false, false, false] fn [.bor i, .imm a, .imm b, .imm c] Γ Q = wIo Γ[i]? [a, b, c] i fn Γ Q := io_core [false, false, false] fn i [a, b, c] [.imm a, .imm b, .imm c] Γ Q rfl rfl
@[simp] theorem wC_io4 (fn : FS) (i : Nat) (a b c d : D) (Γ : Gm) (Q : EV → Gm → Prop) : wC [true, false, false, false, false] fn [.bor i, .imm a, .imm b, .imm c, .imm d] Γ Q = wIo Γ[i]? [a, b, c, d] i fn Γ Q := io_core [false, false, false, false] fn i [a, b, c, d] [.imm a, .imm b, .imm c, .imm d] Γ Q rfl rfl
/-- named arguments -/
@[simp] theorem wA_perm (π : List Nat) (n m : Nat) (a b : AM) (Γ : Gm) (Q : List EV → Gm → Prop) : wA (aPerm π n m a b) Γ Q = wA a Γ fun es Γ1 => wA b Γ1 fun fs Γ2 => (EV.oks es = true ∧ EV.oks fs = true) ∧ Q (permL π n m es fs) Γ2 := by
  unfold wA aPerm
  cases a Γ with
  | stuck => rfl
  | ok es Γ1 =>
    dsimp only
    cases b Γ1 with
    | stuck => rfl
    | ok fs Γ2 =>
      dsimp only
      by_cases h : EV.oks es = true ∧ EV.oks fs = true
      · rw [if_pos h]; simp [h]
      · rw [if_neg h]; simp [h]
/-! ### a def -/
def wRet (o : Option (Bool × D × Gm)) (ms : List Bool) (Q : Bool → D → List D → Prop) : Prop := wO o fun p => wO (iosOf ms p.2.2) fun ios => Q p.1 p.2.1 ios
/-- what is behind a def's body -/
def wR (ms : List Bool) (Q : Bool → D → List D → Prop) : SRes → Prop
  | .nx Γ => wO (iosOf ms Γ) fun ios => Q false .non ios
  | .ret e Γ => e.fz.ok = true ∧ wRet (retV e Γ) ms Q
  | _ => False
@[simp] theorem wR_nx (ms : List Bool) (Q : Bool → D → List D → Prop) (Γ : Gm) : wR ms Q (.nx Γ) = wO (iosOf ms Γ) fun ios => Q false .non ios := rfl
@[simp] theorem wR_ret (ms : List Bool) (Q : Bool → D → List D → Prop) (e : EV) (Γ : Gm) : wR ms Q (.ret e Γ) = (e.fz.ok = true ∧ wRet (retV e Γ) ms Q) := rfl
@[simp] theorem wR_bk (ms : List Bool) (Q : Bool → D → List D → Prop) (Γ : Gm) : wR ms Q (.bk Γ) = False := rfl
@[simp] theorem wR_ct (ms : List Bool) (Q : Bool → D → List D → Prop) (Γ : Gm) : wR ms Q (.ct Γ) = False := rfl
theorem finR_w (o : Option (Bool × D × Gm)) (ms : List Bool) (Q : Bool → D → List D → Prop) : mF (finR ms o) Q = wRet o ms Q := by
  unfold finR wRet
  cases o with
  | none => simp
  | some p =>
    obtain ⟨fr, d, Γ⟩ := p
    dsimp only
    cases h : iosOf ms Γ <;> simp [h]
theorem wF_run {n : Nat} {ms : List Bool} {g : SM} {ds : List D} {Q : Bool → D → List D → Prop} (hl : ds.length = ms.length) (hn : ms.length ≤ n) (h : wS g (slots0 ms ds ++ List.replicate (n - ms.length) .un) (wR ms Q)) : wF (runF n ms g) ds Q := by
  rw [wF_eq]
  unfold runF
  rw [if_pos ⟨hl, hn⟩]
  rw [wS_eq] at h
  cases hg : g (slots0 ms ds ++ List.replicate (n - ms.length) .un) with
  | nx Γ =>
    rw [hg] at h
    dsimp only
    rw [finR_w]
    simpa [wRet] using h
  | ret e Γ =>
    rw [hg] at h
    dsimp only
    have hN : retN e Γ = none := by
      obtain ⟨h1, p, h2, _⟩ := h
      unfold retN
      split
      · cases h1
      · rename_i i
        split
        · rename_i ds' hs
          unfold retV at h2
          simp only [hs] at h2
          unfold settle at h2
          simp only [hs] at h2
          cases h2
        · rfl
      · rfl
    rw [hN]
    dsimp only
    rw [if_pos h.1, finR_w]
    exact h.2
  | _ => rw [hg] at h; exact h.elim
/-- a def that hands back a new list that owns lists -/
structure wFN (fn : FS) (ds : List D) (Q : List D → List D → Prop) : Prop where
  out : ∃ es ios, fn ds = .okN es ios ∧ Q es ios
def wRN (ms : List Bool) (Q : List D → List D → Prop) : SRes → Prop
  | .ret e Γ => wO (retN e Γ) fun es => wO (iosOf ms Γ) fun ios => Q es ios
  | _ => False
@[simp] theorem wRN_nx (ms : List Bool) (Q : List D → List D → Prop) (Γ : Gm) : wRN ms Q (.nx Γ) = False := rfl
@[simp] theorem wRN_bk (ms : List Bool) (Q : List D → List D → Prop) (Γ : Gm) : wRN ms Q (.bk Γ) = False := rfl
@[simp] theorem wRN_ct (ms : List Bool) (Q : List D → List D → Prop) (Γ : Gm) : wRN ms Q (.ct Γ) = False := rfl
@[simp] theorem wRN_ret (ms : List Bool) (Q : List D → List D → Prop) (e : EV) (Γ : Gm) : wRN ms Q (.ret e Γ) = wO (retN e Γ) fun es => wO (iosOf ms Γ) fun ios => Q es ios := rfl
@[simp] theorem retN_frn (ds : List D) (Γ : Gm) : retN (.frn ds) Γ = some ds := rfl
def retNB (s : Option Sl) : Option (List D) := match s with
  | some (.nst false ds) => some ds
  | _ => none
@[simp] theorem retN_bor (i : Nat) (Γ : Gm) : retN (.bor i) Γ = retNB Γ[i]? := rfl
@[simp] theorem retNB_n (ds : List D) : retNB (some (.nst false ds)) = some ds := rfl
theorem wFN_run {n : Nat} {ms : List Bool} {g : SM} {ds : List D} {Q : List D → List D → Prop} (hl : ds.length = ms.length) (hn : ms.length ≤ n) (h : wS g (slots0 ms ds ++ List.replicate (n - ms.length) .un) (wRN ms Q)) : wFN (runF n ms g) ds Q := by
  rw [wS_eq] at h
  constructor
  unfold runF
  rw [if_pos ⟨hl, hn⟩]
  cases hg : g (slots0 ms ds ++ List.replicate (n - ms.length) .un) with
  | ret e Γ =>
    rw [hg] at h
    obtain ⟨es, e1, ios, e2, q⟩ := h
    dsimp only
    rw [e1]
    dsimp only
    unfold finN
    rw [e2]
    exact ⟨es, ios, rfl, q⟩
  | _ => rw [hg] at h; exact h.elim
theorem wF_ok {fn : FS} {ds : List D} {fr : Bool} {d : D} {ios : List D} {Q : Bool → D → List D → Prop} (h : fn ds = .ok fr d ios) (q : Q fr d ios) : wF fn ds Q := by
  rw [wF_eq, h]; exact q
theorem wF_imp {fn : FS} {ds : List D} {Q Q' : Bool → D → List D → Prop} (h : wF fn ds Q) (i : ∀ fr d ios, Q fr d ios → Q' fr d ios) : wF fn ds Q' := by
  rw [wF_eq] at h ⊢
  cases hf : fn ds with
  | ok fr d ios => rw [hf] at h; exact i _ _ _ h
  | okN _ _ => rw [hf] at h; exact h
  | stuck => rw [hf] at h; exact h
theorem wF_get {fn : FS} {ds : List D} {Q : Bool → D → List D → Prop} (h : wF fn ds Q) : ∃ fr d ios, fn ds = .ok fr d ios ∧ Q fr d ios := by
  rw [wF_eq] at h
  cases e : fn ds with
  | ok fr d ios => rw [e] at h; exact ⟨fr, d, ios, rfl, h⟩
  | okN _ _ => rw [e] at h; exact h.elim
  | stuck => rw [e] at h; exact h.elim
@[simp] theorem slots0_nil (ms : List Bool) : slots0 ms [] = [] := by cases ms <;> rfl
@[simp] theorem slots0_nil' (ds : List D) : slots0 [] ds = [] := rfl
@[simp] theorem slots0_t (ms : List Bool) (d : D) (ds : List D) : slots0 (true :: ms) (d :: ds) = ioS d :: slots0 ms ds := rfl
@[simp] theorem ioS_l (ds : List D) : ioS (.lst ds) = .own true (.lst ds) := rfl
@[simp] theorem ioS_d (ks : List Key) (ds : List D) : ioS (.dic ks ds) = .own true (.dic ks ds) := rfl
@[simp] theorem ioS_t (ds : List D) : ioS (.tup ds) = .nst true ds := rfl
@[simp] theorem slots0_f (ms : List Bool) (d : D) (ds : List D) : slots0 (false :: ms) (d :: ds) = .val d :: slots0 ms ds := rfl
@[simp] theorem iosOf_nil (Γ : Gm) : iosOf [] Γ = some [] := by cases Γ <;> rfl
@[simp] theorem iosOf_t (ms : List Bool) (d : D) (Γ : Gm) : iosOf (true :: ms) (.own true d :: Γ) = (iosOf ms Γ).map (d :: ·) := rfl
@[simp] theorem iosOf_n (ms : List Bool) (ds : List D) (Γ : Gm) : iosOf (true :: ms) (.nst true ds :: Γ) = (iosOf ms Γ).map (.tup ds :: ·) := rfl
@[simp] theorem iosOf_f (ms : List Bool) (s : Sl) (Γ : Gm) : iosOf (false :: ms) (s :: Γ) = iosOf ms Γ := rfl
@[simp] theorem wRet_some (fr : Bool) (d : D) (Γ : Gm) (ms : List Bool) (Q : Bool → D → List D → Prop) : wRet (some (fr, d, Γ)) ms Q = wO (iosOf ms Γ) fun ios => Q fr d ios := by simp [wRet]
@[simp] theorem retV_fr (d : D) (Γ : Gm) : retV (.fr d) Γ = some (true, d, Γ) := rfl
@[simp] theorem retV_imm (d : D) (Γ : Gm) : retV (.imm d) Γ = some (false, d, Γ) := by simp [retV]
def retB (s : Option Sl) (i : Nat) (Γ : Gm) : Option (Bool × D × Gm) := match s with
  | some (.own false d) => some (true, d, Γ)
  | _ => (settle (.bor i) Γ).map fun p => (false, p.1, p.2)
@[simp] theorem retV_bor (i : Nat) (Γ : Gm) : retV (.bor i) Γ = retB Γ[i]? i Γ := rfl
@[simp] theorem retB_own (d : D) (i : Nat) (Γ : Gm) : retB (some (.own false d)) i Γ = some (true, d, Γ) := rfl
@[simp] theorem retV_tl (es : List EV) (Γ : Gm) : retV (.tl es) Γ = (settle (.tl es) Γ).map fun p => (false, p.1, p.2) := rfl
@[simp] theorem retV_tt (es : List EV) (Γ : Gm) : retV (.tt es) Γ = (settle (.tt es) Γ).map fun p => (false, p.1, p.2) := rfl
def stB (s : Option Sl) (i : Nat) (Γ : Gm) : Option (D × Gm) := match s with
  | some (.val d) => some (d, Γ)
  | some (.own false d) => some (d, Γ.set i (.val d))
  | _ => none
@[simp] theorem settle_bor (i : Nat) (Γ : Gm) : settle (.bor i) Γ = stB Γ[i]? i Γ := by unfold settle stB; rfl
@[simp] theorem stB_val (d : D) (i : Nat) (Γ : Gm) : stB (some (.val d)) i Γ = some (d, Γ) := rfl
@[simp] theorem stB_own (d : D) (i : Nat) (Γ : Gm) : stB (some (.own false d)) i Γ = some (d, Γ.set i (.val d)) := rfl
@[simp] theorem settle_tl (es : List EV) (Γ : Gm) : settle (.tl es) Γ = (settles es Γ).map fun p => (.lst p.1, p.2) := by unfold settle; rfl
@[simp] theorem settle_tt (es : List EV) (Γ : Gm) : settle (.tt es) Γ = (settles es Γ).map fun p => (.tup p.1, p.2) := by unfold settle; rfl
@[simp] theorem settles_nil (Γ : Gm) : settles [] Γ = some ([], Γ) := by unfold settles; rfl
@[simp] theorem settles_cons (e : EV) (es : List EV) (Γ : Gm) : settles (e :: es) Γ = (settle e Γ).bind fun p => (settles es p.2).map fun q => (p.1 :: q.1, q.2) := by
  rw [settles]
  cases settle e Γ <;> rfl
/-! ### loops -/
structure wLp (t : Tg) (b : SM) (ds : List D) (Γ : Gm) (Q : SRes → Prop) : Prop where
  out : wX (forL t b ds Γ) Q
@[simp] theorem wS_for (it : IM) (t : Tg) (b : SM) (Γ : Gm) (Q : SRes → Prop) : wS (sFor it t b) Γ Q = wI it Γ fun ds Γ1 => wLp t b ds Γ1 Q := by
  have e : ∀ ds Γ1, wLp t b ds Γ1 Q = wX (forL t b ds Γ1) Q := fun ds Γ1 => propext ⟨fun h => h.out, fun h => ⟨h⟩⟩
  simp only [e]
  simp only [wS_eq]
  unfold wI sFor
  cases it Γ <;> rfl
structure wWh (c : EM) (b : SM) (Γ : Gm) (Q : SRes → Prop) : Prop where
  out : wS (sWhile c b) Γ Q
@[simp] theorem wS_while (c : EM) (b : SM) (Γ : Gm) (Q : SRes → Prop) : wS (sWhile c b) Γ Q = wWh c b Γ Q := propext ⟨fun h => ⟨h⟩, fun h => h.out⟩
theorem for_inv {t : Tg} {b : SM} {ds : List D} {Q : SRes → Prop} (I : Nat → Gm → Prop) {Γ : Gm} (h0 : I 0 Γ)
    (hs : ∀ i d Γ, ds[i]? = some d → I i Γ → wO (setT t d Γ) fun Γ1 => wS b Γ1 fun r => match r with
      | .nx Γ2 => I (i + 1) Γ2
      | .ct Γ2 => I (i + 1) Γ2
      | .bk Γ2 => Q (.nx Γ2)
      | .ret e Γ2 => Q (.ret e Γ2)
      | .stuck => False)
    (he : ∀ Γ, I ds.length Γ → Q (.nx Γ)) : wLp t b ds Γ Q := by
  constructor
  suffices H : ∀ (k : Nat) (es : List D) (Γ : Gm), ds.drop k = es → k + es.length = ds.length → I k Γ → wX (forL t b es Γ) Q from H 0 ds Γ (by simp) (by simp) h0
  intro k es
  induction es generalizing k with
  | nil => intro Γ _ hl hi; exact he Γ (by simpa using (by simpa using hl ▸ hi))
  | cons d es ih =>
    intro Γ hd hl hi
    have hk : ds[k]? = some d := by
      have := congrArg (·[0]?) hd
      simpa using this
    have hd' : ds.drop (k + 1) = es := by
      have := congrArg List.tail hd
      simpa using this
    have := hs k d Γ hk hi
    obtain ⟨Γ1, e1, h1⟩ := this
    unfold forL
    rw [e1]
    dsimp only
    rw [wS_eq] at h1
    cases hb : b Γ1 with
    | nx Γ2 => rw [hb] at h1; exact ih (k + 1) Γ2 hd' (by simp at hl; omega) h1
    | ct Γ2 => rw [hb] at h1; exact ih (k + 1) Γ2 hd' (by simp at hl; omega) h1
    | bk Γ2 => rw [hb] at h1; exact h1
    | ret e Γ2 => rw [hb] at h1; exact h1
    | stuck => rw [hb] at h1; exact h1
theorem while_inv {c : EM} {b : SM} {Q : SRes → Prop} (I : Nat → Gm → Prop)
    (hs : ∀ m Γ, I m Γ → wE c Γ fun e Γ1 => wB e.fz fun t => (t = true → wS b Γ1 fun r => match r with
      | .nx Γ2 => ∃ m', m' < m ∧ I m' Γ2
      | .ct Γ2 => ∃ m', m' < m ∧ I m' Γ2
      | .bk Γ2 => Q (.nx Γ2)
      | .ret e Γ2 => Q (.ret e Γ2)
      | .stuck => False) ∧ (t = false → Q (.nx Γ1))) {m : Nat} {Γ : Gm} (h0 : I m Γ) : wWh c b Γ Q := by
  constructor
  suffices H : ∃ n, wX (whileF c b n Γ) Q by
    obtain ⟨n, hn⟩ := H
    have ns : whileF c b n Γ ≠ .stuck := fun e => by rw [e] at hn; exact hn
    simp only [wS_eq]
    rw [sWhile_of ns]
    exact hn
  induction m using Nat.strongRecOn generalizing Γ with
  | _ m ih =>
    have := hs m Γ h0
    unfold wE at this
    cases hc : c Γ with
    | stuck => rw [hc] at this; exact this.elim
    | ok e Γ1 =>
      rw [hc, mE_ok] at this
      obtain ⟨t, et, h1, h2⟩ := this
      cases t with
      | false => exact ⟨1, by unfold whileF; rw [hc, go_ok, et, byS_f]; exact h2 rfl⟩
      | true =>
        have h1 := h1 rfl
        rw [wS_eq] at h1
        cases hb : b Γ1 with
        | nx Γ2 =>
          rw [hb] at h1
          obtain ⟨m', hm, hi⟩ := h1
          obtain ⟨n, hn⟩ := ih m' hm hi
          exact ⟨n + 1, by unfold whileF; rw [hc, go_ok, et, byS_t, hb]; exact hn⟩
        | ct Γ2 =>
          rw [hb] at h1
          obtain ⟨m', hm, hi⟩ := h1
          obtain ⟨n, hn⟩ := ih m' hm hi
          exact ⟨n + 1, by unfold whileF; rw [hc, go_ok, et, byS_t, hb]; exact hn⟩
        | bk Γ2 => rw [hb] at h1; exact ⟨1, by unfold whileF; rw [hc, go_ok, et, byS_t, hb]; exact h1⟩
        | ret e Γ2 => rw [hb] at h1; exact ⟨1, by unfold whileF; rw [hc, go_ok, et, byS_t, hb]; exact h1⟩
        | stuck => rw [hb] at h1; exact h1.elim
end DL

namespace DL
open PySem PySem.Spec PyProof.Rows L2
/-! ## what the operators give -/
theorem p64 : (2 : Int) ^ 64 = 18446744073709551616 := by decide
theorem p62 : (2 : Int) ^ 62 = 4611686018427387904 := by decide
@[simp] theorem oAdd_i (i j : Int) : oAdd (.int i) (.int j) = some (.imm (.int (i + j))) := rfl
@[simp] theorem oAdd_s (i j : List Nat) : oAdd (.str i) (.str j) = if i.length + j.length ≤ sizeLine then some (.imm (.str (i ++ j))) else none := rfl
@[simp] theorem oAdd_l (i j : List D) : oAdd (.lst i) (.lst j) = if i.length + j.length ≤ sizeLine then some (.fr (.lst (i ++ j))) else none := rfl
@[simp] theorem oAdd_t (i j : List D) : oAdd (.tup i) (.tup j) = if i.length + j.length ≤ sizeLine then some (.imm (.tup (i ++ j))) else none := rfl
@[simp] theorem oIadd_i (i j : Int) : oIadd (.int i) (.int j) = some (.imm (.int (i + j))) := rfl
@[simp] theorem oSub_i (i j : Int) : oSub (.int i) (.int j) = some (.imm (.int (i - j))) := rfl
theorem oMul_i (i j : Int) : oMul (.int i) (.int j) = if (-(2 ^ 64) < i ∧ i < 2 ^ 64) ∨ (-(2 ^ 64) < j ∧ j < 2 ^ 64) then some (.imm (.int (i * j))) else none := rfl
@[simp] theorem w_mul (i j : Int) (Q : EV → Prop) : wO (oMul (.int i) (.int j)) Q = (((-18446744073709551616 < i ∧ i < 18446744073709551616) ∨ (-18446744073709551616 < j ∧ j < 18446744073709551616)) ∧ Q (.imm (.int (i * j)))) := by
  rw [oMul_i, wO_if, p64]
theorem oMul_s (s : List Nat) (n : Int) : oMul (.str s) (.int n) = if (-(2 ^ 62) < n ∧ n < 2 ^ 62) ∧ s.length * n.toNat ≤ sizeLine then some (.imm (.str (mulL s n))) else none := rfl
@[simp] theorem w_mulS (s : List Nat) (n : Int) (Q : EV → Prop) : wO (oMul (.str s) (.int n)) Q = (((-4611686018427387904 < n ∧ n < 4611686018427387904) ∧ s.length * n.toNat ≤ sizeLine) ∧ Q (.imm (.str (mulL s n)))) := by
  rw [oMul_s, wO_if, p62]
theorem oMul_l (s : List D) (n : Int) : oMul (.lst s) (.int n) = if (-(2 ^ 62) < n ∧ n < 2 ^ 62) ∧ s.length * n.toNat ≤ sizeLine then some (.fr (.lst (mulL s n))) else none := rfl
@[simp] theorem w_mulL (s : List D) (n : Int) (Q : EV → Prop) : wO (oMul (.lst s) (.int n)) Q = (((-4611686018427387904 < n ∧ n < 4611686018427387904) ∧ s.length * n.toNat ≤ sizeLine) ∧ Q (.fr (.lst (mulL s n)))) := by
  rw [oMul_l, wO_if, p62]
@[simp] theorem oDiv_i (i j : Int) : oDiv (.int i) (.int j) = if 0 < j ∧ j < 1073741824 then some (.imm (.int (i / j))) else none := rfl
@[simp] theorem oMod_i (i j : Int) : oMod (.int i) (.int j) = if 0 < j then some (.imm (.int (i % j))) else none := rfl
theorem oPow_i (i j : Int) : oPow (.int i) (.int j) = if 0 ≤ j ∧ j ≤ 1000000 ∧ i.natAbs < 2 ^ 64 then some (.imm (.int (i ^ j.toNat))) else none := rfl
@[simp] theorem oPow_18 : oPow (.int 10) (.int 18) = some (.imm (.int 1000000000000000000)) := by rw [oPow_i, if_pos (by decide)]; rfl
@[simp] theorem oNeg_i (i : Int) : oNeg (.int i) = some (.imm (.int (-i))) := rfl
@[simp] theorem oCmp_i (p : Int → Int → Bool) (q : List Nat → List Nat → Bool) (i j : Int) : oCmp p q (.int i) (.int j) = some (.imm (.bl (p i j))) := rfl
@[simp] theorem oCmp_s (p : Int → Int → Bool) (q : List Nat → List Nat → Bool) (i j : List Nat) : oCmp p q (.str i) (.str j) = some (.imm (.bl (q i j))) := rfl
@[simp] theorem oIs_n (d : D) : oIs d .non = some (.imm (.bl (isN d))) := rfl
@[simp] theorem oIsNot_n (d : D) : oIsNot d .non = some (.imm (.bl (!isN d))) := rfl
@[simp] theorem oIx_l (ds : List D) (i : Int) : oIx (.lst ds) (.int i) = (atI ds i).map .imm := rfl
@[simp] theorem oIx_t (ds : List D) (i : Int) : oIx (.tup ds) (.int i) = (atI ds i).map .imm := rfl
@[simp] theorem oIx_f (ds : List D) (i : Int) : oIx (.frl ds) (.int i) = (atI ds i).map .imm := rfl
@[simp] theorem oIx_s (s : List Nat) (i : Int) : oIx (.str s) (.int i) = (atI s i).map fun c => .imm (.str [c]) := rfl
@[simp] theorem oSl_l (lo hi : Option Int) (ds : List D) : oSl lo hi (.lst ds) = some (.fr (.lst (cutL ds lo hi))) := rfl
@[simp] theorem oSl_t (lo hi : Option Int) (ds : List D) : oSl lo hi (.tup ds) = some (.imm (.tup (cutL ds lo hi))) := rfl
@[simp] theorem oSl_s (lo hi : Option Int) (ds : List Nat) : oSl lo hi (.str ds) = some (.imm (.str (cutL ds lo hi))) := rfl
@[simp] theorem oRev_s (s : List Nat) : oRev (.str s) = some (.imm (.str s.reverse)) := rfl
@[simp] theorem oRev_l (s : List D) : oRev (.lst s) = some (.fr (.lst s.reverse)) := rfl
@[simp] theorem oLen_s (s : List Nat) : oLen [.str s] = some (.imm (.int s.length)) := rfl
@[simp] theorem oLen_l (s : List D) : oLen [.lst s] = some (.imm (.int s.length)) := rfl
@[simp] theorem oLen_t (s : List D) : oLen [.tup s] = some (.imm (.int s.length)) := rfl
@[simp] theorem oLen_f (s : List D) : oLen [.frl s] = some (.imm (.int s.length)) := rfl
@[simp] theorem oList_l (s : List D) : oList [.lst s] = some (.fr (.lst s)) := rfl
@[simp] theorem oList_t (s : List D) : oList [.tup s] = some (.fr (.lst s)) := rfl
@[simp] theorem oList_f (s : List D) : oList [.frl s] = some (.fr (.lst s)) := rfl
@[simp] theorem oTuple_l (s : List D) : oTuple [.lst s] = some (.imm (.tup s)) := rfl
@[simp] theorem oTuple_t (s : List D) : oTuple [.tup s] = some (.imm (.tup s)) := rfl
@[simp] theorem oInt_i (i : Int) : oInt [.int i] = some (.imm (.int i)) := rfl
@[simp] theorem oAbs_i (i : Int) : oAbs [.int i] = some (.imm (.int (if i < 0 then -i else i))) := rfl
@[simp] theorem oMax2_i (i j : Int) : oMax2 [.int i, .int j] = some (.imm (.int (if j > i then j else i))) := rfl
@[simp] theorem oMin2_i (i j : Int) : oMin2 [.int i, .int j] = some (.imm (.int (if j < i then j else i))) := rfl
@[simp] theorem oIsi_eq (Ts : List Ty5) (d : D) : oIsi Ts d = some (.imm (.bl (Ts.any fun T => isTy d T))) := rfl
theorem mapO_map {α β : Type} {f : D → Option α} {g : β → D} {h : β → α} (e : ∀ b, f (g b) = some (h b)) : ∀ bs : List β, mapO f (bs.map g) = some (bs.map h)
  | [] => rfl
  | b :: bs => by simp [mapO, e, mapO_map e bs]
@[simp] theorem oAll_b (bs : List Bool) : oAll [.lst (bs.map D.bl)] = some (.imm (.bl (bs.all fun b => b))) := by
  simp [oAll, mapO_map (g := D.bl) (h := id) (f := asB) fun _ => rfl]
@[simp] theorem oAny_b (bs : List Bool) : oAny [.lst (bs.map D.bl)] = some (.imm (.bl (bs.any fun b => b))) := by
  simp [oAny, mapO_map (g := D.bl) (h := id) (f := asB) fun _ => rfl]
@[simp] theorem oSum_i (bs : List Int) : oSum [.lst (bs.map D.int)] = some (.imm (.int bs.sum)) := by
  simp [oSum, mapO_map (g := D.int) (h := id) (f := asI) fun _ => rfl]
@[simp] theorem oJoin_s (s : List Nat) (ys : List (List Nat)) : oJoin (.str s) (.lst (ys.map D.str)) = if (ys.map List.length).sum + ys.length * s.length ≤ 16777216 then some (.imm (.str (joinL s ys))) else none := by
  simp [oJoin, mapO_map (g := D.str) (h := id) (f := asS) fun _ => rfl]
/-! ### equality of data -/
mutual
def same : D → D → Bool
  | .non, .non => true
  | .bl a, .bl b => a == b
  | .int a, .int b => a == b
  | .str a, .str b => a == b
  | .tup a, .tup b => sames a b
  | .lst a, .lst b => sames a b
  | _, _ => false
def sames : List D → List D → Bool
  | [], [] => true
  | a :: r, b :: s => same a b && sames r s
  | _, _ => false
end
@[simp] theorem deq_i (i j : Int) : deq (.int i) (.int j) = decide (i = j) := by
  show (i == j) = _
  by_cases h : i = j <;> simp [h]
@[simp] theorem deq_s (i j : List Nat) : deq (.str i) (.str j) = decide (i = j) := by
  unfold deq toPD PyData.eqv
  by_cases h : i = j
  · simp [h]
  · have : mkS i ≠ mkS j := fun e => h (mkS_inj e)
    simp [h, this]
@[simp] theorem deq_b (i j : Bool) : deq (.bl i) (.bl j) = decide (i = j) := by cases i <;> cases j <;> decide
def oEqI (neg : Bool) (ok : Bool) (b : Bool) : Option EV := if ok = true then some (.imm (.bl (if neg then !b else b))) else none
@[simp] theorem oEq_i (neg : Bool) (i j : Int) : oEq neg (.int i) (.int j) = some (.imm (.bl (if neg then !decide (i = j) else decide (i = j)))) := by simp [oEq, okE, dep]
@[simp] theorem oEq_s (neg : Bool) (i j : List Nat) : oEq neg (.str i) (.str j) = some (.imm (.bl (if neg then !decide (i = j) else decide (i = j)))) := by simp [oEq, okE, dep]
@[simp] theorem oEq_b (neg : Bool) (i j : Bool) : oEq neg (.bl i) (.bl j) = some (.imm (.bl (if neg then !decide (i = j) else decide (i = j)))) := by simp [oEq, okE, dep]
@[simp] theorem oIn_s (neg : Bool) (s t : List Nat) : oIn neg (.str s) (.str t) = some (.imm (.bl (if neg then !isub s t else isub s t))) := rfl
theorem isub_one (c : Nat) (t : List Nat) : isub [c] t = decide (c ∈ t) := by
  by_cases h : c ∈ t
  · rw [decide_eq_true h, isub_iff]
    obtain ⟨i, hi, e⟩ := List.getElem_of_mem h
    refine ⟨i, ?_, by omega⟩
    rw [List.length_singleton, List.take_one, List.head?_drop, List.getElem?_eq_getElem hi, e]
    rfl
  · rw [decide_eq_false h]
    cases h' : isub [c] t with
    | false => rfl
    | true =>
      obtain ⟨i, e, _⟩ := isub_iff.mp h'
      exact absurd (List.mem_of_mem_drop (List.mem_of_mem_take (by rw [e]; exact List.mem_singleton.mpr rfl))) h
theorem oAll_rep (n : Nat) : oAll [.lst (List.replicate n (.bl true))] = some (.imm (.bl true)) := by
  have := oAll_b (List.replicate n true)
  rw [List.map_replicate] at this
  rw [this]
  simp
/-! ### places -/
theorem ixN_n {n : Nat} {i : Int} (h0 : 0 ≤ i) (h : i < n) : ixN n i = some i.toNat := by unfold ixN; rw [if_pos h0, if_pos h]
theorem atI_n {α : Type} {xs : List α} {i : Int} (h0 : 0 ≤ i) (h : i < xs.length) : atI xs i = xs[i.toNat]? := by unfold atI; rw [ixN_n h0 h]; rfl
@[simp] theorem atI_0 {α : Type} (x : α) (xs : List α) : atI (x :: xs) 0 = some x := by rw [atI_n (by decide) (by simp)]; rfl
@[simp] theorem atI_1 {α : Type} (x y : α) (xs : List α) : atI (x :: y :: xs) 1 = some y := by rw [atI_n (by decide) (by simp; omega)]; rfl
@[simp] theorem atI_2 {α : Type} (x y z : α) (xs : List α) : atI (x :: y :: z :: xs) 2 = some z := by rw [atI_n (by decide) (by simp; omega)]; rfl
@[simp] theorem ixN_0 (n : Nat) : ixN (n + 1) 0 = some 0 := by rw [ixN_n (by decide) (by omega)]; rfl
@[simp] theorem ixN_1 (n : Nat) : ixN (n + 1 + 1) 1 = some 1 := by rw [ixN_n (by decide) (by omega)]; rfl
@[simp] theorem ixN_2 (n : Nat) : ixN (n + 1 + 1 + 1) 2 = some 2 := by rw [ixN_n (by decide) (by omega)]; rfl
@[simp] theorem asInt_i (i : Int) : asInt (some (.int i)) = some i := rfl
/-! ### walks -/
@[simp] theorem wI_any (f : EM) (Γ : Gm) (Q : List D → Gm → Prop) : wI (iAny f) Γ Q = wE f Γ fun e Γ1 => e.fz.ok = true ∧ wO (settle e.fz Γ1) fun p => wO (itemsOf p.1) fun ds => Q ds p.2 := by
  unfold wI iAny wE
  cases f Γ with
  | stuck => rfl
  | ok e Γ1 =>
    simp only [mE_ok]
    by_cases h : e.fz.ok = true
    · rw [if_pos h]
      unfold IRes.ofO
      cases settle e.fz Γ1 with
      | none => simp
      | some p => cases hi : itemsOf p.1 <;> simp [hi, h]
    · rw [if_neg h]; simp [h]
@[simp] theorem itemsOf_l (ds : List D) : itemsOf (.lst ds) = some ds := rfl
@[simp] theorem itemsOf_t (ds : List D) : itemsOf (.tup ds) = some ds := rfl
@[simp] theorem itemsOf_f (ds : List D) : itemsOf (.frl ds) = some ds := rfl
@[simp] theorem itemsOf_s (s : List Nat) : itemsOf (.str s) = some (s.map fun c => .str [c]) := rfl
def rng1 (n : Int) : List D := (List.range n.toNat).map fun i => .int (i : Nat)
def rng2 (i j : Int) : List D := (List.range (j - i).toNat).map fun k => .int (i + (k : Nat))
@[simp] theorem wI_r1 (f : EM) (Γ : Gm) (Q : List D → Gm → Prop) : wI (iR1 f) Γ Q = wE f Γ fun e Γ1 => wInt e.fz fun n => (-4611686018427387904 ≤ n ∧ n < 4611686018427387904) ∧ Q (rng1 n) Γ1 := by
  unfold wI iR1 wE
  cases f Γ with
  | stuck => rfl
  | ok e Γ1 =>
    simp only [mE_ok]
    rw [← isI_w]
    cases isI e.fz with
    | none => simp
    | some n =>
      simp only [wO_some, rng1, p62, Int.zero_add]
      by_cases h : -4611686018427387904 ≤ n ∧ n < 4611686018427387904
      · rw [if_pos h]; simp [h]
      · rw [if_neg h]; simp [h]
@[simp] theorem wI_r2 (f g : EM) (Γ : Gm) (Q : List D → Gm → Prop) : wI (iR2 f g) Γ Q = wE f Γ fun e Γ1 => wE g Γ1 fun e2 Γ2 => wInt e.fz fun i => wInt e2.fz fun j => (-4611686018427387904 ≤ i ∧ i < 4611686018427387904 ∧ -4611686018427387904 ≤ j ∧ j < 4611686018427387904) ∧ Q (rng2 i j) Γ2 := by
  unfold wI iR2 wE
  cases f Γ with
  | stuck => rfl
  | ok e Γ1 =>
    simp only [mE_ok]
    cases g Γ1 with
    | stuck => rfl
    | ok e2 Γ2 =>
      simp only [mE_ok]
      rw [← isI_w]
      simp only [← isI_w]
      cases isI e.fz with
      | none => simp
      | some i =>
        cases isI e2.fz with
        | none => simp
        | some j =>
          simp only [wO_some, rng2, p62]
          by_cases h : -4611686018427387904 ≤ i ∧ i < 4611686018427387904 ∧ -4611686018427387904 ≤ j ∧ j < 4611686018427387904
          · rw [if_pos h]; simp [h]
          · rw [if_neg h]; simp [h]
/-! ### comprehensions -/
@[simp] theorem sl_nm (i : Nat) : (Tg.nm i).sl = [i] := by unfold Tg.sl; rfl
@[simp] theorem sl_tp (ts : List Tg) : (Tg.tp ts).sl = Tg.sls ts := by rw [Tg.sl]
@[simp] theorem sls_nil : Tg.sls [] = [] := by rw [Tg.sls]
@[simp] theorem sls_cons (t : Tg) (ts : List Tg) : Tg.sls (t :: ts) = t.sl ++ Tg.sls ts := by rw [Tg.sls]
@[simp] theorem setT_nm (i : Nat) (d : D) (Γ : Gm) (Q : Gm → Prop) : wO (setT (.nm i) d Γ) Q = (isOwn Γ[i]? = false ∧ Q (Γ.set i (.val d))) := by
  unfold setT
  by_cases h : isOwn Γ[i]? = true <;> simp [h]
@[simp] theorem setT_tp (ts : List Tg) (ds : List D) (Γ : Gm) : setT (.tp ts) (.tup ds) Γ = setTs ts ds Γ := by unfold setT; rfl
@[simp] theorem setTs_nil (Γ : Gm) : setTs [] [] Γ = some Γ := by unfold setTs; rfl
@[simp] theorem setTs_cons (t : Tg) (ts : List Tg) (d : D) (ds : List D) (Γ : Gm) : setTs (t :: ts) (d :: ds) Γ = (setT t d Γ).bind fun Γ1 => setTs ts ds Γ1 := by rw [setTs]
theorem isIo_of {s : Sl} (h : isOwn (some s) = false) : isIo (some s) = false := by
  cases s with
  | own b d => cases h
  | nst b d => cases h
  | _ => rfl

structure wL (t : Tg) (vs : List Nat) (c : Option EM) (f : EM) (ds acc : List D) (Γ : Gm) (Q : List D → Gm → Prop) : Prop where
  out : wO (lcL t vs c f ds acc Γ) fun q => Q q.1 q.2
theorem wL_eq (t : Tg) (vs : List Nat) (c : Option EM) (f : EM) (ds acc : List D) (Γ : Gm) (Q : List D → Gm → Prop) : wL t vs c f ds acc Γ Q = wO (lcL t vs c f ds acc Γ) fun q => Q q.1 q.2 := propext ⟨fun h => h.out, fun h => ⟨h⟩⟩
theorem wL_imp {t : Tg} {vs : List Nat} {c : Option EM} {f : EM} {ds acc : List D} {Γ : Gm} {Q Q' : List D → Gm → Prop} (h : wL t vs c f ds acc Γ Q) (i : ∀ a Γ, Q a Γ → Q' a Γ) : wL t vs c f ds acc Γ Q' := by
  obtain ⟨q, h1, h2⟩ := h.out
  exact ⟨q, h1, i _ _ h2⟩
@[simp] theorem wE_lc (vs : List Nat) (it : IM) (t : Tg) (c : Option EM) (f : EM) (Γ : Gm) (Q : EV → Gm → Prop) : wE (eLc vs it t c f) Γ Q = wI it Γ fun ds Γ1 => ((vs.all fun i => !isOwn Γ1[i]?) = true ∧ (t.sl.all fun i => vs.contains i) = true) ∧
    wL t vs c f ds [] (wipeG Γ1 vs) fun acc Γ2 => Q (.fr (.lst acc)) (resG Γ1 Γ2 vs) := by
  simp only [wL_eq]
  unfold wE wI eLc
  cases it Γ with
  | stuck => rfl
  | ok ds Γ1 =>
    dsimp only
    rw [mE_if]
    congr
    cases lcL t vs c f ds [] (wipeG Γ1 vs) <;> simp
def wCd (c : Option EM) (Γ : Gm) (Q : Bool → Gm → Prop) : Prop := wO (condG c Γ) fun p => Q p.1 p.2
@[simp] theorem wCd_none (Γ : Gm) (Q : Bool → Gm → Prop) : wCd none Γ Q = Q true Γ := by simp [wCd, condG]
@[simp] theorem wCd_some (c : EM) (Γ : Gm) (Q : Bool → Gm → Prop) : wCd (some c) Γ Q = wE c Γ fun e Γ1 => wB e.fz fun b => Q b Γ1 := by
  unfold wCd wE condG
  dsimp only
  generalize c Γ = r
  cases r with
  | stuck => simp
  | ok e Γ1 =>
    simp only [mE_ok]
    generalize e.fz = z
    cases z with
    | imm d => cases d <;> simp [wB]
    | _ => simp [wB]
theorem elt_w (f : EM) (Γ : Gm) (Q : D × Gm → Prop) : wO (eltG f Γ) Q = wE f Γ fun e Γ1 => e.fz.ok = true ∧ wO (settle e.fz Γ1) Q := by
  unfold eltG wE
  cases f Γ with
  | stuck => simp
  | ok e Γ1 =>
    simp only [mE_ok]
    by_cases h : e.fz.ok = true <;> simp [h]
theorem lc_inv {t : Tg} {vs : List Nat} {c : Option EM} {f : EM} {ds : List D} {Q : List D → Gm → Prop} (I : Nat → List D → Gm → Prop) {Γ : Gm} (h0 : I 0 [] Γ)
    (hs : ∀ i d acc Γ, ds[i]? = some d → I i acc Γ → wO (setT t d Γ) fun Γ1 => wCd c Γ1 fun b Γ2 => (b = true → wE f Γ2 fun e Γ3 => e.fz.ok = true ∧ wO (settle e.fz Γ3) fun q => acc.length < sizeLine ∧ I (i + 1) (acc ++ [q.1]) (wipeG q.2 vs)) ∧ (b = false → I (i + 1) acc (wipeG Γ2 vs)))
    (he : ∀ acc Γ, I ds.length acc Γ → Q acc Γ) : wL t vs c f ds [] Γ Q := by
  suffices H : ∀ (k : Nat) (es acc : List D) (Γ : Gm), ds.drop k = es → k + es.length = ds.length → I k acc Γ → wL t vs c f es acc Γ Q from H 0 ds [] Γ (by simp) (by simp) h0
  intro k es
  induction es generalizing k with
  | nil => intro acc Γ _ hl hi; rw [wL_eq]; unfold lcL; simp only [wO_some]; exact he acc Γ (by simpa using (by simpa using hl ▸ hi))
  | cons d es ih =>
    intro acc Γ hd hl hi
    have hk : ds[k]? = some d := by
      have := congrArg (·[0]?) hd
      simpa using this
    have hd' : ds.drop (k + 1) = es := by
      have := congrArg List.tail hd
      simpa using this
    obtain ⟨Γ1, e1, p, e2, h1, h2⟩ := hs k d acc Γ hk hi
    rw [wL_eq]
    unfold lcL
    rw [wO_bind]
    refine ⟨Γ1, e1, ?_⟩
    dsimp only
    rw [wO_bind]
    refine ⟨p, e2, ?_⟩
    dsimp only
    by_cases hp : p.1 = true
    · rw [if_pos hp, wO_bind, elt_w]
      have h1 := h1 hp
      unfold wE at h1 ⊢
      cases hf : f p.2 with
      | stuck => rw [hf] at h1; exact h1
      | ok e Γ3 =>
        rw [hf] at h1
        obtain ⟨o, q, hq, hlt, hI⟩ := h1
        refine ⟨o, q, hq, ?_⟩
        dsimp only
        rw [if_pos hlt]
        exact (ih (k + 1) _ _ hd' (by simp at hl; omega) hI).out
    · rw [if_neg hp]
      exact (ih (k + 1) _ _ hd' (by simp at hl; omega) (h2 (by simpa using hp))).out
end DL

namespace DL
open PySem PySem.Spec PyProof.Rows L2
/-! ## calls with lists of one's own, only read -/
structure wBo (ms : List Bool) (fn : FS) (es : List EV) (Γ : Gm) (Q : EV → Gm → Prop) : Prop where
  out : wC ms fn es Γ Q
theorem wBo_eq (ms : List Bool) (fn : FS) (es : List EV) (Γ : Gm) (Q : EV → Gm → Prop) : wC ms fn es Γ Q = wBo ms fn es Γ Q := propext ⟨fun h => ⟨h⟩, fun h => h.out⟩
@[simp] theorem wC_tl (ms : List Bool) (fn : FS) (xs es : List EV) (Γ : Gm) (Q : EV → Gm → Prop) : wC ms fn (.tl xs :: es) Γ Q = wBo ms fn (.tl xs :: es) Γ Q := wBo_eq ..
@[simp] theorem wC_tt (ms : List Bool) (fn : FS) (xs es : List EV) (Γ : Gm) (Q : EV → Gm → Prop) : wC ms fn (.tt xs :: es) Γ Q = wBo ms fn (.tt xs :: es) Γ Q := wBo_eq ..
@[simp] theorem wC_borf (ms : List Bool) (fn : FS) (i : Nat) (es : List EV) (Γ : Gm) (Q : EV → Gm → Prop) : wC (false :: ms) fn (.bor i :: es) Γ Q = wBo (false :: ms) fn (.bor i :: es) Γ Q := wBo_eq ..
@[simp] theorem wC1_none (ms : List Bool) (fn : FS) (es : List EV) (Γ : Gm) (Q : EV → Gm → Prop) : wC1 none ms fn es Γ Q = wBo ms fn es Γ Q := wBo_eq ..
theorem bo_i {ms : List Bool} {fn : FS} {es : List EV} {Γ : Gm} {Q : EV → Gm → Prop} (ds : List D) (h : derefs Γ es = some ds) (q : wF fn ds fun fr d ios => ios = [] ∧ flat d = true ∧ Q (.imm d) Γ) (hm : ms.any id = false := by rfl) (h0 : allImm es = none := by rfl) : wBo ms fn es Γ Q := by
  constructor
  obtain ⟨fr, d, ios, e, rfl, hf, q⟩ := wF_get q
  unfold wC callR
  rw [h0]
  dsimp only
  rw [if_neg (by rw [hm]; decide)]
  unfold borR
  rw [h, Option.bind_some, e]
  unfold isFlatR
  dsimp only
  rw [if_pos hf]
  exact q
theorem bo_s {ms : List Bool} {fn : FS} {es : List EV} {Γ Γ' : Gm} {Q : EV → Gm → Prop} (ds : List D) (h : derefs Γ es = some ds) (h' : settles es Γ = some (ds, Γ')) (q : wF fn ds fun fr d ios => ios = [] ∧ flat d = false ∧ Q (mkR fr d) Γ') (hm : ms.any id = false := by rfl) (h0 : allImm es = none := by rfl) : wBo ms fn es Γ Q := by
  constructor
  obtain ⟨fr, d, ios, e, rfl, hf, q⟩ := wF_get q
  unfold wC callR
  rw [h0]
  dsimp only
  rw [if_neg (by rw [hm]; decide)]
  unfold borR
  rw [h, Option.bind_some, e]
  unfold isFlatR
  dsimp only
  rw [if_neg (by rw [hf]; decide)]
  dsimp only
  rw [h']
  unfold setlR
  dsimp only
  rw [pure_w]
  refine ⟨hm, wF_ok e ⟨rfl, q⟩⟩
/-! ### a, b = x, y -/
@[simp] theorem wS_par (i : Nat) (oi : Bool) (f : EM) (j : Nat) (oj : Bool) (g : EM) (Γ : Gm) (Q : SRes → Prop) : wS (sPar i oi f j oj g) Γ Q = wE f Γ fun e1 Γ1 => (if oi = true then true else e1.fz.ok) = true ∧ wE g Γ1 fun e2 Γ2 => wO (prep oi (if oi = true then e1 else e1.fz) Γ2) fun q1 => wO (prep oj e2 q1.2) fun q2 =>
    (isIo q2.2[i]? = false ∧ isIo q2.2[j]? = false ∧ i ≠ j) ∧ Q (.nx ((q2.2.set i q1.1).set j q2.1)) := by
  simp only [wS_eq]
  unfold sPar
  simp only [go_wE, wX_if]
  congr; funext e1 Γ1; congr; funext e2 Γ2
  cases prep oi (if oi = true then e1 else e1.fz) Γ2 with
  | none => simp
  | some q1 =>
    simp only [wO_some]
    cases prep oj e2 q1.2 with
    | none => simp
    | some q2 =>
      simp only [wO_some]
      by_cases h : isIo q2.2[i]? = true ∨ isIo q2.2[j]? = true ∨ i = j
      · rw [if_pos h]
        simp
        intro h1 h2 h3
        rcases h with h | h | h
        · rw [h1] at h; cases h
        · rw [h2] at h; cases h
        · exact absurd h h3
      · rw [if_neg h]
        simp at h
        simp [h]
@[simp] theorem prep_f (e : EV) (Γ : Gm) (Q : Sl × Gm → Prop) : wO (prep false e Γ) Q = (e.fz.ok = true ∧ wO (settle e.fz Γ) fun p => Q (.val p.1, p.2)) := by
  unfold prep
  by_cases h : e.fz.ok = true <;> simp [h]
@[simp] theorem prep_t (d : D) (Γ : Gm) : prep true (.fr d) Γ = some (.own false d, Γ) := rfl
/-! ### comprehensions that only read -/
theorem sz63 : ∀ {n : Nat}, n ≤ 1000000 → n < sizeLine := fun h => Nat.lt_of_le_of_lt h (by decide)
theorem wipe_back {Γ : Gm} {i : Nat} {d : D} (h : Γ[i]? = some .un) : wipeG (Γ.set i (.val d)) [i] = Γ := by
  show ((Γ.set i (.val d)).set i .un) = Γ
  rw [List.set_set]
  apply List.ext_getElem?
  intro j
  rw [List.getElem?_set]
  split
  · rename_i e
    subst e
    have := (List.getElem?_eq_some_iff.mp h).1
    rw [if_pos this, h]
  · rfl
theorem lc_pure {i : Nat} {c : Option EM} {f : EM} {ds : List D} {Γ : Gm} {Q : List D → Gm → Prop} (cond : D → Bool) (val : D → D) (hu : Γ[i]? = some .un) (hl : ds.length ≤ 1000000)
    (h : ∀ d ∈ ds, wCd c (Γ.set i (.val d)) fun b Γ2 => b = cond d ∧ Γ2 = Γ.set i (.val d) ∧ (cond d = true → wE f (Γ.set i (.val d)) fun e Γ3 => e.fz = .imm (val d) ∧ Γ3 = Γ.set i (.val d)))
    (q : Q ((ds.filter cond).map val) Γ) : wL (.nm i) [i] c f ds [] Γ Q := by
  refine lc_inv (fun k acc Γ' => Γ' = Γ ∧ acc = ((ds.take k).filter cond).map val) ⟨rfl, by simp⟩ (fun k d acc Γ' hd hI => ?_) (fun acc Γ' hI => ?_)
  · obtain ⟨rfl, rfl⟩ := hI
    have hm : d ∈ ds := List.mem_of_getElem? hd
    have hk : k < ds.length := (List.getElem?_eq_some_iff.mp hd).1
    have hi : i < Γ'.length := (List.getElem?_eq_some_iff.mp hu).1
    have H := h d hm
    have et : ds.take (k + 1) = ds.take k ++ [d] := by rw [List.take_add_one, hd]; rfl
    rw [setT_nm]
    refine ⟨by rw [hu]; rfl, ?_⟩
    unfold wCd at H ⊢
    obtain ⟨p, ep, h1, h2, h3⟩ := H
    refine ⟨p, ep, fun hb => ?_, fun hb => ?_⟩
    · rw [h1] at hb
      rw [h2]
      have H3 := h3 hb
      unfold wE at H3 ⊢
      cases hf : f (Γ'.set i (.val d)) with
      | stuck => rw [hf] at H3; exact H3.elim
      | ok e Γ3 =>
        rw [hf, mE_ok] at H3
        obtain ⟨e1, e2⟩ := H3
        rw [mE_ok, e1]
        refine ⟨rfl, ?_⟩
        rw [settle_imm, wO_some]
        dsimp only
        refine ⟨sz63 ?_, ?_, ?_⟩
        · rw [List.length_map]
          have := List.length_filter_le cond (ds.take k)
          rw [List.length_take] at this
          omega
        · rw [e2]; exact wipe_back hu
        · rw [et, List.filter_append, List.map_append, List.filter_cons_of_pos hb]; rfl
    · rw [h1] at hb
      rw [h2]
      refine ⟨wipe_back hu, ?_⟩
      rw [et, List.filter_append, List.map_append, List.filter_cons_of_neg (by rw [hb]; decide)]; simp
  · obtain ⟨rfl, rfl⟩ := hI
    rw [List.take_length]
    exact q
end DL

namespace DL
open PySem PySem.Spec PyProof.Rows L2
/-! ### sorted -/
def insL {α : Type} (lt : α → α → Bool) (x : α) : List α → List α
  | [] => [x]
  | y :: r => if lt y x = true then y :: insL lt x r else x :: y :: r
def isort {α : Type} (lt : α → α → Bool) : List α → List α
  | [] => []
  | x :: r => insL lt x (isort lt r)
theorem insL_perm {α : Type} (lt : α → α → Bool) (x : α) : ∀ l : List α, (insL lt x l).Perm (x :: l)
  | [] => List.Perm.refl _
  | y :: r => by
    unfold insL
    split
    · exact ((insL_perm lt x r).cons y).trans (List.Perm.swap x y r)
    · exact List.Perm.refl _
theorem isort_perm {α : Type} (lt : α → α → Bool) : ∀ l : List α, (isort lt l).Perm l
  | [] => List.Perm.refl _
  | x :: r => (insL_perm lt x _).trans ((isort_perm lt r).cons x)
/-- a strict linear order, as a test -/
structure Lin {α : Type} (lt : α → α → Bool) : Prop where
  tr : ∀ x y z, lt x y = true → lt y z = true → lt x z = true
  as : ∀ x y, lt x y = true → lt y x = false
  tri : ∀ x y, lt x y = false → lt y x = false → x = y
theorem Lin.ntr {α : Type} {lt : α → α → Bool} (L : Lin lt) {x y z : α} (h1 : lt y x = false) (h2 : lt z y = false) : lt z x = false := by
  cases h : lt z x with
  | false => rfl
  | true =>
    cases h3 : lt x y with
    | true => have := L.tr z x y h h3; rw [h2] at this; cases this
    | false =>
      have := L.tri x y h3 h1
      subst this
      rw [h] at h2; cases h2
theorem insL_srt {α : Type} {lt : α → α → Bool} (L : Lin lt) (x : α) : ∀ {l : List α}, l.Pairwise (fun a b => lt b a = false) → (insL lt x l).Pairwise (fun a b => lt b a = false)
  | [], _ => List.pairwise_singleton _ _
  | y :: r, h => by
    unfold insL
    rw [List.pairwise_cons] at h
    split
    · rename_i hy
      rw [List.pairwise_cons]
      refine ⟨fun z hz => ?_, insL_srt L x h.2⟩
      rcases List.mem_cons.mp ((insL_perm lt x r).mem_iff.mp hz) with rfl | hz
      · exact L.as _ _ hy
      · exact h.1 z hz
    · rename_i hy
      have hy : lt y x = false := by simpa using hy
      rw [List.pairwise_cons, List.pairwise_cons]
      refine ⟨fun z hz => ?_, h⟩
      rcases List.mem_cons.mp hz with rfl | hz
      · exact hy
      · exact L.ntr hy (h.1 z hz)
theorem isort_srt {α : Type} {lt : α → α → Bool} (L : Lin lt) : ∀ l : List α, (isort lt l).Pairwise (fun a b => lt b a = false)
  | [] => List.Pairwise.nil
  | x :: r => insL_srt L x (isort_srt L r)
theorem srt_uniq {α : Type} {lt : α → α → Bool} (L : Lin lt) : ∀ {l m : List α}, l.Pairwise (fun a b => lt b a = false) → m.Pairwise (fun a b => lt b a = false) → l.Perm m → l = m
  | [], m, _, _, h => (List.Perm.eq_nil h.symm).symm
  | x :: l, [], _, _, h => absurd h.length_eq (by simp)
  | x :: l, y :: m, hl, hm, h => by
    rw [List.pairwise_cons] at hl hm
    have e : x = y := by
      have h1 : lt x y = false := by
        rcases List.mem_cons.mp (h.mem_iff.mp (List.mem_cons_self (a := x) (l := l))) with e | hx
        · subst e
          cases q : lt x x with
          | false => rfl
          | true => have := L.as _ _ q; rw [q] at this; cases this
        · exact hm.1 x hx
      have h2 : lt y x = false := by
        rcases List.mem_cons.mp (h.mem_iff.mpr (List.mem_cons_self (a := y) (l := m))) with e | hx
        · subst e
          cases q : lt y y with
          | false => rfl
          | true => have := L.as _ _ q; rw [q] at this; cases this
        · exact hl.1 y hx
      exact L.tri _ _ h1 h2
    subst e
    rw [srt_uniq L hl.2 hm.2 (List.Perm.cons_inv h)]
theorem isort_eq {α : Type} {lt : α → α → Bool} (L : Lin lt) {l m : List α} (h : m.Pairwise (fun a b => lt b a = false)) (p : m.Perm l) : isort lt l = m := srt_uniq L (isort_srt L l) h ((isort_perm lt l).trans p.symm)
def ltS (s t : List Nat) : Bool := decide (s < t)
def ltI (i j : Int) : Bool := decide (i < j)
theorem lin_S : Lin ltS := by
  refine ⟨fun x y z h1 h2 => ?_, fun x y h => ?_, fun x y h1 h2 => ?_⟩
  · exact decide_eq_true (List.lt_trans (of_decide_eq_true h1) (of_decide_eq_true h2))
  · exact decide_eq_false (fun h' => List.lt_irrefl _ (List.lt_trans (of_decide_eq_true h) h'))
  · have a := of_decide_eq_false h1
    have b := of_decide_eq_false h2
    rw [List.not_lt] at a b
    exact List.le_antisymm b a
theorem lin_I : Lin ltI := by
  refine ⟨fun x y z h1 h2 => ?_, fun x y h => ?_, fun x y h1 h2 => ?_⟩
  · have a := of_decide_eq_true h1; have b := of_decide_eq_true h2; exact decide_eq_true (by omega)
  · have a := of_decide_eq_true h; exact decide_eq_false (by omega)
  · have a := of_decide_eq_false h1; have b := of_decide_eq_false h2; omega
section
variable {X : Cx}
def rSortedSA (K : PySem.W.Frag) : List V → Hp → VK → Prop := fun vs H Q => ∃ (a : Addr) (xs : List Str), vs = [V.ref a] ∧ SqL K H a (xs.map V.str) ∧
  ∀ (ys : List Str) (p : Addr), ys.Perm xs → sortedS ys = true → H p = none → Q (.ref p) (upd H p (.lst (ys.map V.str)))
theorem cr_sortedSA : CallR X (.builtin "sorted") (rSortedSA X.K) := by
  intro pins s σ H vs us Q I r h
  obtain ⟨a, xs, rfl, hs, q⟩ := h
  obtain ⟨its, rv, hl, hz⟩ := I.list hs
  rw [Vals.ref1 r]
  have hlen0 := rv.length
  rw [List.length_map] at hlen0
  refine PyProof.Rows.sorted_strsAny hl.isList rv.strs (by rw [← hlen0]; rw [List.length_map] at hz; exact hz) fun out ys h1 h2 h3 => ?_
  obtain ⟨ep, he'⟩ := PyProof.Rows.sortedAll_at s.heap its out
  have hlen : (ys.map V.str).length ≤ sizeLine := by rw [List.length_map, h2.length_eq]; rw [List.length_map] at hz; exact hz
  exact ⟨.ref _, upd H (s.heap.objs.size + 1) (.lst (ys.map V.str)), I.laid (t' := s.toks) (fun _ _ => PyProof.Rows.sortedAll_old) (Nat.le_succ _) ⟨hlen, out.toList, ep, vals_of_strs h1, he'⟩, rfl, q ys _ h2 h3 (I.hok.fresh (Nat.le_succ _))⟩

theorem sortedS_pw : ∀ (l : List Str) (p : Str), risingS p l = true → (p :: l).Pairwise (fun a b => ltCps b.cps.toList a.cps.toList = false)
  | [], p, _ => List.pairwise_singleton _ _
  | x :: r, p, h => by
    have h' : (!ltCps x.cps.toList p.cps.toList && risingS x r) = true := h
    rw [Bool.and_eq_true] at h'
    have ih := sortedS_pw r x h'.2
    rw [List.pairwise_cons]
    have h1 : ltCps x.cps.toList p.cps.toList = false := by simpa using h'.1
    refine ⟨fun z hz => ?_, ih⟩
    rcases List.mem_cons.mp hz with rfl | hz
    · exact h1
    · rw [List.pairwise_cons] at ih
      have h2 := ih.1 z hz
      rw [ltCps_eq] at h1 h2 ⊢
      exact lin_S.ntr (x := p.cps.toList) (y := x.cps.toList) (z := z.cps.toList) h1 h2
theorem sorted_mkS {ys : List Str} {ss : List (List Nat)} (hp : ys.Perm (ss.map mkS)) (hs : sortedS ys = true) : ys = (isort ltS ss).map mkS := by
  have e : ys = (ys.map fun y => y.cps.toList).map mkS := by
    rw [List.map_map]
    have : (mkS ∘ fun y : Str => y.cps.toList) = id := funext fun y => rfl
    rw [this, List.map_id]
  rw [e]
  congr 1
  symm
  refine isort_eq lin_S ?_ ?_
  · rw [List.pairwise_map]
    cases ys with
    | nil => exact List.Pairwise.nil
    | cons y r =>
      have := sortedS_pw r y hs
      refine this.imp fun {a b} h => ?_
      rw [ltCps_eq] at h
      exact h
  · have := hp.map fun y => y.cps.toList
    rw [List.map_map] at this
    have e2 : ((fun y : Str => y.cps.toList) ∘ mkS) = id := funext fun y => by show (mkS y).cps.toList = y; exact mkS_cps y
    rw [e2, List.map_id] at this
    exact this
def oSorted : OL
  | [.lst ds] => match mapO asS ds with
    | some ss => some (.fr (.lst ((isort ltS ss).map D.str)))
    | none => (mapO asI ds).map fun ns => .fr (.lst ((isort ltI ns).map D.int))
  | _ => none
theorem rpl_strs {K : PySem.W.Frag} {F : Hp} : ∀ {ss : List (List Nat)}, (∀ s ∈ ss, okS s) → RpL K F (ss.map D.str) ((ss.map mkS).map V.str)
  | [], _ => rpl_nil
  | s :: ss, h => rpl_cons (rp_str (h s List.mem_cons_self)) (rpl_strs fun t ht => h t (List.mem_cons_of_mem _ ht))
def rSrtA (K : PySem.W.Frag) : List V → Hp → VK → Prop := fun vs H Q => rSortedSA K vs H Q ∨ rSortedI K vs H Q
theorem cr_sortedA : CallR X (.builtin "sorted") (rSrtA X.K) := CallR.or cr_sortedSA cr_sortedI
theorem cd_sorted : CallD X (rSrtA X.K) oSorted := by
  intro W F H ρ σ Γ ds vs e Q eK S r h w
  rw [← eK]
  unfold oSorted at h
  split at h
  · rename_i ds
    obtain ⟨v, rfl, rr⟩ := rdvs1 r
    obtain ⟨a, vs, rfl, h1, q1⟩ := rd_lst rr
    split at h
    · rename_i ss hs
      cases h
      obtain ⟨ev, ok⟩ := mapO_strs q1 hs
      refine .inl ⟨a, ss.map mkS, rfl, by rw [← ev]; exact .inl (.inl h1), fun ys p hp hsrt hn => ?_⟩
      rw [sorted_mkS hp hsrt]
      exact w.newl S hn (rpl_strs fun s hs => ok s ((isort_perm ltS ss).mem_iff.mp hs))
    · obtain ⟨ns, hn, rfl⟩ := omap_inv h
      refine .inr ⟨a, ns, rfl, by rw [← mapO_ints q1 hn]; exact .inl (.inl h1), fun ys p hp hsrt hq => ?_⟩
      have e : isort ltI ns = ys := isort_eq lin_I (hsrt.imp fun {a b} h => decide_eq_false (by omega)) hp
      rw [← e]
      exact w.newl S hq (rpl_ints _)
  · cases h
@[simp] theorem oSorted_s (ss : List (List Nat)) : oSorted [.lst (ss.map D.str)] = some (.fr (.lst ((isort ltS ss).map D.str))) := by
  simp [oSorted, mapO_map (g := D.str) (h := id) (f := asS) fun _ => rfl]
/-! ### text.count(sign), text.index(sign) -/
def idxL (c : Nat) : List Nat → Option Nat
  | [] => none
  | x :: r => if x = c then some 0 else (idxL c r).map (· + 1)
theorem idxL_spec {c : Nat} : ∀ {s : List Nat} {i : Nat}, idxL c s = some i → s[i]? = some c ∧ ∀ k, k < i → s[k]? ≠ some c
  | [], i, h => by cases h
  | x :: r, i, h => by
    unfold idxL at h
    split at h
    · rename_i hx
      cases h
      exact ⟨by simp [hx], fun k hk => by omega⟩
    · rename_i hx
      obtain ⟨j, hj, rfl⟩ := omap_inv h
      obtain ⟨a, b⟩ := idxL_spec hj
      refine ⟨by simpa using a, fun k hk => ?_⟩
      cases k with
      | zero => simpa using hx
      | succ k => simpa using b k (by omega)
def oCount : O2
  | .str s, .str [c] => some (.imm (.int (s.count c : Nat)))
  | _, _ => none
theorem cntIn_eq (c : Nat) : ∀ s : List Nat, countIn (.str ⟨#[c]⟩) (s.map fun n => PyData.str ⟨#[n]⟩) = ((s.count c : Nat) : Int)
  | [] => rfl
  | x :: r => by
    show (if PySem.Spec.same (.str ⟨#[x]⟩) (.str ⟨#[c]⟩) then 1 else 0) + countIn (.str ⟨#[c]⟩) (r.map fun n => PyData.str ⟨#[n]⟩) = _
    rw [cntIn_eq c r, List.count_cons]
    by_cases h : x = c
    · subst h; simp [PySem.Spec.same]; omega
    · have : PySem.Spec.same (.str ⟨#[x]⟩) (.str ⟨#[c]⟩) = false := by
        simp [PySem.Spec.same, h]
      rw [this]
      simp [h]
theorem od_count : OpD X (fun x y H Q => ∃ a b, x = .str a ∧ [y] = [.str b] ∧ Q (.int (Txt.count a b)) H) oCount := by
  intro W F H ρ σ Γ d1 d2 v1 v2 e Q eK S r1 r2 h w
  unfold oCount at h
  split at h
  · rename_i s c
    cases h
    obtain ⟨rfl, o1⟩ := rd_str r1
    obtain ⟨rfl, o2⟩ := rd_str r2
    refine ⟨_, _, rfl, rfl, ?_⟩
    have e : Txt.count (mkS s) (mkS [c]) = ((s.count c : Nat) : Int) := by
      show Txt.count (mkS s) ⟨#[c]⟩ = _
      rw [PyProof.Rows.count_is, mkS_cps, cntIn_eq]
    rw [e]
    exact w.here S rp_int
  · cases h
def oSIdx : O2
  | .str s, .str [c] => (idxL c s).map fun i => .imm (.int (i : Nat))
  | _, _ => none
theorem at_iff {s : List Nat} {c i : Nat} : StrLaws.At (mkS s) (mkS [c]) (mkS s).length i ↔ s[i]? = some c := by
  unfold StrLaws.At
  rw [StrLaws.subAt_eq, mkS_cps, mkS_cps, mkS_len, mkS_len, beq_iff_eq]
  show i + 1 ≤ s.length ∧ (s.drop i).take 1 = [c] ↔ _
  rw [List.take_one, List.head?_drop]
  constructor
  · rintro ⟨h1, h2⟩
    cases hs : s[i]? with
    | none => rw [hs] at h2; cases h2
    | some d => rw [hs] at h2; simp at h2; rw [h2]
  · intro h
    exact ⟨(List.getElem?_eq_some_iff.mp h).1, by rw [h]; rfl⟩
theorem od_sidx : OpD X (fun x y H Q => ∃ a b i rest, x = .str a ∧ [y] = [.str b] ∧ Builtin.Str.occurrences a b 0 a.length 1 = i :: rest ∧ Q (.int (i : Nat)) H) oSIdx := by
  intro W F H ρ σ Γ d1 d2 v1 v2 e Q eK S r1 r2 h w
  unfold oSIdx at h
  split at h
  · rename_i s c
    obtain ⟨i, hi, rfl⟩ := omap_inv h
    obtain ⟨a, b⟩ := idxL_spec hi
    obtain ⟨rfl, o1⟩ := rd_str r1
    obtain ⟨rfl, o2⟩ := rd_str r2
    rcases StrLaws.occ_head (mkS s) (mkS [c]) 1 (Nat.le_refl 1) with ⟨_, hn⟩ | ⟨j, r, h1, h2, h3⟩
    · exact absurd (at_iff.mpr a) (hn i)
    · have e : j = i := by
        rw [at_iff] at h2
        by_cases l1 : j < i
        · exact absurd h2 (b j l1)
        · by_cases l2 : i < j
          · exact absurd (at_iff.mpr a) (h3 i l2)
          · omega
      subst e
      exact ⟨_, _, j, r, rfl, rfl, h1, w.here S rp_int⟩
  · cases h
variable {e o : Expr} {f g : EM} {apos pos : Pos}
theorem de_count (ho : DE X o f) (he : DE X e g) (hs : starEach [e] X.env = [(false, eval e X.env)] := by rfl) (hbase : attributeBase o "count" X.env (eval o X.env) = eval o X.env := by rfl) (hline : (apos.endLine == pos.line) = true := by rfl) :
    DE X (.Call (.Attribute o "count" apos) [e] [] pos) (eM1 oCount f g) := pe_imp (pe_m1 PySem.F.slot_str_count PySem.F.type_str_count mt_count ho he hs hbase hline) fun _ _ _ h => m1_core od_count h
theorem de_sidx (ho : DE X o f) (he : DE X e g) (hs : starEach [e] X.env = [(false, eval e X.env)] := by rfl) (hbase : attributeBase o "index" X.env (eval o X.env) = eval o X.env := by rfl) (hline : (apos.endLine == pos.line) = true := by rfl) :
    DE X (.Call (.Attribute o "index" apos) [e] [] pos) (eM1 oSIdx f g) := pe_imp (pe_m1 PySem.F.slot_str_index PySem.F.type_str_index mt_sindex ho he hs hbase hline) fun _ _ _ h => m1_core od_sidx h
end
end DL

namespace DL
open PySem PySem.Spec PyProof.Rows L2
def lcL2 (t : Tg) (vs : List Nat) (c : Option EM) (it1 : IM) (t1 : Tg) (vs1 : List Nat) (c1 : Option EM) (f : EM) : List D → List D → Gm → Option (List D × Gm)
  | [], acc, Γ => some (acc, Γ)
  | d :: ds, acc, Γ => (setT t d Γ).bind fun Γ1 => (condG c Γ1).bind fun p => if p.1 = true then (match it1 p.2 with
      | .ok ds1 Γ2 => (lcL t1 vs1 c1 f ds1 acc (wipeG Γ2 vs1)).bind fun q => lcL2 t vs c it1 t1 vs1 c1 f ds q.1 (wipeG q.2 vs)
      | .stuck => none)
    else lcL2 t vs c it1 t1 vs1 c1 f ds acc (wipeG p.2 vs)
def eLc2 (vs vs1 : List Nat) (it : IM) (t : Tg) (c : Option EM) (it1 : IM) (t1 : Tg) (c1 : Option EM) (f : EM) : EM := fun Γ => match it Γ with
  | .ok ds Γ1 => if ((vs.all fun i => !isOwn Γ1[i]?) = true ∧ (t.sl.all fun i => vs.contains i) = true) ∧ (t1.sl.all fun i => vs1.contains i) = true ∧ (vs1.all fun i => vs.contains i) = true then match lcL2 t vs c it1 t1 vs1 c1 f ds [] (wipeG Γ1 vs) with
    | some q => .ok (.fr (.lst q.1)) (resG Γ1 q.2 vs)
    | none => .stuck
    else .stuck
  | .stuck => .stuck
theorem lc2_read {K : PySem.W.Frag} {vs vs1 : List Nat} {it it1 : IM} {t t1 : Tg} {c c1 : Option EM} {f : EM} {σ : L2.St} {H : Hp} {Q : VK} (h : tE K (eLc2 vs vs1 it t c it1 t1 c1 f) σ H Q) : tLc2 (tI K it) (gT K t) (tC2 K c) (tI K it1) (gT K t1) (tC2 K c1) (tE K f) vs vs1 σ H Q := by
  obtain ⟨W, F, ρ, Γ, eK, S, e, Γ', ef, ok, q⟩ := h
  unfold eLc2 at ef
  cases hi : it Γ with
  | stuck => rw [hi] at ef; cases ef
  | ok ds Γ1 =>
    rw [hi] at ef
    dsimp only at ef
    split at ef
    · rename_i hc
      have hown : ∀ i ∈ vs, isOwn Γ1[i]? = false := fun i hv => by
        have := List.all_eq_true.mp hc.1.1 i hv
        simpa using this
      have hsub : ∀ i ∈ t.sl, i ∈ vs := fun i hv => by
        have := List.all_eq_true.mp hc.1.2 i hv
        simpa using this
      have hsub1 : ∀ i ∈ t1.sl, i ∈ vs1 := fun i hv => by
        have := List.all_eq_true.mp hc.2.1 i hv
        simpa using this
      have hvv : ∀ i ∈ vs1, i ∈ vs := fun i hv => by
        have := List.all_eq_true.mp hc.2.2 i hv
        simpa using this
      cases hr : lcL2 t vs c it1 t1 vs1 c1 f ds [] (wipeG Γ1 vs) with
      | none => rw [hr] at ef; cases ef
      | some qq =>
        rw [hr] at ef
        cases ef
        refine ⟨W, F, ρ, Γ, eK, S, ds, Γ1, hi, fun J F1 H1 k1 S1 itd => fun p hp => ?_⟩
        have N := S1.fresh hp
        have S2 : Sim (W.pin p (.lst [])) F1 (upd H1 p (.lst [])) ρ σ Γ1 := (S1.alloc (o := .lst []) hp).hold upd_same N.up
        refine ⟨fun i m H => m = ds.length - i ∧ i ≤ ds.length ∧ ∃ (F2 : Hp) (acc : List D) (av : List V) (Γ2 : Gm), Same F1 F2 ∧ Sim (W.pin p (.lst av)) F2 H (wipR ρ vs) (wipe σ vs) Γ2 ∧ RpL W.K F2 acc av ∧ lcL2 t vs c it1 t1 vs1 c1 f (ds.drop i) acc Γ2 = some qq,
          ⟨ds.length, by simp, Nat.zero_le _, F1, [], [], wipeG Γ1 vs, Same.refl _, S2.wipe vs (vs_lt hown), rpl_nil, by rw [List.drop_zero]; exact hr⟩, ?_⟩
        rintro i m H ⟨rfl, hil, F2, acc, av, Γ2, k2, S2, ra, h2⟩
        obtain ⟨stop, go⟩ := itd i (W.pin p (.lst av)) F2 H _ _ Γ2 rfl k2 S2
        by_cases hl : i < ds.length
        · rw [List.drop_eq_getElem_cons hl] at h2
          unfold lcL2 at h2
          obtain ⟨Γ3, h3, h2⟩ := obind_inv h2
          obtain ⟨pc, hpc, h2⟩ := obind_inv h2
          obtain ⟨go1, go2⟩ := go ds[i] (List.getElem?_eq_getElem hl)
          refine .inr ⟨go1, fun H' => ∃ (F2 : Hp) (acc : List D) (av : List V) (Γ2 : Gm), Same F1 F2 ∧ Sim (W.pin p (.lst av)) F2 H' (wipR ρ vs) (wipe σ vs) Γ2 ∧ RpL W.K F2 acc av ∧ lcL2 t vs c it1 t1 vs1 c1 f (ds.drop (i + 1)) acc Γ2 = some qq,
            fun H' z => ⟨ds.length - (i + 1), by omega, rfl, by omega, z⟩, fun x H' y => ?_⟩
          obtain ⟨F3, k3, S3, r3, _⟩ := go2 x H' y
          refine ⟨W.pin p (.lst av), F3, _, Γ2, ds[i], Γ3, eK, S3, r3, h3, fun ρ4 σ4 S4 off => ?_⟩
          have hw : wipe σ4 vs = wipe σ vs := wipe_ext (off.1.trans (wipe_length σ vs)) fun j hj => ((off.2 j fun z => hj (hsub j z)).1).trans (wipe_out hj)
          have hR : wipR ρ4 vs = wipR ρ vs := by
            funext j
            by_cases hj : j ∈ vs
            · rw [wipR_in hj, wipR_in hj]
            · rw [wipR_out hj, (off.2 j fun z => hj (hsub j z)).2]
          have hw2 : wipe (wipe σ4 vs1) vs = wipe σ vs := by
            rw [← hw]
            exact wipe_ext (wipe_length σ4 vs1) fun j hj => wipe_out fun z => hj (hvv j z)
          have hR2 : wipR (wipR ρ4 vs1) vs = wipR ρ vs := by
            rw [← hR]
            funext j
            by_cases hj : j ∈ vs
            · rw [wipR_in hj, wipR_in hj]
            · rw [wipR_out hj, wipR_out hj, wipR_out fun z => hj (hvv j z)]
          refine ⟨hw, cond_tT (W := W.pin p (.lst av)) eK S4 hpc fun F5 H5 k5 S5 => ?_⟩
          obtain ⟨b, Γ5⟩ := pc
          cases b with
          | false =>
            rw [if_neg Bool.false_ne_true] at h2 ⊢
            refine ⟨F5, acc, av, wipeG Γ5 vs, (k2.trans k3).trans k5, ?_, RpL.mono (k3.trans k5) _ _ ra, h2⟩
            have := S5.wipe vs fun v hv => by rw [S5.gl]; exact (S1.gl ▸ vs_lt hown v hv)
            rw [hR, hw] at this
            exact this
          | true =>
            rw [if_pos rfl] at h2 ⊢
            dsimp only at h2
            cases hi1 : it1 Γ5 with
            | stuck => rw [hi1] at h2; cases h2
            | ok ds1 Γ6 =>
              rw [hi1] at h2
              dsimp only at h2
              refine ⟨W.pin p (.lst av), F5, ρ4, Γ5, eK, S5, ds1, Γ6, hi1, fun J1 F6 H6 k6 S6 itd1 => ?_⟩
              refine ⟨fun j k H => k = ds1.length - j ∧ j ≤ ds1.length ∧ ∃ (F7 : Hp) (acc : List D) (av : List V) (Γ7 : Gm), Same F6 F7 ∧ Sim (W.pin p (.lst av)) F7 H (wipR ρ4 vs1) (wipe σ4 vs1) Γ7 ∧ RpL W.K F7 acc av ∧
                ((lcL t1 vs1 c1 f (ds1.drop j) acc Γ7).bind fun q => lcL2 t vs c it1 t1 vs1 c1 f (ds.drop (i + 1)) q.1 (wipeG q.2 vs)) = some qq,
                ⟨ds1.length, by simp, Nat.zero_le _, F6, acc, av, wipeG Γ6 vs1, Same.refl _, S6.wipe vs1 (fun v hv => by rw [S6.gl]; exact (S1.gl ▸ vs_lt hown v (hvv v hv))), RpL.mono ((k3.trans k5).trans k6) _ _ ra, by rw [List.drop_zero]; exact h2⟩, ?_⟩
              rintro j k H ⟨rfl, hjl, F7, acc7, av7, Γ7, k7, S7, ra7, h7⟩
              obtain ⟨stop1, go1⟩ := itd1 j (W.pin p (.lst av7)) F7 H _ _ Γ7 rfl k7 S7
              by_cases hj : j < ds1.length
              · rw [List.drop_eq_getElem_cons hj] at h7
                unfold lcL at h7
                obtain ⟨q7, h8, h9⟩ := obind_inv h7
                obtain ⟨Γ8, e8, h8⟩ := obind_inv h8
                obtain ⟨pc1, hpc1, h8⟩ := obind_inv h8
                obtain ⟨ga, gb⟩ := go1 ds1[j] (List.getElem?_eq_getElem hj)
                refine .inr ⟨ga, fun H' => ∃ (F7 : Hp) (acc : List D) (av : List V) (Γ7 : Gm), Same F6 F7 ∧ Sim (W.pin p (.lst av)) F7 H' (wipR ρ4 vs1) (wipe σ4 vs1) Γ7 ∧ RpL W.K F7 acc av ∧
                    ((lcL t1 vs1 c1 f (ds1.drop (j + 1)) acc Γ7).bind fun q => lcL2 t vs c it1 t1 vs1 c1 f (ds.drop (i + 1)) q.1 (wipeG q.2 vs)) = some qq,
                  fun H' z => ⟨ds1.length - (j + 1), by omega, rfl, by omega, z⟩, fun x1 H8 y1 => ?_⟩
                obtain ⟨F8, k8, S8, r8, _⟩ := gb x1 H8 y1
                refine ⟨W.pin p (.lst av7), F8, _, Γ7, ds1[j], Γ8, eK, S8, r8, e8, fun ρ9 σ9 S9 off1 => ?_⟩
                have hwa : wipe σ9 vs1 = wipe σ4 vs1 := wipe_ext (off1.1.trans (wipe_length σ4 vs1)) fun l hl' => ((off1.2 l fun z => hl' (hsub1 l z)).1).trans (wipe_out hl')
                have hRa : wipR ρ9 vs1 = wipR ρ4 vs1 := by
                  funext l
                  by_cases hl' : l ∈ vs1
                  · rw [wipR_in hl', wipR_in hl']
                  · rw [wipR_out hl', (off1.2 l fun z => hl' (hsub1 l z)).2]
                refine ⟨hwa, cond_tT (W := W.pin p (.lst av7)) eK S9 hpc1 fun Fa Ha ka Sa => ?_⟩
                obtain ⟨b1, Γa⟩ := pc1
                cases b1 with
                | false =>
                  rw [if_neg Bool.false_ne_true] at h8 ⊢
                  refine ⟨Fa, acc7, av7, wipeG Γa vs1, (k7.trans k8).trans ka, ?_, RpL.mono (k8.trans ka) _ _ ra7, by rw [h8]; exact h9⟩
                  have := Sa.wipe vs1 fun v hv => by rw [Sa.gl]; exact (S1.gl ▸ vs_lt hown v (hvv v hv))
                  rw [hRa, hwa] at this
                  exact this
                | true =>
                  rw [if_pos rfl] at h8 ⊢
                  obtain ⟨qe, hqe, h8⟩ := obind_inv h8
                  obtain ⟨dd, Γb⟩ := qe
                  obtain ⟨e1, Γc, hf, ok1, hst⟩ := elt_inv hqe
                  refine tE_then (W := W.pin p (.lst av7)) eK Sa hf ok1 fun v Fb Hb kb Sb rb => ?_
                  obtain ⟨Fc, kc, Sc, rc⟩ := settle_ok _ _ _ _ _ _ Sb ok1 rb hst
                  split at h8
                  · rename_i hz
                    have hpin := Sc.pin (p, .lst av7) List.mem_cons_self
                    refine ⟨av7, hpin.1, by rw [← rpl_len ra7]; exact hz, Fc, acc7 ++ [dd], av7 ++ [v], wipeG Γb vs1, (((k7.trans k8).trans ka).trans kb).trans kc, ?_, ?_, by rw [h8]; exact h9⟩
                    · have Sd := Sc.pinWrite (o' := .lst (av7 ++ [v])) N.b N.np N.n
                      have := Sd.wipe vs1 fun v hv => by rw [Sd.gl]; exact (S1.gl ▸ vs_lt hown v (hvv v hv))
                      rw [hRa, hwa] at this
                      exact this
                    · exact rpl_append (RpL.mono (((k8.trans ka).trans kb).trans kc) _ _ ra7) (rpl_cons rc rpl_nil)
                  · cases h8
              · rw [List.drop_eq_nil_of_le (by omega)] at h7
                unfold lcL at h7
                rw [Option.bind_some] at h7
                refine .inl ⟨stop1 (by omega), F7, acc7, av7, wipeG Γ7 vs, (((k2.trans k3).trans k5).trans k6).trans k7, ?_, ra7, h7⟩
                have := S7.wipe vs fun v hv => by rw [S7.gl]; exact (S1.gl ▸ vs_lt hown v hv)
                rw [hR2, hw2] at this
                exact this
        · rw [List.drop_eq_nil_of_le (by omega)] at h2
          unfold lcL2 at h2
          cases h2
          obtain ⟨S3, hp3, hf3, hr3⟩ := S2.unhold
          refine .inl ⟨stop (by omega), q (.ref p) F2 H (k1.trans k2) (S1.restore k2 S3 hown) ?_⟩
          unfold RpE
          exact ⟨p, rfl, ⟨av, hp3, ra⟩, hf3, N.b, N.np, N.r, N.n⟩
    · cases ef
section
variable {X : Cx} {elt tg iter tg1 iter1 : Expr} {ifs ifs1 : List Expr} {scope : Scope} {own : List (Str × Nat)} {vs1 : List Nat} {pos spos : Pos} {it it1 : IM} {t t1 : Tg} {c c1 : Option EM} {f : EM}
theorem de_lc2 (hc : X.calm = true) (hN : X.N.Nodup) (hv : ∀ i ∈ vs1, i ∈ own.map (·.2)) (ok : BlkOk X.N X.env.scope scope own) (hi : DI X tg iter it)
    (hg : ∀ (s : Shared) (H : Hp) (C : Addr) (cl : List (Str × Addr)) (fp : List Addr), DG (X.blk s H scope (compEnvC scope cl C X.env) fp) tg t) (ht : ∀ (s : Shared) (H : Hp) (C : Addr) (cl : List (Str × Addr)) (fp : List Addr), DTs (X.blk s H scope (compEnvC scope cl C X.env) fp) ifs c)
    (hi1 : ∀ (s : Shared) (H : Hp) (C : Addr) (cl : List (Str × Addr)) (fp : List Addr), DI (X.blk s H scope (compEnvC scope cl C X.env) fp) tg1 iter1 it1)
    (hg1 : ∀ (s : Shared) (H : Hp) (C : Addr) (cl : List (Str × Addr)) (fp : List Addr), DG (X.blk s H scope (compEnvC scope cl C X.env) fp) tg1 t1) (ht1 : ∀ (s : Shared) (H : Hp) (C : Addr) (cl : List (Str × Addr)) (fp : List Addr), DTs (X.blk s H scope (compEnvC scope cl C X.env) fp) ifs1 c1)
    (he : ∀ (s : Shared) (H : Hp) (C : Addr) (cl : List (Str × Addr)) (fp : List Addr), DE (X.blk s H scope (compEnvC scope cl C X.env) fp) elt f) (hs : ∀ x, foldedSetIterable iter X.env x = pure x := by intro _; rfl) (hs1 : ∀ env x, foldedSetIterable iter1 env x = pure x := by intro _ _; rfl) :
    DE X (.ListComp elt [⟨tg, iter, ifs, 0⟩, ⟨tg1, iter1, ifs1, 0⟩] scope pos) (eLc2 (own.map (·.2)) vs1 it t c it1 t1 c1 f) :=
  pe_imp (pe_lc2 (wi := tI X.K it) (g := gT X.K t) (tt := tC2 X.K c) (wi1 := tI X.K it1) (g1 := gT X.K t1) (tt1 := tC2 X.K c1) (te := tE X.K f) hc hN hi ok hv hg ht hi1 hg1 ht1 he hs hs1) fun _ _ _ h => lc2_read h
end
/-! ### what they give -/
structure wL2 (t : Tg) (vs : List Nat) (c : Option EM) (it1 : IM) (t1 : Tg) (vs1 : List Nat) (c1 : Option EM) (f : EM) (ds acc : List D) (Γ : Gm) (Q : List D → Gm → Prop) : Prop where
  out : wO (lcL2 t vs c it1 t1 vs1 c1 f ds acc Γ) fun q => Q q.1 q.2
@[simp] theorem wE_lc2 (vs vs1 : List Nat) (it : IM) (t : Tg) (c : Option EM) (it1 : IM) (t1 : Tg) (c1 : Option EM) (f : EM) (Γ : Gm) (Q : EV → Gm → Prop) : wE (eLc2 vs vs1 it t c it1 t1 c1 f) Γ Q = wI it Γ fun ds Γ1 => (((vs.all fun i => !isOwn Γ1[i]?) = true ∧ (t.sl.all fun i => vs.contains i) = true) ∧ (t1.sl.all fun i => vs1.contains i) = true ∧ (vs1.all fun i => vs.contains i) = true) ∧
    wL2 t vs c it1 t1 vs1 c1 f ds [] (wipeG Γ1 vs) fun acc Γ2 => Q (.fr (.lst acc)) (resG Γ1 Γ2 vs) := by
  have e : ∀ ds Γ1 Q', wL2 t vs c it1 t1 vs1 c1 f ds [] Γ1 Q' = wO (lcL2 t vs c it1 t1 vs1 c1 f ds [] Γ1) fun q => Q' q.1 q.2 := fun ds Γ1 Q' => propext ⟨fun h => h.out, fun h => ⟨h⟩⟩
  simp only [e]
  unfold wE wI eLc2
  cases it Γ with
  | stuck => rfl
  | ok ds Γ1 =>
    dsimp only
    rw [mE_if]
    congr
    cases lcL2 t vs c it1 t1 vs1 c1 f ds [] (wipeG Γ1 vs) <;> simp
/-- the inner loop, only read -/
theorem lcL_pure {i : Nat} {c : Option EM} {f : EM} (cond : D → Bool) (val : D → D) {Γ : Gm} (hu : Γ[i]? = some .un) : ∀ (ds acc : List D), acc.length + ds.length ≤ 1000000 →
    (∀ d ∈ ds, wCd c (Γ.set i (.val d)) fun b Γ2 => b = cond d ∧ Γ2 = Γ.set i (.val d) ∧ (cond d = true → wE f (Γ.set i (.val d)) fun e Γ3 => e.fz = .imm (val d) ∧ Γ3 = Γ.set i (.val d))) →
    lcL (.nm i) [i] c f ds acc Γ = some (acc ++ (ds.filter cond).map val, Γ)
  | [], acc, _, _ => by unfold lcL; simp
  | d :: ds, acc, hl, h => by
    have H := h d List.mem_cons_self
    have hi : i < Γ.length := (List.getElem?_eq_some_iff.mp hu).1
    have st : setT (.nm i) d Γ = some (Γ.set i (.val d)) := by
      unfold setT
      rw [hu]; rfl
    rw [List.length_cons] at hl
    unfold lcL
    rw [st, Option.bind_some]
    unfold wCd at H
    obtain ⟨p, ep, h1, h2, h3⟩ := H
    rw [ep, Option.bind_some]
    cases hb : cond d with
    | false =>
      rw [if_neg (by rw [h1, hb]; decide), h2, wipe_back hu, lcL_pure cond val hu ds acc (by omega) fun x hx => h x (List.mem_cons_of_mem _ hx), List.filter_cons_of_neg (by rw [hb]; decide)]
    | true =>
      have h3 := h3 hb
      rw [if_pos (by rw [h1, hb]), h2]
      unfold wE at h3
      have eg : eltG f (Γ.set i (.val d)) = some (val d, Γ.set i (.val d)) := by
        unfold eltG
        cases hf : f (Γ.set i (.val d)) with
        | stuck => rw [hf] at h3; exact h3.elim
        | ok e Γ3 =>
          rw [hf, mE_ok] at h3
          dsimp only
          rw [h3.1, h3.2]
          simp
      rw [eg, Option.bind_some]
      dsimp only
      rw [if_pos (sz63 (by omega)), wipe_back hu, lcL_pure cond val hu ds (acc ++ [val d]) (by rw [List.length_append, List.length_singleton]; omega) fun x hx => h x (List.mem_cons_of_mem _ hx), List.filter_cons_of_pos hb]
      simp
/-- two loops, only read -/
theorem lc2_pure {i j : Nat} {it1 : IM} {c1 : Option EM} {f : EM} {ds : List D} {Γ : Gm} {Q : List D → Gm → Prop} (items : D → List D) (cond val : D → D → D) (hij : i ≠ j) (hu : Γ[i]? = some .un) (hv : Γ[j]? = some .un) (hl : ∀ d ∈ ds, (items d).length ≤ 1000) (hl2 : ds.length ≤ 1000)
    (h1 : ∀ d ∈ ds, wI it1 (Γ.set i (.val d)) fun xs Γ2 => xs = items d ∧ Γ2 = Γ.set i (.val d))
    (h : ∀ d ∈ ds, ∀ x ∈ items d, wCd c1 ((Γ.set i (.val d)).set j (.val x)) fun b Γ2 => D.bl b = cond d x ∧ Γ2 = (Γ.set i (.val d)).set j (.val x) ∧ (b = true → wE f ((Γ.set i (.val d)).set j (.val x)) fun e Γ3 => e.fz = .imm (val d x) ∧ Γ3 = (Γ.set i (.val d)).set j (.val x)))
    (q : Q (ds.flatMap fun d => ((items d).filter fun x => match cond d x with | .bl b => b | _ => false).map (val d)) Γ) : wL2 (.nm i) [i, j] none it1 (.nm j) [j] c1 f ds [] Γ Q := by
  constructor
  suffices H : ∀ (ds' acc : List D), (∀ d ∈ ds', d ∈ ds) → acc.length + 1000 * ds'.length ≤ 1000000 → lcL2 (.nm i) [i, j] none it1 (.nm j) [j] c1 f ds' acc Γ = some (acc ++ ds'.flatMap fun d => ((items d).filter fun x => match cond d x with | .bl b => b | _ => false).map (val d), Γ) by
    refine ⟨_, H ds [] (fun d h => h) (by simp; omega), ?_⟩
    simpa using q
  intro ds'
  induction ds' with
  | nil => intro acc _ _; unfold lcL2; simp
  | cons d ds' ih =>
    intro acc hm hsz
    have hd := hm d List.mem_cons_self
    rw [List.length_cons] at hsz
    have hi : i < Γ.length := (List.getElem?_eq_some_iff.mp hu).1
    have hj : j < Γ.length := (List.getElem?_eq_some_iff.mp hv).1
    have st : setT (.nm i) d Γ = some (Γ.set i (.val d)) := by
      unfold setT
      rw [hu]; rfl
    unfold lcL2
    rw [st, Option.bind_some]
    have H1 := h1 d hd
    unfold wI at H1
    show (condG none (Γ.set i (.val d))).bind _ = _
    unfold condG
    dsimp only
    rw [Option.bind_some, if_pos rfl]
    dsimp only
    cases hi1 : it1 (Γ.set i (.val d)) with
    | stuck => rw [hi1] at H1; exact H1.elim
    | ok ds1 Γ2 =>
      rw [hi1] at H1
      obtain ⟨rfl, rfl⟩ := H1
      dsimp only
      have hv2 : (Γ.set i (.val d))[j]? = some .un := by rw [List.getElem?_set_ne hij]; exact hv
      have wb : wipeG (Γ.set i (.val d)) [j] = Γ.set i (.val d) := by
        show (Γ.set i (.val d)).set j .un = _
        apply List.ext_getElem?
        intro l
        rw [List.getElem?_set]
        split
        · rename_i e
          subst e
          have := (List.getElem?_eq_some_iff.mp hv2).1
          rw [if_pos this, hv2]
        · rfl
      have wb2 : wipeG (Γ.set i (.val d)) [i, j] = Γ := by
        show ((wipeG (Γ.set i (.val d)) [j]).set i .un) = Γ
        rw [wb]
        exact wipe_back hu
      have hle := hl d hd
      rw [wb, lcL_pure (fun x => match cond d x with | .bl b => b | _ => false) (val d) hv2 (items d) acc (by omega) (fun x hx => by
        have H := h d hd x hx
        unfold wCd at H ⊢
        obtain ⟨p, ep, a, b, c⟩ := H
        refine ⟨p, ep, ?_, b, fun hc => c ?_⟩
        · rw [← a]
        · rw [← a] at hc; exact hc), Option.bind_some]
      dsimp only
      rw [wb2, ih _ (fun x hx => hm x (List.mem_cons_of_mem _ hx)) (by
        have := List.length_filter_le (fun x => match cond d x with | .bl b => b | _ => false) (items d)
        rw [List.length_append, List.length_map]; omega)]
      simp
end DL

namespace DL
open PySem PySem.Spec PyProof.Rows L2
def frS : Sl → Sl
  | .own _ d => .val d
  | .nst _ _ => .un
  | s => s
@[simp] theorem frS_own (b : Bool) (d : D) : frS (.own b d) = .val d := rfl
@[simp] theorem frS_val (d : D) : frS (.val d) = .val d := rfl
@[simp] theorem frS_un : frS .un = .un := rfl
@[simp] theorem frS_nst (b : Bool) (ds : List D) : frS (.nst b ds) = .un := rfl
theorem frS_of {s : Sl} (h : isOwn (some s) = false) : frS s = s := by
  cases s with
  | own b d => cases h
  | nst b d => cases h
  | _ => rfl
def frz (Γ : Gm) : Gm := Γ.map frS
@[simp] theorem frz_nil : frz [] = [] := rfl
@[simp] theorem frz_cons (s : Sl) (Γ : Gm) : frz (s :: Γ) = frS s :: frz Γ := rfl
open Classical in
noncomputable def eBor (f : EM) : EM := fun Γ => if h : ∃ ds, f (frz Γ) = .ok (.fr (.lst ds)) (frz Γ) ∧ ds.all flat = true then .ok (.fr (.lst h.choose)) Γ else f Γ
theorem flat_rpl {K : PySem.W.Frag} {F F' : Hp} : ∀ {ds : List D} {vs : List V}, ds.all flat = true → RpL K F ds vs → RpL K F' ds vs
  | [], _, _, r => by rw [rpl_nil_inv r]; exact rpl_nil
  | d :: ds, _, h, r => by
    obtain ⟨v, ws, rfl, a, b⟩ := rpl_cons_inv r
    rw [List.all_cons, Bool.and_eq_true] at h
    exact rpl_cons (flat_rp h.1 a) (flat_rpl h.2 b)
theorem frz_sim {W : Wd} {F H : Hp} {ρ : Nat → Option Addr} {σ : L2.St} {Γ : Gm} (S : Sim W F H ρ σ Γ) : Sim ⟨W.K, H, FP F H ρ, fun _ => none, [], [], W.n⟩ (FP F H ρ) H (fun _ => none) σ (frz Γ) := by
  have no : ∀ {i : Nat} {s : Sl}, (frz Γ)[i]? = some s → isOwned s = false ∧ ∀ io ds, s ≠ .nst io ds := fun {i s} e => by
    unfold frz at e
    rw [List.getElem?_map] at e
    cases h : Γ[i]? with
    | none => rw [h] at e; cases e
    | some t => rw [h] at e; cases t <;> (cases e; exact ⟨rfl, fun _ _ z => nomatch z⟩)
  refine ⟨(FP_le S).2, fun a o e => .inl e, fun a o e _ => e, fun a h => absurd h (by simp), fun i a e => (by cases e), by unfold frz; rw [List.length_map]; exact S.len, by unfold frz; rw [List.length_map]; exact S.gl, fun i s e => ?_, fun i j a ha h3 h4 => (by cases h3), fun p h => absurd h (by simp), ⟨fun _ _ e => e, fun a h => absurd h (by simp), fun q h => absurd h (by simp)⟩⟩
  unfold frz at e
  rw [List.getElem?_map] at e
  cases h : Γ[i]? with
  | none => rw [h] at e; cases e
  | some t =>
    rw [h] at e
    have q := S.slot i t h
    cases t with
    | un => cases e; rfl
    | val d =>
      cases e
      obtain ⟨v, e1, e2, e3⟩ := q
      exact ⟨v, e1, Rp.mono (FP_le S).1 _ _ e2, fun a ea => by cases ea⟩
    | own io d =>
      cases e
      obtain ⟨a, e1, e2, e3, _⟩ := q
      obtain ⟨u, hu, hr⟩ := own_ho e3
      exact ⟨.ref a, e2, hr _ (by rw [FP_own S e1]; exact hu) (FP_le S).1, fun b eb => by cases eb⟩
    | nst io d => cases e; rfl
def mixH (H F F2 : Hp) : Hp := fun b => match H b with
  | none => F2 b
  | some _ => F b
theorem mix_n {H F F2 : Hp} {b : Addr} (h : H b = none) : mixH H F F2 b = F2 b := by unfold mixH; rw [h]
theorem mix_s {H F F2 : Hp} {b : Addr} {u : HO} (h : H b = some u) : mixH H F F2 b = F b := by unfold mixH; rw [h]
theorem bor_core {K : PySem.W.Frag} {f : EM} {σ : L2.St} {H : Hp} {Q : VK} (h : tE K (eBor f) σ H Q) : tE K f σ H Q := by
  obtain ⟨W, F, ρ, Γ, eK, S, e, Γ', ef, ok, q⟩ := h
  unfold eBor at ef
  split at ef
  · rename_i hx
    obtain ⟨hf, hfl⟩ := hx.choose_spec
    generalize hx.choose = ds at hf hfl ef
    cases ef
    refine ⟨⟨W.K, H, FP F H ρ, fun _ => none, [], [], W.n⟩, FP F H ρ, fun _ => none, frz Γ, eK, frz_sim S, .fr (.lst ds), frz Γ, hf, rfl, fun v F2 H2 k2 S2 r => ?_⟩
    unfold RpE at r
    obtain ⟨a, rfl, o, N⟩ := r
    obtain ⟨vs, hv, rv⟩ := o
    have hk : Same H H2 := fun b o e => S2.keep b o e (by simp)
    have ha : H a = none := N.b
    have k3 : Same F (mixH H F F2) := fun b o e => by rw [mix_s (S.sub b o e)]; exact e
    have fh : Same (mixH H F F2) H2 := fun b o e => by
      cases hb : H b with
      | none => rw [mix_n hb] at e; exact S2.sub b o e
      | some u => rw [mix_s hb] at e; exact hk b o (S.sub b o e)
    have S3 := S.after k3 fh hk fun b o e => by
      cases hb : H b with
      | none => exact .inr rfl
      | some u => rw [mix_s hb] at e; exact .inl e
    refine q (.ref a) _ H2 k3 S3 ?_
    unfold RpE
    have M := S.fresh ha
    exact ⟨a, rfl, ⟨vs, hv, flat_rpl hfl rv⟩, by rw [mix_n ha]; exact N.f, M.b, M.np, M.r, M.n⟩
  · exact ⟨W, F, ρ, Γ, eK, S, e, Γ', ef, ok, q⟩
theorem de_bor {X : Cx} {e : Expr} {f : EM} (h : DE X e f) : DE X e (eBor f) := pe_imp h fun _ _ _ h => bor_core h
structure wBr (f : EM) (Γ : Gm) (Q : EV → Gm → Prop) : Prop where
  out : wE (eBor f) Γ Q
@[simp] theorem wE_bor (f : EM) (Γ : Gm) (Q : EV → Gm → Prop) : wE (eBor f) Γ Q = wBr f Γ Q := propext ⟨fun h => ⟨h⟩, fun h => h.out⟩
theorem br_i {f : EM} {Γ : Gm} {Q : EV → Gm → Prop} (ds : List D) (hf : ds.all flat = true) (h : wE f (frz Γ) fun e Γ' => e = .fr (.lst ds) ∧ Γ' = frz Γ) (q : Q (.fr (.lst ds)) Γ) : wBr f Γ Q := by
  constructor
  unfold wE at h ⊢
  have hf2 : f (frz Γ) = .ok (.fr (.lst ds)) (frz Γ) := by
    cases hr : f (frz Γ) with
    | stuck => rw [hr] at h; exact h.elim
    | ok e Γ' =>
      rw [hr, mE_ok] at h
      rw [h.1, h.2]
  have hx : ∃ ds, f (frz Γ) = .ok (.fr (.lst ds)) (frz Γ) ∧ ds.all flat = true := ⟨ds, hf2, hf⟩
  unfold eBor
  rw [dif_pos hx]
  have := hx.choose_spec.1
  have this := hf2.symm.trans this
  have e : hx.choose = ds := by
    injection this with a b
    injection a with a
    injection a with a
    exact a.symm
  rw [e]
  exact q
end DL

namespace DL
open PySem PySem.Spec PyProof.Rows L2

theorem drawsT {prog : Program} {w : World} {A : Around} (hh : A.handled = none) (it : Addr) (x : Str) (t : Tok) :
    Draws prog w A it [it] x.cps.size (fun i v => ∃ c u, x.cps[i]? = some c ∧ v = .str ⟨#[c]⟩ u) (fun i h => h.IsStrIter it (strIterType x) x t i) := by
  by_cases ha : x.cps.all (· < 128) = true
  · have e : strIterType x = "str_ascii_iterator" := by unfold strIterType; rw [if_pos ha]
    rw [e]
    exact Draws.strAscii hh it x t
  · have e : strIterType x = "str_iterator" := by unfold strIterType; rw [if_neg ha]
    rw [e]
    exact Draws.strWide hh it x t
/-- each sign with its place, in a new pair -/
def Itn (x : Str) : It := ⟨fun i _ => i < x.cps.size, fun i H v H' => ∃ T c, v = .ref T ∧ H T = none ∧ H' = upd H T (.tup [.int (i : Nat), .str ⟨#[c]⟩]) ∧ x.cps[i]? = some c, fun i _ => x.cps.size ≤ i⟩
theorem turn_enumS {P : Program} {w : World} {K : PySem.W.Frag} {elts : List Expr} {kk : Nat} {tpos : Pos} (e it : Addr) (x : Str) (t : Tok) :
    Turn P w K (.Tuple elts kk tpos) (Itn x) [e, it] e (fun i h => (∃ old, IsEnum h e it ((i : Nat) : Int) old) ∧ h.IsStrIter it (strIterType x) x t i ∧ e ≠ it ∧ i ≤ x.cps.size) where
  mem := by simp
  obj := fun i h st b hb => by
    obtain ⟨⟨old, he⟩, ⟨o, ho, hc, hd⟩, _, _⟩ := st
    have e' : b = e ∨ b = it := by simpa using hb
    rcases e' with z | z
    · rw [z]; exact ⟨_, he, fun v q => nomatch q⟩
    · rw [z]; exact ⟨o, ho, fun v q => by rw [hd] at q; cases q⟩
  keep := fun i h h' st k => let ⟨⟨old, he⟩, ⟨o, ho, r⟩, hne, hle⟩ := st; ⟨⟨old, k e (by simp) _ he⟩, ⟨o, k it (by simp) o ho, r⟩, hne, hle⟩
  item := by
    intro X hP hw hK hc i pins s σ H E I hf st hg
    subst hP hw hK
    obtain ⟨⟨old, he⟩, hit, hne, hle⟩ := st
    have D := drawsT (prog := X.prog) (w := X.w) (A := X.A.in1) (I.ok.hd hc) it x t
    have hel : e < s.heap.objs.size := Heap.lt_size he
    have hil : it < s.heap.objs.size := by obtain ⟨_, q, _⟩ := hit; exact Heap.lt_size q
    refine wpAny_pyNext_enum_itemD D he hit hg hne (by simpa using hne) fun u h' tk hx ho hit' hT hsz hk => ?_
    obtain ⟨c, v, hcx, rfl⟩ := hx
    refine ⟨_, rfl, wpAny_letOwnedTupleGo_enum (s := { s with heap := h', toks := tk + 1 }) ho fun h'' he' sb => ?_⟩
    have hT2 : h''.get? s.heap.objs.size = some { cls := .type "tuple", data := .seq #[.int i tk, .str ⟨#[c]⟩ v] } := (sb.2 _ (Nat.ne_of_gt hel)).trans hT
    have new : ObjOk X.prog X.w (upd H s.heap.objs.size (.tup [.int (i : Nat), .str ⟨#[c]⟩])) h'' s.heap.objs.size (.tup [.int (i : Nat), .str ⟨#[c]⟩]) :=
      ⟨by show 2 ≤ sizeLine; decide, [.int i tk, .str ⟨#[c]⟩ v], .cons ⟨_, rfl⟩ (.cons ⟨_, rfl⟩ .nil), ⟨_, hT2, rfl, _, rfl⟩⟩
    have I1 : Inv X pins σ (upd H s.heap.objs.size (.tup [.int (i : Nat), .str ⟨#[c]⟩])) { s with heap := h'', toks := tk + 1 } :=
      I.turnedNew (ch := [e, it]) (fun b ob hb q => (sb.2 b (fun z => hb (by simp [z]))).trans (hk b ob (fun z => hb (by simp [z])) (fun z => hb (by simp [z])) q)) hf (Nat.le_refl _) new
    refine ⟨.ref s.heap.objs.size, _, I1, rfl, ⟨_, c, rfl, I.hok.fresh (Nat.le_refl _), rfl, hcx⟩, ⟨⟨.str ⟨#[c]⟩ v, ?_⟩, ?_, hne, hg⟩, fun b hb => ?_⟩
    · have e1 : ((i + 1 : Nat) : Int) = (i : Int) + 1 := by omega
      rw [e1]; exact he'
    · obtain ⟨o, ho', r⟩ := hit'
      exact ⟨o, (sb.2 it (Ne.symm hne)).trans ho', r⟩
    · have hb' : b < s.heap.objs.size := by
        have e' : b = e ∨ b = it := by simpa using hb
        rcases e' with z | z
        · rw [z]; exact hel
        · rw [z]; exact hil
      rw [upd_ne (Nat.ne_of_lt hb')]
      exact (hf b hb).1
  done := by
    intro X hP hw hK hc i pins s σ H E I hf st hg
    subst hP hw hK
    obtain ⟨⟨old, he⟩, hit, hne, hle⟩ := st
    have D := drawsT (prog := X.prog) (w := X.w) (A := X.A.in1) (I.ok.hd hc) it x t
    obtain ⟨f0, f1, f2, f3, f4, f5⟩ := hf it (by simp)
    have hi : i = x.cps.size := Nat.le_antisymm hle hg
    subst hi
    exact wpAny_pyNext_enum_endD D he hit fun h' eb => ⟨rfl, I.turned (t' := s.toks) (fun b o hb q => eb b o hb q) f0 f1 f3 f4 f5⟩
  self := fun A i s Q E st h => let ⟨⟨_, he⟩, _⟩ := st; wpAny_pyIter_enum he h
theorem pi_enumS {X : Cx} {e : Expr} {ta : TA} {p pos tpos : Pos} {elts : List Expr} {kk : Nat} (hg : Gl X "enumerate") (hm : X.mg "enumerate" = none) (ha : PA X [e] ta) (hs : starEach [e] X.env = [(false, eval e X.env)] := by rfl) :
    PI X (.Tuple elts kk tpos) (.Call (.Name "enumerate" p) [e] [] pos) (fun σ H R => ta σ H fun vs H1 => ∃ x, vs = [.str x] ∧ R (Itn x) H1) := by
  refine ⟨fun pins s σ H R I h => ?_⟩
  refine Call_ (ld_blt I hg hm boot_enumerate (PyProof.Rows.callWith_type1 (thn (ha.run pos pins s σ H _ I h) fun us s1 ⟨vs, H1, I1, r1, q1⟩ => ?_) hs rfl))
  obtain ⟨x, ex, q⟩ := q1
  subst ex
  cases r1 with
  | cons r rr =>
    cases rr
    obtain ⟨t, rfl⟩ := r
    refine call_enumerate_str fun h' he hit hsz hk => wpAny_pyIter_enum he ?_
    have I2 : Inv X pins σ H1 { s1 with heap := h' } := I1.kept (t' := s1.toks) hk
    refine ⟨s1.heap.objs.size + 1, [s1.heap.objs.size + 1, s1.heap.objs.size], _, _, H1, rfl, I2, turn_enumS (s1.heap.objs.size + 1) s1.heap.objs.size x t, ⟨⟨.none, he⟩, hit, Nat.succ_ne_self _, Nat.zero_le _⟩, fun b hb => ?_, q⟩
    have hle : s1.heap.objs.size ≤ b := by
      rcases (by simpa using hb : b = s1.heap.objs.size + 1 ∨ b = s1.heap.objs.size) with z | z
      · rw [z]; exact Nat.le_add_right _ _
      · rw [z]; exact Nat.le_refl _
    exact I1.fpOk hle (I1.hok.fresh hle)
/-- items with their places -/
def enL (ds : List D) : List D := ds.zipIdx.map fun p => .tup [.int (p.2 : Nat), p.1]
def itemsN : D → Option (List D)
  | .str s => some (enL (s.map fun c => .str [c]))
  | .lst ds => some (enL ds)
  | .frl ds => some (enL ds)
  | _ => none
def iEnm (f : EM) : IM := fun Γ => match f Γ with
  | .ok e Γ1 => match e.fz with
    | .imm d => match itemsN d with
      | some ds => .ok ds Γ1
      | none => .stuck
    | _ => .stuck
  | .stuck => .stuck
theorem enl_get {ds : List D} {i : Nat} {d : D} (h : (enL ds)[i]? = some d) : ∃ x, ds[i]? = some x ∧ d = .tup [.int (i : Nat), x] := by
  unfold enL at h
  rw [List.getElem?_map, List.getElem?_zipIdx] at h
  cases hx : ds[i]? with
  | none => rw [hx] at h; cases h
  | some x =>
    rw [hx] at h
    refine ⟨x, rfl, ?_⟩
    simp at h
    exact h.symm
theorem enl_len (ds : List D) : (enL ds).length = ds.length := by unfold enL; rw [List.length_map, List.length_zipIdx]
theorem itd_enumS {W : Wd} {F : Hp} {z : List Nat} (ok : okS z) : ItD W F (Itn (mkS z)) (enL (z.map fun c => .str [c])) := by
  intro i W' F' H ρ σ Γ eK s S
  have hz : (mkS z).cps.size = z.length := by simp [mkS]
  refine ⟨fun hl => by show (mkS z).cps.size ≤ i; rw [hz]; rw [enl_len, List.length_map] at hl; exact hl, fun d hd => ?_⟩
  obtain ⟨x, hx, rfl⟩ := enl_get hd
  rw [List.getElem?_map] at hx
  obtain ⟨c, hc, rfl⟩ := omap_inv hx
  refine ⟨by show i < (mkS z).cps.size; rw [hz]; exact (List.getElem?_eq_some_iff.mp hc).1, fun v H' y => ?_⟩
  obtain ⟨T, c', rfl, hT, rfl, hc'⟩ := y
  have : (mkS z).cps[i]? = z[i]? := by simp [mkS]
  rw [this, hc] at hc'; cases hc'
  obtain ⟨k, S2⟩ := S.allocF (o := .tup [.int (i : Nat), .str ⟨#[c]⟩]) hT
  refine ⟨_, k, S2, ?_, same_upd hT⟩
  exact rp_tup (upd_same) (rpl_cons rp_int (rpl_cons (rp_str (okS_one ok (List.mem_of_getElem? hc))) rpl_nil))
theorem itd_enumL {W : Wd} {F : Hp} {a : Addr} {vs : List V} {ds : List D} (h : SqL W.K F a vs) (r : RpL W.K F ds vs) : ItD W F (Ite W.K a) (enL ds) := by
  intro i W' F' H ρ σ Γ eK s S
  have hs : SqL W.K H a vs := (s.trans S.sub).seq h
  refine ⟨fun hl => ⟨vs, hs, by rw [← rpl_len r]; rw [enl_len] at hl; exact hl⟩, fun d hd => ?_⟩
  obtain ⟨x, hx, rfl⟩ := enl_get hd
  obtain ⟨v, hv, rv⟩ := rpl_get r hx
  refine ⟨⟨vs, v, hs, hv⟩, fun w H' y => ?_⟩
  obtain ⟨T, v', rfl, hT, rfl, y⟩ := y
  have := y vs hs
  rw [hv] at this; cases this
  obtain ⟨k, S2⟩ := S.allocF (o := .tup [.int (i : Nat), v]) hT
  refine ⟨_, k, S2, ?_, same_upd hT⟩
  exact rp_tup (upd_same) (rpl_cons rp_int (rpl_cons (by rw [eK]; exact Rp.mono (s.trans k) _ _ rv) rpl_nil))
theorem di_enum {X : Cx} {a : Expr} {f : EM} {p pos tpos : Pos} {elts : List Expr} {kk : Nat} (hm : X.mg "enumerate" = none) (ha : DE X a f) (hg : Gl X "enumerate" := by rfl) (hs : starEach [a] X.env = [(false, eval a X.env)] := by rfl) (hs1 : starEach [a] X.env = (false, eval a X.env) :: starEach [] X.env := by rfl) :
    DI X (.Tuple elts kk tpos) (.Call (.Name "enumerate" p) [a] [] pos) (iEnm f) :=
  pi_imp (pi_or (pi_enum hg hm (da_cons ha da_nil hs1) hs) (pi_enumS hg hm (da_cons ha da_nil hs1) hs)) fun σ H R ⟨W, F, ρ, Γ, eK, S, ds, Γ', ef, q⟩ => by
    unfold iEnm at ef
    cases hf : f Γ with
    | stuck => rw [hf] at ef; cases ef
    | ok e Γ1 =>
      rw [hf] at ef
      dsimp only at ef
      cases he : e.fz with
      | imm d =>
        rw [he] at ef
        cases d with
        | str z =>
          cases ef
          refine .inr ⟨W, F, ρ, Γ, eK, S, [.imm (.str z)], Γ', by simp only [aCons, hf, aNil, he], rfl, fun vs F1 H1 k S1 r1 => ?_⟩
          unfold RpEs at r1
          obtain ⟨v, ws, rfl, ra, rb⟩ := r1
          unfold RpEs at rb
          subst rb
          unfold RpE at ra
          obtain ⟨rfl, ok⟩ := rd_str (rd_of ra S1.sub)
          exact ⟨_, rfl, q _ _ _ k S1 (itd_enumS ok)⟩
        | lst xs =>
          cases ef
          refine .inl ⟨W, F, ρ, Γ, eK, S, [.imm (.lst xs)], Γ', by simp only [aCons, hf, aNil, he], rfl, fun vs F1 H1 k S1 r1 => ?_⟩
          unfold RpEs at r1
          obtain ⟨v, ws, rfl, ra, rb⟩ := r1
          unfold RpEs at rb
          subst rb
          unfold RpE at ra
          obtain ⟨a, vs, rfl, h1, r1⟩ := rd_lst (rd_of ra (Same.refl F1))
          rw [← eK]
          exact ⟨a, vs, rfl, S1.sub.seq (.inl (.inl h1)), q _ _ _ k S1 (itd_enumL (.inl (.inl h1)) r1)⟩
        | frl xs =>
          cases ef
          refine .inl ⟨W, F, ρ, Γ, eK, S, [.imm (.frl xs)], Γ', by simp only [aCons, hf, aNil, he], rfl, fun vs F1 H1 k S1 r1 => ?_⟩
          unfold RpEs at r1
          obtain ⟨v, ws, rfl, ra, rb⟩ := r1
          unfold RpEs at rb
          subst rb
          unfold RpE at ra
          obtain ⟨a, vs, rfl, h1, r1⟩ := rd_frl (rd_of ra S1.sub)
          rw [← eK]
          exact ⟨a, vs, rfl, S1.sub.seq h1, q _ _ _ k S1 (itd_enumL h1 r1)⟩
        | _ => cases ef
      | _ => rw [he] at ef; cases ef
def itI : EV → Option (List D)
  | .imm d => itemsN d
  | _ => none
@[simp] theorem itI_s (s : List Nat) : itI (.imm (.str s)) = some (enL (s.map fun c => .str [c])) := rfl
@[simp] theorem itI_l (ds : List D) : itI (.imm (.lst ds)) = some (enL ds) := rfl
@[simp] theorem itI_fl (ds : List D) : itI (.imm (.frl ds)) = some (enL ds) := rfl
@[simp] theorem wI_enm (f : EM) (Γ : Gm) (Q : List D → Gm → Prop) : wI (iEnm f) Γ Q = wE f Γ fun e Γ1 => wO (itI e.fz) fun ds => Q ds Γ1 := by
  unfold wI iEnm wE
  cases f Γ with
  | stuck => rfl
  | ok e Γ1 =>
    simp only [mE_ok]
    cases he : e.fz with
    | imm d => cases hd : itemsN d <;> simp [itI, hd]
    | _ => simp [itI]
/-- down -/
def rng3 (i j : Int) : List D := (List.range (i - j).toNat).map fun k => .int (i + (k : Nat) * (-1))
@[simp] theorem wI_r3 (f g h : EM) (Γ : Gm) (Q : List D → Gm → Prop) : wI (iR3 f g h) Γ Q = wE f Γ fun e Γ1 => wE g Γ1 fun e2 Γ2 => wE h Γ2 fun e3 Γ3 => wInt e.fz fun i => wInt e2.fz fun j => wInt e3.fz fun k => (k = -1 ∧ -4611686018427387904 ≤ i ∧ i < 4611686018427387904 ∧ -4611686018427387904 ≤ j ∧ j < 4611686018427387904) ∧ Q (rng3 i j) Γ3 := by
  unfold wI iR3 wE
  cases f Γ with
  | stuck => rfl
  | ok e Γ1 =>
    simp only [mE_ok]
    cases g Γ1 with
    | stuck => rfl
    | ok e2 Γ2 =>
      simp only [mE_ok]
      cases h Γ2 with
      | stuck => rfl
      | ok e3 Γ3 =>
        simp only [mE_ok]
        rw [← isI_w]
        simp only [← isI_w]
        cases isI e.fz with
        | none => simp
        | some i =>
          cases isI e2.fz with
          | none => simp
          | some j =>
            cases isI e3.fz with
            | none => simp
            | some k =>
              simp only [wO_some, rng3, p62]
              by_cases h : k = -1 ∧ -4611686018427387904 ≤ i ∧ i < 4611686018427387904 ∧ -4611686018427387904 ≤ j ∧ j < 4611686018427387904
              · rw [if_pos h]; simp [h]
              · rw [if_neg h]; simp [h]
end DL

namespace DL
open PySem PySem.Spec PyProof.Rows L2 PySem.Froz

def keyT (e : Int × Value) : Str := match e.2 with
  | .str k _ => k
  | _ => Str.empty
def Gd (w : World) (e : Int × Value) : Prop := ∃ k tk, e.2 = Value.str k tk ∧ e.1 = hashStr w k
/-- the payload holds the texts l, and can be walked -/
structure PayT (w : World) (D : SD) (l : List Str) : Prop where
  gd : ∀ e ∈ D.1.toList, Gd w e
  pm : (D.1.toList.map keyT).Perm l
  nd : l.Nodup
  ft : D.2.2.fits D.1.size = true
  rs : Ris D.2.2.place.toList
  ld : w.params.followText "set-order" = true ∨ D.2.2.led = true
section
variable {P : Program} {w : World} {A : Around} {E : Value → Shared → Prop} {s : Shared}
theorem PayT.sz {D : SD} {l : List Str} (F : PayT w D l) : D.1.size = l.length := by
  rw [← Array.length_toList, ← F.pm.length_eq, List.length_map]
theorem gd_is {e : Int × Value} (g : Gd w e) (k : Str) : (strKind P w).is k e.2 = true ↔ keyT e = k := by
  obtain ⟨k0, tk, h1, _⟩ := g
  unfold keyT
  rw [h1]
  constructor
  · intro h
    exact (strKind P w).inj (.str k0 tk) k0 k (is_str k0 tk) h
  · rintro rfl
    exact is_str _ _
theorem PayT.tx {D : SD} {l : List Str} (F : PayT w D l) : TxOk P w D l where
  el := fun e he => by
    obtain ⟨k, tk, h1, h2⟩ := F.gd e he
    exact ⟨⟨k, by rw [h1]; exact is_str k tk, h2⟩, by rw [h1]; rfl⟩
  mem := fun k => by
    rw [← F.pm.mem_iff, List.mem_map]
    constructor
    · rintro ⟨e, he, q⟩
      exact ⟨e, he, (gd_is (F.gd e he) k).mpr q⟩
    · rintro ⟨e, he, q⟩
      exact ⟨e, he, (gd_is (F.gd e he) k).mp q⟩
  sz := F.sz
  fit := F.ft
theorem PayT.tail {ep : Nat} {es1 : Array (Int × Value)} {t2 : SetTable} {wd : Bool} {l : List Str} (F : PayT w (es1, ep, t2) l) : PayT w (tailTx ep es1 t2 wd) l := by
  unfold tailTx
  by_cases c : (!wd && t2.tooFull) = true
  · rw [if_pos c]
    have pm := relayAll_perm t2 es1 (SetTable.grown es1.size)
    exact ⟨fun e he => F.gd e (pm.mem_iff.mp he), (pm.map keyT).trans F.pm, F.nd, relayAll_fits t2 es1 _, relayAll_ris t2 es1 _,
      F.ld.imp id fun z => by show (relayAll t2 es1 _).2.1.led = true; rw [relayAll_led]; exact z⟩
  · rw [if_neg c]
    exact ⟨F.gd, F.pm, F.nd, F.ft, F.rs, F.ld⟩
theorem PayT.add {D : SD} {l : List Str} {k : Str} (u : Tok) (F : PayT w D l) (hk : k ∉ l) : PayT w (addTx (hashStr w k) (.str k u) D) (k :: l) := by
  obtain ⟨es, ep, t⟩ := D
  have pm := layNew_perm t es (hashStr w k) (.str k u)
  have hf := layNew_fits t es (hashStr w k) (.str k u)
  have hr := layNew_ris t es (hashStr w k) (.str k u) F.rs
  have hl := layNew_led t es (hashStr w k) (.str k u)
  rw [Array.toList_push] at pm
  have pc := pm.trans (List.perm_append_singleton _ _)
  unfold addTx
  dsimp only
  generalize layNew t es (hashStr w k) (.str k u) = Z at pm hf hr hl pc ⊢
  obtain ⟨es1, t1, wd, gave⟩ := Z
  dsimp only at pm hf hr hl pc ⊢
  have base : PayT w (es1, ep, t1) (k :: l) := by
    refine ⟨fun e he => ?_, ?_, List.nodup_cons.mpr ⟨hk, F.nd⟩, hf, hr, F.ld.imp id fun z => by show t1.led = true; rw [hl]; exact z⟩
    · rcases List.mem_cons.mp (pc.mem_iff.mp he) with z | z
      · rw [z]; exact ⟨k, u, rfl, rfl⟩
      · exact F.gd e z
    · exact (pc.map keyT).trans (F.pm.cons k)
  refine PayT.tail ?_
  by_cases hp : t1.plain = true
  · rw [if_pos hp]
    exact ⟨base.gd, base.pm, base.nd, SetTable.fits_plain_off hf, base.rs, base.ld⟩
  · rw [if_neg hp]; exact base
/-- one that is there already -/
theorem add_old {a : Addr} {T : String} {D : SD} {l : List Str} {k : Str} {u : Tok} {Q : Bool → Shared → Prop} (ho : s.heap.get? a = some (sObj T D)) (F : TxOk P w D l) (hk : k ∈ l) (hb : l.length < scanBound)
    (h : Q false s) : wpAny (model P w) A (setAddHashed a (.str k u) (hashStr w k)) Q E s := by
  obtain ⟨es, ep, t⟩ := D
  have hd : (sObj T (es, ep, t)).data = .set es ep t := rfl
  have hsz : es.size = l.length := F.sz
  unfold setAddHashed setAddHashedIn
  refine wpAny_holding (wpAny_bind (wpAny_setState_of ho hd F.fit ?_))
  dsimp only
  rw [byScan_of rfl (show es.size < scanBound by omega) (show ElemsOf (strKind P w) es.toList from F.el)]
  simp only [↓reduceIte]
  unfold setAddByScan
  refine wpAny_bind (wpAny_bind (wpAny_rule (wpAny_bind (wpAny_setScan_of (knd := strKind P w) (k := k) (is_str k u) ho hd F.fit F.el ?_))))
  cases hr : List.findIdx? (fun e => (strKind P w).is k e.2) es.toList with
  | some j => exact wpAny_pure (wpAny_pure h)
  | none =>
    obtain ⟨e, he, q⟩ := (F.mem k).mp hk
    have c := List.findIdx?_eq_none_iff.mp hr e he
    rw [q] at c; cases c
/-! ### the update's loop -/
def stpS (l : List Str) (k : Str) : List Str := if k ∈ l then l else k :: l
def gotS (val : Nat → Str) (i : Nat) : List Str := ((List.range i).map val).foldl stpS []
theorem gotS_succ (val : Nat → Str) (i : Nat) : gotS val (i + 1) = stpS (gotS val i) (val i) := by
  unfold gotS; rw [List.range_succ, List.map_append, List.foldl_append]; rfl
theorem gotS_len (val : Nat → Str) : ∀ i, (gotS val i).length ≤ i
  | 0 => Nat.le_refl _
  | i + 1 => by
    rw [gotS_succ]; unfold stpS
    have := gotS_len val i
    split
    · omega
    · rw [List.length_cons]; omega
theorem gotS_spec (val : Nat → Str) : ∀ i, (gotS val i).Nodup ∧ ∀ k, k ∈ gotS val i ↔ ∃ j, j < i ∧ val j = k
  | 0 => ⟨List.nodup_nil, fun k => ⟨fun h => (by cases h), fun ⟨j, hj, _⟩ => by omega⟩⟩
  | i + 1 => by
    obtain ⟨n, m⟩ := gotS_spec val i
    rw [gotS_succ]
    unfold stpS
    split
    · rename_i hm
      refine ⟨n, fun k => (m k).trans ⟨fun ⟨j, hj, e⟩ => ⟨j, by omega, e⟩, fun ⟨j, hj, e⟩ => ?_⟩⟩
      by_cases hji : j = i
      · subst hji; subst e
        exact (m _).mp hm
      · exact ⟨j, by omega, e⟩
    · rename_i hm
      refine ⟨List.nodup_cons.mpr ⟨hm, n⟩, fun k => ?_⟩
      rw [List.mem_cons, m k]
      constructor
      · rintro (rfl | ⟨j, hj, e⟩)
        · exact ⟨i, by omega, rfl⟩
        · exact ⟨j, by omega, e⟩
      · rintro ⟨j, hj, e⟩
        by_cases hji : j = i
        · subst hji; exact .inl e.symm
        · exact .inr ⟨j, by omega, e⟩
variable {I : Addr} {fp wr : List Addr} {G : Array GenState → Array GenState → Prop} {n : Nat} {Pv : Nat → Value → Prop} {St : Nat → Shared → Prop} {R : Result → Shared → Prop}
theorem loopT (W : WalksS P w A.in1 I fp wr G n Pv St) (S : Addr) (hSf : S ∉ fp) (val : Nat → Str) (hval : ∀ i v, Pv i v → ∃ t, v = .str (val i) t) (hb : n + 1 < scanBound) :
    ∀ (k i : Nat) (s : Shared) (D : SD), n - i = k → i ≤ n → St i s → s.heap.get? S = some (sObj "set" D) → PayT w D (gotS val i) →
      (∀ s' D', Moved (S :: wr) G s s' → s'.heap.get? S = some (sObj "set" D') → PayT w D' (gotS val n) → R (.ok (.ret .none)) s') →
      codeAny (model P w) A (.builtin "set.update.loop" ⟨[.ref S, .ref I], []⟩) R s := by
  have hSw : S ∉ wr := fun h => hSf (W.sub _ h)
  have hsub : ∀ b ∈ wr, b ∈ S :: wr := fun b hb => List.mem_cons_of_mem _ hb
  intro k
  induction k with
  | zero =>
    intro i s D hk hi hst ho F hR
    obtain rfl : i = n := by omega
    refine codeAny_builtin PyProof.Rows.F.entry_set_update_loop ?_
    rw [Around.under_plainId PyProof.Rows.F.plain_set_update_loop _]
    show wpAny _ A.in1 (pyNext (.ref I) >>= _) _ _ s
    refine wpAny_bind (W.done s _ _ hst fun s' hm => ?_)
    show wpAny _ A.in1 (ret Value.none) _ _ s'
    exact wpAny_pure (hR s' D (hm.mono hsub) (hm.heap S _ hSw ho) F)
  | succ k ih =>
    intro i s D hk hi hst ho F hR
    have hlt : i < n := by omega
    refine codeAny_builtin PyProof.Rows.F.entry_set_update_loop ?_
    rw [Around.under_plainId PyProof.Rows.F.plain_set_update_loop _]
    show wpAny _ A.in1 (pyNext (.ref I) >>= _) _ _ s
    refine wpAny_bind (W.item i s _ _ hlt hst fun v s' hP hst' hm => ?_)
    obtain ⟨t, rfl⟩ := hval i v hP
    have ho' : s'.heap.get? S = some (sObj "set" D) := hm.heap S _ hSw ho
    have hl := gotS_len val i
    show wpAny _ A.in1 (holding [Value.str (val i) t] (setAdd S (.str (val i) t)) >>= _) _ _ s'
    refine wpAny_bind (wpAny_holding ?_)
    unfold setAdd
    refine wpAny_holding ?_
    refine wpAny_bind ((strKind P w).pyHash (k := val i) (is_str _ _) ?_)
    by_cases hmem : val i ∈ gotS val i
    · refine add_old (s := { s' with toks := s'.toks + 1 }) ho' F.tx hmem (by omega) ?_
      have e1 : gotS val (i + 1) = gotS val i := by rw [gotS_succ]; unfold stpS; rw [if_pos hmem]
      refine wpAny_pure ⟨plainId_quiet PyProof.Rows.F.plain_set_update_loop _, ih (i + 1) _ D (by omega) hlt (W.frame _ s' _ _ hst' (Nat.le_succ _) fun b hb o e => e) ho' (by rw [e1]; exact F) fun s'' D' hm'' ho'' F'' => ?_⟩
      exact hR s'' D' (Moved.trans W.gtrans ((hm.mono hsub).then_heap (Nat.le_succ _) fun b o hb e => e) hm'') ho'' F''
    · refine add_x (s := { s' with toks := s'.toks + 1 }) ho' F.tx hmem (by omega) ?_
      have e1 : gotS val (i + 1) = val i :: gotS val i := by rw [gotS_succ]; unfold stpS; rw [if_neg hmem]
      have hne : ∀ b, b ≠ S → ∀ X : Obj, (s'.heap.update S (fun _ => X)).get? b = s'.heap.get? b := fun b hb X => (Heap.SameBut.update s'.heap S (fun _ => X)).2 b hb
      refine wpAny_pure ⟨plainId_quiet PyProof.Rows.F.plain_set_update_loop _, ih (i + 1) _ _ (by omega) hlt (W.frame _ s' _ _ hst' (Nat.le_succ _) fun b hb o e => ?_) (get_upd _ ho' rfl) (by rw [e1]; exact F.add t hmem) fun s'' D' hm'' ho'' F'' => ?_⟩
      · show (s'.heap.update S _).get? b = some o
        rw [hne b (fun h => hSf (h ▸ hb))]; exact e
      · refine hR s'' D' (Moved.trans W.gtrans ((hm.mono hsub).then_heap (Nat.le_succ _) fun b o hb e => ?_) hm'') ho'' F''
        show (s'.heap.update S _).get? b = some o
        rw [hne b (fun h => hb (by rw [h]; exact List.mem_cons_self))]; exact e
/-! ### set(xs) -/
theorem new_led1 (a : Value) {Q1 : Value → Shared → Prop}
    (h : Q1 (.ref s.heap.objs.size) { s with heap := s.heap.push (sObj "set" (#[], 0, .fresh 0 0 (!w.params.followText "set-order"))) }) :
    codeAny (model P w) A (.call (.builtin "set.__new__") ⟨[.type "set", a], []⟩) (wants Q1 E) s := by
  refine codeAny_of_tree ?_
  show wpAny _ A.in1 (do checkBuiltinCall "set.__new__" ⟨[.type "set", a], []⟩; again (.builtin "set.__new__" ⟨[.type "set", a], []⟩)) _ _ s
  refine wpAny_bind (wpAny_of_eq (F.newCall_set_1 a) (wpAny_pure ⟨plainId_quiet F.plain_set_new _, codeAny_builtin F.entry_set_new ?_⟩))
  rw [Around.under_plainId F.plain_set_new _]
  unfold Builtin.«set.__new__» Builtin.Frozenset.newClass
  have hsub := sub_set_self
  obtain ⟨hp, g, d, tk, os⟩ := s
  dsimp only
  wp_walk
  refine wpAny_askSetting (wpAny_pure ?_)
  dsimp only
  simp only [newObj]
  exact wpAny_bind (wpAny_alloc (wpAny_pure (wpAny_pure h)))
theorem pay_fresh (w : World) : PayT w (#[], 0, .fresh 0 0 (!w.params.followText "set-order")) [] where
  gd := fun e he => by simp at he
  pm := by simp
  nd := List.nodup_nil
  ft := rfl
  rs := List.Pairwise.nil
  ld := by
    show _ ∨ (!w.params.followText "set-order") = true
    cases w.params.followText "set-order"
    · exact .inr rfl
    · exact .inl rfl
/-- the new set at p holds what the loop got -/
def MadeT (w : World) (s : Shared) (h' : Heap) (l : List Str) : Prop :=
  (∃ D, h'.get? s.heap.objs.size = some (sObj "set" D) ∧ PayT w D l) ∧ ∀ b o, b < s.heap.objs.size → s.heap.get? b = some o → h'.get? b = some o
set_option maxHeartbeats 3200000 in
theorem call_setT_list {l : Addr} {items : Array Value} {xs : List Str} {Q : Value → Shared → Prop}
    (hh : A.handled = none) (hl : s.heap.IsList l items) (hi : PyProof.Rows.StrsAre items.toList xs) (hb : items.size + 1 < scanBound)
    (h : ∀ (h' : Heap) (tk : Nat), MadeT w s h' (gotS (fun i => xs.getD i Str.empty) items.size) → Q (.ref s.heap.objs.size) { s with heap := h', toks := tk }) :
    wpAny (model P w) A (call (.type "set") [.ref l]) Q E s := by
  obtain ⟨c, tl, hmro⟩ := PySem.F.called_set.mro
  have hmade := PySem.F.called_set.made
  have hsub := PySem.F.called_set.sub
  refine wpAny_call (codeAny_of_tree ?_)
  show wpAny _ _ (callAny (.type "set") _) _ _ _
  refine wpAny_pure ⟨Code.quiet_builtin _ (by decide +kernel), codeAny_builtin PySem.F.entry_type_call ?_⟩
  rw [Around.under_plain (weight_type_call_type "set" [.ref l] []) rfl]
  have h1 := PySem.F.called_set.notType
  have h2 := PySem.F.called_set.canCreate
  have hct := PySem.F.typeCall_set_1 (.ref l)
  repeat (any_goals (first | assumption | wp_step))
  obtain ⟨O, hO⟩ : ∃ O : Obj, O = { cls := .type "set", dict := none, data := .set #[] 0 (.fresh 0 0 (!w.params.followText "set-order")) } := ⟨_, rfl⟩
  have nf : O.isFreed = false := by rw [hO]; rfl
  have Oc : O.cls = .type "set" := by rw [hO]
  refine codeAny_mono (new_led1 (.ref l) (E := E) (Q1 := fun obj s₁ => obj = .ref s.heap.objs.size ∧ s₁ = { s with heap := s.heap.push O }) (by rw [hO]; exact ⟨rfl, rfl⟩)) fun r s₁ hr => ?_
  cases r with
  | error e => exact hr
  | ok fl =>
    cases fl with
    | ret obj =>
      obtain ⟨rfl, rfl⟩ := hr
      have hS : (s.heap.push O).get? s.heap.objs.size = some O := Heap.get?_push_size _ nf
      have hT : Shared.TypeIs { s with heap := s.heap.push O } (.ref s.heap.objs.size) "set" := ⟨_, hS, Oc⟩
      have hli := PySem.F.called_set.init.lookup
      have hbi := PySem.F.called_set.init.bind (.ref s.heap.objs.size)
      repeat (any_goals (first | assumption | wp_step))
      refine codeAny_mono (codeAny_call_builtin (R := wants (fun r s₂ => r = .none ∧ ∃ h' tk, s₂ = { s with heap := h', toks := tk } ∧ MadeT w s h' (gotS (fun i => xs.getD i Str.empty) items.size)) E) PySem.F.called_set.init.plain PySem.F.entry_set_init (check_set_init_1 hT ?_)) fun r₂ s₂ hr₂ => ?_
      · obtain ⟨ol, hol, hcl, nl, hdl⟩ := hl
        obtain ⟨ocls, odict, odata, oslots⟩ := ol
        simp only at hcl hdl
        subst hcl hdl
        have hl1 : (s.heap.push O).IsList l items := ⟨_, Heap.get?_push_of_some _ hol, rfl, nl, rfl⟩
        have hol' := Heap.get?_push_of_some O hol
        have hsls := PySem.F.sub_list_set
        have hslf := PySem.F.sub_list_frozenset
        have hne : (Value.type "list" == Value.type "dict") = false := by decide
        have z1 : (s.heap.push O).objs.size = s.heap.objs.size + 1 := Heap.size_push ..
        subst hO
        unfold Builtin.«set.__init__» noKeywords Builtin.Frozenset.updateFrom
        generalize hPI : pyIter = PI
        wp_walk
        subst hPI
        refine wpAny_pyIter_list hl1 ?_
        refine wpAny_bind (wpAny_runValue ?_)
        have hlS : l < s.heap.objs.size := Heap.lt_size hol
        generalize hO : ({ cls := .type "set", dict := none, data := .set #[] 0 (.fresh 0 0 (!w.params.followText "set-order")) } : Obj) = O at *
        have hneI : l ≠ (s.heap.push O).objs.size := by rw [z1]; exact Nat.ne_of_lt (Nat.lt_succ_of_lt hlS)
        have hSf : s.heap.objs.size ∉ [(s.heap.push O).objs.size, l] := by
          rw [z1]; simp only [List.mem_cons, List.not_mem_nil, or_false, not_or]
          exact ⟨Nat.ne_of_lt (Nat.lt_succ_self _), Nat.ne_of_gt hlS⟩
        have hh3 : A.in1.in1.in1.handled = none := by simp [hh]
        refine loopT ((Walks.list hh3 _ l hneI items).toS) s.heap.objs.size hSf (fun i => xs.getD i Str.empty)
          (fun i v hv => SS.strs_at hi i v (by rw [Array.getElem?_toList]; exact hv)) hb (items.size - 0) 0 _ (#[], 0, .fresh 0 0 (!w.params.followText "set-order")) (by omega) (Nat.zero_le _)
          ⟨⟨_, Heap.get?_push_size _ rfl, rfl, rfl⟩, hl1.push _⟩ ?_ (pay_fresh w) fun s' D' hm ho' F' => ?_
        · have e0 : sObj "set" (#[], 0, .fresh 0 0 (!w.params.followText "set-order")) = O := hO
          rw [e0]; exact Heap.get?_push_of_some _ hS
        · obtain ⟨h', g', d', tk', os'⟩ := s'
          have eg : g' = s.gens := hm.gens
          have ed : d' = s.drawn := hm.drawn
          have eo : os' = s.os := hm.os
          subst eg ed eo
          show wpAny _ _ _ _ _ _
          refine wpAny_pure ?_
          show wpAny _ _ (ret Value.none) _ _ _
          refine wpAny_pure ⟨rfl, h', tk', rfl, ⟨D', ho', F'⟩, fun b o hb e => ?_⟩
          refine hm.heap b o ?_ (Heap.get?_push_of_some _ (Heap.get?_push_of_some _ e))
          simp only [List.mem_cons, List.not_mem_nil, or_false, not_or]
          rw [z1]
          exact ⟨Nat.ne_of_lt hb, Nat.ne_of_lt (Nat.lt_succ_of_lt hb)⟩
      · cases r₂ with
        | error e => exact hr₂
        | ok fl₂ =>
          cases fl₂ with
          | ret r =>
            obtain ⟨rfl, h', tk, rfl, hM⟩ := hr₂
            repeat (any_goals (first | assumption | wp_step))
            exact h _ _ hM
          | _ => exact hr₂.elim
    | _ => exact hr.elim
end
end DL

namespace DL
open PySem PySem.Spec PyProof.Rows L2 PySem.Froz
def signV (x : Str) (i : Nat) : Str := ⟨#[x.cps.getD i 0]⟩
section
variable {P : Program} {w : World} {A : Around} {E : Value → Shared → Prop} {s : Shared}
theorem sign_at {x : Str} {i : Nat} {v : Value} (h : SignAt x i v) : ∃ t, v = .str (signV x i) t := by
  obtain ⟨c, u, hc, rfl⟩ := h
  refine ⟨u, ?_⟩
  unfold signV
  have : x.cps.getD i 0 = c := by
    rw [Array.getD_eq_getD_getElem?, hc]; rfl
  rw [this]
theorem walksT (hh : A.handled = none) (I : Addr) (x : Str) (t : Tok) : Walks P w A I [I] [I] x.cps.size (SignAt x) (fun i h => h.IsStrIter I (strIterType x) x t i) := by
  by_cases ha : x.cps.all (· < 128) = true
  · have e : strIterType x = "str_ascii_iterator" := by unfold strIterType; rw [if_pos ha]
    rw [e]
    exact Walks.strAscii hh I x t
  · have e : strIterType x = "str_iterator" := by unfold strIterType; rw [if_neg ha]
    rw [e]
    exact Walks.strWide hh I x t
set_option maxHeartbeats 3200000 in
theorem call_setT_text {x : Str} {u : Tok} {Q : Value → Shared → Prop}
    (hh : A.handled = none) (hb : x.cps.size + 1 < scanBound)
    (h : ∀ (h' : Heap) (tk : Nat), MadeT w s h' (gotS (signV x) x.cps.size) → Q (.ref s.heap.objs.size) { s with heap := h', toks := tk }) :
    wpAny (model P w) A (call (.type "set") [.str x u]) Q E s := by
  obtain ⟨c, tl, hmro⟩ := PySem.F.called_set.mro
  have hmade := PySem.F.called_set.made
  have hsub := PySem.F.called_set.sub
  refine wpAny_call (codeAny_of_tree ?_)
  show wpAny _ _ (callAny (.type "set") _) _ _ _
  refine wpAny_pure ⟨Code.quiet_builtin _ (by decide +kernel), codeAny_builtin PySem.F.entry_type_call ?_⟩
  rw [Around.under_plain (weight_type_call_type "set" [.str x u] []) rfl]
  have h1 := PySem.F.called_set.notType
  have h2 := PySem.F.called_set.canCreate
  have hct := PySem.F.typeCall_set_1 (.str x u)
  repeat (any_goals (first | assumption | wp_step))
  obtain ⟨O, hO⟩ : ∃ O : Obj, O = { cls := .type "set", dict := none, data := .set #[] 0 (.fresh 0 0 (!w.params.followText "set-order")) } := ⟨_, rfl⟩
  have nf : O.isFreed = false := by rw [hO]; rfl
  have Oc : O.cls = .type "set" := by rw [hO]
  refine codeAny_mono (new_led1 (.str x u) (E := E) (Q1 := fun obj s₁ => obj = .ref s.heap.objs.size ∧ s₁ = { s with heap := s.heap.push O }) (by rw [hO]; exact ⟨rfl, rfl⟩)) fun r s₁ hr => ?_
  cases r with
  | error e => exact hr
  | ok fl =>
    cases fl with
    | ret obj =>
      obtain ⟨rfl, rfl⟩ := hr
      have hS : (s.heap.push O).get? s.heap.objs.size = some O := Heap.get?_push_size _ nf
      have hT : Shared.TypeIs { s with heap := s.heap.push O } (.ref s.heap.objs.size) "set" := ⟨_, hS, Oc⟩
      have hli := PySem.F.called_set.init.lookup
      have hbi := PySem.F.called_set.init.bind (.ref s.heap.objs.size)
      repeat (any_goals (first | assumption | wp_step))
      refine codeAny_mono (codeAny_call_builtin (R := wants (fun r s₂ => r = .none ∧ ∃ h' tk, s₂ = { s with heap := h', toks := tk } ∧ MadeT w s h' (gotS (signV x) x.cps.size)) E) PySem.F.called_set.init.plain PySem.F.entry_set_init (check_set_init_1 hT ?_)) fun r₂ s₂ hr₂ => ?_
      · have hsls : isSubtype (.type "str") (.type "set") = pure false := by rw [isSubtype_type]; kernel_rfl
        have hslf : isSubtype (.type "str") (.type "frozenset") = pure false := by rw [isSubtype_type]; kernel_rfl
        have hne : (Value.type "str" == Value.type "dict") = false := by decide
        have z1 : (s.heap.push O).objs.size = s.heap.objs.size + 1 := Heap.size_push ..
        subst hO
        unfold Builtin.«set.__init__» noKeywords Builtin.Frozenset.updateFrom
        generalize hPI : pyIter = PI
        wp_walk
        subst hPI
        refine wpAny_pyIter_strU ?_
        refine wpAny_bind (wpAny_runValue ?_)
        generalize hO : ({ cls := .type "set", dict := none, data := .set #[] 0 (.fresh 0 0 (!w.params.followText "set-order")) } : Obj) = O at *
        have hSf : s.heap.objs.size ∉ [(s.heap.push O).objs.size] := by
          rw [z1]; simp only [List.mem_cons, List.not_mem_nil, or_false, not_or]
          exact Nat.ne_of_lt (Nat.lt_succ_self _)
        have hh3 : A.in1.in1.in1.handled = none := by simp [hh]
        refine loopT ((walksT hh3 _ x u).toS) s.heap.objs.size hSf (signV x) (fun i v hv => sign_at hv) hb (x.cps.size - 0) 0 _ (#[], 0, .fresh 0 0 (!w.params.followText "set-order")) (by omega) (Nat.zero_le _)
          ⟨_, Heap.get?_push_size _ rfl, rfl, rfl⟩ ?_ (pay_fresh w) fun s' D' hm ho' F' => ?_
        · have e0 : sObj "set" (#[], 0, .fresh 0 0 (!w.params.followText "set-order")) = O := hO
          rw [e0]; exact Heap.get?_push_of_some _ hS
        · obtain ⟨h', g', d', tk', os'⟩ := s'
          have eg : g' = s.gens := hm.gens
          have ed : d' = s.drawn := hm.drawn
          have eo : os' = s.os := hm.os
          subst eg ed eo
          show wpAny _ _ _ _ _ _
          refine wpAny_pure ?_
          show wpAny _ _ (ret Value.none) _ _ _
          refine wpAny_pure ⟨rfl, h', tk', rfl, ⟨D', ho', F'⟩, fun b o hb e => ?_⟩
          refine hm.heap b o ?_ (Heap.get?_push_of_some _ (Heap.get?_push_of_some _ e))
          simp only [List.mem_cons, List.not_mem_nil, or_false, not_or]
          rw [z1]
          exact ⟨Nat.ne_of_lt hb, Nat.ne_of_lt (Nat.lt_succ_of_lt hb)⟩
      · cases r₂ with
        | error e => exact hr₂
        | ok fl₂ =>
          cases fl₂ with
          | ret r =>
            obtain ⟨rfl, h', tk, rfl, hM⟩ := hr₂
            repeat (any_goals (first | assumption | wp_step))
            exact h _ _ hM
          | _ => exact hr₂.elim
    | _ => exact hr.elim
end
end DL

namespace DL
open PySem PySem.Spec PyProof.Rows L2 PySem.Froz
section
variable {P : Program} {w : World} {A : Around} {E : Value → Shared → Prop} {s : Shared}
theorem strs_of : ∀ (l : List Value), (∀ v ∈ l, ∃ k tk, v = Value.str k tk) → StrsAre l (l.map fun v => keyT (0, v))
  | [], _ => .nil
  | v :: l, h => by
    obtain ⟨k, tk, rfl⟩ := h v List.mem_cons_self
    exact .cons k tk (strs_of l fun u hu => h u (List.mem_cons_of_mem _ hu))
theorem sorted_setT {a : Addr} {D : SD} {l : List Str} {Q : Value → Shared → Prop} (ho : s.heap.get? a = some (sObj "set" D)) (F : PayT w D l) (hh : A.handled = none) (hb : l.length < scanBound)
    (hQ : ∀ s' p (out : Array Value) (c : Nat) (ys : List Str), (∀ b o, s.heap.get? b = some o → s'.heap.get? b = some o) → s'.gens = s.gens → s'.os = s.os → s.heap.objs.size ≤ p →
      s'.heap.get? p = some (seqObj "list" out c) → StrsAre out.toList ys → ys.Perm l → sortedS ys = true → Q (.ref p) s') :
    wpAny (model P w) A (call (.builtin "sorted") [.ref a]) Q E s := by
  obtain ⟨es, ep, t⟩ := D
  have hsz : es.size = l.length := F.sz
  have hsb : scanBound = 4096 := rfl
  refine Calls.call_function_entry kind_sorted plain_sorted entry_sorted (args_sorted1 _) ?_
  unfold Builtin.«sorted»
  refine wpAny_bind (m := checkCount "sorted" 1 1 _) (wpAny_pure ?_)
  refine wpAny_bind (collect_set (A := A.in1) hh ⟨_, ho, rfl, rfl⟩ F.ft (show es.size < scanBound by omega) F.rs F.ld fun s1 vs k1 hz g1 o1 pm => ?_)
  have hvl : vs.length = l.length := by rw [pm.length_eq, List.length_map, Array.length_toList]; exact hsz
  have hS := strs_of vs fun v hv => by
    obtain ⟨e, he, q⟩ := List.mem_map.mp (pm.mem_iff.mp hv)
    obtain ⟨k, tk, h1, _⟩ := F.gd e he
    exact ⟨k, tk, by rw [← q]; exact h1⟩
  have pk : (vs.map fun v => keyT (0, v)).Perm l := by
    have q := pm.map fun v => keyT (0, v)
    rw [List.map_map] at q
    exact q.trans F.pm
  have hll : vs.length ≤ sizeLine := by rw [hvl, sizeLine_eq]; omega
  refine wpAny_bind (wpAny_newList ?_ hll)
  have hoL : (s1.heap.push (seqObj "list" vs.toArray 0)).get? s1.heap.objs.size = some (seqObj "list" vs.toArray 0) := Heap.get?_push_size _ rfl
  refine wpAny_bind (wpAny_holding (wpAny_call_entry slot_list_sort ⟨_, hoL, rfl⟩ entry_list_sort (list_sort_treeKAny strKind_oneLt hoL hS.keysOf (fun v₁ v₂ rest e => keyKind_strs (by rw [← e]; exact hS)) hll fun st' hp hs => ?_) (args_list_sort _)))
  obtain ⟨ys, b1, b2, b3⟩ := sorted_out_str hS hp hs
  obtain ⟨c, hc⟩ := sortedHeap_at (vs := vs) (out := (arrOf st').map (·.2)) hoL
  refine ⟨_, rfl, wpAny_pure ⟨_, rfl, hQ _ s1.heap.objs.size _ c ys (fun b u e => ?_) g1 o1 hz hc b1 (b2.trans pk) b3⟩⟩
  have q := k1 b u e
  have hlt := Heap.lt_size q
  show (sortedHeap (s1.heap.push (seqObj "list" vs.toArray 0)) s1.heap.objs.size vs _).get? b = some u
  rw [sortedHeap_old (Nat.ne_of_lt hlt) (by rw [size_push']; exact Nat.lt_succ_of_lt hlt)]
  exact Heap.get?_push_of_some _ q
end
/-! ### the texts, each once -/
def stpL (l : List (List Nat)) (k : List Nat) : List (List Nat) := if k ∈ l then l else k :: l
def dedL (ss : List (List Nat)) : List (List Nat) := ss.foldl stpL []
theorem fold_mkS : ∀ (ss l : List (List Nat)), (ss.map mkS).foldl stpS (l.map mkS) = (ss.foldl stpL l).map mkS
  | [], l => rfl
  | x :: ss, l => by
    have e : stpS (l.map mkS) (mkS x) = (stpL l x).map mkS := by
      unfold stpS stpL
      by_cases h : x ∈ l
      · rw [if_pos h, if_pos (List.mem_map.mpr ⟨x, h, rfl⟩)]
      · rw [if_neg h, if_neg fun h2 => ?_]
        · rfl
        · obtain ⟨y, hy, e⟩ := List.mem_map.mp h2
          exact h (mkS_inj e ▸ hy)
    show (ss.map mkS).foldl stpS (stpS (l.map mkS) (mkS x)) = (ss.foldl stpL (stpL l x)).map mkS
    rw [e, fold_mkS ss]
theorem fold_spec : ∀ (ss l : List (List Nat)), l.Nodup → (ss.foldl stpL l).Nodup ∧ ∀ k, k ∈ ss.foldl stpL l ↔ k ∈ l ∨ k ∈ ss
  | [], l, h => ⟨h, fun k => by simp⟩
  | x :: ss, l, h => by
    have h1 : (stpL l x).Nodup := by
      unfold stpL
      split
      · exact h
      · rename_i hx; exact List.nodup_cons.mpr ⟨hx, h⟩
    obtain ⟨n, m⟩ := fold_spec ss (stpL l x) h1
    refine ⟨n, fun k => (m k).trans ?_⟩
    have : k ∈ stpL l x ↔ k ∈ l ∨ k = x := by
      unfold stpL
      split
      · rename_i hx
        exact ⟨.inl, fun h => h.elim id fun e => e ▸ hx⟩
      · rw [List.mem_cons]; exact Or.comm
    rw [this, List.mem_cons, or_assoc]
theorem dedL_nodup (ss : List (List Nat)) : (dedL ss).Nodup := (fold_spec ss [] List.nodup_nil).1
theorem dedL_mem {ss : List (List Nat)} {k : List Nat} : k ∈ dedL ss ↔ k ∈ ss := by
  unfold dedL
  rw [(fold_spec ss [] List.nodup_nil).2 k]; simp
theorem dedL_len (ss : List (List Nat)) : (dedL ss).length ≤ ss.length := by
  have : ∀ (ss l : List (List Nat)), (ss.foldl stpL l).length ≤ l.length + ss.length := by
    intro ss
    induction ss with
    | nil => intro l; exact Nat.le_refl _
    | cons x ss ih =>
      intro l
      have h := ih (stpL l x)
      have h2 : (stpL l x).length ≤ l.length + 1 := by
        unfold stpL; split
        · omega
        · rw [List.length_cons]; omega
      show (ss.foldl stpL (stpL l x)).length ≤ _
      rw [List.length_cons]; omega
  have h := this ss []
  rw [List.length_nil, Nat.zero_add] at h
  exact h
theorem got_list (ss : List (List Nat)) : gotS (fun i => (ss.map mkS).getD i Str.empty) ss.length = (dedL ss).map mkS := by
  unfold gotS dedL
  have e : (List.range ss.length).map (fun i => (ss.map mkS).getD i Str.empty) = ss.map mkS := by
    apply List.ext_getElem
    · simp
    · intro i h1 h2
      have h3 : i < ss.length := by simpa using h2
      simp [h3]
  rw [e]
  exact fold_mkS ss []
theorem got_text (z : List Nat) : gotS (signV (mkS z)) z.length = (dedL (z.map fun c => [c])).map mkS := by
  unfold gotS dedL
  have e : (List.range z.length).map (signV (mkS z)) = (z.map fun c => [c]).map mkS := by
    apply List.ext_getElem
    · simp
    · intro i h1 h2
      simp at h2
      simp [signV, mkS, h2]
  rw [e]
  exact fold_mkS _ []
/-! ### the calls -/
section
variable {X : Cx}
/-- the texts of which the set is made -/
def TxtsOf (K : PySem.W.Frag) (H : Hp) (x : V) (ss : List (List Nat)) : Prop := (∃ l, x = .ref l ∧ SqL K H l ((ss.map mkS).map V.str)) ∨ (∃ z, x = .str (mkS z) ∧ ss = z.map fun c => [c])
def rSrtSet (K : PySem.W.Frag) : V → Hp → VK → Prop := fun x H Q => ∃ ss, TxtsOf K H x ss ∧ ss.length + 1 < scanBound ∧ ∀ p, H p = none → Q (.ref p) (upd H p (.lst (((isort ltS (dedL ss)).map mkS).map V.str)))
def rLenSet (K : PySem.W.Frag) : V → Hp → VK → Prop := fun x H Q => ∃ ss, TxtsOf K H x ss ∧ ss.length + 1 < scanBound ∧ Q (.int ((dedL ss).length : Nat)) H
theorem set_run {pins : List (Addr × Obj)} {σ : L2.St} {H : Hp} {s1 : Shared} {x : V} {v : Value} {ss : List (List Nat)} {E : Value → Shared → Prop} {Q : Value → Shared → Prop} (hc : X.calm = true) (I1 : L2.Inv X pins σ H s1) (r1 : L2.RelV x v) (ht : TxtsOf X.K H x ss) (hb : ss.length + 1 < scanBound)
    (h : ∀ h' tk, L2.Inv X pins σ H { s1 with heap := h', toks := tk } → (∃ D, h'.get? s1.heap.objs.size = some (sObj "set" D) ∧ PayT X.w D ((dedL ss).map mkS)) → Q (.ref s1.heap.objs.size) { s1 with heap := h', toks := tk }) :
    wpAny (model X.prog X.w) X.A (call (.type "set") [v]) Q E s1 := by
  rcases ht with ⟨l, rfl, hq⟩ | ⟨z, rfl, rfl⟩
  · cases r1
    obtain ⟨its, r, pl, hz⟩ := I1.list hq
    have hl : its.toArray.size = ss.length := by rw [List.size_toArray, ← r.length, List.length_map, List.length_map]
    refine call_setT_list (I1.ok.hd hc) pl.isList (xs := ss.map mkS) (by simpa using L2.strsAre_of r) (by rw [hl]; exact hb) fun h' tk hM => ?_
    rw [hl, got_list] at hM
    exact h h' tk (I1.kept fun b o e => hM.2 b o (Heap.lt_size e) e) hM.1
  · obtain ⟨t, rfl⟩ := r1
    have hl : (mkS z).cps.size = z.length := by simp [mkS]
    rw [List.length_map] at hb
    refine call_setT_text (I1.ok.hd hc) (by rw [hl]; exact hb) fun h' tk hM => ?_
    rw [hl, got_text] at hM
    exact h h' tk (I1.kept fun b o e => hM.2 b o (Heap.lt_size e) e) hM.1
theorem pe_srtSet {a : Expr} {ta : TE} {p p2 q pos : Pos} (hc : X.calm = true) (hg : Gl X "sorted") (hm : X.mg "sorted" = none) (hg2 : Gl X "set") (hm2 : X.mg "set" = none) (ha : PE X a ta)
    (na : starEach [a] X.env = (false, eval a X.env) :: starEach [] X.env := by rfl) : PE X (.Call (.Name "sorted" p) [.Call (.Name "set" p2) [a] [] q] [] pos) (fun σ H Q => ta σ H fun x H1 => rSrtSet X.K x H1 Q) := by
  refine ⟨fun pins s σ H Q I h => ?_⟩
  refine Call_ (ld_blt I hg hm bt_sorted ?_)
  refine PyProof.Rows.callWith_builtin1 (PyProof.Rows.args_cons ?_ rfl) rfl rfl
  refine Call_ (ld_blt I hg2 hm2 boot_set ?_)
  refine PyProof.Rows.callWith_type1 (PyProof.Rows.args_cons (thn (ha.run pins s σ H _ I h) fun v s1 ⟨x, H1, I1, r1, q1⟩ => PyProof.Rows.args_nil ?_) na) na rfl
  obtain ⟨ss, ht, hb, q1⟩ := q1
  refine set_run hc I1 r1 ht hb fun h' tk I2 ⟨D, ho, F⟩ => ?_
  refine PyProof.Rows.args_nil ?_
  have hdl := dedL_len ss
  refine sorted_setT ho F (I1.ok.hd hc) (by rw [List.length_map]; omega) fun s' p out c ys k g o hp hgt hi hperm hsrt => ?_
  have ey := sorted_mkS hperm hsrt
  subst ey
  have hn : H1 p = none := I2.hok.fresh hp
  have hlen : (((isort ltS (dedL ss)).map mkS).map V.str).length ≤ sizeLine := by
    rw [List.length_map, List.length_map, (isort_perm ltS _).length_eq, sizeLine_eq]
    have : scanBound = 4096 := rfl
    omega
  have J : L2.Inv X pins σ (upd H1 p (.lst (((isort ltS (dedL ss)).map mkS).map V.str))) { ({ s1 with heap := h', toks := tk } : Shared) with heap := s'.heap, gens := s'.gens, drawn := s'.drawn, toks := s'.toks } :=
    I2.call (ch := []) (Un.laid k hp hn) (I2.hok.laid k hp ⟨hlen, out.toList, c, vals_of_strs hi, hgt⟩) (by rw [g]; exact I2.bare) (fun _ z => nomatch z)
  have e : s' = { s1 with heap := s'.heap, gens := s'.gens, drawn := s'.drawn, toks := s'.toks } := by
    cases s'
    cases s1
    cases o
    rfl
  rw [e]
  exact ⟨.ref p, _, J, rfl, q1 p hn⟩
theorem pe_lenSetT {a : Expr} {ta : TE} {p p2 q pos : Pos} (hc : X.calm = true) (hg : Gl X "len") (hm : X.mg "len" = none) (hg2 : Gl X "set") (hm2 : X.mg "set" = none) (ha : PE X a ta)
    (na : starEach [a] X.env = (false, eval a X.env) :: starEach [] X.env := by rfl) : PE X (.Call (.Name "len" p) [.Call (.Name "set" p2) [a] [] q] [] pos) (fun σ H Q => ta σ H fun x H1 => rLenSet X.K x H1 Q) := by
  refine ⟨fun pins s σ H Q I h => ?_⟩
  refine Call_ (ld_blt I hg hm boot_len ?_)
  refine PyProof.Rows.callWith_builtin1 (PyProof.Rows.args_cons ?_ rfl) rfl rfl
  refine Call_ (ld_blt I hg2 hm2 boot_set ?_)
  refine PyProof.Rows.callWith_type1 (PyProof.Rows.args_cons (thn (ha.run pins s σ H _ I h) fun v s1 ⟨x, H1, I1, r1, q1⟩ => PyProof.Rows.args_nil ?_) na) na rfl
  obtain ⟨ss, ht, hb, q1⟩ := q1
  refine set_run hc I1 r1 ht hb fun h' tk I2 ⟨⟨es, ep, t⟩, ho, F⟩ => ?_
  refine PyProof.Rows.args_nil ?_
  have hdl := dedL_len ss
  have hsz : es.size = (dedL ss).length := by have := F.sz; rw [List.length_map] at this; exact this
  have hsb : scanBound = 4096 := rfl
  exact call_len_set ho ⟨rfl, rfl, rfl⟩ rfl F.ft (by rw [hsz]; omega) ⟨.int ((dedL ss).length : Nat), H1, I2.tok _, ⟨_, by rw [hsz]⟩, q1⟩
end
end DL

namespace DL
open PySem PySem.Spec PyProof.Rows L2
def textsOf : D → Option (List (List Nat))
  | .lst ds => mapO asS ds
  | .frl ds => mapO asS ds
  | .str s => some (s.map fun c => [c])
  | _ => none
def oSrtSet : O1 := fun d => (textsOf d).bind fun ss => if ss.length ≤ 4000 then some (.fr (.lst ((isort ltS (dedL ss)).map D.str))) else none
def oLenSet : O1 := fun d => (textsOf d).bind fun ss => if ss.length ≤ 4000 then some (.imm (.int ((dedL ss).length : Nat))) else none
section
variable {X : Cx} {a : Expr} {f : EM} {p p2 q pos : Pos}
theorem txts_of {W : Wd} {F H : Hp} {ρ : Nat → Option Addr} {σ : L2.St} {Γ : Gm} {d : D} {v : V} {ss : List (List Nat)} (S : Sim W F H ρ σ Γ) (r : RdV W.K F H d v) (h : textsOf d = some ss) : TxtsOf W.K H v ss ∧ ∀ s ∈ ss, okS s := by
  unfold textsOf at h
  split at h
  · obtain ⟨a, vs, rfl, h1, r1⟩ := rd_lst r
    obtain ⟨rfl, ok⟩ := mapO_strs r1 h
    exact ⟨.inl ⟨a, rfl, .inl (.inl h1)⟩, ok⟩
  · obtain ⟨a, vs, rfl, h1, r1⟩ := rd_frl r
    obtain ⟨rfl, ok⟩ := mapO_strs r1 h
    exact ⟨.inl ⟨a, rfl, S.sub.seq h1⟩, ok⟩
  · cases h
    obtain ⟨rfl, ok⟩ := rd_str r
    refine ⟨.inr ⟨_, rfl, rfl⟩, fun s hs => ?_⟩
    obtain ⟨c, hc, rfl⟩ := List.mem_map.mp hs
    exact okS_one ok hc
  · cases h
theorem if_some {α : Type} {c : Prop} [Decidable c] {x y : α} (h : (if c then some x else none) = some y) : c ∧ x = y := by
  split at h
  · rename_i hc; cases h; exact ⟨hc, rfl⟩
  · cases h
theorem ud_srtSet : UnD X (rSrtSet X.K) oSrtSet := by
  intro W F H ρ σ Γ d v e Q eK S r h w
  rw [← eK]
  obtain ⟨ss, hs, h⟩ := obind_inv h
  obtain ⟨hl, rfl⟩ := if_some h
  obtain ⟨ht, ok⟩ := txts_of S r hs
  have hb : scanBound = 4096 := rfl
  refine ⟨ss, ht, by omega, fun p hp => ?_⟩
  exact w.newl S hp (rpl_strs fun s hs => ok s (dedL_mem.mp ((isort_perm ltS _).mem_iff.mp hs)))
theorem ud_lenSet : UnD X (rLenSet X.K) oLenSet := by
  intro W F H ρ σ Γ d v e Q eK S r h w
  rw [← eK]
  obtain ⟨ss, hs, h⟩ := obind_inv h
  obtain ⟨hl, rfl⟩ := if_some h
  obtain ⟨ht, ok⟩ := txts_of S r hs
  have hb : scanBound = 4096 := rfl
  exact ⟨ss, ht, by omega, w.here S rp_int⟩
theorem de_srtSet (hc : X.calm = true) (hm : X.mg "sorted" = none) (hm2 : X.mg "set" = none) (ha : DE X a f) (hg : Gl X "sorted" := by rfl) (hg2 : Gl X "set" := by rfl) (na : starEach [a] X.env = (false, eval a X.env) :: starEach [] X.env := by rfl) :
    DE X (.Call (.Name "sorted" p) [.Call (.Name "set" p2) [a] [] q] [] pos) (eUn oSrtSet f) :=
  pe_imp (pe_srtSet hc hg hm hg2 hm2 ha na) fun _ _ _ h => un_core ud_srtSet h
theorem de_lenSet (hc : X.calm = true) (hm : X.mg "len" = none) (hm2 : X.mg "set" = none) (ha : DE X a f) (hg : Gl X "len" := by rfl) (hg2 : Gl X "set" := by rfl) (na : starEach [a] X.env = (false, eval a X.env) :: starEach [] X.env := by rfl) :
    DE X (.Call (.Name "len" p) [.Call (.Name "set" p2) [a] [] q] [] pos) (eUn oLenSet f) :=
  pe_imp (pe_lenSetT hc hg hm hg2 hm2 ha na) fun _ _ _ h => un_core ud_lenSet h
end
@[simp] theorem textsOf_l (ss : List (List Nat)) : textsOf (.lst (ss.map D.str)) = some ss := by
  simp [textsOf, mapO_map (g := D.str) (h := id) (f := asS) fun _ => rfl]
@[simp] theorem textsOf_s (s : List Nat) : textsOf (.str s) = some (s.map fun c => [c]) := rfl
/-! ### the least, the greatest -/
def bestL {α : Type} (lt : α → α → Bool) (x : α) (xs : List α) : α := xs.foldl (fun a y => if lt y a = true then y else a) x
theorem bestL_spec {α : Type} {lt : α → α → Bool} (L : Lin lt) : ∀ (xs : List α) (x : α), bestL lt x xs ∈ x :: xs ∧ ∀ y ∈ x :: xs, lt y (bestL lt x xs) = false
  | [], x => ⟨List.mem_cons_self, fun y hy => by
    simp at hy
    subst hy
    show lt y y = false
    cases h : lt y y with
    | false => rfl
    | true => have := L.as _ _ h; rw [h] at this; cases this⟩
  | z :: xs, x => by
    show bestL lt (if lt z x = true then z else x) xs ∈ _ ∧ ∀ y ∈ _, lt y (bestL lt (if lt z x = true then z else x) xs) = false
    obtain ⟨h1, h2⟩ := bestL_spec L xs (if lt z x = true then z else x)
    generalize bestL lt (if lt z x = true then z else x) xs = b at h1 h2 ⊢
    have hx := h2 _ List.mem_cons_self
    refine ⟨?_, fun y hy => ?_⟩
    · rcases List.mem_cons.mp h1 with e | e
      · rw [e]
        split
        · exact List.mem_cons_of_mem _ List.mem_cons_self
        · exact List.mem_cons_self
      · exact List.mem_cons_of_mem _ (List.mem_cons_of_mem _ e)
    · rcases List.mem_cons.mp hy with rfl | hy
      · by_cases hz : lt z y = true
        · rw [if_pos hz] at hx
          cases h : lt y b with
          | false => rfl
          | true => have := L.tr _ _ _ hz h; rw [hx] at this; cases this
        · rw [if_neg hz] at hx; exact hx
      · rcases List.mem_cons.mp hy with rfl | hy
        · by_cases hz : lt y x = true
          · rw [if_pos hz] at hx; exact hx
          · rw [if_neg hz] at hx
            exact L.ntr (x := b) (y := x) (z := y) hx (by simpa using hz)
        · exact h2 y (List.mem_cons_of_mem _ hy)
/-- the greatest comes of the turned order -/
def gtI (a b : Int) : Bool := ltI b a
theorem lin_G : Lin gtI := ⟨fun x y z h1 h2 => lin_I.tr z y x h2 h1, fun x y h => lin_I.as y x h, fun x y h1 h2 => (lin_I.tri y x h1 h2).symm⟩
section
variable {X : Cx}
def rMinT (K : PySem.W.Frag) : List V → Hp → VK → Prop := fun vs H Q => ∃ (a : Addr) (x : List Nat) (xs : List (List Nat)), vs = [V.ref a] ∧ SqL K H a (((x :: xs).map mkS).map V.str) ∧ Q (.str (mkS (bestL ltS x xs))) H
theorem reads_strs {h : Heap} : ∀ {us : List Value} {xs : List Str}, StrsAre us xs → ReadsAll h us (xs.map PyData.str) []
  | _, _, .nil => .nil
  | _, _, .cons x t r => .cons (as := []) (bs := []) (.str x t) (reads_strs r)
theorem minD_strs : ∀ (xs : List (List Nat)) (x : List Nat), PySem.W.minD (.str (mkS x)) ((xs.map mkS).map PyData.str) = .str (mkS (bestL ltS x xs))
  | [], x => rfl
  | z :: xs, x => by
    have e : PySem.W.dataLt (.str (mkS z)) (.str (mkS x)) = ltS z x := by
      rw [PySem.W.dataLt_str]
      rfl
    have ih := minD_strs xs (if ltS z x = true then z else x)
    show PySem.W.minD (if PySem.W.dataLt (.str (mkS z)) (.str (mkS x)) = true then .str (mkS z) else .str (mkS x)) _ = .str (mkS (bestL ltS (if ltS z x = true then z else x) xs))
    rw [e, ← ih]
    congr 1
    split <;> rfl
theorem cr_minT (hc : X.calm = true) (hu : X.A.units + 64 < cLine) : CallR X (.builtin "min") (rMinT X.K) := by
  intro pins s σ H vs us Q I r h
  obtain ⟨a, x, xs, rfl, hs, q⟩ := h
  obtain ⟨its, rv, hl, _⟩ := I.list hs
  rw [Vals.ref1 r]
  have hS := rv.strs
  refine PySem.W.min_list_data (I.ok.hd hc) hl.isList (x := .str (mkS x)) (xs := (xs.map mkS).map PyData.str) (as := []) (by simpa using reads_strs hS) ⟨fun a ha b hb => ?_, fun a ha => ?_⟩ ?_ fun i v h' tk bs hv hr hk => ?_
  · simp only [List.mem_cons, List.mem_map] at ha hb
    have sa : ∃ z, a = .str z := by rcases ha with rfl | ⟨z, _, rfl⟩ <;> exact ⟨_, rfl⟩
    have sb : ∃ z, b = .str z := by rcases hb with rfl | ⟨z, _, rfl⟩ <;> exact ⟨_, rfl⟩
    obtain ⟨z, rfl⟩ := sa
    obtain ⟨y, rfl⟩ := sb
    simp [PySem.W.alike]
  · simp only [List.mem_cons, List.mem_map] at ha
    rcases ha with rfl | ⟨z, _, rfl⟩ <;> exact fun h => by cases h
  · have dz : ∀ l : List Str, PyData.depthAll (l.map PyData.str) ≤ 1 := by
      intro l
      induction l with
      | nil => exact Nat.zero_le _
      | cons y l ih => exact Nat.max_le.mpr ⟨Nat.zero_le _, ih⟩
    have := dz (mkS x :: xs.map mkS)
    rw [List.map_cons] at this
    omega
  · rw [minD_strs] at hr
    cases hr
    exact ⟨.str _, H, I.kept hk, ⟨_, rfl⟩, q⟩
def rMin1 (K : PySem.W.Frag) : List V → Hp → VK → Prop := fun vs H Q => rMinT K vs H Q ∨ rMin K vs H Q
theorem cr_min1 (hc : X.calm = true) (hu : X.A.units + 64 < cLine) : CallR X (.builtin "min") (rMin1 X.K) := CallR.or (cr_minT hc hu) (cr_min hc)
def oMin1 : OL
  | [.lst ds] => match mapO asS ds with
    | some (x :: xs) => some (.imm (.str (bestL ltS x xs)))
    | _ => match mapO asI ds with
      | some (n :: ns) => some (.imm (.int (bestL ltI n ns)))
      | _ => none
  | _ => none
def oMax1 : OL
  | [.lst ds] => match mapO asI ds with
    | some (n :: ns) => some (.imm (.int (bestL gtI n ns)))
    | _ => none
  | _ => none
theorem best_one {ns : List Int} {n m : Int} (h1 : m ∈ n :: ns) (h2 : ∀ y, y ∈ n :: ns → m ≤ y) : m = bestL ltI n ns := by
  obtain ⟨a, b⟩ := bestL_spec lin_I ns n
  have x := h2 _ a
  have y := of_decide_eq_false (b m h1)
  omega
theorem best_two {ns : List Int} {n m : Int} (h1 : m ∈ n :: ns) (h2 : ∀ y, y ∈ n :: ns → y ≤ m) : m = bestL gtI n ns := by
  obtain ⟨a, b⟩ := bestL_spec lin_G ns n
  have x := h2 _ a
  have y := of_decide_eq_false (b m h1)
  omega
theorem cd_min1 : CallD X (rMin1 X.K) oMin1 := by
  intro W F H ρ σ Γ ds vs e Q eK S r h w
  rw [← eK]
  unfold oMin1 at h
  split at h
  · rename_i ds
    obtain ⟨v, rfl, rr⟩ := rdvs1 r
    obtain ⟨a, vs, rfl, h1, q1⟩ := rd_lst rr
    split at h
    · rename_i x xs hs
      cases h
      obtain ⟨ev, ok⟩ := mapO_strs q1 hs
      refine .inl ⟨a, x, xs, rfl, by rw [← ev]; exact .inl (.inl h1), w.here S (rp_str (ok _ (bestL_spec lin_S xs x).1))⟩
    · split at h
      · rename_i n ns hn
        cases h
        refine .inr ⟨a, n :: ns, rfl, by rw [← mapO_ints q1 hn]; exact .inl (.inl h1), Nat.zero_lt_succ _, fun m m1 m2 => ?_⟩
        rw [best_one m1 m2]
        exact w.here S rp_int
      · cases h
  · cases h
theorem cd_max1 : CallD X (rMax X.K) oMax1 := by
  intro W F H ρ σ Γ ds vs e Q eK S r h w
  rw [← eK]
  unfold oMax1 at h
  split at h
  · rename_i ds
    obtain ⟨v, rfl, rr⟩ := rdvs1 r
    obtain ⟨a, vs, rfl, h1, q1⟩ := rd_lst rr
    split at h
    · rename_i n ns hn
      cases h
      refine ⟨a, n :: ns, rfl, by rw [← mapO_ints q1 hn]; exact .inl (.inl h1), Nat.zero_lt_succ _, fun m m1 m2 => ?_⟩
      rw [best_two m1 m2]
      exact w.here S rp_int
    · cases h
  · cases h
end
@[simp] theorem oMin1_s (x : List Nat) (xs : List (List Nat)) : oMin1 [.lst ((x :: xs).map D.str)] = some (.imm (.str (bestL ltS x xs))) := by
  have : mapO asS ((x :: xs).map D.str) = some (x :: xs) := by rw [mapO_map (g := D.str) (h := id) (f := asS) fun _ => rfl, List.map_id]
  simp only [oMin1, this]
@[simp] theorem oMin1_s' (x : List Nat) (xs : List (List Nat)) : oMin1 [.lst (D.str x :: xs.map D.str)] = some (.imm (.str (bestL ltS x xs))) := oMin1_s x xs
end DL

set_option maxHeartbeats 4000000
namespace DL
open PySem PySem.Spec PyProof.Rows L2
theorem tup_mul1 (l : Addr) (items : Array Value) (n : Nat) (dd : Option Addr) (sl : Array (Option Value)) (u : Tok) :
    Meets (Builtin.«tuple.__mul__» ⟨[.ref l, .int 1 u], []⟩) (fun _ R s => s.heap.get? l = some { cls := .type "tuple", dict := dd, data := .seq items n, slots := sl } ∧ R (.ok (.ret (Value.ref l))) s) :=
  .of_wp fun prog w A R s h => by
    obtain ⟨hp, g, d, tk, os⟩ := s
    obtain ⟨hl, h⟩ := h
    have f1 := AutoSeq1.idx_int
    wp_walk using wpAny_loadPart' hl
    exact ⟨_, rfl, h⟩
section
variable {X : Cx}
def rRep1 (K : PySem.W.Frag) : R2 := fun x y H Q => ∃ l xs, x = .ref l ∧ y = .int 1 ∧ SqT K H l xs ∧ Q (.ref l) H
theorem op_rep1 : OpR X (binaryOp .Mult) (rRep1 X.K) := by
  intro pins s σ H x y v u Q I rx ry h
  obtain ⟨l, xs, rfl, rfl, hT, q⟩ := h
  cases rx
  obtain ⟨t, rfl⟩ := ry
  obtain ⟨its, r, ⟨⟨cls, dd, data, sl⟩, ho, hc, n, hd⟩, hs⟩ := I.tuple hT
  simp only at hc hd
  subst hc hd
  refine wpAny_binaryOp_repeat_ref (T := "tuple") (U := "int") (by decide) ⟨_, ho, rfl⟩ (fun s' => typeIs_int s' 1 t) noFill_tuple_mul F.fills_int_mul F.slot_int_rmul repeat_tuple F.slot_int_index.lookup
    (call_meets F.slot_int_rmul (typeIs_int s 1 t) F.entry_int_rmul (F.args_int_rmul_2 _ _) (int_rmul_tuple 1 t l its.toArray n dd sl)
      ⟨ho, rfl, ⟨_, ho, rfl⟩, call_meets F.slot_tuple_mul ⟨_, ho, rfl⟩ F.entry_tuple_mul (F.args_tuple_mul_2 _ _) (tup_mul1 l its.toArray n dd sl t) ⟨ho, ?_⟩⟩)
  exact ⟨.ref l, H, I, rfl, q⟩
def rMulT (K : PySem.W.Frag) : R2 := fun x y H Q => rRepT K x y H Q ∨ rRep1 K x y H Q
theorem op_mulT : OpR X (binaryOp .Mult) (rMulT X.K) := OpR.or op_repT op_rep1
def oMulT : O2
  | .tup ds, .int n => if ds ≠ [] ∧ 1 ≤ n ∧ n ≤ 1000 ∧ ds.length ≤ 1000 then some (.imm (.tup (mulL ds n))) else none
  | _, _ => none
theorem rpl_mul {K : PySem.W.Frag} {F : Hp} {ds : List D} {vs : List V} (h : RpL K F ds vs) (n : Int) : RpL K F (mulL ds n) (List.replicate n.toNat vs).flatten := rpl_rep h n.toNat
theorem od_mulT : OpD X (rMulT X.K) oMulT := by
  intro W F H ρ σ Γ d1 d2 v1 v2 e Q eK S r1 r2 h w
  rw [← eK]
  unfold oMulT at h
  split at h
  · rename_i ds n
    obtain ⟨⟨h0, h1, h2, h3⟩, rfl⟩ := (fun {α} {c : Prop} [Decidable c] {x y : α} (h : (if c then some x else none) = some y) => if_some h) h
    obtain ⟨a, vs, rfl, t1, q1⟩ := rd_tupP r1
    rw [rd_int r2]
    have hT : SqT W.K H a vs := .inl (.inl (S.sub _ _ t1))
    by_cases hn : n = 1
    · subst hn
      refine .inr ⟨a, vs, rfl, rfl, hT, w.here S ?_⟩
      have e1 : mulL ds (1 : Int) = ds := by unfold mulL; show (List.replicate 1 ds).flatten = ds; simp
      rw [e1]
      exact rp_tup t1 q1
    · have hl := rpl_len q1
      refine .inl ⟨a, n, vs, rfl, rfl, hT, fun e => h0 (by rw [e] at hl; exact List.length_eq_zero_iff.mp (by simpa using hl)), by omega, h2, by omega, fun p hp => w.newt S hp (rpl_mul q1 n)⟩
  · cases h
end
theorem oMulT_t {ds : List D} {n : Int} (h : ds ≠ []) (h1 : 1 ≤ n) (h2 : n ≤ 1000) (h3 : ds.length ≤ 1000) : oMulT (.tup ds) (.int n) = some (.imm (.tup (mulL ds n))) := if_pos ⟨h, h1, h2, h3⟩
end DL

namespace DL
open PySem PySem.Spec PyProof.Rows L2
section
variable {X : Cx}
def CPowB (i j : Int) : Prop := 0 ≤ j ∧ j ≤ 8 ∧ i.natAbs < 2 ^ 1024
theorem op_powB : OpR X (binaryOp .Pow) (rI CPowB fun i j => .int (i ^ j.toNat)) := opI fun i j _ _ _ _ _ hc q => pow_int hc.1 (by
  have h1 : (Builtin.Int.intBits i : Int) * j ≤ 1024 * j := Int.mul_le_mul_of_nonneg_right (by have := intBits_le hc.2.2; omega) hc.1
  have := hc.2.1
  omega) q
def oPowB : O2
  | .int i, .int j => if 0 ≤ j ∧ j ≤ 8 ∧ i.natAbs < 2 ^ 1024 then some (.imm (.int (i ^ j.toNat))) else none
  | _, _ => none
theorem od_powB : OpD X (rI CPowB fun i j => .int (i ^ j.toNat)) oPowB := by
  intro W F H ρ σ Γ d1 d2 v1 v2 e Q eK S r1 r2 h w
  unfold oPowB at h
  split at h
  · obtain ⟨hl, rfl⟩ := if_some h
    rw [rd_int r1, rd_int r2]
    exact ⟨_, _, rfl, rfl, hl, w.here S rp_int⟩
  · cases h
def strI (i : Int) : List Nat := ((toString i : String) : Str).cps.toList
def oStrI : OL
  | [.int i] => if i.natAbs.log2 < 1920 ∧ okSb (strI i) = true then some (.imm (.str (strI i))) else none
  | _ => none
theorem cd_strI : CallD X (fun xs H Q => ∃ i : Int, xs = [.int i] ∧ i.natAbs.log2 < 1920 ∧ Q (.str (toString i : String)) H) oStrI := by
  intro W F H ρ σ Γ ds vs e Q eK S r h w
  unfold oStrI at h
  split at h
  · obtain ⟨⟨h1, h2⟩, rfl⟩ := if_some h
    obtain ⟨v, rfl, rr⟩ := rdvs1 r
    rw [rd_int rr]
    refine ⟨_, rfl, h1, ?_⟩
    have e : mkS (strI ‹Int›) = ((toString ‹Int› : String) : Str) := by unfold strI mkS; simp
    rw [← e]
    exact w.here S (rp_str (okS_of h2))
  · cases h
theorem strI_small : ∀ k : Nat, k < 64 → ∃ s : List Nat, oStrI [.int (k : Int)] = some (.imm (.str s)) ∧ s.length ≤ 100 := by
  have : ∀ k, k < 64 → (match oStrI [.int ((k : Nat) : Int)] with | some (.imm (.str s)) => decide (s.length ≤ 100) | _ => false) = true := by decide
  intro k hk
  have h := this k hk
  split at h
  · rename_i s e
    exact ⟨s, e, of_decide_eq_true h⟩
  · cases h
end
theorem oPowB_i (i j : Int) : oPowB (.int i) (.int j) = if 0 ≤ j ∧ j ≤ 8 ∧ i.natAbs < 2 ^ 1024 then some (.imm (.int (i ^ j.toNat))) else none := rfl
end DL

namespace DL
open PySem PySem.Spec PyProof.Rows L2
theorem for_k {t : Tg} {b : SM} {ds : List D} {Q : SRes → Prop} (I : Nat → Gm → Prop) {Γ : Gm} (h0 : I 0 Γ)
    (hs : ∀ i d Γ (K : SRes → Prop), ds[i]? = some d → I i Γ → (∀ Γ2, I (i + 1) Γ2 → K (.nx Γ2)) → (∀ Γ2, I (i + 1) Γ2 → K (.ct Γ2)) → (∀ Γ2, Q (.nx Γ2) → K (.bk Γ2)) → (∀ e Γ2, Q (.ret e Γ2) → K (.ret e Γ2)) → wO (setT t d Γ) fun Γ1 => wS b Γ1 K)
    (he : ∀ Γ, I ds.length Γ → Q (.nx Γ)) : wLp t b ds Γ Q :=
  for_inv I h0 (fun i d Γ hd hI => hs i d Γ _ hd hI (fun _ h => h) (fun _ h => h) (fun _ h => h) (fun _ _ h => h)) he
theorem while_k {c : EM} {b : SM} {Q : SRes → Prop} (I : Nat → Gm → Prop)
    (hs : ∀ m Γ (K : SRes → Prop), I m Γ → (∀ m' Γ2, m' < m → I m' Γ2 → K (.nx Γ2)) → (∀ m' Γ2, m' < m → I m' Γ2 → K (.ct Γ2)) → (∀ Γ2, Q (.nx Γ2) → K (.bk Γ2)) → (∀ e Γ2, Q (.ret e Γ2) → K (.ret e Γ2)) → wE c Γ fun e Γ1 => wB e.fz fun t => (t = true → wS b Γ1 K) ∧ (t = false → Q (.nx Γ1))) {m : Nat} {Γ : Gm} (h0 : I m Γ) : wWh c b Γ Q :=
  while_inv I (fun m Γ hI => hs m Γ _ hI (fun m' Γ2 h1 h2 => ⟨m', h1, h2⟩) (fun m' Γ2 h1 h2 => ⟨m', h1, h2⟩) (fun _ h => h) (fun _ _ h => h)) h0
/-- a comprehension's turn: what is added, or nothing -/
theorem lc_k {t : Tg} {vs : List Nat} {c : Option EM} {f : EM} {ds : List D} {Q : List D → Gm → Prop} (I : Nat → List D → Gm → Prop) {Γ : Gm} (h0 : I 0 [] Γ)
    (hs : ∀ i d acc Γ (K : D → Gm → Prop) (N : Gm → Prop), ds[i]? = some d → I i acc Γ → acc.length < 1000000 → (∀ x Γ2, I (i + 1) (acc ++ [x]) (wipeG Γ2 vs) → K x Γ2) → (∀ Γ2, I (i + 1) acc (wipeG Γ2 vs) → N Γ2) →
      wO (setT t d Γ) fun Γ1 => wCd c Γ1 fun b Γ2 => (b = true → wE f Γ2 fun e Γ3 => e.fz.ok = true ∧ wO (settle e.fz Γ3) fun q => K q.1 q.2) ∧ (b = false → N Γ2)) (hl : ds.length ≤ 1000000)
    (he : ∀ acc Γ, I ds.length acc Γ → Q acc Γ) : wL t vs c f ds [] Γ Q := by
  refine lc_inv (fun i acc Γ => acc.length ≤ i ∧ I i acc Γ) ⟨by simp, h0⟩ (fun i d acc Γ hd hI => ?_) (fun acc Γ hI => he acc Γ hI.2)
  have hi : i < ds.length := (List.getElem?_eq_some_iff.mp hd).1
  refine hs i d acc Γ (fun x Γ2 => acc.length < sizeLine ∧ (acc ++ [x]).length ≤ i + 1 ∧ I (i + 1) (acc ++ [x]) (wipeG Γ2 vs)) (fun Γ2 => acc.length ≤ i + 1 ∧ I (i + 1) acc (wipeG Γ2 vs)) hd hI.2 (by have := hI.1; omega) (fun x Γ2 h => ⟨sz63 (by have := hI.1; omega), by rw [List.length_append, List.length_singleton]; have := hI.1; omega, h⟩) (fun Γ2 h => ⟨by have := hI.1; omega, h⟩)
end DL

set_option maxHeartbeats 4000000
namespace DL
open PySem PySem.Spec PyProof.Rows L2
def dlt (a b : D) : Bool := PySem.W.dataLt (toPD a) (toPD b)
def dalike (a b : D) : Bool := PySem.W.alike (toPD a) (toPD b)
theorem reads_pair {X : Cx} {pins : List (Addr × Obj)} {σ : L2.St} {H : Hp} {s : Shared} (I : Inv X pins σ H s) : ∀ (ps : List (PyData × V)) (us : List Value), (∀ p ∈ ps, Dp X.K H p.2 p.1) → Vals (ps.map (·.2)) us → PySem.W.EachIs (fun u p => RelV p.2 u) us ps ∧ PySem.W.EachIs (fun u p => ∃ as, Reads s.heap u p.1 as) us ps
  | [], us, _, r => by cases r; exact ⟨.nil, .nil⟩
  | p :: ps, us, h, r => by
    cases r with
    | cons r1 r2 =>
      obtain ⟨a, b⟩ := reads_pair I ps _ (fun q hq => h q (List.mem_cons_of_mem _ hq)) r2
      exact ⟨.cons r1 a, .cons (Dp.reads I _ _ _ (h p List.mem_cons_self) r1) b⟩
theorem vals_each : ∀ {us : List Value} {ps : List (PyData × V)}, PySem.W.EachIs (fun u p => RelV p.2 u) us ps → Vals (ps.map (·.2)) us
  | _, _, .nil => .nil
  | _, _, .cons r rs => .cons r (vals_each rs)
section
variable {X : Cx}
def rSortedD (K : PySem.W.Frag) : List V → Hp → VK → Prop := fun vs H Q => ∃ (a : Addr) (ps : List (PyData × V)), vs = [V.ref a] ∧ SqL K H a (ps.map (·.2)) ∧ (∀ p ∈ ps, Dp K H p.2 p.1) ∧
  PySem.W.AllAlike (ps.map (·.1)) ∧ PySem.W.Sortable (ps.map (·.1)) ∧ (∀ p ∈ ps, p.1.depth ≤ 50) ∧ ∀ p, H p = none → Q (.ref p) (upd H p (.lst ((ps.mergeSort (PySem.W.dataLe false (·.1))).map (·.2))))
theorem cr_sortedD (hu : X.A.units + 64 < cLine) : CallR X (.builtin "sorted") (rSortedD X.K) := by
  intro pins s σ H vs us Q I r h
  obtain ⟨a, ps, rfl, hs, hd, hal, hk, hdep, q⟩ := h
  obtain ⟨its, rv, hl, hz⟩ := I.list hs
  rw [Vals.ref1 r]
  have hlen0 := rv.length
  rw [List.length_map] at hlen0
  obtain ⟨e1, e2⟩ := reads_pair I ps its hd rv
  refine PySem.W.sorted_data (bs := ps) (enc := (·.1)) (R := fun u p => RelV p.2 u) hl.isList e1 e2 hal hk (by rw [List.length_map] at hz; exact hz) (fun b hb => by have := hdep b hb; omega) fun out ho he => ?_
  obtain ⟨ep, he'⟩ := PyProof.Rows.sortedAll_at s.heap its out.toArray
  have hlen : ((ps.mergeSort (PySem.W.dataLe false (·.1))).map (·.2)).length ≤ sizeLine := by rw [List.length_map, List.length_mergeSort]; rw [List.length_map] at hz; exact hz
  exact ⟨.ref _, upd H (s.heap.objs.size + 1) (.lst ((ps.mergeSort (PySem.W.dataLe false (·.1))).map (·.2))), I.laid (t' := s.toks) (fun _ _ => PyProof.Rows.sortedAll_old) (Nat.le_succ _) ⟨hlen, out, ep, vals_each he, he'⟩, rfl, q _ (I.hok.fresh (Nat.le_succ _))⟩
def rCmpD (K : PySem.W.Frag) (p : PyData → PyData → Bool) : R2 := fun x y H Q => ∃ d e, Dp K H x d ∧ Dp K H y e ∧ PySem.W.alike d e = true ∧ d ≠ .none ∧ min d.depth e.depth ≤ 50 ∧ Q (.bl (p d e)) H
theorem op_ltD (hu : X.A.units + 64 < cLine) : OpR X (compareOp .Lt) (rCmpD X.K fun d e => PySem.W.dataLt d e) := by
  intro pins s σ H x y v u Q I rx ry ⟨d, e, hd, he, al, hn, hm, q⟩
  obtain ⟨_, r1⟩ := Dp.reads I d x v hd rx
  obtain ⟨_, r2⟩ := Dp.reads I e y u he ry
  exact PySem.W.lt_data r1 r2 al hn (by omega) ⟨.bl _, H, I, rfl, q⟩
theorem op_gtD (hu : X.A.units + 64 < cLine) : OpR X (compareOp .Gt) (rCmpD X.K fun d e => PySem.W.dataLt e d) := by
  intro pins s σ H x y v u Q I rx ry ⟨d, e, hd, he, al, hn, hm, q⟩
  obtain ⟨_, r1⟩ := Dp.reads I d x v hd rx
  obtain ⟨_, r2⟩ := Dp.reads I e y u he ry
  exact PySem.W.gt_data r1 r2 al hn (by omega) ⟨.bl _, H, I, rfl, q⟩
theorem op_leD (hu : X.A.units + 64 < cLine) : OpR X (compareOp .LtE) (rCmpD X.K fun d e => !PySem.W.dataLt e d) := by
  intro pins s σ H x y v u Q I rx ry ⟨d, e, hd, he, al, hn, hm, q⟩
  obtain ⟨_, r1⟩ := Dp.reads I d x v hd rx
  obtain ⟨_, r2⟩ := Dp.reads I e y u he ry
  exact PySem.W.le_data r1 r2 al hn (by omega) ⟨.bl _, H, I, rfl, q⟩
theorem op_geD (hu : X.A.units + 64 < cLine) : OpR X (compareOp .GtE) (rCmpD X.K fun d e => !PySem.W.dataLt d e) := by
  intro pins s σ H x y v u Q I rx ry ⟨d, e, hd, he, al, hn, hm, q⟩
  obtain ⟨_, r1⟩ := Dp.reads I d x v hd rx
  obtain ⟨_, r2⟩ := Dp.reads I e y u he ry
  exact PySem.W.ge_data r1 r2 al hn (by omega) ⟨.bl _, H, I, rfl, q⟩
def isSeqD : D → Bool
  | .tup _ => true
  | .lst _ => true
  | .frl _ => true
  | _ => false
theorem seqD_ne {d : D} (h : isSeqD d = true) : toPD d ≠ .none := by
  cases d <;> first | (cases h; done) | (unfold toPD; intro e; cases e)
/-- ints, texts, or data that are alike -/
def oCmpU (p : Int → Int → Bool) (q : List Nat → List Nat → Bool) (g : D → D → Bool) : O2 := fun d e =>
  match oCmp p q d e with
  | some r => some r
  | none => if okE d = true ∧ okE e = true ∧ dalike d e = true ∧ isSeqD d = true ∧ min (dep d) (dep e) ≤ 50 then some (.imm (.bl (g d e))) else none
abbrev oLtU : O2 := oCmpU (fun i j => decide (i < j)) (fun s t => decide (s < t)) fun d e => dlt d e
abbrev oLeU : O2 := oCmpU (fun i j => decide (i ≤ j)) (fun s t => !decide (t < s)) fun d e => !dlt e d
abbrev oGtU : O2 := oCmpU (fun i j => decide (j < i)) (fun s t => decide (t < s)) fun d e => dlt e d
abbrev oGeU : O2 := oCmpU (fun i j => decide (j ≤ i)) (fun s t => !decide (s < t)) fun d e => !dlt d e
@[simp] theorem oCmpU_i (p : Int → Int → Bool) (q : List Nat → List Nat → Bool) (g : D → D → Bool) (i j : Int) : oCmpU p q g (.int i) (.int j) = some (.imm (.bl (p i j))) := rfl
@[simp] theorem oCmpU_s (p : Int → Int → Bool) (q : List Nat → List Nat → Bool) (g : D → D → Bool) (i j : List Nat) : oCmpU p q g (.str i) (.str j) = some (.imm (.bl (q i j))) := rfl
theorem oCmpU_t {p : Int → Int → Bool} {q : List Nat → List Nat → Bool} {g : D → D → Bool} {i j : List D} (h1 : okEs i = true) (h2 : okEs j = true) (h3 : dalike (.tup i) (.tup j) = true) (h4 : min (deps i) (deps j) ≤ 49) :
    oCmpU p q g (.tup i) (.tup j) = some (.imm (.bl (g (.tup i) (.tup j)))) := by
  unfold oCmpU oCmp
  dsimp only
  rw [if_pos ⟨by unfold okE; exact h1, by unfold okE; exact h2, h3, rfl, by simp only [dep]; omega⟩]
def rCmpU (K : PySem.W.Frag) (p : Int → Int → Bool) (q : List Nat → List Nat → Bool) (g : PyData → PyData → Bool) : R2 := fun x y H Q => rCmp p q x y H Q ∨ rCmpD K g x y H Q
theorem od_cmpU {p : Int → Int → Bool} {q : List Nat → List Nat → Bool} {g : PyData → PyData → Bool} : OpD X (rCmpU X.K p q g) (oCmpU p q fun d e => g (toPD d) (toPD e)) := by
  intro W F H ρ σ Γ d1 d2 v1 v2 e Q eK S r1 r2 h w
  unfold oCmpU at h
  split at h
  · rename_i r hr
    cases h
    exact .inl (od_cmp W F H ρ σ Γ d1 d2 v1 v2 e Q eK S r1 r2 hr w)
  · rw [← eK]
    obtain ⟨⟨k1, k2, k3, k4, k5⟩, rfl⟩ := if_some h
    obtain ⟨p1, c1⟩ := dp_rd S.sub r1 k1
    obtain ⟨p2, c2⟩ := dp_rd S.sub r2 k2
    exact .inr ⟨_, _, p1, p2, k3, seqD_ne k4, by rw [dep_pd, dep_pd]; exact k5, w.here S rp_bl⟩
theorem op_ltU (hu : X.A.units + 64 < cLine) : OpR X (compareOp .Lt) (rCmpU X.K (fun i j => decide (i < j)) (fun s t => decide (s < t)) fun d e => PySem.W.dataLt d e) := OpR.or op_ltA (op_ltD hu)
theorem op_leU (hu : X.A.units + 64 < cLine) : OpR X (compareOp .LtE) (rCmpU X.K (fun i j => decide (i ≤ j)) (fun s t => !decide (t < s)) fun d e => !PySem.W.dataLt e d) := OpR.or op_leA (op_leD hu)
theorem op_gtU (hu : X.A.units + 64 < cLine) : OpR X (compareOp .Gt) (rCmpU X.K (fun i j => decide (j < i)) (fun s t => decide (t < s)) fun d e => PySem.W.dataLt e d) := OpR.or op_gtA (op_gtD hu)
theorem op_geU (hu : X.A.units + 64 < cLine) : OpR X (compareOp .GtE) (rCmpU X.K (fun i j => decide (j ≤ i)) (fun s t => !decide (s < t)) fun d e => !PySem.W.dataLt d e) := OpR.or op_geA (op_geD hu)
/-! ### sorted -/
def isTup1 : D → Bool
  | .tup (_ :: _) => true
  | _ => false
def notTup : D → Bool
  | .tup _ => false
  | .non => false
  | .dic _ _ => false
  | .dct _ _ => false
  | .lkd _ _ => false
  | .lkt _ _ => false
  | _ => true
def srtOk (ds : List D) : Prop := okEs ds = true ∧ (∀ a ∈ ds, ∀ b ∈ ds, dalike a b = true) ∧ ((∀ a ∈ ds, isTup1 a = true) ∨ ∀ a ∈ ds, notTup a = true) ∧ deps ds ≤ 50
instance (ds : List D) : Decidable (srtOk ds) := by unfold srtOk; infer_instance
def msD (ds : List D) : List D := ds.mergeSort fun a b => !dlt b a
def oSortedU : OL := fun xs => match oSorted xs with
  | some r => some r
  | none => match xs with
    | [.lst ds] => if srtOk ds then some (.fr (.lst (msD ds))) else none
    | _ => none
theorem rpl_map {K : PySem.W.Frag} {F : Hp} : ∀ {ds : List D} {vs : List V}, RpL K F ds vs → ∀ p ∈ ds.zip vs, Rp K F p.1 p.2
  | [], _, _, p, hp => by simp at hp
  | d :: ds, vs, h, p, hp => by
    obtain ⟨v, r, rfl, a, b⟩ := rpl_cons_inv h
    rw [List.zip_cons_cons] at hp
    rcases List.mem_cons.mp hp with rfl | hp
    · exact a
    · exact rpl_map b p hp
theorem rpl_of_map {K : PySem.W.Frag} {F : Hp} : ∀ {ps : List (D × V)}, (∀ p ∈ ps, Rp K F p.1 p.2) → RpL K F (ps.map (·.1)) (ps.map (·.2))
  | [], _ => rpl_nil
  | p :: ps, h => rpl_cons (h p List.mem_cons_self) (rpl_of_map fun q hq => h q (List.mem_cons_of_mem _ hq))
theorem okE_memD {ds : List D} {d : D} (h : d ∈ ds) (k : okEs ds = true) : okE d = true := by
  induction ds with
  | nil => cases h
  | cons x ds ih =>
    unfold okEs at k
    rw [Bool.and_eq_true] at k
    rcases List.mem_cons.mp h with rfl | h
    · exact k.1
    · exact ih h k.2
theorem dep_memD {ds : List D} {d : D} (h : d ∈ ds) : dep d ≤ deps ds := by
  induction ds with
  | nil => cases h
  | cons x ds ih =>
    unfold deps
    rcases List.mem_cons.mp h with rfl | h
    · exact Nat.le_max_left _ _
    · exact Nat.le_trans (ih h) (Nat.le_max_right _ _)
def rSrtU (K : PySem.W.Frag) : List V → Hp → VK → Prop := fun vs H Q => rSrtA K vs H Q ∨ rSortedD K vs H Q
theorem cr_sortedU (hu : X.A.units + 64 < cLine) : CallR X (.builtin "sorted") (rSrtU X.K) := CallR.or cr_sortedA (cr_sortedD hu)
theorem cd_sortedU : CallD X (rSrtU X.K) oSortedU := by
  intro W F H ρ σ Γ ds vs e Q eK S r h w
  unfold oSortedU at h
  split at h
  · rename_i e' hr
    cases h
    exact .inl (cd_sorted W F H ρ σ Γ ds vs e Q eK S r hr w)
  · rw [← eK]
    split at h
    · rename_i ds _
      obtain ⟨v, rfl, rr⟩ := rdvs1 r
      obtain ⟨a, vs, rfl, h1, q1⟩ := rd_lst rr
      obtain ⟨⟨k1, k2, k3, k4⟩, rfl⟩ := if_some h
      have hl := rpl_len q1
      have z1 : (ds.zip vs).map (·.1) = ds := List.map_fst_zip (by omega)
      have z2 : (ds.zip vs).map (·.2) = vs := List.map_snd_zip (by omega)
      have hrp := rpl_map q1
      obtain ⟨ps, hps⟩ : ∃ ps, ps = ds.zip vs := ⟨_, rfl⟩
      rw [← hps] at z1 z2 hrp
      have m1 : ∀ p ∈ ps, p.1 ∈ ds := fun p hp => by rw [← z1]; exact List.mem_map_of_mem hp
      have f1 : (ps.map fun p => (toPD p.1, p.2)).map (·.1) = ds.map toPD := by rw [← z1, List.map_map, List.map_map]; rfl
      have f2 : (ps.map fun p => (toPD p.1, p.2)).map (·.2) = vs := by rw [← z2, List.map_map]; rfl
      refine .inr ⟨a, ps.map fun p => (toPD p.1, p.2), rfl, by rw [f2]; exact .inl (.inl h1), fun p hp => ?_, ?_, ?_, fun p hp => ?_, fun p hp => ?_⟩
      · obtain ⟨q, hq, rfl⟩ := List.mem_map.mp hp
        exact (dp_of S.sub _ _ (hrp q hq) (okE_memD (m1 q hq) k1)).1
      · rw [f1]
        intro x hx y hy
        obtain ⟨x, hx', rfl⟩ := List.mem_map.mp hx
        obtain ⟨y, hy', rfl⟩ := List.mem_map.mp hy
        exact k2 x hx' y hy'
      · rw [f1]
        rcases k3 with k3 | k3
        · refine .inl fun d hd => ?_
          obtain ⟨x, hx, rfl⟩ := List.mem_map.mp hd
          have := k3 x hx
          cases x with
          | tup l => cases l with
            | nil => cases this
            | cons y l => exact ⟨_, _, rfl⟩
          | _ => cases this
        · refine .inr fun d hd => ?_
          obtain ⟨x, hx, rfl⟩ := List.mem_map.mp hd
          have := k3 x hx
          cases x with
          | tup l => cases this
          | non => cases this
          | dic _ _ => cases this
          | dct _ _ => cases this
          | lkd _ _ => cases this
          | lkt _ _ => cases this
          | _ => exact ⟨(fun e => by cases e), fun _ e => by cases e⟩
      · obtain ⟨q, hq, rfl⟩ := List.mem_map.mp hp
        have := dep_memD (m1 q hq)
        show (toPD q.1).depth ≤ 50
        rw [dep_pd]; omega
      · have e1 : ((ps.map fun p => (toPD p.1, p.2)).mergeSort (PySem.W.dataLe false (·.1))).map (·.2) = (ps.mergeSort fun p q => !dlt q.1 p.1).map (·.2) := by
          rw [← List.map_mergeSort (r := fun p q : D × V => !dlt q.1 p.1) (s := PySem.W.dataLe false (·.1)) (f := fun p : D × V => (toPD p.1, p.2)) (fun a _ b _ => rfl), List.map_map]
          rfl
        have e2 : msD ds = (ps.mergeSort fun p q => !dlt q.1 p.1).map (·.1) := by
          unfold msD
          rw [List.map_mergeSort (r := fun p q : D × V => !dlt q.1 p.1) (s := fun a b : D => !dlt b a) (f := fun p : D × V => p.1) (fun a _ b _ => rfl), z1]
        rw [e1]
        refine w.newl S hp ?_
        rw [e2]
        exact rpl_of_map fun p hp => hrp p ((List.mergeSort_perm _ _).mem_iff.mp hp)
    · cases h
@[simp] theorem oSortedU_s (ss : List (List Nat)) : oSortedU [.lst (ss.map D.str)] = some (.fr (.lst ((isort ltS ss).map D.str))) := by
  unfold oSortedU; rw [oSorted_s]
/-- sorted, where an order of one's own stands for the data's -/
theorem oSortedU_by {α : Type} {lt : α → α → Bool} (L : Lin lt) (f : α → D) {xs : List α} (hf : ∀ a b, dlt (f a) (f b) = lt a b) (h : srtOk (xs.map f)) (h0 : oSorted [.lst (xs.map f)] = none) : oSortedU [.lst (xs.map f)] = some (.fr (.lst ((isort lt xs).map f))) := by
  unfold oSortedU
  rw [h0]
  dsimp only
  rw [if_pos h]
  congr 3
  unfold msD
  rw [← List.map_mergeSort (r := fun a b => !lt b a) (s := fun a b : D => !dlt b a) (f := f) (fun a _ b _ => by rw [hf])]
  congr 1
  refine (isort_eq L ?_ (List.mergeSort_perm _ _)).symm
  have := List.pairwise_mergeSort (le := fun a b => !lt b a) (fun a b c h1 h2 => ?_) (fun a b => ?_) xs
  · exact this.imp fun {a b} h => by simpa using h
  · have h1 : lt b a = false := by simpa using h1
    have h2 : lt c b = false := by simpa using h2
    simp [L.ntr h1 h2]
  · cases h : lt b a with
    | false => simp
    | true => simp [L.as _ _ h]
/-! ### gcd -/
def oGcd : OL
  | [.int a, .int b] => some (.imm (.int ((Nat.gcd a.natAbs b.natAbs : Nat) : Int)))
  | _ => none
@[simp] theorem oGcd_i (a b : Int) : oGcd [.int a, .int b] = some (.imm (.int ((Nat.gcd a.natAbs b.natAbs : Nat) : Int))) := rfl
theorem cd_gcd : CallD X rGcd oGcd := by
  intro W F H ρ σ Γ ds vs e Q eK S r h w
  unfold oGcd at h
  split at h
  · cases h
    obtain ⟨v, vs', rfl, r1, r⟩ := r
    obtain ⟨u, rfl, r2⟩ := rdvs1 r
    rw [rd_int r1, rd_int r2]
    exact ⟨_, _, rfl, w.here S rp_int⟩
  · cases h
theorem de_callF {x : Str} {p pos : Pos} {e : Expr} {es : List Expr} {a : AM} {op : OL} {r : List V → Hp → VK → Prop} {id : String} (hc : CallR X (.builtin id) r) (hd : CallD X r op) (hm : X.mg x = some (.builtin id)) (ha : DA X (e :: es) a) (hg : Gl X x := by rfl) (hdb : (x == ("__debug__" : Str)) = false := by decide)
    (he : starEach (e :: es) X.env = (false, eval e X.env) :: starEach es X.env := by rfl) (hpl : (backTo pos (starEach es X.env)).any (·.1) = false := by rfl) : DE X (.Call (.Name x p) (e :: es) [] pos) (eB op a) :=
  pe_imp (pe_callBfun hc hg hm ha hdb he hpl) fun _ _ _ h => b_core hd h
/-! ### list(range(n)) -/
def oLR1 : O1
  | .int n => if n ≤ 1000000 ∧ -1000000 ≤ n then some (.fr (.lst (rng1 n))) else none
  | _ => none
theorem oLR1_i (n : Int) : oLR1 (.int n) = if n ≤ 1000000 ∧ -1000000 ≤ n then some (.fr (.lst (rng1 n))) else none := rfl
@[simp] theorem w_LR1 (n : Int) (Q : EV → Prop) : wO (oLR1 (.int n)) Q = ((n ≤ 1000000 ∧ -1000000 ≤ n) ∧ Q (.fr (.lst (rng1 n)))) := by rw [oLR1_i, wO_if]
def rLR1 : V → Hp → VK → Prop := fun x H Q => ∃ a b : Int, (∃ n, x = .int n ∧ (a = 0 ∧ b = n)) ∧ RgOk a b ∧ ∀ q, H q = none → Q (.ref q) (upd H q (.lst (rgV a b)))
theorem ud_LR1 : UnD X rLR1 oLR1 := by
  intro W F H ρ σ Γ d v e Q eK S r h w
  unfold oLR1 at h
  split at h
  · rename_i n
    obtain ⟨hl, rfl⟩ := if_some h
    rw [rd_int r]
    refine ⟨0, n, ⟨n, rfl, rfl, rfl⟩, ⟨by omega, by omega, by omega, by omega, by omega⟩, fun q hq => w.newl S hq ?_⟩
    unfold rng1 rgV
    rw [Int.sub_zero]
    have := rpl_ints (K := W.K) (F := F) ((List.range n.toNat).map fun i : Nat => (i : Int))
    rw [List.map_map, List.map_map] at this
    simpa [Function.comp_def] using this
  · cases h
theorem de_LR1 {a : Expr} {f : EM} {p p2 q pos : Pos} (hc : X.calm = true) (hm : X.mg "list" = none) (hm2 : X.mg "range" = none) (ha : DE X a f) (hg : Gl X "list" := by rfl) (hg2 : Gl X "range" := by rfl) (na2 : starEach [a] X.env = (false, eval a X.env) :: starEach [] X.env := by rfl)
    (na : starEach [.Call (.Name "range" p2) [a] [] q] X.env = (false, eval (.Call (.Name "range" p2) [a] [] q) X.env) :: starEach [] X.env := by rfl) :
    DE X (.Call (.Name "list" p) [.Call (.Name "range" p2) [a] [] q] [] pos) (eUn oLR1 f) :=
  pe_imp (pe_listRg hc hg hm (prg_1 hg2 hm2 ha na2) na) fun σ H Q h => by
    obtain ⟨W, F, ρ, Γ, eK, S, e, Γ', ef, ok, q⟩ := un_core ud_LR1 h
    refine ⟨W, F, ρ, Γ, eK, S, e, Γ', ef, ok, fun v F' H' k S' r => ?_⟩
    obtain ⟨a, b, ⟨n, rfl, ea, eb⟩, h1, h2⟩ := q v F' H' k S' r
    subst ea eb
    exact ⟨_, rfl, h1, h2⟩
end
end DL

set_option maxHeartbeats 4000000
namespace DL
open PySem PySem.Spec PyProof.Rows L2
def keyD : D → Option Key
  | .int i => some (.inl i)
  | .str s => some (.inr (mkS s))
  | _ => none
theorem keyD_rd {K : PySem.W.Frag} {F H : Hp} {d : D} {v : V} {k : Key} (r : RdV K F H d v) (h : keyD d = some k) : v = kV k := by
  cases d with
  | int i => cases h; rw [rd_int r]; rfl
  | str s => cases h; rw [(rd_str r).1]; rfl
  | _ => cases h
def kI (i : Int) : Key := .inl i
def kS (s : List Nat) : Key := .inr (mkS s)
@[simp] theorem keyD_i (i : Int) : keyD (.int i) = some (kI i) := rfl
@[simp] theorem keyD_s (s : List Nat) : keyD (.str s) = some (kS s) := rfl
@[simp] theorem kI_inj (i j : Int) : (kI i = kI j) = (i = j) := by unfold kI; simp
@[simp] theorem kS_inj (i j : List Nat) : (kS i = kS j) = (i = j) := by
  unfold kS
  apply propext
  constructor
  · intro h
    have := Sum.inr.inj h
    exact mkS_inj this
  · rintro rfl; rfl
def lookK (l : List (Key × D)) (k : Key) : Option D := (l.find? fun p => decide (p.1 = k)).map (·.2)
def hasK (l : List (Key × D)) (k : Key) : Bool := l.any fun p => decide (p.1 = k)
def putL (l : List (Key × D)) (k : Key) (d : D) : List (Key × D) := if hasK l k = true then l.map (fun p => if p.1 = k then (p.1, d) else p) else l ++ [(k, d)]
def dicL (l : List (Key × D)) : D := .dic (l.map (·.1)) (l.map (·.2))
theorem zip_dicL : ∀ l : List (Key × D), (l.map (·.1)).zip (l.map (·.2)) = l
  | [] => rfl
  | p :: l => by simp [zip_dicL l]
/-- pairs that stand for pairs -/
def PR (K : PySem.W.Frag) (F : Hp) : List (Key × D) → List (Key × V) → Prop := Paired fun p q => p.1 = q.1 ∧ Rp K F p.2 q.2
section
variable {K : PySem.W.Frag} {F : Hp}
theorem pr_of : ∀ {ks : List Key} {ds : List D} {vs : List V}, ks.length = ds.length → RpL K F ds vs → PR K F (ks.zip ds) (ks.zip vs)
  | [], [], vs, _, _ => by simp; exact .nil
  | [], _ :: _, _, h, _ => by simp at h
  | _ :: _, [], _, h, _ => by simp at h
  | k :: ks, d :: ds, vs, h, r => by
    obtain ⟨v, r', rfl, a, b⟩ := rpl_cons_inv r
    rw [List.zip_cons_cons, List.zip_cons_cons]
    exact .cons ⟨rfl, a⟩ (pr_of (by simpa using h) b)
theorem pr_back : ∀ {l : List (Key × D)} {m : List (Key × V)}, PR K F l m → m = (l.map (·.1)).zip (m.map (·.2)) ∧ RpL K F (l.map (·.2)) (m.map (·.2))
  | [], _, h => by cases h; exact ⟨rfl, rpl_nil⟩
  | p :: l, _, h => by
    cases h with
    | @cons _ q _ ms h1 h2 =>
      obtain ⟨a, b⟩ := pr_back h2
      refine ⟨?_, rpl_cons h1.2 b⟩
      rw [List.map_cons, List.map_cons, List.zip_cons_cons, ← a, h1.1]
theorem pr_len {l : List (Key × D)} {m : List (Key × V)} (h : PR K F l m) : l.length = m.length := by
  unfold PR at h
  induction h with
  | nil => rfl
  | cons _ _ ih => rw [List.length_cons, List.length_cons, ih]
theorem pr_look : ∀ {l : List (Key × D)} {m : List (Key × V)} (k : Key), PR K F l m → (hasK l k = (valV m k).isSome) ∧ (lookK l k = none → valV m k = none) ∧ ∀ d, lookK l k = some d → ∃ v, valV m k = some v ∧ Rp K F d v
  | [], _, k, h => by cases h; exact ⟨rfl, fun _ => rfl, fun d hd => by cases hd⟩
  | p :: l, _, k, h => by
    cases h with
    | @cons _ q _ ms h1 h2 =>
      obtain ⟨a, b, c⟩ := pr_look k h2
      by_cases e : p.1 = k
      · have e' : q.1 = k := h1.1 ▸ e
        rw [valV_pos e']
        refine ⟨by simp [hasK, e], fun hn => ?_, fun d hd => ?_⟩
        · simp [lookK, e] at hn
        · simp [lookK, e] at hd
          subst hd
          exact ⟨_, rfl, h1.2⟩
      · have e' : ¬ q.1 = k := h1.1 ▸ e
        rw [valV_neg e']
        refine ⟨by simpa [hasK, e] using a, fun hn => b (by simpa [lookK, e] using hn), fun d hd => c d (by simpa [lookK, e] using hd)⟩
theorem pr_map {k : Key} {d : D} {v : V} (r : Rp K F d v) : ∀ {l : List (Key × D)} {m : List (Key × V)}, PR K F l m → PR K F (l.map fun p => if p.1 = k then (p.1, d) else p) (m.map fun kv => if kv.1 = k then (kv.1, v) else kv)
  | [], _, h => by cases h; exact .nil
  | p :: l, _, h => by
    cases h with
    | @cons _ q _ ms h1 h2 =>
      rw [List.map_cons, List.map_cons]
      refine .cons ?_ (pr_map r h2)
      by_cases e : p.1 = k
      · rw [if_pos e, if_pos (h1.1 ▸ e)]; exact ⟨h1.1, r⟩
      · rw [if_neg e, if_neg (h1.1 ▸ e)]; exact h1
theorem pr_snoc {k : Key} {d : D} {v : V} (r : Rp K F d v) : ∀ {l : List (Key × D)} {m : List (Key × V)}, PR K F l m → PR K F (l ++ [(k, d)]) (m ++ [(k, v)])
  | [], _, h => by cases h; exact .cons ⟨rfl, r⟩ .nil
  | p :: l, _, h => by
    cases h with
    | cons h1 h2 => exact .cons h1 (pr_snoc r h2)
theorem pr_put {l : List (Key × D)} {m : List (Key × V)} {k : Key} {d : D} {v : V} (h : PR K F l m) (r : Rp K F d v) : PR K F (putL l k d) (putK m k v) := by
  unfold putL putK
  have e := (pr_look k h).1
  rw [← valV_any k m] at e
  rw [e]
  split
  · exact pr_map r h
  · exact pr_snoc r h
end
theorem putL_len (l : List (Key × D)) (k : Key) (d : D) : (putL l k d).length ≤ l.length + 1 := by
  unfold putL; split <;> simp
theorem rd_dic {K : PySem.W.Frag} {F H : Hp} {ks : List Key} {ds : List D} {v : V} (h : RdV K F H (.dic ks ds) v) : ∃ a m, v = .ref a ∧ H a = some (.dK m) ∧ PR K F (ks.zip ds) m := by
  unfold RdV at h
  obtain ⟨a, vs, rfl, e, r, l⟩ := h
  exact ⟨a, _, rfl, e, pr_of l r⟩
def lkdL (l : List (Key × D)) : D := .lkd (l.map (·.1)) (l.map (·.2))
theorem rd_lkd {K : PySem.W.Frag} {F H : Hp} {ks : List Key} {ds : List D} {v : V} (h : RdV K F H (.lkd ks ds) v) : ∃ a m o, v = .ref a ∧ H a = some (.frz o (.dK m)) ∧ PR K F (ks.zip ds) m := by
  unfold RdV at h
  obtain ⟨a, vs, o, rfl, e, r, l⟩ := h
  exact ⟨a, _, o, rfl, e, pr_of l r⟩
theorem own_dic {K : PySem.W.Frag} {F H : Hp} {l : List (Key × D)} {m : List (Key × V)} {a : Addr} (e : H a = some (.dK m)) (h : PR K F l m) : OwnAt K F H a (dicL l) := by
  obtain ⟨a1, a2⟩ := pr_back h
  unfold dicL OwnAt
  exact ⟨m.map (·.2), by rw [← a1]; exact e, a2, by simp⟩
section
variable {X : Cx}
/-! ### {} -/
def eDNew : EM := fun Γ => .ok (.fr (dicL [])) Γ
theorem de_dnew {pos : Pos} : DE X (.Dict [] [] pos) eDNew :=
  pe_imp pe_dnewK fun σ H Q ⟨W, F, ρ, Γ, eK, S, e, Γ', ef, ok, q⟩ => by
    cases ef
    intro p hp
    refine q (.ref p) F _ (Same.refl _) (S.alloc hp) ?_
    unfold RpE
    exact ⟨p, rfl, own_dic upd_same .nil, (S.fresh hp).up⟩
/-! ### d[k], k in d -/
def oIxD : O2 := fun x y => match x with
  | .dic ks ds => (keyD y).bind fun k => (lookK (ks.zip ds) k).map .imm
  | .lkd ks ds => (keyD y).bind fun k => (lookK (ks.zip ds) k).map .imm
  | _ => none
@[simp] theorem oIxD_l (l : List (Key × D)) (y : D) : oIxD (dicL l) y = (keyD y).bind fun k => (lookK l k).map .imm := by
  unfold oIxD dicL; dsimp only; rw [zip_dicL]
def rIxD : R2 := fun x y H Q => ∃ a v, x = .ref a ∧ DGet H a y (some v) ∧ Q v H
@[simp] theorem oIxD_k (l : List (Key × D)) (y : D) : oIxD (lkdL l) y = (keyD y).bind fun k => (lookK l k).map .imm := by
  unfold oIxD lkdL; dsimp only; rw [zip_dicL]
theorem od_ixD : OpD X rIxD oIxD := by
  intro W F H ρ σ Γ d1 d2 v1 v2 e Q eK S r1 r2 h w
  unfold oIxD at h
  split at h
  · obtain ⟨k, hk, h⟩ := obind_inv h
    obtain ⟨d, hd, rfl⟩ := omap_inv h
    obtain ⟨a, m, rfl, hm, pr⟩ := rd_dic r1
    obtain ⟨v, hv, rv⟩ := (pr_look k pr).2.2 d hd
    rw [keyD_rd r2 hk]
    exact ⟨a, v, rfl, by rw [← hv]; exact DGet.k hm, w.here S rv⟩
  · obtain ⟨k, hk, h⟩ := obind_inv h
    obtain ⟨d, hd, rfl⟩ := omap_inv h
    obtain ⟨a, m, o, rfl, hm, pr⟩ := rd_lkd r1
    obtain ⟨v, hv, rv⟩ := (pr_look k pr).2.2 d hd
    rw [keyD_rd r2 hk]
    exact ⟨a, v, rfl, by rw [← hv]; exact .inl ⟨m, k, .inr ⟨o, hm⟩, rfl, rfl⟩, w.here S rv⟩
  · cases h
theorem de_ixD {a b : Expr} {f g : EM} {pos : Pos} (hu : X.A.units + 1 < cLine) (ha : DE X a f) (hb : DE X b g) (hs : NoSl b := by exact fun _ _ => rfl) : DE X (.Subscript a b pos) (eBin oIxD f g) :=
  pe_imp (pe_dget hu ha hb hs) fun _ _ _ h => bin_core od_ixD h
def oInD (neg : Bool) : O2 := fun x y => match y with
  | .dic ks ds => (keyD x).bind fun k => some (.imm (.bl (if neg then !hasK (ks.zip ds) k else hasK (ks.zip ds) k)))
  | .lkd ks ds => (keyD x).bind fun k => some (.imm (.bl (if neg then !hasK (ks.zip ds) k else hasK (ks.zip ds) k)))
  | _ => none
@[simp] theorem oInD_l (neg : Bool) (l : List (Key × D)) (x : D) : oInD neg x (dicL l) = (keyD x).bind fun k => some (.imm (.bl (if neg then !hasK l k else hasK l k))) := by
  unfold oInD dicL; dsimp only; rw [zip_dicL]
def rInDc (neg : Bool) : R2 := fun y x H Q => ∃ a o, x = .ref a ∧ DGet H a y o ∧ Q (.bl (if neg then !o.isSome else o.isSome)) H
theorem op_inDc (hu : X.A.units + 1 < cLine) : OpR X (compareOp .In) (rInDc false) := by
  intro pins s σ H x y v u Q I rx ry ⟨a, o, ex, g, q⟩
  subst ex
  obtain rfl : u = Value.ref a := ry
  exact d_in hu I g rx fun s3 I3 => ⟨.bl o.isSome, H, I3, rfl, q⟩
theorem op_ninDc (hu : X.A.units + 1 < cLine) : OpR X (compareOp .NotIn) (rInDc true) := by
  intro pins s σ H x y v u Q I rx ry ⟨a, o, ex, g, q⟩
  subst ex
  obtain rfl : u = Value.ref a := ry
  exact d_notIn hu I g rx fun s3 I3 => ⟨.bl (!o.isSome), H, I3, rfl, q⟩
@[simp] theorem oInD_k (neg : Bool) (l : List (Key × D)) (x : D) : oInD neg x (lkdL l) = (keyD x).bind fun k => some (.imm (.bl (if neg then !hasK l k else hasK l k))) := by
  unfold oInD lkdL; dsimp only; rw [zip_dicL]
theorem od_inD (neg : Bool) : OpD X (rInDc neg) (oInD neg) := by
  intro W F H ρ σ Γ d1 d2 v1 v2 e Q eK S r1 r2 h w
  unfold oInD at h
  split at h
  · obtain ⟨k, hk, h⟩ := obind_inv h
    cases h
    obtain ⟨a, m, rfl, hm, pr⟩ := rd_dic r2
    rw [keyD_rd r1 hk]
    refine ⟨a, valV m k, rfl, DGet.k hm, ?_⟩
    rw [← (pr_look k pr).1]
    exact w.here S rp_bl
  · obtain ⟨k, hk, h⟩ := obind_inv h
    cases h
    obtain ⟨a, m, o, rfl, hm, pr⟩ := rd_lkd r2
    rw [keyD_rd r1 hk]
    refine ⟨a, valV m k, rfl, .inl ⟨m, k, .inr ⟨o, hm⟩, rfl, rfl⟩, ?_⟩
    rw [← (pr_look k pr).1]
    exact w.here S rp_bl
  · cases h
/-! ### d.get(k, x) -/
def eGet2 (f g h : EM) : EM := fun Γ => (f Γ).bind fun e1 Γ1 => match eGet Γ1 e1 with
  | some (.dic _ _) => (g Γ1).bind fun e2 Γ2 => (h Γ2).bind fun e3 Γ3 => match eGet Γ3 e1, e2, e3 with
    | some (.dic ks ds), .imm d2, .imm d3 => ERes.of ((keyD d2).bind fun k => some (.imm ((lookK (ks.zip ds) k).getD d3))) Γ3
    | _, _, _ => .stuck
  | _ => .stuck
theorem de_get2 {o a b : Expr} {f g h : EM} {apos cpos : Pos} (hu : X.A.units + 1 < cLine) (ho : DE X o f) (ha : DE X a g) (hb : DE X b h)
    (hbase : attributeBase o "get" X.env (eval o X.env) = eval o X.env := by rfl)
    (hfew : ((backTo cpos (starEach [a, b] X.env)).all (fun x => !x.1) && (backToKw cpos (keywordEach [] X.env)).all (fun x => x.1.isSome)
      && decide (([a, b] : List Expr).length + ([] : List Keyword).length + (if ([] : List Keyword).isEmpty then 0 else 1) < 30)) = true := by rfl)
    (hline : (apos.endLine == cpos.line) = true := by rfl) (htr : backTo cpos (starEach [a, b] X.env) = [(false, eval a X.env), (false, eval b X.env)] := by rfl) :
    DE X (.Call (.Attribute o "get" apos) [a, b] [] cpos) (eGet2 f g h) :=
  pe_imp (pe_dget2 hu ho ha hb ⟨hbase, hfew, hline, htr⟩) fun σ H Q ⟨W, F, ρ, Γ, eK, S, e, Γ', ef, ok, q⟩ => by
    unfold eGet2 at ef
    obtain ⟨e1, Γ1, h1, ef⟩ := bind_inv ef
    split at ef
    · rename_i ks0 ds0 hg0
      obtain ⟨e2, Γ2, h2, ef⟩ := bind_inv ef
      obtain ⟨e3, Γ3, h3, ef⟩ := bind_inv ef
      split at ef
      · rename_i ks ds d2 d3 hg1 hd2 hd3
        obtain ⟨ef', rfl⟩ := of_inv ef
        obtain ⟨k, hk, ef'⟩ := obind_inv ef'
        cases ef'
        refine tE_then eK S h1 (ok_get hg0) fun v1 F1 H1 s1 S1 r1 => ?_
        obtain ⟨a0, m0, rfl, hm0, pr0⟩ := rd_dic (rd_get S1 r1 hg0)
        refine ⟨a0, rfl, .inl ⟨m0, .inl hm0⟩, ?_⟩
        refine tE_then eK S1 h2 (by rw [hd2]; rfl) fun v2 F2 H2 s2 S2 r2 => ?_
        refine tE_then eK S2 h3 (by rw [hd3]; rfl) fun v3 F3 H3 s3 S3 r3 => ?_
        rw [hd2] at r2
        rw [hd3] at r3
        obtain ⟨a1, m1, ea, hm1, pr1⟩ := rd_dic (rd_get S3 (RpE.mono (s2.trans s3) _ _ (ok_get hg0) r1) hg1)
        cases ea
        unfold RpE at r2 r3
        have q2 : RdV W.K F3 H3 d2 v2 := rd_of (Rp.mono s3 _ _ r2) S3.sub
        rw [keyD_rd q2 hk]
        refine ⟨valV m1 k, DGet.k hm1, ?_⟩
        have L := pr_look k pr1
        have fin : ∀ (d : D) (v : V), (lookK (ks.zip ds) k).getD d3 = d → Rp W.K F3 d v → Q v H3 := fun d v e1 r => q v F3 H3 ((s1.trans s2).trans s3) S3 (by show RpE W F3 H3 ρ (.imm ((lookK (ks.zip ds) k).getD d3)) v; rw [e1]; unfold RpE; exact r)
        cases hl : lookK (ks.zip ds) k with
        | none => rw [L.2.1 hl]; exact fin d3 v3 (by rw [hl]; rfl) r3
        | some d =>
          obtain ⟨v, hv, rv⟩ := L.2.2 d hl
          rw [hv]
          exact fin d v (by rw [hl]; rfl) rv
      · cases ef
    · cases ef
/-! ### d[k] = e -/
def ownD (Γ : Gm) (i : Nat) : Option (Bool × List (Key × D)) := match Γ[i]? with
  | some (.own b (.dic ks ds)) => some (b, ks.zip ds)
  | _ => none
theorem ownD_inv {Γ : Gm} {i : Nat} {p : Bool × List (Key × D)} (h : ownD Γ i = some p) : ∃ ks ds, Γ[i]? = some (.own p.1 (.dic ks ds)) ∧ p.2 = ks.zip ds := by
  unfold ownD at h
  split at h
  · rename_i b ks ds e; cases h; exact ⟨ks, ds, e, rfl⟩
  · cases h
theorem Sim.ownd {W : Wd} {F H : Hp} {ρ : Nat → Option Addr} {σ : L2.St} {Γ : Gm} {i : Nat} {io : Bool} {ks : List Key} {ds : List D} {a : Addr} (S : Sim W F H ρ σ Γ) (h : Γ[i]? = some (.own io (.dic ks ds))) (ha : ρ i = some a) : ∃ m, H a = some (.dK m) ∧ PR W.K F (ks.zip ds) m := by
  obtain ⟨a', e1, e2, e3, _⟩ := S.slot i _ h
  rw [ha] at e1; cases e1
  unfold OwnAt at e3
  obtain ⟨vs, e, r, l⟩ := e3
  exact ⟨_, e, pr_of l r⟩
def keyE : EV → Option Key
  | .imm d => keyD d
  | _ => none
def sPutD (i : Nat) (ix f : EM) : SM := fun Γ => (f Γ).go fun e Γ1 => if e.fz.ok = true then SRes.ofS (settle e.fz Γ1) (fun d Γ2 => (ownD Γ2 i).elim .stuck fun _ => (ix Γ2).go fun e2 Γ3 => match keyE e2.fz, ownD Γ3 i with
  | some k, some p => if p.2.length < sizeLine then .nx (Γ3.set i (.own p.1 (dicL (putL p.2 k d)))) else .stuck
  | _, _ => .stuck) else .stuck
theorem ds_putD {x : Str} {p pos' spos : Pos} {e ie : Expr} {ix f : EM} {i : Nat} (hu : X.A.units + 1 < cLine) (he : DE X e f) (ho : DE X (.Name x p) (eName i)) (hi : DE X ie ix)
    (hs : swapsWith e (some (.Subscript (.Name x p) ie pos')) spos.line X.env = pure false := by rfl) :
    DS X (.Assign [.Subscript (.Name x p) ie pos'] e spos) (sPutD i ix f) :=
  ps_imp (ps_dput hu ho hi he hs) fun D' σ H ⟨W, F, ρ, Γ, eK, S, h⟩ => by
    obtain ⟨e1, Γ1, ef, h⟩ := go_inv h
    obtain ⟨ok, h⟩ := ifok_inv h
    obtain ⟨d, Γ2, hd, h⟩ := ofS_inv h
    obtain ⟨p0, hp0, h⟩ := selim_inv h
    obtain ⟨ks0, ds0, h0, _⟩ := ownD_inv hp0
    obtain ⟨e2, Γ3, ei, h⟩ := go_inv h
    refine tE_then eK S ef ok fun v F1 H1 k1 S1 r1 => ?_
    obtain ⟨F2, k2, S2, r2⟩ := settle_ok _ _ _ _ _ _ S1 ok r1 hd
    refine name_bor eK S2 h0 fun a F3 H3 k3 S3 ea => ?_
    split at h
    · rename_i k pp hk hpp
      split at h
      · rename_i hl
        obtain ⟨ks, ds, h3, hz⟩ := ownD_inv hpp
        have ek : ∃ dk, e2.fz = .imm dk ∧ keyD dk = some k := by
          unfold keyE at hk
          generalize e2.fz = z at hk ⊢
          cases z with
          | imm dk => exact ⟨dk, rfl, hk⟩
          | _ => cases hk
        obtain ⟨dk, ek, hk⟩ := ek
        refine tE_then eK S3 ei (by rw [ek]; rfl) fun vi F4 H4 k4 S4 r4 => ?_
        rw [ek] at r4
        unfold RpE at r4
        obtain ⟨m, hm, pr⟩ := S4.ownd h3 ea
        rw [← hz] at pr
        have hv : vi = kV k := keyD_rd (F := F4) (H := H4) (rd_of r4 S4.sub) hk
        subst hv
        refine ⟨a, _, rfl, DPut.k hm (by rw [← pr_len pr]; exact hl), ?_⟩
        exact h F4 _ ρ _ (((k1.trans k2).trans k3).trans k4) (S4.write h3 ea (own_dic upd_same (pr_put pr (Rp.mono (k3.trans k4) _ _ r2))))
      · exact False.elim h
    · exact False.elim h
/-! ### list(d), len(d) -/
def keyB : Key → D
  | .inl i => .int i
  | .inr x => .str x.cps.toList
@[simp] theorem keyB_i (i : Int) : keyB (kI i) = .int i := rfl
@[simp] theorem keyB_s (s : List Nat) : keyB (kS s) = .str s := by show D.str (mkS s).cps.toList = _; rw [mkS_cps]
def okK : Key → Bool
  | .inl _ => true
  | .inr x => okSb x.cps.toList
def oListD : OL
  | [.dic ks ds] => if ks.all okK = true ∧ ks.length = ds.length then some (.fr (.lst (ks.map keyB))) else none
  | _ => none
theorem keyB_kV {K : PySem.W.Frag} {F : Hp} (k : Key) (h : okK k = true) : Rp K F (keyB k) (kV k) := by
  cases k with
  | inl i => exact rp_int
  | inr x =>
    have e : mkS x.cps.toList = x := by unfold mkS; cases x; simp
    have := rp_str (K := K) (F := F) (okS_of h)
    rw [e] at this
    exact this
theorem rpl_keys {K : PySem.W.Frag} {F : Hp} : ∀ {ks : List Key} {m : List (Key × V)}, m.map (·.1) = ks → ks.all okK = true → RpL K F (ks.map keyB) (m.map fun kv => kV kv.1)
  | [], [], _, _ => rpl_nil
  | [], _ :: _, h, _ => by cases h
  | _ :: _, [], h, _ => by cases h
  | k :: ks, p :: m, h, a => by
    rw [List.map_cons] at h
    obtain ⟨e, h'⟩ := List.cons.inj h
    subst e
    rw [List.all_cons, Bool.and_eq_true] at a
    exact rpl_cons (keyB_kV _ a.1) (rpl_keys h' a.2)
theorem cd_listD : CallD X rListD oListD := by
  intro W F H ρ σ Γ ds vs e Q eK S r h w
  unfold oListD at h
  split at h
  · rename_i ks ds
    obtain ⟨⟨h1, h2⟩, rfl⟩ := if_some h
    obtain ⟨v, rfl, rr⟩ := rdvs1 r
    obtain ⟨a, m, rfl, hm, pr⟩ := rd_dic rr
    refine ⟨a, m, rfl, hm, fun q hq => w.newl S hq (rpl_keys ?_ h1)⟩
    have : ∀ {l : List (Key × D)} {m : List (Key × V)}, PR W.K F l m → m.map (·.1) = l.map (·.1) := fun h => by
      unfold PR at h
      induction h with
      | nil => rfl
      | cons h _ ih => rw [List.map_cons, List.map_cons, ih, h.1]
    rw [this pr, List.map_fst_zip (by omega)]
  · cases h
end
/-! ### what must hold -/
@[simp] theorem wE_dnew (Γ : Gm) (Q : EV → Gm → Prop) : wE eDNew Γ Q = Q (.fr (dicL [])) Γ := rfl
def wDic (d : D) (Q : List (Key × D) → Prop) : Prop := match d with
  | .dic ks ds => Q (ks.zip ds)
  | _ => False
@[simp] theorem wDic_l (l : List (Key × D)) (Q : List (Key × D) → Prop) : wDic (dicL l) Q = Q l := by unfold wDic dicL; dsimp only; rw [zip_dicL]
@[simp] theorem wE_get2 (f g h : EM) (Γ : Gm) (Q : EV → Gm → Prop) : wE (eGet2 f g h) Γ Q = wE f Γ fun e1 Γ1 => wV Γ1 e1.fz fun d0 => wDic d0 fun _ => wE g Γ1 fun e2 Γ2 => wE h Γ2 fun e3 Γ3 => wImm e2.fz fun d2 => wImm e3.fz fun d3 => wV Γ3 e1.fz fun d => wDic d fun l => wO (keyD d2) fun k => Q (.imm ((lookK l k).getD d3)) Γ3 := by
  unfold wE eGet2
  simp only [wE_bind]
  congr; funext e1 Γ1
  unfold wV
  cases hg : eGet Γ1 e1.fz with
  | none => simp
  | some d0 =>
    cases d0 with
    | dic ks0 ds0 =>
      simp only [wO_some, wE_bind, wDic]
      congr; funext e2 Γ2; congr; funext e3 Γ3
      cases hg2 : eGet Γ3 e1.fz with
      | none => cases e2.fz <;> simp [wImm] <;> cases e3.fz <;> simp
      | some d =>
        cases d with
        | dic ks ds =>
          cases h2 : e2.fz with
          | imm d2 =>
            cases h3 : e3.fz with
            | imm d3 => simp [of_w]
            | _ => simp [wImm]
          | _ => simp [wImm]
        | _ => cases h2 : e2.fz <;> cases h3 : e3.fz <;> simp [wImm]
    | _ => simp [wDic]
def wOd (s : Option Sl) (Q : Bool → List (Key × D) → Prop) : Prop := match s with
  | some (.own b (.dic ks ds)) => Q b (ks.zip ds)
  | _ => False
@[simp] theorem wOd_own (b : Bool) (l : List (Key × D)) (Q : Bool → List (Key × D) → Prop) : wOd (some (.own b (dicL l))) Q = Q b l := by unfold wOd dicL; dsimp only; rw [zip_dicL]
theorem wO_ownD (Γ : Gm) (i : Nat) (Q : Bool × List (Key × D) → Prop) : wO (ownD Γ i) Q = wOd Γ[i]? fun b l => Q (b, l) := by
  unfold ownD wOd
  generalize Γ[i]? = o
  cases o with
  | none => simp
  | some s => cases s with
    | own b d => cases d <;> simp
    | _ => simp
def wKey (e : EV) (Q : Key → Prop) : Prop := wO (keyE e) Q
@[simp] theorem wKey_imm (d : D) (Q : Key → Prop) : wKey (.imm d) Q = wO (keyD d) Q := rfl
@[simp] theorem wS_putD (i : Nat) (ix f : EM) (Γ : Gm) (Q : SRes → Prop) : wS (sPutD i ix f) Γ Q = wE f Γ fun e Γ1 => e.fz.ok = true ∧ wO (settle e.fz Γ1) fun p => wOd p.2[i]? fun _ _ => wE ix p.2 fun e2 Γ3 => wKey e2.fz fun k =>
    wOd Γ3[i]? fun b l => l.length < sizeLine ∧ Q (.nx (Γ3.set i (.own b (dicL (putL l k p.1))))) := by
  simp only [wS_eq]
  unfold sPutD
  simp only [go_wE, wX_if, ofS_w, elim_w, wO_ownD]
  congr; funext e Γ1; congr; funext p; congr; funext b ds; congr; funext e2 Γ3
  unfold wKey
  cases hk : keyE e2.fz with
  | none => simp
  | some k =>
    simp only [wO_some]
    rw [← wO_ownD Γ3 i (fun q => q.2.length < sizeLine ∧ Q (.nx (Γ3.set i (.own q.1 (dicL (putL q.2 k p.1))))))]
    cases ownD Γ3 i with
    | none => simp
    | some q =>
      simp only [wO_some]
      by_cases h : q.2.length < sizeLine <;> simp [h]
@[simp] theorem oLen_dic (l : List (Key × D)) : oLen [dicL l] = some (.imm (.int (l.length : Nat))) := by
  unfold dicL oLen; simp
theorem oListD_l (l : List (Key × D)) (h : ∀ p ∈ l, okK p.1 = true) : oListD [dicL l] = some (.fr (.lst (l.map fun p => keyB p.1))) := by
  unfold dicL oListD
  dsimp only
  rw [if_pos ⟨by rw [List.all_eq_true]; intro k hk; obtain ⟨p, hp, rfl⟩ := List.mem_map.mp hk; exact h p hp, by simp⟩, List.map_map]
  rfl
@[simp] theorem lookK_nil (k : Key) : lookK [] k = none := rfl
@[simp] theorem hasK_nil (k : Key) : hasK [] k = false := rfl
theorem hasK_look (l : List (Key × D)) (k : Key) : hasK l k = (lookK l k).isSome := by
  induction l with
  | nil => rfl
  | cons p l ih =>
    by_cases e : p.1 = k
    · simp [hasK, lookK, e]
    · have h1 : hasK (p :: l) k = hasK l k := by simp [hasK, e]
      have h2 : lookK (p :: l) k = lookK l k := by simp [lookK, e]
      rw [h1, h2, ih]
theorem lookK_put (l : List (Key × D)) (k j : Key) (d : D) : lookK (putL l k d) j = if j = k then some d else lookK l j := by
  have cons : ∀ (p : Key × D) (l : List (Key × D)) (j : Key), lookK (p :: l) j = if p.1 = j then some p.2 else lookK l j := fun p l j => by
    by_cases e : p.1 = j <;> simp [lookK, e]
  unfold putL
  by_cases h : hasK l k = true
  · rw [if_pos h]
    induction l with
    | nil => cases h
    | cons p l ih =>
      rw [List.map_cons, cons, cons]
      by_cases e : p.1 = k
      · rw [if_pos e]
        dsimp only
        subst e
        by_cases e2 : p.1 = j
        · rw [if_pos e2, if_pos e2.symm]
        · rw [if_neg e2, if_neg (Ne.symm e2)]
          by_cases h2 : hasK l p.1 = true
          · have := ih h2
            rw [if_neg (Ne.symm e2)] at this
            rw [this, if_neg e2]
          · have : l.map (fun q => if q.1 = p.1 then (q.1, d) else q) = l := by
              rw [List.map_congr_left (g := id), List.map_id]
              intro q hq
              have : ¬ q.1 = p.1 := fun e => h2 (List.any_eq_true.mpr ⟨q, hq, decide_eq_true e⟩)
              rw [if_neg this]; rfl
            rw [this, if_neg e2]
      · have h2 : hasK l k = true := by simpa [hasK, e] using h
        rw [if_neg e, ih h2]
        by_cases e2 : p.1 = j
        · rw [if_pos e2, if_pos e2, if_neg (fun e3 => e (e2.trans e3))]
        · rw [if_neg e2, if_neg e2]
  · rw [if_neg h]
    induction l with
    | nil =>
      rw [List.nil_append, cons]
      by_cases e : k = j
      · rw [if_pos e, if_pos e.symm]
      · rw [if_neg e, if_neg (Ne.symm e)]
    | cons p l ih =>
      have e : ¬ p.1 = k := fun e => h (by simp [hasK, e])
      have h2 : ¬ hasK l k = true := fun e2 => h (by simpa [hasK, e] using e2)
      rw [List.cons_append, cons, cons, ih h2]
      by_cases e2 : p.1 = j
      · rw [if_pos e2, if_pos e2, if_neg (fun e3 => e (e2.trans e3))]
      · rw [if_neg e2, if_neg e2]
theorem putL_new {l : List (Key × D)} {k : Key} (d : D) (h : hasK l k = false) : putL l k d = l ++ [(k, d)] := by unfold putL; rw [if_neg (by rw [h]; decide)]
end DL

set_option maxHeartbeats 4000000
namespace DL
open PySem PySem.Spec PyProof.Rows L2
theorem hu1 {n : Nat} (h : n + 65 < cLine) : n + 1 < cLine := by omega
theorem hu64 {n : Nat} (h : n + 65 < cLine) : n + 64 < cLine := by omega
section
variable {X : Cx} {elt tg iter tg1 iter1 : Expr} {ifs ifs1 : List Expr} {scope : Scope} {own : List (Str × Nat)} {pos spos : Pos} {it it1 : IM} {t t1 : Tg} {c c1 : Option EM} {f : EM} {vs1 : List Nat}
theorem ds_setLc2 {i : Nat} {y : Str} {py : Pos} (hc : X.calm = true) (hN : X.N.Nodup) (hv : ∀ i ∈ vs1, i ∈ own.map (·.2)) (ok : BlkOk X.N X.env.scope scope own) (hi : DI X tg iter it)
    (hg : ∀ (s : Shared) (H : Hp) (C : Addr) (cl : List (Str × Addr)) (fp : List Addr), DG (X.blk s H scope (compEnvC scope cl C X.env) fp) tg t) (ht : ∀ (s : Shared) (H : Hp) (C : Addr) (cl : List (Str × Addr)) (fp : List Addr), DTs (X.blk s H scope (compEnvC scope cl C X.env) fp) ifs c)
    (hi1 : ∀ (s : Shared) (H : Hp) (C : Addr) (cl : List (Str × Addr)) (fp : List Addr), DI (X.blk s H scope (compEnvC scope cl C X.env) fp) tg1 iter1 it1)
    (hg1 : ∀ (s : Shared) (H : Hp) (C : Addr) (cl : List (Str × Addr)) (fp : List Addr), DG (X.blk s H scope (compEnvC scope cl C X.env) fp) tg1 t1) (ht1 : ∀ (s : Shared) (H : Hp) (C : Addr) (cl : List (Str × Addr)) (fp : List Addr), DTs (X.blk s H scope (compEnvC scope cl C X.env) fp) ifs1 c1)
    (he : ∀ (s : Shared) (H : Hp) (C : Addr) (cl : List (Str × Addr)) (fp : List Addr), DE (X.blk s H scope (compEnvC scope cl C X.env) fp) elt f)
    (ha : (scope.names.any fun (n, k) => n == y && (k == .local || k == .cell)) = false) (hk : X.env.scope.kind = .function := by rfl)
    (hy : X.N[i]? = some y := by rfl) (hyl : X.env.scope.names.lookup y = some .local := by rfl) (hl : (py.line == pos.line) = true := by rfl) (hs : ∀ x, foldedSetIterable iter X.env x = pure x := by intro _; rfl) (hs1 : ∀ env x, foldedSetIterable iter1 env x = pure x := by intro _ _; rfl) (hps : spos.line = pos.line := by rfl) :
    DS X (.Assign [.Name y py] (.ListComp elt [⟨tg, iter, ifs, 0⟩, ⟨tg1, iter1, ifs1, 0⟩] scope pos) spos) (sSetOk i (eLc2 (own.map (·.2)) vs1 it t c it1 t1 c1 f)) :=
  set_core (ps_setLc2 (wi := tI X.K it) (g := gT X.K t) (tt := tC2 X.K c) (wi1 := tI X.K it1) (g1 := gT X.K t1) (tt1 := tC2 X.K c1) (te := tE X.K f) (hc := hc) (hN := hN) (hy := hy) (hyl := hyl) (hsw := sw_true hk hyl hl ha) (hi := hi) (ok := ok) (hv := hv) (hg := hg) (ht := ht) (hi1 := hi1) (hg1 := hg1) (ht1 := ht1) (he := he) (hs := hs) (hs1 := hs1)) fun _ _ _ h => lc2_read h
theorem ds_ownLc2 {i : Nat} {y : Str} {py : Pos} (hc : X.calm = true) (hN : X.N.Nodup) (hv : ∀ i ∈ vs1, i ∈ own.map (·.2)) (ok : BlkOk X.N X.env.scope scope own) (hi : DI X tg iter it)
    (hg : ∀ (s : Shared) (H : Hp) (C : Addr) (cl : List (Str × Addr)) (fp : List Addr), DG (X.blk s H scope (compEnvC scope cl C X.env) fp) tg t) (ht : ∀ (s : Shared) (H : Hp) (C : Addr) (cl : List (Str × Addr)) (fp : List Addr), DTs (X.blk s H scope (compEnvC scope cl C X.env) fp) ifs c)
    (hi1 : ∀ (s : Shared) (H : Hp) (C : Addr) (cl : List (Str × Addr)) (fp : List Addr), DI (X.blk s H scope (compEnvC scope cl C X.env) fp) tg1 iter1 it1)
    (hg1 : ∀ (s : Shared) (H : Hp) (C : Addr) (cl : List (Str × Addr)) (fp : List Addr), DG (X.blk s H scope (compEnvC scope cl C X.env) fp) tg1 t1) (ht1 : ∀ (s : Shared) (H : Hp) (C : Addr) (cl : List (Str × Addr)) (fp : List Addr), DTs (X.blk s H scope (compEnvC scope cl C X.env) fp) ifs1 c1)
    (he : ∀ (s : Shared) (H : Hp) (C : Addr) (cl : List (Str × Addr)) (fp : List Addr), DE (X.blk s H scope (compEnvC scope cl C X.env) fp) elt f)
    (ha : (scope.names.any fun (n, k) => n == y && (k == .local || k == .cell)) = false) (hk : X.env.scope.kind = .function := by rfl)
    (hy : X.N[i]? = some y := by rfl) (hyl : X.env.scope.names.lookup y = some .local := by rfl) (hl : (py.line == pos.line) = true := by rfl) (hs : ∀ x, foldedSetIterable iter X.env x = pure x := by intro _; rfl) (hs1 : ∀ env x, foldedSetIterable iter1 env x = pure x := by intro _ _; rfl) (hps : spos.line = pos.line := by rfl) :
    DS X (.Assign [.Name y py] (.ListComp elt [⟨tg, iter, ifs, 0⟩, ⟨tg1, iter1, ifs1, 0⟩] scope pos) spos) (sOwnOk i (eLc2 (own.map (·.2)) vs1 it t c it1 t1 c1 f)) :=
  own_core (ps_setLc2 (wi := tI X.K it) (g := gT X.K t) (tt := tC2 X.K c) (wi1 := tI X.K it1) (g1 := gT X.K t1) (tt1 := tC2 X.K c1) (te := tE X.K f) (hc := hc) (hN := hN) (hy := hy) (hyl := hyl) (hsw := sw_true hk hyl hl ha) (hi := hi) (ok := ok) (hv := hv) (hg := hg) (ht := ht) (hi1 := hi1) (hg1 := hg1) (ht1 := ht1) (he := he) (hs := hs) (hs1 := hs1)) fun _ _ _ h => lc2_read h
end
section
variable {X : Cx} {f : EM}
/-- three plain values -/
def imm3 : List EV → Option (D × D × D)
  | [.imm x, .imm y, .imm z] => some (x, y, z)
  | _ => none
theorem imm3_inv {es : List EV} {p : D × D × D} (h : imm3 es = some p) : es = [.imm p.1, .imm p.2.1, .imm p.2.2] := by
  unfold imm3 at h
  split at h
  · cases h; rfl
  · cases h
def sPar3 (i j l : Nat) (a : AM) : SM := fun Γ => match a Γ with
  | .ok es Γ1 => (imm3 es).elim .stuck fun p => if isIo Γ1[i]? = true ∨ isIo Γ1[j]? = true ∨ isIo Γ1[l]? = true then .stuck else .nx (((Γ1.set i (.val p.1)).set j (.val p.2.1)).set l (.val p.2.2))
  | .stuck => .stuck
theorem ds_par3 {i j l : Nat} {x y z : Str} {a b c : Expr} {px py pz pt pos : Pos} {kt k2 pt2} {m : AM} (hc : X.calm = true) (hN : X.N.Nodup) (ha : DA X [a, b, c] m)
    (hx : X.env.scope.names.lookup x = some .local) (hy : X.env.scope.names.lookup y = some .local) (hz : X.env.scope.names.lookup z = some .local) (hij : i ≠ j) (hil : i ≠ l) (hjl : j ≠ l)
    (hw : swappedStores [.Tuple [.Name x px, .Name y py, .Name z pz] kt pt] (.Tuple [a, b, c] k2 pt2) X.env = pure (some [x, y, z]))
    (hi : X.N[i]? = some x := by rfl) (hj : X.N[j]? = some y := by rfl) (hl : X.N[l]? = some z := by rfl)
    (hs : swapsWithSole [.Tuple [.Name x px, .Name y py, .Name z pz] kt pt] (.Tuple [a, b, c] k2 pt2) pos.line X.env = pure false := by rfl) :
    DS X (.Assign [.Tuple [.Name x px, .Name y py, .Name z pz] kt pt] (.Tuple [a, b, c] k2 pt2) pos) (sPar3 i j l m) :=
  ps_imp (ps_par3 hc hN hi hj hl hij hil hjl hx hy hz ha hw hs) fun D' σ H ⟨W, F, ρ, Γ, eK, S, h⟩ => by
    unfold sPar3 at h
    cases hm : m Γ with
    | stuck => rw [hm] at h; exact False.elim h
    | ok es Γ1 =>
      rw [hm] at h
      dsimp only at h
      obtain ⟨p, hp, h'⟩ := selim_inv h
      have e := imm3_inv hp
      obtain ⟨x, y, z⟩ := p
      dsimp only at e h'
      subst e
      by_cases hio : isIo Γ1[i]? = true ∨ isIo Γ1[j]? = true ∨ isIo Γ1[l]? = true
      · rw [if_pos hio] at h'; exact False.elim h'
      · rw [if_neg hio] at h'
        rw [not_or, not_or] at hio
        have h1 := isIo_lt hio.1
        have h2 := isIo_lt hio.2.1
        have h3 := isIo_lt hio.2.2
        refine ⟨W, F, ρ, Γ, eK, S, _, _, hm, rfl, fun vs F' H' k S' r => ?_⟩
        unfold RpEs at r
        obtain ⟨v1, r1, rfl, a1, r⟩ := r
        unfold RpEs at r
        obtain ⟨v2, r2, rfl, a2, r⟩ := r
        unfold RpEs at r
        obtain ⟨v3, r3, rfl, a3, r⟩ := r
        unfold RpEs at r
        subst r
        unfold RpE at a1 a2 a3
        refine ⟨v1, v2, v3, rfl, ?_⟩
        exact h' F' H' _ _ k (((S'.setVal h1 a1).setVal (by rw [List.length_set]; exact h2) a2).setVal (by rw [List.length_set, List.length_set]; exact h3) a3)
end
def w3 (es : List EV) (Q : D → D → D → Prop) : Prop := wO (imm3 es) fun p => Q p.1 p.2.1 p.2.2
@[simp] theorem w3_imm (x y z : D) (Q : D → D → D → Prop) : w3 [.imm x, .imm y, .imm z] Q = Q x y z := by simp [w3, imm3]
@[simp] theorem wS_par3 (i j l : Nat) (a : AM) (Γ : Gm) (Q : SRes → Prop) : wS (sPar3 i j l a) Γ Q = wA a Γ fun es Γ1 => w3 es fun x y z => (isIo Γ1[i]? = false ∧ isIo Γ1[j]? = false ∧ isIo Γ1[l]? = false) ∧ Q (.nx (((Γ1.set i (.val x)).set j (.val y)).set l (.val z))) := by
  simp only [wS_eq]
  unfold wA sPar3 w3
  cases a Γ with
  | stuck => rfl
  | ok es Γ1 =>
    dsimp only
    rw [elim_w]
    congr; funext p
    by_cases h : isIo Γ1[i]? = true ∨ isIo Γ1[j]? = true ∨ isIo Γ1[l]? = true
    · rw [if_pos h]
      simp
      intro h1 h2 h3
      rcases h with h | h | h
      · rw [h1] at h; cases h
      · rw [h2] at h; cases h
      · rw [h3] at h; cases h
    · rw [if_neg h]
      simp at h
      simp [h]
end DL

set_option maxHeartbeats 4000000
namespace DL
open PySem PySem.Spec PyProof.Rows L2
/-! ### xs.extend(ys) -/
def wLs (d : D) (Q : List D → Prop) : Prop := match d with
  | .lst ds => Q ds
  | _ => False
@[simp] theorem wLs_l (ds : List D) (Q : List D → Prop) : wLs (.lst ds) Q = Q ds := rfl
@[simp] theorem wE_extend (i : Nat) (f : EM) (Γ : Gm) (Q : EV → Gm → Prop) : wE (eExtend i f) Γ Q = wOl Γ[i]? fun _ _ => wE f Γ fun e Γ1 => wV Γ1 e.fz fun d => wLs d fun es => wOl Γ1[i]? fun b ds => ds.length + es.length ≤ sizeLine ∧ Q (.imm .non) (Γ1.set i (.own b (.lst (ds ++ es)))) := by
  unfold wE eExtend
  simp only [eelim_w, wO_ownL]
  congr; funext b0 ds0
  rw [wE_bind]
  congr; funext e Γ1
  unfold wV
  cases hg : eGet Γ1 e.fz with
  | none => simp
  | some d =>
    cases d with
    | lst es =>
      simp only [wO_some, wLs_l, eelim_w, wO_ownL]
      congr; funext b ds
      by_cases h : ds.length + es.length ≤ sizeLine <;> simp [h]
    | _ => simp [wLs]
/-! ### pairs in order -/
theorem dlt_pair {a a' b b' : D} (h1 : dalike a a' = true) (h2 : dalike b b' = true) : dlt (.tup [a, b]) (.tup [a', b']) = if deq a a' = true then (if deq b b' = true then false else dlt b b') else dlt a a' := by
  unfold dlt
  simp only [toPD, toPDs]
  exact PySem.W.dataLt_pair h1 h2
@[simp] theorem dlt_i (i j : Int) : dlt (.int i) (.int j) = decide (i < j) := PySem.W.dataLt_int i j
@[simp] theorem dlt_s (s t : List Nat) : dlt (.str s) (.str t) = decide (s < t) := by
  unfold dlt; simp only [toPD]; rw [PySem.W.dataLt_str, mkS_cps, mkS_cps]
theorem dalike_i (i j : Int) : dalike (.int i) (.int j) = true := rfl
theorem dalike_s (s t : List Nat) : dalike (.str s) (.str t) = true := rfl
/-- by length, then as texts compare -/
def ltLS (s t : List Nat) : Bool := decide (s.length < t.length) || (decide (s.length = t.length) && decide (s < t))
theorem lin_LS : Lin ltLS := by
  have L := lin_S
  refine ⟨fun x y z h1 h2 => ?_, fun x y h => ?_, fun x y h1 h2 => ?_⟩
  · simp only [ltLS, Bool.or_eq_true, Bool.and_eq_true, decide_eq_true_eq] at *
    rcases h1 with h1 | ⟨h1, g1⟩ <;> rcases h2 with h2 | ⟨h2, g2⟩
    · left; omega
    · left; omega
    · left; omega
    · right; exact ⟨by omega, of_decide_eq_true (L.tr x y z (decide_eq_true g1) (decide_eq_true g2))⟩
  · simp only [ltLS, Bool.or_eq_true, Bool.and_eq_true, decide_eq_true_eq] at h
    simp only [ltLS, Bool.or_eq_false_iff, Bool.and_eq_false_iff, decide_eq_false_iff_not]
    rcases h with h | ⟨h, g⟩
    · exact ⟨by omega, .inl (by omega)⟩
    · exact ⟨by omega, .inr (of_decide_eq_false (L.as x y (decide_eq_true g)))⟩
  · simp only [ltLS, Bool.or_eq_false_iff, Bool.and_eq_false_iff, decide_eq_false_iff_not] at h1 h2
    have e : x.length = y.length := by omega
    refine L.tri x y (decide_eq_false ?_) (decide_eq_false ?_)
    · rcases h1.2 with h | h
      · exact absurd e h
      · exact h
    · rcases h2.2 with h | h
      · exact absurd e.symm h
      · exact h
def lsD (w : List Nat) : D := .tup [.int (w.length : Int), .str w]
theorem dlt_lsD (a b : List Nat) : dlt (lsD a) (lsD b) = ltLS a b := by
  unfold lsD
  rw [dlt_pair (dalike_i _ _) (dalike_s _ _)]
  simp only [deq_i, deq_s, dlt_i, dlt_s, ltLS, decide_eq_true_eq]
  by_cases h : (a.length : Int) = (b.length : Int)
  · rw [if_pos h]
    have h' : a.length = b.length := by omega
    by_cases e : a = b
    · subst e
      rw [if_pos rfl]
      have : ¬ a < a := fun hh => by have := lin_S.as a a (decide_eq_true hh); simp [ltS, hh] at this
      simp [this]
    · rw [if_neg e]; simp [h']
  · rw [if_neg h]
    have h' : ¬ a.length = b.length := by omega
    simp [h']
theorem sorted_ls (ws : List (List Nat)) : oSortedU [.lst (ws.map lsD)] = some (.fr (.lst ((isort ltLS ws).map lsD))) := by
  cases ws with
  | nil => rfl
  | cons w r =>
    refine oSortedU_by lin_LS lsD dlt_lsD ⟨?_, ?_, .inl ?_, ?_⟩ ?_
    · generalize w :: r = l
      induction l with
      | nil => rfl
      | cons a l ih => rw [List.map_cons]; unfold okEs; rw [ih]; rfl
    · intro a ha b hb
      obtain ⟨x, _, rfl⟩ := List.mem_map.mp ha
      obtain ⟨y, _, rfl⟩ := List.mem_map.mp hb
      rfl
    · intro a ha
      obtain ⟨x, _, rfl⟩ := List.mem_map.mp ha
      rfl
    · generalize w :: r = l
      have : deps (l.map lsD) ≤ 1 := by
        induction l with
        | nil => exact Nat.zero_le _
        | cons a l ih =>
          rw [List.map_cons]; unfold deps
          exact Nat.max_le.mpr ⟨by simp [lsD, dep, deps], ih⟩
      omega
    · simp [oSorted, mapO, asS, asI, lsD]
/-! ### two fors that only read, the condition a truth -/
def unB : D → Bool
  | .bl b => b
  | _ => false
theorem lc2_b {i j : Nat} {it1 : IM} {c1 : Option EM} {f : EM} {ds : List D} {Γ : Gm} {Q : List D → Gm → Prop} (items : D → List D) (cond val : D → D → D) (hij : i ≠ j) (hu : Γ[i]? = some .un) (hv : Γ[j]? = some .un) (hl : ∀ d ∈ ds, (items d).length ≤ 1000) (hl2 : ds.length ≤ 1000)
    (h1 : ∀ d ∈ ds, wI it1 (Γ.set i (.val d)) fun xs Γ2 => xs = items d ∧ Γ2 = Γ.set i (.val d))
    (h : ∀ d ∈ ds, ∀ x ∈ items d, wCd c1 ((Γ.set i (.val d)).set j (.val x)) fun b Γ2 => D.bl b = cond d x ∧ Γ2 = (Γ.set i (.val d)).set j (.val x) ∧ (b = true → wE f ((Γ.set i (.val d)).set j (.val x)) fun e Γ3 => e.fz = .imm (val d x) ∧ Γ3 = (Γ.set i (.val d)).set j (.val x)))
    (q : Q (ds.flatMap fun d => ((items d).filter fun x => unB (cond d x)).map (val d)) Γ) : wL2 (.nm i) [i, j] none it1 (.nm j) [j] c1 f ds [] Γ Q :=
  lc2_pure items cond val hij hu hv hl hl2 h1 h q
end DL

set_option maxHeartbeats 4000000
namespace DL
open PySem PySem.Spec PyProof.Rows L2
def stpI (acc : List Int) (x : Int) : List Int := if x ∈ acc then acc else acc ++ [x]
def dedI (ns : List Int) : List Int := ns.foldl stpI []
theorem fold_ded : ∀ (ns acc : List Int), ns.foldl step_dedup acc = ns.foldl stpI acc
  | [], _ => rfl
  | n :: ns, acc => by
    rw [List.foldl_cons, List.foldl_cons, fold_ded ns]
    congr 1
    unfold step_dedup stpI
    by_cases h : n ∈ acc
    · rw [if_pos h, if_pos (List.any_eq_true.mpr ⟨n, h, by simp⟩)]
    · rw [if_neg h, if_neg (fun hh => h (by obtain ⟨x, hx, e⟩ := List.any_eq_true.mp hh; have e := beq_iff_eq.mp e; exact e ▸ hx))]
theorem first_ded (ns : List Int) : firstMet (fun i => ns.getD i 0) ns.length = dedI ns := by
  unfold firstMet dedI
  have e : (List.range ns.length).map (fun i => ns.getD i 0) = ns := by
    apply List.ext_getElem
    · simp
    · intro i h1 h2
      simp [h2]
  rw [e]
  exact fold_ded ns []
theorem foldI_spec : ∀ (ns acc : List Int), acc.Nodup → (ns.foldl stpI acc).Nodup ∧ (∀ x, x ∈ ns.foldl stpI acc ↔ x ∈ acc ∨ x ∈ ns) ∧ (ns.foldl stpI acc).length ≤ acc.length + ns.length
  | [], acc, h => ⟨h, fun x => by simp, by simp⟩
  | n :: ns, acc, h => by
    rw [List.foldl_cons]
    by_cases hn : n ∈ acc
    · have e : stpI acc n = acc := if_pos hn
      rw [e]
      obtain ⟨a, b, c⟩ := foldI_spec ns acc h
      refine ⟨a, fun x => ?_, by rw [List.length_cons]; omega⟩
      rw [b, List.mem_cons]
      constructor
      · rintro (h | h)
        · exact .inl h
        · exact .inr (.inr h)
      · rintro (h | rfl | h)
        · exact .inl h
        · exact .inl hn
        · exact .inr h
    · have e : stpI acc n = acc ++ [n] := if_neg hn
      rw [e]
      obtain ⟨a, b, c⟩ := foldI_spec ns (acc ++ [n]) (by
        rw [List.nodup_append]
        exact ⟨h, by simp, fun x hx y hy => by rw [List.mem_singleton.mp hy]; intro e; exact hn (e ▸ hx)⟩)
      refine ⟨a, fun x => ?_, by rw [List.length_cons]; rw [List.length_append, List.length_singleton] at c; omega⟩
      rw [b, List.mem_append, List.mem_singleton, List.mem_cons, or_assoc]
theorem dedI_nodup (ns : List Int) : (dedI ns).Nodup := (foldI_spec ns [] List.nodup_nil).1
theorem dedI_mem {ns : List Int} {x : Int} : x ∈ dedI ns ↔ x ∈ ns := by
  have := (foldI_spec ns [] List.nodup_nil).2.1 x
  simpa [dedI] using this
theorem dedI_len (ns : List Int) : (dedI ns).length ≤ ns.length := by
  have := (foldI_spec ns [] List.nodup_nil).2.2
  simpa [dedI] using this
section
variable {X : Cx}
def rLenSetU (K : PySem.W.Frag) : V → Hp → VK → Prop := fun x H Q => rLenSet K x H Q ∨ ∃ (l : Addr) (ns : List Int), x = V.ref l ∧ SqL K H l (ns.map V.int) ∧ ns.length + 1 < scanBound ∧ Q (.int ((dedI ns).length : Nat)) H
theorem pe_lenSetU {a : Expr} {ta : TE} {p p2 q pos : Pos} (hc : X.calm = true) (hg : Gl X "len") (hm : X.mg "len" = none) (hg2 : Gl X "set") (hm2 : X.mg "set" = none) (ha : PE X a ta)
    (na : starEach [a] X.env = (false, eval a X.env) :: starEach [] X.env := by rfl) : PE X (.Call (.Name "len" p) [.Call (.Name "set" p2) [a] [] q] [] pos) (fun σ H Q => ta σ H fun x H1 => rLenSetU X.K x H1 Q) := by
  refine ⟨fun pins s σ H Q I h => ?_⟩
  refine Call_ (ld_blt I hg hm boot_len ?_)
  refine PyProof.Rows.callWith_builtin1 (PyProof.Rows.args_cons ?_ rfl) rfl rfl
  refine Call_ (ld_blt I hg2 hm2 boot_set ?_)
  refine PyProof.Rows.callWith_type1 (PyProof.Rows.args_cons (thn (ha.run pins s σ H _ I h) fun v s1 ⟨x, H1, I1, r1, q1⟩ => PyProof.Rows.args_nil ?_) na) na rfl
  have hsb : scanBound = 4096 := rfl
  rcases q1 with ⟨ss, ht, hb, q1⟩ | ⟨l, ns, rfl, hq, h1, q1⟩
  · refine set_run hc I1 r1 ht hb fun h' tk I2 ⟨⟨es, ep, t⟩, ho, F⟩ => ?_
    refine PyProof.Rows.args_nil ?_
    have hdl := dedL_len ss
    have hsz : es.size = (dedL ss).length := by have := F.sz; rw [List.length_map] at this; exact this
    exact call_len_set ho ⟨rfl, rfl, rfl⟩ rfl F.ft (by rw [hsz]; omega) ⟨.int ((dedL ss).length : Nat), H1, I2.tok _, ⟨_, by rw [hsz]⟩, q1⟩
  · cases r1
    obtain ⟨its, r, pl, hz⟩ := I1.list hq
    have hl : its.toArray.size = ns.length := by rw [List.size_toArray, ← r.length, List.length_map]
    refine call_set_list (I1.ok.hd hc) pl.isList (ns := ns) (by simpa using r.ints) (by omega) fun h' tk hS hk => ?_
    rw [hl, first_ded] at hS
    refine PyProof.Rows.args_nil ?_
    obtain ⟨o, es, ep, t, ho, hex, hd, _, _, _, hf, hn⟩ := hS
    have I2 : L2.Inv X pins σ H1 { s1 with heap := h', toks := tk } := I1.kept fun b o e => hk b o (Heap.lt_size e) e
    have hdl := dedI_len ns
    refine call_len_set ho hex hd hf (by rw [hn]; omega) ⟨.int ((dedI ns).length : Nat), H1, I2.tok _, ⟨_, by rw [hn]⟩, q1⟩
def oLenSetU : O1 := fun d => match oLenSet d with
  | some r => some r
  | none => match d with
    | .lst ds => (mapO asI ds).bind fun ns => if ns.length ≤ 4000 then some (.imm (.int ((dedI ns).length : Nat))) else none
    | _ => none
theorem ud_lenSetU : UnD X (rLenSetU X.K) oLenSetU := by
  intro W F H ρ σ Γ d v e Q eK S r h w
  unfold oLenSetU at h
  split at h
  · rename_i r' hr
    cases h
    exact .inl (ud_lenSet W F H ρ σ Γ d v e Q eK S r hr w)
  · rw [← eK]
    split at h
    · obtain ⟨ns, hs, h⟩ := obind_inv h
      obtain ⟨hl, rfl⟩ := if_some h
      obtain ⟨a, vs, rfl, h1, q1⟩ := rd_lst r
      have hsb : scanBound = 4096 := rfl
      exact .inr ⟨a, ns, rfl, by rw [← mapO_ints q1 hs]; exact .inl (.inl h1), by omega, w.here S rp_int⟩
    · cases h
theorem de_lenSetU {a : Expr} {f : EM} {p p2 q pos : Pos} (hc : X.calm = true) (hm : X.mg "len" = none) (hm2 : X.mg "set" = none) (ha : DE X a f) (hg : Gl X "len" := by rfl) (hg2 : Gl X "set" := by rfl) (na : starEach [a] X.env = (false, eval a X.env) :: starEach [] X.env := by rfl) :
    DE X (.Call (.Name "len" p) [.Call (.Name "set" p2) [a] [] q] [] pos) (eUn oLenSetU f) :=
  pe_imp (pe_lenSetU hc hg hm hg2 hm2 ha na) fun _ _ _ h => un_core ud_lenSetU h
end
theorem oLenSetU_i (n : Int) (ns : List Int) (h : ns.length < 4000) : oLenSetU (.lst ((n :: ns).map D.int)) = some (.imm (.int ((dedI (n :: ns)).length : Nat))) := by
  have e1 : oLenSet (.lst ((n :: ns).map D.int)) = none := by simp [oLenSet, textsOf, mapO, asS]
  have e2 : mapO asI ((n :: ns).map D.int) = some (n :: ns) := by rw [mapO_map (g := D.int) (h := id) (f := asI) fun _ => rfl]; simp
  unfold oLenSetU
  rw [e1]
  dsimp only
  rw [e2, Option.bind_some, if_pos (by rw [List.length_cons]; omega)]
theorem oLenSetU_nil : oLenSetU (.lst []) = some (.imm (.int 0)) := rfl
theorem oLenSetU_s (s : List Nat) (h : s.length ≤ 4000) : oLenSetU (.str s) = some (.imm (.int ((dedL (s.map fun c => [c])).length : Nat))) := by
  unfold oLenSetU oLenSet
  rw [textsOf_s, Option.bind_some, if_pos (by rw [List.length_map]; exact h)]
end DL

set_option maxHeartbeats 4000000
namespace DL
open PySem PySem.Spec PyProof.Rows L2
def storeAt (i : Nat) (ix : EM) (d : D) (Γ : Gm) : Option Gm := (ownL Γ i).bind fun _ => match ix Γ with
  | .ok e Γ1 => (isI e.fz).bind fun k => (ownL Γ1 i).bind fun p => (ixN p.2.length k).map fun n => Γ1.set i (.own p.1 (.lst (p.2.set n d)))
  | .stuck => none
section
variable {X : Cx}
theorem gx_core {i : Nat} {ix : EM} {W : Wd} {F H : Hp} {ρ : Nat → Option Addr} {σ : L2.St} {Γ Γ' : Gm} {d : D} {v : V} {Q : L2.St → Hp → Prop} (eK : W.K = X.K) (S : Sim W F H ρ σ Γ) (r : Rp W.K F d v) (h : storeAt i ix d Γ = some Γ')
    (q : ∀ F' H', Same F F' → Sim W F' H' ρ σ Γ' → Q σ H') : gSub (tE X.K (eName i)) (tE X.K ix) rSetL v σ H Q := by
  unfold storeAt at h
  obtain ⟨p0, hp0, h⟩ := obind_inv h
  have h0 := ownL_inv hp0
  cases hx : ix Γ with
  | stuck => rw [hx] at h; cases h
  | ok e Γ1 =>
    rw [hx] at h
    dsimp only at h
    obtain ⟨k, hk, h⟩ := obind_inv h
    obtain ⟨p, hp, h⟩ := obind_inv h
    obtain ⟨n, hn, rfl⟩ := omap_inv h
    have hk' := isI_inv hk
    have h1 := ownL_inv hp
    refine name_bor eK S h0 fun a F1 H1 k1 S1 ea => ?_
    refine tE_then eK S1 hx (by rw [hk']; rfl) fun vi F2 H2 k2 S2 r2 => ?_
    rw [hk'] at r2
    unfold RpE at r2
    obtain ⟨vs, hv, rv⟩ := S2.ownl h1 ea
    refine ⟨a, vs, k, n, rfl, rd_int (F := F2) (H := H2) (rd_of r2 S2.sub), hv, by rw [← rpl_len rv]; exact hn, ?_⟩
    exact q F2 _ (k1.trans k2) (S2.write h1 ea ⟨vs.set n v, upd_same, rpl_set (Rp.mono (k1.trans k2) _ _ r) n rv⟩)
def sIx2 (i : Nat) (ix : EM) (j : Nat) (jx : EM) (f : EM) : SM := fun Γ => (f Γ).go fun e Γ1 => if e.fz.ok = true then SRes.ofS (settle e.fz Γ1) (fun d Γ2 => match d with
  | .tup [x, y] => ((storeAt i ix x Γ2).bind fun Γ3 => storeAt j jx y Γ3).elim .stuck .nx
  | _ => .stuck) else .stuck
theorem ds_ix2 {i j : Nat} {x y : Str} {p p' ps ps' pt spos : Pos} {kt : Nat} {e ie je : Expr} {ix jx f : EM} (hc : X.calm = true) (he : DE X e f) (ho : DE X (.Name x p) (eName i)) (hi : DE X ie ix) (ho' : DE X (.Name y p') (eName j)) (hj : DE X je jx)
    (ha : ∀ v, assign (.Subscript (.Name x p) ie ps) X.env v = (do
      let ov ← holding [v] (eval (.Name x p) X.env)
      let iv ← holding [v, ov] (eval ie X.env)
      standAt ps
      holding [v, ov, iv] (setItem ov iv v)
      release [v, ov, iv] []) := by intro _; rfl)
    (ha' : ∀ v, assign (.Subscript (.Name y p') je ps') X.env v = (do
      let ov ← holding [v] (eval (.Name y p') X.env)
      let iv ← holding [v, ov] (eval je X.env)
      standAt ps'
      holding [v, ov, iv] (setItem ov iv v)
      release [v, ov, iv] []) := by intro _; rfl)
    (h2 : (assignEach [.Subscript (.Name x p) ie ps, .Subscript (.Name y p') je ps'] X.env).map (·.2) = assign (.Subscript (.Name x p) ie ps) X.env :: (assignEach [.Subscript (.Name y p') je ps'] X.env).map (·.2) := by rfl)
    (h1 : (assignEach [.Subscript (.Name y p') je ps'] X.env).map (·.2) = assign (.Subscript (.Name y p') je ps') X.env :: (assignEach [] X.env).map (·.2) := by rfl)
    (hn : (assignEach [.Subscript (.Name x p) ie ps, .Subscript (.Name y p') je ps'] X.env).length = 2 := by rfl) (hst : (assignEach [.Subscript (.Name x p) ie ps, .Subscript (.Name y p') je ps'] X.env).findIdx? (·.1) = none := by rfl)
    (hs : swapsWithSole [.Tuple [.Subscript (.Name x p) ie ps, .Subscript (.Name y p') je ps'] kt pt] e spos.line X.env = pure false := by rfl) (hw : swappedStores [.Tuple [.Subscript (.Name x p) ie ps, .Subscript (.Name y p') je ps'] kt pt] e X.env = pure none := by rfl)
    (h3 : (assignEach [.Tuple [.Subscript (.Name x p) ie ps, .Subscript (.Name y p') je ps'] kt pt] X.env).map (·.2) = [assign (.Tuple [.Subscript (.Name x p) ie ps, .Subscript (.Name y p') je ps'] kt pt) X.env] := by rfl) :
    DS X (.Assign [.Tuple [.Subscript (.Name x p) ie ps, .Subscript (.Name y p') je ps'] kt pt] e spos) (sIx2 i ix j jx f) :=
  ps_imp (ps_asg he (pg_tup (n := 2) hc (pgs_cons (pg_sub ho hi set_list ha) (pgs_cons (pg_sub ho' hj set_list ha') pgs_nil h1) h2) hn hst) hs hw h3) fun D' σ H ⟨W, F, ρ, Γ, eK, S, h⟩ => by
    obtain ⟨e1, Γ1, ef, h⟩ := go_inv h
    obtain ⟨ok, h⟩ := ifok_inv h
    obtain ⟨d, Γ2, hd, h⟩ := ofS_inv h
    have hd2 : ∃ a b, d = .tup [a, b] := by
      cases d with
      | tup ds =>
        match ds, h with
        | [], h => exact False.elim h
        | [_], h => exact False.elim h
        | [a, b], _ => exact ⟨a, b, rfl⟩
        | _ :: _ :: _ :: _, h => exact False.elim h
      | _ => exact False.elim h
    obtain ⟨a, b, rfl⟩ := hd2
    dsimp only at h
    obtain ⟨Γ4, hb, h⟩ := selim_inv h
    obtain ⟨Γ3, ha3, hb⟩ := obind_inv hb
    refine tE_then eK S ef ok fun v F1 H1 k1 S1 r1 => ?_
    obtain ⟨F2, k2, S2, r2⟩ := settle_ok _ _ _ _ _ _ S1 ok r1 hd
    obtain ⟨ad, vs, rfl, ht, q2⟩ := rd_tup (F := F2) (H := H1) (rd_of r2 S2.sub)
    obtain ⟨v1, r', rfl, x1, q2⟩ := rpl_cons_inv q2
    obtain ⟨v2, r'', rfl, x2, q2⟩ := rpl_cons_inv q2
    have := rpl_nil_inv q2
    subst this
    refine ⟨ad, _, rfl, by rw [← eK]; exact sqT_mono S2.sub ht, rfl, v1, [v2], rfl, ?_⟩
    refine gx_core eK S2 x1 ha3 fun F3 H3 k3 S3 => ?_
    refine ⟨v2, [], rfl, ?_⟩
    refine gx_core eK S3 (Rp.mono k3 _ _ x2) hb fun F4 H4 k4 S4 => ?_
    exact ⟨rfl, h F4 H4 ρ σ (((k1.trans k2).trans k3).trans k4) S4⟩
end
def wSt (i : Nat) (ix : EM) (d : D) (Γ : Gm) (Q : Gm → Prop) : Prop := wOl Γ[i]? fun _ _ => wE ix Γ fun e Γ1 => wInt e.fz fun k => wOl Γ1[i]? fun b ds => wO (ixN ds.length k) fun n => Q (Γ1.set i (.own b (.lst (ds.set n d))))
theorem wO_store (i : Nat) (ix : EM) (d : D) (Γ : Gm) (Q : Gm → Prop) : wO (storeAt i ix d Γ) Q = wSt i ix d Γ Q := by
  unfold storeAt wSt
  rw [wO_bind, wO_ownL]
  congr; funext b0 d0
  unfold wE
  cases ix Γ with
  | stuck => simp
  | ok e Γ1 =>
    simp only [mE_ok]
    rw [wO_bind, isI_w]
    congr; funext k
    rw [wO_bind, wO_ownL]
    congr; funext b ds
    rw [wO_map]
def wP2 (d : D) (Q : D → D → Prop) : Prop := match d with
  | .tup [x, y] => Q x y
  | _ => False
@[simp] theorem wP2_t (x y : D) (Q : D → D → Prop) : wP2 (.tup [x, y]) Q = Q x y := rfl
@[simp] theorem wSt_eq (i : Nat) (ix : EM) (d : D) (Γ : Gm) (Q : Gm → Prop) : wSt i ix d Γ Q = wOl Γ[i]? fun _ _ => wE ix Γ fun e Γ1 => wInt e.fz fun k => wOl Γ1[i]? fun b ds => wO (ixN ds.length k) fun n => Q (Γ1.set i (.own b (.lst (ds.set n d)))) := rfl
@[simp] theorem wS_ix2 (i : Nat) (ix : EM) (j : Nat) (jx : EM) (f : EM) (Γ : Gm) (Q : SRes → Prop) : wS (sIx2 i ix j jx f) Γ Q = wE f Γ fun e Γ1 => e.fz.ok = true ∧ wO (settle e.fz Γ1) fun p => wP2 p.1 fun x y => wSt i ix x p.2 fun Γ3 => wSt j jx y Γ3 fun Γ4 => Q (.nx Γ4) := by
  simp only [wS_eq]
  unfold sIx2
  simp only [go_wE, wX_if, ofS_w]
  congr; funext e Γ1; congr; funext p
  obtain ⟨d, Γ2⟩ := p
  unfold wP2
  dsimp only
  split
  · rw [elim_w, wO_bind, wO_store]
    congr; funext Γ3
    rw [wO_store]
    rfl
  · rfl
end DL

set_option maxHeartbeats 4000000
namespace DL
open PySem PySem.Spec PyProof.Rows L2
def ixI : D → D → Option EV
  | .lst ds, .int n => (mapO asI ds).bind fun ns => if n ∈ ns then some (.imm (.int ((ns.idxOf n : Nat) : Int))) else none
  | _, _ => none
theorem ixI_inv {d1 d2 : D} {e : EV} (h : ixI d1 d2 = some e) : ∃ ds n ns, d1 = .lst ds ∧ d2 = .int n ∧ mapO asI ds = some ns ∧ n ∈ ns ∧ e = .imm (.int ((ns.idxOf n : Nat) : Int)) := by
  unfold ixI at h
  split at h
  · obtain ⟨ns, hns, h⟩ := obind_inv h
    obtain ⟨hm, rfl⟩ := if_some h
    exact ⟨_, _, ns, rfl, rfl, hns, hm, rfl⟩
  · cases h
def eLIdx (f g : EM) : EM := fun Γ => (f Γ).bind fun e1 Γ1 => match eGet Γ1 e1 with
  | some (.lst _) => (g Γ1).bind fun e2 Γ2 => ERes.of ((eGet Γ2 e1).bind fun d1 => (eGet Γ2 e2).bind fun d2 => ixI d1 d2) Γ2
  | _ => .stuck
section
variable {X : Cx}
theorem de_lidx {o e : Expr} {f g : EM} {apos cpos : Pos} (ho : DE X o f) (he : DE X e g)
    (hbase : attributeBase o "index" X.env (eval o X.env) = eval o X.env := by rfl)
    (hfew : ((backTo cpos (starEach (e :: []) X.env)).all (fun x => !x.1) && (backToKw cpos (keywordEach [] X.env)).all (fun x => x.1.isSome)
      && decide ((e :: []).length + ([] : List Keyword).length + (if ([] : List Keyword).isEmpty then 0 else 1) < 30)) = true := by rfl)
    (hline : (apos.endLine == cpos.line) = true := by rfl) (hs : starEach (e :: []) X.env = (false, eval e X.env) :: starEach [] X.env := by rfl) (hplain : (backTo cpos (starEach [] X.env)).any (·.1) = false := by rfl) :
    DE X (.Call (.Attribute o "index" apos) [e] [] cpos) (eLIdx f g) :=
  pe_imp (pe_bm PySem.F.plainAttrs_list PySem.F.slot_list_index PySem.F.type_list_index mt_index ho (pa_cons he pa_nil hs) hbase hfew hline hs hplain) fun σ H Q ⟨W, F, ρ, Γ, eK, S, e, Γ', ef, ok, q⟩ => by
    unfold eLIdx at ef
    obtain ⟨e1, Γ1, h1, ef⟩ := bind_inv ef
    split at ef
    · rename_i ds0 hg0
      obtain ⟨e2, Γ2, h2, ef⟩ := bind_inv ef
      obtain ⟨ef', rfl⟩ := of_inv ef
      obtain ⟨d1, hg1, ef'⟩ := obind_inv ef'
      obtain ⟨d2, hg2, ef'⟩ := obind_inv ef'
      obtain ⟨ds, n, ns, rfl, rfl, hns, hm, rfl⟩ := ixI_inv ef'
      refine tE_then eK S h1 (ok_get hg0) fun v1 F1 H1 s1 S1 r1 => ?_
      obtain ⟨a, vs, rfl, hv, _⟩ := rd_lst (rd_get S1 r1 hg0)
      refine ⟨.inl ⟨rfl, vs, .inl (.inl hv)⟩, ?_⟩
      refine tE_then eK S1 h2 (ok_get hg2) fun v2 F2 H2 s2 S2 r2 => ?_
      obtain ⟨a', vs', ea, hv', rv⟩ := rd_lst (rd_get S2 (RpE.mono s2 _ _ (ok_get hg0) r1) hg1)
      cases ea
      have hx := rd_int (rd_get S2 r2 hg2)
      subst hx
      have ev := mapO_ints rv hns
      subst ev
      have hl := List.idxOf_lt_length_of_mem hm
      refine ⟨a, ns.map V.int, .int n, ns.idxOf n, .int n, rfl, rfl, by rw [← eK]; exact .inl (.inl hv'), rfl, by simp [flatV], ?_, by simp [eqV], fun m z hm' hz => ?_, q _ F2 H2 (s1.trans s2) S2 (by unfold RpE; exact rp_int)⟩
      · rw [List.getElem?_map, List.getElem?_eq_getElem hl, List.getElem_idxOf hl]; rfl
      · rw [List.getElem?_map] at hz
        obtain ⟨k, hk, rfl⟩ := omap_inv hz
        have hkl := (List.getElem?_eq_some_iff.mp hk).1
        have hne : k ≠ n := fun e => by
          subst e
          have h3 := List.not_of_lt_findIdx (p := fun x => x == k) (xs := ns) (i := m) hm'
          have h4 := (List.getElem?_eq_some_iff.mp hk).2
          rw [h4] at h3
          simp at h3
        simpa [eqV] using hne
    · cases ef
end
def wLst0 (d : D) (P : Prop) : Prop := match d with
  | .lst _ => P
  | _ => False
@[simp] theorem wLst0_l (ds : List D) (P : Prop) : wLst0 (.lst ds) P = P := rfl
@[simp] theorem wE_lidx (f g : EM) (Γ : Gm) (Q : EV → Gm → Prop) : wE (eLIdx f g) Γ Q = wE f Γ fun e1 Γ1 => wV Γ1 e1.fz fun d0 => wLst0 d0 (wE g Γ1 fun e2 Γ2 => wV Γ2 e1.fz fun d1 => wV Γ2 e2.fz fun d2 => wO (ixI d1 d2) fun e => Q e Γ2) := by
  unfold wE eLIdx
  simp only [wE_bind]
  congr; funext e1 Γ1
  unfold wV
  cases hg : eGet Γ1 e1.fz with
  | none => simp
  | some d0 =>
    cases d0 with
    | lst ds =>
      simp only [wO_some, wLst0_l, wE_bind, of_w, wO_bind]
    | _ => simp [wLst0]
theorem ixI_i {ns : List Int} {n : Int} (h : n ∈ ns) : ixI (.lst (ns.map D.int)) (.int n) = some (.imm (.int ((ns.idxOf n : Nat) : Int))) := by
  show (mapO asI (ns.map D.int)).bind _ = _
  rw [mapO_map (g := D.int) (h := id) (f := asI) fun _ => rfl, List.map_id, Option.bind_some, if_pos h]
end DL

set_option maxHeartbeats 4000000
namespace DL
open PySem PySem.Spec PyProof.Rows L2 PyProof
theorem fm_congr {α β : Type} {f g : α → Option β} : ∀ {l : List α}, (∀ x ∈ l, f x = g x) → l.filterMap f = l.filterMap g
  | [], _ => rfl
  | a :: l, h => by rw [List.filterMap_cons, List.filterMap_cons, h a (by simp), fm_congr (l := l) fun x hx => h x (by simp [hx])]
theorem adjust_rev (n : Nat) : Builtin.Slice.sliceAdjust none none (-1) (n : Int) = ((n : Int) - 1, -1) := rfl
theorem places_rev (n : Nat) : Builtin.Slice.slicePlaces ((n : Int) - 1) (-1) (-1) = n := by
  unfold Builtin.Slice.slicePlaces
  have h1 : ¬ ((-1 : Int) > 0) := by omega
  have h2 : (-(-1) : Int) = 1 := by omega
  simp only [h1, if_false, h2, Int.ediv_one]
  split <;> omega
theorem pick_revT (xs : Array Value) : ((List.range xs.size).filterMap fun (k : Nat) => xs[(((xs.size : Nat) : Int) - 1 + (k : Int) * (-1)).toNat]?).toArray = xs.toList.reverse.toArray := by
  congr 1
  have e : (List.range xs.size).filterMap (fun (k : Nat) => xs[(((xs.size : Nat) : Int) - 1 + (k : Int) * (-1)).toNat]?) = ((List.range xs.size).map fun k => xs.size - 1 - k).filterMap (xs[·]?) := by
    rw [List.filterMap_map]
    refine fm_congr fun k hk => ?_
    have := List.mem_range.mp hk
    show xs[(((xs.size : Nat) : Int) - 1 + (k : Int) * (-1)).toNat]? = xs[xs.size - 1 - k]?
    congr 1
    omega
  rw [e, PySem.W.krv_range, List.filterMap_reverse, PySem.W.krv_all]
section
variable {prog : Program} {w : World} {A : Around} {E : Value → Shared → Prop} {s : Shared}
theorem sliceApplied_rev {sl : Addr} {t : Tok} {n : Nat} {Q : Int × Int × Nat → Shared → Prop} (hs : s.heap.IsSliceOf sl .none .none (.int (-1) t))
    (h : Q ((n : Int) - 1, -1, n) s) : wpAny (model prog w) A (Builtin.Slice.sliceApplied (.ref sl) (pure (n : Int))) Q E s := by
  obtain ⟨os, hos, hcs, hds⟩ := id hs
  unfold Builtin.Slice.sliceApplied Builtin.Slice.sliceFields
  refine wpAny_bind (wpAny_bind (wpAny_field hos hds (x := .none) rfl (wpAny_bind (wpAny_field hos hds (x := .none) rfl (wpAny_bind (wpAny_field hos hds (x := .int (-1) t) rfl (wpAny_pure ?_)))))))
  refine wpAny_bind (slicePart_int ?_)
  show wpAny _ _ (if ((-1 : Int) == 0) = true then _ else _) _ _ s
  rw [if_neg (by decide)]
  refine wpAny_bind (slicePart_none (wpAny_bind (slicePart_none (wpAny_bind (wpAny_pure ?_)))))
  show wpAny _ _ (match Builtin.Slice.sliceAdjust none none (-1) (n : Int) with | (lo, hi) => pure (lo, (-1 : Int), Builtin.Slice.slicePlaces lo hi (-1))) _ _ s
  rw [adjust_rev n]
  show wpAny _ _ (pure ((n : Int) - 1, (-1 : Int), Builtin.Slice.slicePlaces ((n : Int) - 1) (-1) (-1))) _ _ s
  rw [places_rev]
  exact wpAny_pure h
theorem getItem_tuple_rev {t sl : Addr} {items : Array Value} {k : Tok} {Q : Value → Shared → Prop} (ht : IsTup s.heap t items) (hs : s.heap.IsSliceOf sl .none .none (.int (-1) k))
    (h : Q (.ref s.heap.objs.size) { s with heap := s.heap.push { cls := .type "tuple", data := .seq items.toList.reverse.toArray } })
    (hsz : items.size ≤ sizeLine) : wpAny (model prog w) A (getItem (.ref t) (.ref sl)) Q E s := by
  have htake : sizeOk (.seq items.toList.reverse.toArray) := by
    show items.toList.reverse.toArray.size ≤ sizeLine
    rw [List.size_toArray, List.length_reverse, Array.length_toList]
    omega
  obtain ⟨os, hos, hcs, hds⟩ := id hs
  have hTs : s.TypeIs (.ref sl) "slice" := ⟨os, hos, hcs⟩
  unfold getItem
  try with_reducible refine wpAny_holding ?_
  first | refine wpAny_bind (wpAny_pure ?_) | skip
  refine wpAny_bind (wpAny_sequenceKey ht.typeIs (by decide) ?_)
  refine wpAny_bind (wpAny_callSpecial?_slot (name := Str.ofString "__getitem__") ht.typeIs PyProof.Rows.slot_tuple_getitem
    (wpAny_call_entry PyProof.Rows.slot_tuple_getitem ht.typeIs entry_tuple_getitem ?_ (args_tuple_getitem _ _)))
  show wpAny _ _ (Builtin.Tuple.tupleItemsOf (.ref t) >>= _) _ _ s
  refine wpAny_bind (tupleItemsOf_ ht ?_)
  refine wpAny_bind (wpAny_typeOf hTs ?_)
  rw [if_pos (by decide)]
  refine wpAny_bind (sliceApplied_rev hs ?_)
  have hno : ¬ ((((items.size : Nat) : Int) - 1 == 0 && (-1 : Int) == 1 && items.size == items.size) = true) := by
    rw [show ((-1 : Int) == 1) = false from rfl, Bool.and_false, Bool.false_and]
    exact Bool.false_ne_true
  show wpAny _ _ (if (((items.size : Nat) : Int) - 1 == 0 && (-1 : Int) == 1 && items.size == items.size) = true then _ else _) _ _ s
  rw [if_neg hno, pick_revT]
  first
    | exact wpAny_bind (m := Builtin.Tuple.tupleExact _) (wpAny_newObj_type (wpAny_pure ⟨_, rfl, wpAny_pure h⟩) htake)
    | exact wpAny_bind (m := Builtin.Tuple.tupleExact _) (wpAny_newObj_type (wpAny_bind (wpAny_pure (wpAny_pure ⟨_, rfl, wpAny_pure h⟩))) htake)
    | exact wpAny_bind (wpAny_bind (m := Builtin.Tuple.tupleExact _) (wpAny_newObj_type (wpAny_pure (wpAny_pure ⟨_, rfl, wpAny_pure h⟩)) htake))
    | exact wpAny_bind (wpAny_bind (m := Builtin.Tuple.tupleExact _) (wpAny_newObj_type (wpAny_pure ⟨_, rfl, wpAny_pure h⟩) htake))
end
def oRevU : O1
  | .tup ds => some (.imm (.tup ds.reverse))
  | _ => none
def tRevT (K : PySem.W.Frag) (te : TE) : TE := fun σ H Q => te σ H fun x H1 => ∃ a xs, x = .ref a ∧ SqT K H1 a xs ∧ ∀ p, H1 p = none → Q (.ref p) (upd H1 p (.tup xs.reverse))
section
variable {X : Cx} {e : Expr} {te : TE} {pos : Pos} {f : EM}
theorem pe_revT {k : Nat} {p1 p2 p3 : Pos} (he : PE X e te) : PE X (.Subscript e (.Slice none none (some (.UnaryOp .USub (.Constant (.int 1) k p1) p2)) p3) pos) (tRevT X.K te) := by
  refine ⟨fun pins s σ H Q I h => ?_⟩
  refine Subscript_ (thn (he.run pins s σ H _ I h) fun v s1 ⟨x, H1, I1, r1, q1⟩ => ?_)
  obtain ⟨a, xs, ex, hx, q⟩ := q1
  subst ex
  cases r1
  have hst : PO X (some (.UnaryOp .USub (.Constant (.int 1) k p1) p2)) (tPart (tUn (rU fun i => .int (-i)) (tC (.int 1)))) := po_some (pe_un un_neg pe_int)
  refine wpAny_Slice (thn (po_none.run pins s1 σ H1 (fun o H2 => o = none ∧ H2 = H1) I1 ⟨rfl, rfl⟩) fun vl s2 ⟨l, H2, I2, pl, el, e2⟩ => ?_)
  subst el e2
  refine thn (po_none.run pins s2 σ H2 (fun o H3 => o = none ∧ H3 = H2) I2 ⟨rfl, rfl⟩) fun vu s3 ⟨u, H3, I3, pu, eu, e3⟩ => ?_
  subst eu e3
  refine thn (hst.run pins s3 σ H3 (fun o H4 => o = some (-1) ∧ H4 = H3) I3 ⟨1, rfl, -1, rfl, rfl, rfl⟩) fun vs s4 ⟨o, H4, I4, ps, eo, e4⟩ => ?_
  subst eo e4
  cases pl
  cases pu
  cases ps with
  | int _ tk =>
  have I5 : Inv X pins σ H4 { s4 with heap := s4.heap.push { cls := .type "slice", data := .fields #[.none, .none, .int (-1) tk] } } := I4.kept (t' := s4.toks) fun b ob q => Heap.get?_push_of_some _ q
  obtain ⟨its, r, ht, hz⟩ := I5.tuple hx
  have hlen := r.length
  show wpAny (model X.prog X.w) X.A (subscriptTail e (.Slice none none (some (.UnaryOp .USub (.Constant (.int 1) k p1) p2)) p3) (.ref a) (.ref s4.heap.objs.size)) (EP X pins σ Q) X.xe { s4 with heap := s4.heap.push { cls := .type "slice", data := .fields #[.none, .none, .int (-1) tk] } }
  refine tail_any (ops := [.ref a, .ref s4.heap.objs.size]) ht.typeIs PyProof.Rows.slot_tuple_getitem.lookup ?_ (by with_unfolding_all rfl)
  refine getItem_tuple_rev ht (Heap.IsSliceOf.new _ .none .none (.int (-1) tk)) ?_ (by rw [List.size_toArray]; omega)
  refine ⟨.ref _, _, I5.laid (t' := s4.toks) (o := .tup xs.reverse) (fun b ob q => Heap.get?_push_of_some _ q) (Nat.le_refl _) ?_, rfl, q _ (I5.hok.fresh (Nat.le_refl _))⟩
  exact ⟨by rw [List.length_reverse]; exact hz, _, r.reverse, IsTup.new _ _⟩
theorem de_revU {k : Nat} {p1 p2 p3 : Pos} (he : DE X e f) : DE X (.Subscript e (.Slice none none (some (.UnaryOp .USub (.Constant (.int 1) k p1) p2)) p3) pos) (eUn oRevU f) :=
  pe_imp (pe_revT he) fun σ H Q ⟨W, F, ρ, Γ, eK, S, e, Γ', ef, ok, q⟩ => by
    obtain ⟨e1, Γ1, h1, ef⟩ := bind_inv ef
    obtain ⟨ef, rfl⟩ := of_inv ef
    obtain ⟨d1, g1, ef⟩ := obind_inv ef
    cases d1 with
    | tup ds =>
      cases ef
      refine tE_then eK S h1 (ok_get g1) fun v1 F1 H1 s1 S1 r1 => ?_
      obtain ⟨a, vs, rfl, x1, q1⟩ := rd_tup (rd_get S1 r1 g1)
      exact ⟨a, vs, rfl, sqT_mono S1.sub (by rw [← eK]; exact x1), fun p hp => Wish.newt (fun v F' H' hs S' r' => q v F' H' (s1.trans hs) S' r') S1 hp (rpl_reverse q1)⟩
    | _ => cases ef
end
end DL

set_option maxHeartbeats 4000000
namespace DL
open PySem PySem.Spec PyProof.Rows L2 PyProof
section
variable {prog : Program} {w : World} {A : Around} {s : Shared}
theorem sortsAt_one {v : Value} {d : PyData} {as : List Addr} (r : Reads s.heap v d as) (al : PySem.W.alike d d = true) (hn : d ≠ .none) (hu : A.units + d.depth < cLine) : PySem.W.SortsAt prog w A s (PySem.W.dataKind s.heap [d]) [v] := by
  have hal : PySem.W.AllAlike [d] := fun x hx y hy => by rw [List.mem_singleton.mp hx, List.mem_singleton.mp hy]; exact al
  refine ⟨fun v' hv' => ?_, general', ?_, fun h2 => absurd h2 (by simp)⟩
  · rw [List.mem_singleton.mp hv']
    exact ⟨_, PySem.W.dataKind_some hal (List.mem_singleton.mpr rfl) r⟩
  · intro E x y a b Q ha hb hq
    obtain ⟨d1, as1, hd1, ra, rfl⟩ := PySem.W.dataKind_inv ha
    obtain ⟨d2, as2, hd2, rb, rfl⟩ := PySem.W.dataKind_inv hb
    have e1 := List.mem_singleton.mp hd1
    have e2 := List.mem_singleton.mp hd2
    subst e1 e2
    show wpAny (model prog w) A (oneLt' false x y) Q E s
    refine PySem.W.oneLt_alike (f := false) (fun h => by cases h) ra rb al hn ?_ hq
    rw [Nat.min_self]; exact hu
end
section
variable {X : Cx}
def rSorted1 (K : PySem.W.Frag) : List V → Hp → VK → Prop := fun vs H Q => ∃ (a : Addr) (x : V) (d : PyData), vs = [V.ref a] ∧ SqL K H a [x] ∧ Dp K H x d ∧ PySem.W.alike d d = true ∧ d ≠ .none ∧ d.depth ≤ 50 ∧ ∀ p, H p = none → Q (.ref p) (upd H p (.lst [x]))
theorem cr_sorted1 (hu : X.A.units + 64 < cLine) : CallR X (.builtin "sorted") (rSorted1 X.K) := by
  intro pins s σ H vs us Q I r h
  obtain ⟨a, x, d, rfl, hs, hd, al, hn, hdep, q⟩ := h
  obtain ⟨its, rv, hl, hz⟩ := I.list hs
  rw [Vals.ref1 r]
  cases rv with
  | cons r1 r2 =>
  cases r2
  rename_i v
  obtain ⟨e1, e2⟩ := reads_pair I [(d, x)] [v] (fun p hp => by rw [List.mem_singleton.mp hp]; exact hd) (.cons r1 .nil)
  cases e2 with
  | cons g1 _ =>
  obtain ⟨as, g1⟩ := g1
  have al' : PySem.W.AllAlike ([(d, x)].map (·.1)) := fun y hy z hz => by
    rw [List.mem_singleton.mp hy, List.mem_singleton.mp hz]; exact al
  have er' : PySem.W.EachIs (fun v (b : PyData × V) => ∃ as, Reads (PySem.W.sortingHeap (PySem.W.copyHeap s.heap [v]) (s.heap.objs.size + 1) [v]) v b.1 as) [v] [(d, x)] := .cons ⟨as, PyProof.Rows.Reads.keeps (fun _ _ => PySem.W.sorting_copy_old) g1⟩ .nil
  cases er' with
  | cons h1 _ =>
  obtain ⟨as', h1⟩ := h1
  refine PySem.W.sorted_vals hl.isList (sortsAt_one (s := { s with heap := PySem.W.sortingHeap (PySem.W.copyHeap s.heap [v]) (s.heap.objs.size + 1) [v] }) h1 al hn (by show X.A.units + 2 + d.depth < cLine; omega)) (by show 1 ≤ sizeLine; exact Nat.le_of_lt (sz63 (by decide))) ?_
  have hout : PySem.W.EachIs (fun u (p : PyData × V) => RelV p.2 u) (PySem.W.sortVals (PySem.W.dataKind (PySem.W.sortingHeap (PySem.W.copyHeap s.heap [v]) (s.heap.objs.size + 1) [v]) [d]) false [v] [v]) ([(d, x)].mergeSort (PySem.W.dataLe false (·.1))) :=
    PySem.W.sortVals_data (enc := fun p : PyData × V => p.1) false e1 (.cons ⟨as', h1⟩ .nil) al'
  rw [List.mergeSort_singleton] at hout
  obtain ⟨ep, he'⟩ := PyProof.Rows.sortedAll_at s.heap [v] (PySem.W.sortVals (PySem.W.dataKind (PySem.W.sortingHeap (PySem.W.copyHeap s.heap [v]) (s.heap.objs.size + 1) [v]) [d]) false [v] [v]).toArray
  exact ⟨.ref _, upd H (s.heap.objs.size + 1) (.lst [x]), I.laid (t' := s.toks) (fun _ _ => PyProof.Rows.sortedAll_old) (Nat.le_succ _) ⟨by show 1 ≤ sizeLine; exact Nat.le_of_lt (sz63 (by decide)), _, ep, vals_each hout, he'⟩, rfl, q _ (I.hok.fresh (Nat.le_succ _))⟩
def isTupD : D → Bool
  | .tup _ => true
  | _ => false
def oSortedV : OL := fun xs => match oSortedU xs with
  | some r => some r
  | none => match xs with
    | [.lst [d]] => if (isTupD d = true ∧ okE d = true) ∧ dalike d d = true ∧ dep d ≤ 50 then some (.fr (.lst [d])) else none
    | _ => none
def rSrtV (K : PySem.W.Frag) : List V → Hp → VK → Prop := fun vs H Q => rSrtU K vs H Q ∨ rSorted1 K vs H Q
theorem cr_sortedV (hu : X.A.units + 64 < cLine) : CallR X (.builtin "sorted") (rSrtV X.K) := CallR.or (cr_sortedU hu) (cr_sorted1 hu)
theorem cd_sortedV : CallD X (rSrtV X.K) oSortedV := by
  intro W F H ρ σ Γ ds vs e Q eK S r h w
  unfold oSortedV at h
  split at h
  · rename_i e' hr
    cases h
    exact .inl (cd_sortedU W F H ρ σ Γ ds vs e Q eK S r hr w)
  · rw [← eK]
    split at h
    · rename_i d _
      obtain ⟨v, rfl, rr⟩ := rdvs1 r
      obtain ⟨a, vs, rfl, h1, q1⟩ := rd_lst rr
      obtain ⟨⟨⟨k0, k1⟩, k2, k3⟩, rfl⟩ := if_some h
      obtain ⟨x, r', rfl, x1, q2⟩ := rpl_cons_inv q1
      have := rpl_nil_inv q2
      subst this
      refine .inr ⟨a, x, toPD d, rfl, .inl (.inl h1), (dp_of S.sub _ _ x1 k1).1, k2, ?_, by rw [dep_pd]; exact k3, fun p hp => ?_⟩
      · cases d with
        | tup ds => rw [toPD]; intro e; cases e
        | _ => cases k0
      · exact w.newl S hp (rpl_cons x1 rpl_nil)
    · cases h
theorem oSortedV_of {xs : List D} {e : EV} (h : oSortedU xs = some e) : oSortedV xs = some e := by unfold oSortedV; rw [h]
@[simp] theorem oSortedV_s (ss : List (List Nat)) : oSortedV [.lst (ss.map D.str)] = some (.fr (.lst ((isort ltS ss).map D.str))) := oSortedV_of (oSortedU_s ss)
end
end DL

set_option maxHeartbeats 4000000
namespace DL
open PySem PySem.Spec PyProof.Rows L2 PyProof
set_option maxHeartbeats 8000000 in
theorem meets_enumerate_newB1 {v : Value} {o : Obj} {H : Heap → Prop} (B : Begins v o H) :
    Meets (Builtin.«enumerate.__new__» ⟨[.type "enumerate", v], []⟩) (fun _ R s => H s.heap ∧
      R (.ok (.ret (.ref (s.heap.push o).objs.size))) { s with heap := (s.heap.push o).push { cls := .type "enumerate", data := .fields #[.none, .bool false, .ref s.heap.objs.size, rawInt 0, .none, .none] } }) :=
  .of_wp fun prog w A R s h => by
    obtain ⟨hp, g, d, tk, os⟩ := s; obtain ⟨h1, h⟩ := h
    have hsub := sub_enumerate
    have q1 : ∀ {A' : Around} {E : Value → Shared → Prop} {Q : Value → Shared → Prop}, Q (.ref hp.objs.size) ⟨hp.push o, g, d, tk, os⟩ → wpAny (model prog w) A' (pyIter v) Q E ⟨hp, g, d, tk, os⟩ :=
      fun q => B.iter prog w _ _ ⟨hp, g, d, tk, os⟩ _ h1 q
    wp_walk using q1
    refine wpAny_stack_any fun st => wpAny_pure ?_
    split
    · rename_i c _ _ _ _ _
      cases (c == Value.type "enumerate")
      · wp_walk using q1
        exact ⟨_, rfl, h⟩
      · wp_walk using q1
        exact ⟨_, rfl, h⟩
    · wp_walk using q1
      exact ⟨_, rfl, h⟩
section
variable {prog : Program} {w : World} {A : Around} {E : Value → Shared → Prop} {s : Shared}
theorem enum_begins1 {v : Value} {o : Obj} {H : Heap → Prop} {Q : Value → Shared → Prop} (B : Begins v o H) (h1 : H s.heap)
    (h : ∀ h', IsEnum h' (s.heap.objs.size + 1) s.heap.objs.size 0 .none → h'.get? s.heap.objs.size = some o → h'.objs.size = s.heap.objs.size + 2 →
      (∀ b o, s.heap.get? b = some o → h'.get? b = some o) → Q (.ref (s.heap.objs.size + 1)) { s with heap := h' }) :
    wpAny (model prog w) A (call (.type "enumerate") [v]) Q E s := by
  refine callType_new F.called_enumerate (by decide) (F.typeCall_enumerate_1 _) (F.newCall_enumerate_1 _) (fun obj => F.args_object_init_2 obj _) F.entry_enumerate_new
    (meets_enumerate_newB1 B) ⟨h1, ?_⟩
  have hz : (s.heap.push o).objs.size = s.heap.objs.size + 1 := Heap.size_push ..
  show _ ∧ _
  rw [hz]
  have he : IsEnum ((s.heap.push o).push { cls := .type "enumerate", data := .fields #[.none, .bool false, .ref s.heap.objs.size, rawInt 0, .none, .none] }) (s.heap.objs.size + 1) s.heap.objs.size 0 .none := by
    have := Heap.get?_push_size (s.heap.push o) (o := { cls := .type "enumerate", data := .fields #[.none, .bool false, .ref s.heap.objs.size, rawInt 0, .none, .none] }) rfl
    rw [hz] at this; exact this
  refine ⟨⟨_, he, rfl⟩, h _ he (Heap.get?_push_of_some _ (Heap.get?_push_size _ B.free)) (by rw [Heap.size_push, hz]) fun b o x => Heap.get?_push_of_some _ (Heap.get?_push_of_some _ x)⟩
end
/-- the tuple at a of n items, each item in a new pair -/
def Itt (K : PySem.W.Frag) (a : Addr) (n : Nat) : It :=
  ⟨fun i H => ∃ (xs : List V) (x : V), SqT K H a xs ∧ xs.length = n ∧ xs[i]? = some x, fun i H v H' => ∃ T x, v = .ref T ∧ H T = none ∧ H' = upd H T (.tup [.int (i : Nat), x]) ∧ ∀ xs, SqT K H a xs → xs[i]? = some x, fun i H => ∃ xs : List V, SqT K H a xs ∧ xs.length = n ∧ n ≤ i⟩
theorem tup_apart {h : Heap} {a b : Addr} {its : Array Value} {o : Obj} (ht : IsTup h a its) (hb : h.get? b = some o) (hc : o.cls ≠ .type "tuple") : a ≠ b := by
  rintro rfl
  obtain ⟨o', h1, h2, _⟩ := ht
  rw [hb] at h1
  cases h1
  exact hc h2
theorem turn_enumT {P : Program} {w : World} {K : PySem.W.Frag} {elts : List Expr} {kk : Nat} {tpos : Pos} (a e it : Addr) (n : Nat) :
    Turn P w K (.Tuple elts kk tpos) (Itt K a n) [e, it] e (fun i h => (∃ old, IsEnum h e it ((i : Nat) : Int) old) ∧ h.IsTupleIter it a i ∧ e ≠ it ∧ i ≤ n) where
  mem := by simp
  obj := fun i h st b hb => by
    obtain ⟨⟨old, he⟩, ⟨o, ho, hc, hd⟩, _⟩ := st
    have e' : b = e ∨ b = it := by simpa using hb
    rcases e' with z | z
    · rw [z]; exact ⟨_, he, fun v q => nomatch q⟩
    · rw [z]; exact ⟨o, ho, fun v q => by rw [hd] at q; cases q⟩
  keep := fun i h h' st k => let ⟨⟨old, he⟩, hi, hne, hle⟩ := st; ⟨⟨old, k e (by simp) _ he⟩, hi.at fun o q => k it (by simp) o q, hne, hle⟩
  item := by
    intro X hP hw hK hc i pins s σ H E I hf st hg
    subst hP hw hK
    obtain ⟨⟨old, he⟩, hit, hne, hle⟩ := st
    obtain ⟨xs, x, hq, hn, hx⟩ := hg
    obtain ⟨its, rv, p, hz⟩ := I.tuple hq
    obtain ⟨u, hu, ru⟩ := rv.get hx
    have hel : e < s.heap.objs.size := Heap.lt_size he
    have hil : it < s.heap.objs.size := by obtain ⟨_, q, _⟩ := hit; exact Heap.lt_size q
    have a1 : a ≠ e := tup_apart p he (by show Value.type "enumerate" ≠ .type "tuple"; decide)
    have a2 : a ≠ it := by
      obtain ⟨o, ho, hc', _⟩ := id hit
      exact tup_apart p ho (by rw [hc']; decide)
    have hlt : i < its.toArray.size := by
      have := rv.length
      have := (List.getElem?_eq_some_iff.mp hx).1
      rw [List.size_toArray]; omega
    have D := Draws.tuple (prog := X.prog) (w := X.w) (A := X.A.in1) (I.ok.hd hc) it a a2 its.toArray
    refine wpAny_pyNext_enum_itemD D he ⟨hit, p⟩ hlt hne (by simp [hne, Ne.symm a1]) fun y h' tk hy ho hit' hT hsz hk => ?_
    have ey : y = u := by
      have : its.toArray[i]? = some u := by simpa using hu
      rw [this] at hy
      exact (Option.some.inj hy).symm
    subst ey
    refine ⟨_, rfl, wpAny_letOwnedTupleGo_enum (s := { s with heap := h', toks := tk + 1 }) ho fun h'' he' sb => ?_⟩
    have hT2 : h''.get? s.heap.objs.size = some { cls := .type "tuple", data := .seq #[.int i tk, y] } := (sb.2 _ (Nat.ne_of_gt hel)).trans hT
    have new : ObjOk X.prog X.w (upd H s.heap.objs.size (.tup [.int (i : Nat), x])) h'' s.heap.objs.size (.tup [.int (i : Nat), x]) :=
      ⟨by show 2 ≤ sizeLine; decide, [.int i tk, y], .cons ⟨_, rfl⟩ (.cons ru .nil), ⟨_, hT2, rfl, _, rfl⟩⟩
    have I1 : Inv X pins σ (upd H s.heap.objs.size (.tup [.int (i : Nat), x])) { s with heap := h'', toks := tk + 1 } :=
      I.turnedNew (ch := [e, it]) (fun b ob hb q => (sb.2 b (fun z => hb (by simp [z]))).trans (hk b ob (fun z => hb (by simp [z])) (fun z => hb (by simp [z])) q)) hf (Nat.le_refl _) new
    refine ⟨.ref s.heap.objs.size, _, I1, rfl, ⟨_, x, rfl, I.hok.fresh (Nat.le_refl _), rfl, fun ys hy => by rw [I.tuple_inj hy hq]; exact hx⟩, ⟨⟨y, ?_⟩, hit'.1.at fun o q => (sb.2 it (Ne.symm hne)).trans q, hne, ?_⟩, fun b hb => ?_⟩
    · have e1 : ((i + 1 : Nat) : Int) = (i : Int) + 1 := by omega
      rw [e1]; exact he'
    · have := (List.getElem?_eq_some_iff.mp hx).1
      omega
    · have hb' : b < s.heap.objs.size := by
        have e' : b = e ∨ b = it := by simpa using hb
        rcases e' with z | z
        · rw [z]; exact hel
        · rw [z]; exact hil
      rw [upd_ne (Nat.ne_of_lt hb')]
      exact (hf b hb).1
  done := by
    intro X hP hw hK hc i pins s σ H E I hf st hg
    subst hP hw hK
    obtain ⟨⟨old, he⟩, hit, hne, hle⟩ := st
    obtain ⟨xs, hq, hn, hx⟩ := hg
    obtain ⟨its, rv, p, hz⟩ := I.tuple hq
    obtain ⟨f0, f1, f2, f3, f4, f5⟩ := hf it (by simp)
    have a2 : a ≠ it := by
      obtain ⟨o, ho, hc', _⟩ := id hit
      exact tup_apart p ho (by rw [hc']; decide)
    have D := Draws.tuple (prog := X.prog) (w := X.w) (A := X.A.in1) (I.ok.hd hc) it a a2 its.toArray
    have hi : i = its.toArray.size := by
      have := rv.length
      rw [List.size_toArray]; omega
    subst hi
    exact wpAny_pyNext_enum_endD D he ⟨hit, p⟩ fun h' eb => ⟨rfl, I.turned (t' := s.toks) (fun b o hb q => eb b o hb q) f0 f1 f3 f4 f5⟩
  self := fun A i s Q E st h => let ⟨⟨_, he⟩, _⟩ := st; wpAny_pyIter_enum he h
theorem pi_enumT {X : Cx} {e : Expr} {ta : TA} {p pos tpos : Pos} {elts : List Expr} {kk : Nat} (hg : Gl X "enumerate") (hm : X.mg "enumerate" = none) (ha : PA X [e] ta) (hs : starEach [e] X.env = [(false, eval e X.env)] := by rfl) :
    PI X (.Tuple elts kk tpos) (.Call (.Name "enumerate" p) [e] [] pos) (fun σ H R => ta σ H fun vs H1 => ∃ a xs, vs = [.ref a] ∧ SqT X.K H1 a xs ∧ R (Itt X.K a xs.length) H1) := by
  refine ⟨fun pins s σ H R I h => ?_⟩
  refine Call_ (ld_blt I hg hm boot_enumerate (PyProof.Rows.callWith_type1 (thn (ha.run pos pins s σ H _ I h) fun us s1 ⟨vs, H1, I1, r1, q1⟩ => ?_) hs rfl))
  obtain ⟨a, xs, ex, hq, q⟩ := q1
  subst ex
  cases r1 with
  | cons r rr =>
    cases rr
    cases r
    obtain ⟨its, rv, p', hz⟩ := I1.tuple hq
    refine enum_begins1 (begins_tuple a its.toArray) p' fun h' he hit hsz hk => wpAny_pyIter_enum he ?_
    have I2 : Inv X pins σ H1 { s1 with heap := h' } := I1.kept (t' := s1.toks) hk
    refine ⟨s1.heap.objs.size + 1, [s1.heap.objs.size + 1, s1.heap.objs.size], _, _, H1, rfl, I2, turn_enumT a (s1.heap.objs.size + 1) s1.heap.objs.size xs.length, ⟨⟨.none, he⟩, ⟨_, hit, rfl, rfl⟩, Nat.succ_ne_self _, Nat.zero_le _⟩, fun b hb => ?_, q⟩
    have e' : b = s1.heap.objs.size + 1 ∨ b = s1.heap.objs.size := by simpa using hb
    have hle : s1.heap.objs.size ≤ b := by
      rcases e' with z | z
      · rw [z]; exact Nat.le_add_right _ _
      · rw [z]; exact Nat.le_refl _
    exact I1.fpOk hle (I1.hok.fresh hle)
theorem itd_enumT {W : Wd} {F : Hp} {a : Addr} {vs : List V} {ds : List D} (h : SqT W.K F a vs) (r : RpL W.K F ds vs) : ItD W F (Itt W.K a vs.length) (enL ds) := by
  intro i W' F' H ρ σ Γ eK s S
  have hs : SqT W.K H a vs := sqT_mono (s.trans S.sub) h
  refine ⟨fun hl => ⟨vs, hs, rfl, by rw [← rpl_len r]; rw [enl_len] at hl; exact hl⟩, fun d hd => ?_⟩
  obtain ⟨x, hx, rfl⟩ := enl_get hd
  obtain ⟨v, hv, rv⟩ := rpl_get r hx
  refine ⟨⟨vs, v, hs, rfl, hv⟩, fun w H' y => ?_⟩
  obtain ⟨T, v', rfl, hT, rfl, y⟩ := y
  have := y vs hs
  rw [hv] at this; cases this
  obtain ⟨k, S2⟩ := S.allocF (o := .tup [.int (i : Nat), v]) hT
  refine ⟨_, k, S2, ?_, same_upd hT⟩
  exact rp_tup (upd_same) (rpl_cons rp_int (rpl_cons (by rw [eK]; exact Rp.mono (s.trans k) _ _ rv) rpl_nil))
/-- items with their places, of a tuple -/
def itemsT : D → Option (List D)
  | .tup ds => some (enL ds)
  | _ => none
def iEnmT (f : EM) : IM := fun Γ => match f Γ with
  | .ok e Γ1 => match e.fz with
    | .imm d => match itemsT d with
      | some ds => .ok ds Γ1
      | none => .stuck
    | _ => .stuck
  | .stuck => .stuck
theorem di_enumT {X : Cx} {a : Expr} {f : EM} {p pos tpos : Pos} {elts : List Expr} {kk : Nat} (hm : X.mg "enumerate" = none) (ha : DE X a f) (hg : Gl X "enumerate" := by rfl) (hs : starEach [a] X.env = [(false, eval a X.env)] := by rfl) (hs1 : starEach [a] X.env = (false, eval a X.env) :: starEach [] X.env := by rfl) :
    DI X (.Tuple elts kk tpos) (.Call (.Name "enumerate" p) [a] [] pos) (iEnmT f) :=
  pi_imp (pi_enumT hg hm (da_cons ha da_nil hs1) hs) fun σ H R ⟨W, F, ρ, Γ, eK, S, ds, Γ', ef, q⟩ => by
    unfold iEnmT at ef
    cases hf : f Γ with
    | stuck => rw [hf] at ef; cases ef
    | ok e Γ1 =>
      rw [hf] at ef
      dsimp only at ef
      cases he : e.fz with
      | imm d =>
        rw [he] at ef
        cases d with
        | tup xs =>
          cases ef
          refine ⟨W, F, ρ, Γ, eK, S, [.imm (.tup xs)], Γ', by simp only [aCons, hf, aNil, he], rfl, fun vs F1 H1 k S1 r1 => ?_⟩
          unfold RpEs at r1
          obtain ⟨v, ws, rfl, ra, rb⟩ := r1
          unfold RpEs at rb
          subst rb
          unfold RpE at ra
          obtain ⟨a, vs, rfl, h1, r1⟩ := rd_tup (rd_of ra (Same.refl F1))
          rw [← eK]
          exact ⟨a, vs, rfl, sqT_mono S1.sub h1, q _ _ _ k S1 (itd_enumT h1 r1)⟩
        | _ => cases ef
      | _ => rw [he] at ef; cases ef
def itT : EV → Option (List D)
  | .imm d => itemsT d
  | _ => none
@[simp] theorem itT_t (ds : List D) : itT (.imm (.tup ds)) = some (enL ds) := rfl
@[simp] theorem wI_enmT (f : EM) (Γ : Gm) (Q : List D → Gm → Prop) : wI (iEnmT f) Γ Q = wE f Γ fun e Γ1 => wO (itT e.fz) fun ds => Q ds Γ1 := by
  unfold wI iEnmT wE
  cases f Γ with
  | stuck => rfl
  | ok e Γ1 =>
    simp only [mE_ok]
    cases he : e.fz with
    | imm d => cases hd : itemsT d <;> simp [itT, hd]
    | _ => simp [itT]
end DL

set_option maxHeartbeats 4000000
namespace DL
open PySem PySem.Spec PyProof.Rows L2 PyProof
/-- what is gone through: a list, a tuple, a text -/
inductive Src
  | lst (a : Addr)
  | tup (a : Addr)
  | txt (x : Str) (t : Tok)
def Src.base : Src → List Addr
  | .lst a => [a]
  | .tup a => [a]
  | .txt _ _ => []
def Src.val : Src → Value
  | .lst a => .ref a
  | .tup a => .ref a
  | .txt x t => .str x t
def Src.cell : Src → Obj
  | .lst a => { cls := .type "list_iterator", data := .fields #[.ref a, .int 0 0] }
  | .tup a => { cls := .type "tuple_iterator", data := .fields #[.ref a, .int 0 0] }
  | .txt x t => { cls := .type (strIterType x), data := .fields #[.str x t, .int 0 0] }
def txtV (x : Str) : List V := x.cps.toList.map fun c => V.str ⟨#[c]⟩
def Src.holds (K : PySem.W.Frag) (H : Hp) : Src → List V → Prop
  | .lst a, xs => SqL K H a xs
  | .tup a, xs => SqT K H a xs
  | .txt x _, xs => xs = txtV x
/-- its iterator, at i -/
def Src.at (it : Addr) (i : Nat) (h : Heap) : Src → Prop
  | .lst a => h.IsListIter it a i
  | .tup a => h.IsTupleIter it a i
  | .txt x t => h.IsStrIter it (strIterType x) x t i
theorem Src.obj {S : Src} {it : Addr} {i : Nat} {h : Heap} (k : S.at it i h) : ∃ o, h.get? it = some o ∧ ∀ v, o.data ≠ .cell v := by
  cases S with
  | lst a => obtain ⟨o, ho, _, hd⟩ := k; exact ⟨o, ho, fun v q => by rw [hd] at q; cases q⟩
  | tup a => obtain ⟨o, ho, _, hd⟩ := k; exact ⟨o, ho, fun v q => by rw [hd] at q; cases q⟩
  | txt x t => obtain ⟨o, ho, _, hd⟩ := k; exact ⟨o, ho, fun v q => by rw [hd] at q; cases q⟩
theorem Src.keep {S : Src} {it : Addr} {i : Nat} {h h' : Heap} (k : S.at it i h) (hk : ∀ o, h.get? it = some o → h'.get? it = some o) : S.at it i h' := by
  cases S with
  | lst a => obtain ⟨o, ho, r⟩ := k; exact ⟨o, hk o ho, r⟩
  | tup a => obtain ⟨o, ho, r⟩ := k; exact ⟨o, hk o ho, r⟩
  | txt x t => obtain ⟨o, ho, r⟩ := k; exact ⟨o, hk o ho, r⟩
theorem Src.inj {X : Cx} {pins : List (Addr × Obj)} {σ : L2.St} {H : Hp} {s : Shared} (I : Inv X pins σ H s) {S : Src} {xs ys : List V} (h1 : S.holds X.K H xs) (h2 : S.holds X.K H ys) : xs = ys := by
  cases S with
  | lst a => exact I.list_inj h1 h2
  | tup a => exact I.tuple_inj h1 h2
  | txt x t => exact h1.trans h2.symm
theorem vals_back {xs : List V} {its : List Value} (rv : Vals xs its) {i : Nat} {v : Value} (h : its.toArray[i]? = some v) : ∃ x, xs[i]? = some x ∧ RelV x v := by
  have hl := rv.length
  have h' : its[i]? = some v := by simpa using h
  have hi := (List.getElem?_eq_some_iff.mp h').1
  have hx : xs[i]? = some xs[i] := List.getElem?_eq_getElem (by omega)
  obtain ⟨u, hu, ru⟩ := rv.get hx
  rw [h'] at hu
  cases hu
  exact ⟨_, hx, ru⟩
/-- what the iterator draws -/
theorem Src.draw {X : Cx} {pins : List (Addr × Obj)} {σ : L2.St} {H : Hp} {s : Shared} (I : Inv X pins σ H s) (hh : X.A.handled = none) {S : Src} {it : Addr} {xs : List V} (hx : S.holds X.K H xs) (hb : ∀ b ∈ S.base, b ≠ it) :
    ∃ (P : Nat → Value → Prop) (St : Nat → Heap → Prop), Draws X.prog X.w X.A.in1 it (it :: S.base) xs.length P St ∧ (∀ i, S.at it i s.heap → St i s.heap) ∧ (∀ i h, St i h → S.at it i h) ∧ ∀ i v, P i v → ∃ x, xs[i]? = some x ∧ RelV x v := by
  cases S with
  | lst a =>
    obtain ⟨its, rv, p, _⟩ := I.list hx
    have hl := rv.length
    have D := Draws.list (prog := X.prog) (w := X.w) (A := X.A.in1) hh it a (hb a (by simp [Src.base])) its.toArray
    rw [List.size_toArray, ← hl] at D
    exact ⟨_, _, D, fun i k => ⟨k, p.isList⟩, fun i h k => k.1, fun i v k => vals_back rv k⟩
  | tup a =>
    obtain ⟨its, rv, p, _⟩ := I.tuple hx
    have hl := rv.length
    have D := Draws.tuple (prog := X.prog) (w := X.w) (A := X.A.in1) hh it a (hb a (by simp [Src.base])) its.toArray
    rw [List.size_toArray, ← hl] at D
    exact ⟨_, _, D, fun i k => ⟨k, p⟩, fun i h k => k.1, fun i v k => vals_back rv k⟩
  | txt x t =>
    have D := Draws.text (prog := X.prog) (w := X.w) (A := X.A.in1) hh it x t
    have e : xs.length = x.cps.size := by rw [show xs = txtV x from hx]; simp [txtV]
    rw [← e] at D
    refine ⟨_, _, D, fun i k => k, fun i h k => k, fun i v k => ?_⟩
    obtain ⟨c, u, hc, rfl⟩ := k
    refine ⟨.str ⟨#[c]⟩, ?_, ⟨u, rfl⟩⟩
    rw [show xs = txtV x from hx]
    unfold txtV
    rw [List.getElem?_map, Array.getElem?_toList, hc]
    rfl
theorem Src.begins {X : Cx} {pins : List (Addr × Obj)} {σ : L2.St} {H : Hp} {s : Shared} (I : Inv X pins σ H s) {S : Src} {xs : List V} (hx : S.holds X.K H xs) : ∃ Hs : Heap → Prop, Begins S.val S.cell Hs ∧ Hs s.heap ∧ ∀ b ∈ S.base, b < s.heap.objs.size := by
  cases S with
  | lst a =>
    obtain ⟨its, rv, p, _⟩ := I.list hx
    exact ⟨_, begins_list a its.toArray, p.isList, fun b hb => by rw [List.mem_singleton.mp hb]; exact p.lt⟩
  | tup a =>
    obtain ⟨its, rv, p, _⟩ := I.tuple hx
    exact ⟨_, begins_tuple a its.toArray, p, fun b hb => by rw [List.mem_singleton.mp hb]; obtain ⟨o, ho, _⟩ := p; exact Heap.lt_size ho⟩
  | txt x t => exact ⟨_, begins_text x t, trivial, fun b hb => nomatch hb⟩
theorem Src.at0 {S : Src} {it : Addr} {h : Heap} (k : h.get? it = some S.cell) : S.at it 0 h := by
  cases S with
  | lst a => exact ⟨_, k, rfl, rfl⟩
  | tup a => exact ⟨_, k, rfl, rfl⟩
  | txt x t => exact ⟨_, k, rfl, rfl⟩
/-- two at once, the items in new pairs -/
def Itq (K : PySem.W.Frag) (S1 S2 : Src) (n1 n2 : Nat) : It :=
  ⟨fun i H => ∃ xs ys : List V, S1.holds K H xs ∧ S2.holds K H ys ∧ xs.length = n1 ∧ ys.length = n2 ∧ i < n1 ∧ i < n2,
    fun i H v H' => ∃ T x y, v = .ref T ∧ H T = none ∧ H' = upd H T (.tup [x, y]) ∧ (∀ xs, S1.holds K H xs → xs[i]? = some x) ∧ ∀ ys, S2.holds K H ys → ys[i]? = some y,
    fun i H => ∃ xs ys : List V, S1.holds K H xs ∧ S2.holds K H ys ∧ xs.length = n1 ∧ ys.length = n2 ∧ (n1 ≤ i ∨ n2 ≤ i)⟩
theorem turn_zipS {P : Program} {w : World} {K : PySem.W.Frag} {elts : List Expr} {kk : Nat} {tpos : Pos} (S1 S2 : Src) (N n1 n2 : Nat) (b1 : ∀ b ∈ S1.base, b < N) (b2 : ∀ b ∈ S2.base, b < N) :
    Turn P w K (.Tuple elts kk tpos) (Itq K S1 S2 n1 n2) [N + 4, N + 2, N + 3, N, N + 1] (N + 4) (fun i h => IsZip h (N + 4) (N + 2) (N + 3) .none ∧ IsTupOf2 h (N + 2) (.ref N) (.ref (N + 1)) ∧ (∃ x y, IsTupOf2 h (N + 3) x y) ∧ S1.at N i h ∧ S2.at (N + 1) i h ∧ i ≤ n1 ∧ i ≤ n2) where
  mem := by simp
  obj := fun i h st c hc => by
    obtain ⟨hz, hTI, ⟨x, y, hTO⟩, k1, k2, _⟩ := st
    have e' : c = N + 4 ∨ c = N + 2 ∨ c = N + 3 ∨ c = N ∨ c = N + 1 := by simpa using hc
    rcases e' with q | q | q | q | q
    · rw [q]; exact ⟨_, hz, fun v q => nomatch q⟩
    · rw [q]; exact ⟨_, hTI, fun v q => nomatch q⟩
    · rw [q]; exact ⟨_, hTO, fun v q => nomatch q⟩
    · rw [q]; exact Src.obj k1
    · rw [q]; exact Src.obj k2
  keep := fun i h h' st k => by
    obtain ⟨hz, hTI, ⟨x, y, hTO⟩, h1, h2, l1, l2⟩ := st
    exact ⟨k (N + 4) (by simp) _ hz, k (N + 2) (by simp) _ hTI, ⟨x, y, k (N + 3) (by simp) _ hTO⟩, Src.keep h1 fun o q => k N (by simp) o q, Src.keep h2 fun o q => k (N + 1) (by simp) o q, l1, l2⟩
  item := by
    intro X hP hw hK hc i pins s σ H E I hf st hg
    subst hP hw hK
    obtain ⟨hz, hTI, ⟨x0, y0, hTO⟩, h1, h2, l1, l2⟩ := st
    obtain ⟨xs, ys, hqx, hqy, e1, e2, g1, g2⟩ := hg
    obtain ⟨P1, St1, D1, a1, c1, v1⟩ := Src.draw I (I.ok.hd hc) (it := N) hqx (fun b hb => Nat.ne_of_lt (b1 b hb))
    obtain ⟨P2, St2, D2, a2, c2, v2⟩ := Src.draw I (I.ok.hd hc) (it := N + 1) hqy (fun b hb => Nat.ne_of_lt (Nat.lt_succ_of_lt (b2 b hb)))
    have Z := zip_sep2 b1 b2
    have hzl : N + 4 < s.heap.objs.size := Heap.lt_size hz
    refine wpAny_pyNext_zipD2_item Z D1 D2 hz hTI hTO (a1 i h1) (a2 i h2) (by omega) (by omega) fun u u2 h' tk hu hu2 z' TO' h1' h2' hT hsz hk => ?_
    obtain ⟨x, hx, ru⟩ := v1 i u hu
    obtain ⟨y, hy, ru2⟩ := v2 i u2 hu2
    refine ⟨_, rfl, wpAny_letOwnedTupleGo_zip (s := { s with heap := h', toks := tk }) z' fun h'' z'' sb => ?_⟩
    have hT2 : h''.get? s.heap.objs.size = some { cls := .type "tuple", data := .seq #[u, u2] } := (sb.2 _ (Nat.ne_of_gt hzl)).trans hT
    have new : ObjOk X.prog X.w (upd H s.heap.objs.size (.tup [x, y])) h'' s.heap.objs.size (.tup [x, y]) :=
      ⟨by show 2 ≤ sizeLine; decide, [u, u2], .cons ru (.cons ru2 .nil), ⟨_, hT2, rfl, _, rfl⟩⟩
    have I1 : Inv X pins σ (upd H s.heap.objs.size (.tup [x, y])) { s with heap := h'', toks := tk } :=
      I.turnedNew (t' := tk) (ch := [N + 4, N + 2, N + 3, N, N + 1]) (fun c o hb q => (sb.2 c (fun q' => hb (by simp [q']))).trans (hk c o (fun q' => hb (by simp [q'])) (fun q' => hb (by simp [q'])) (fun q' => hb (by simp [q'])) (fun q' => hb (by simp [q'])) q)) hf (Nat.le_refl _) new
    refine ⟨.ref s.heap.objs.size, _, I1, rfl, ⟨_, x, y, rfl, I.hok.fresh (Nat.le_refl _), rfl, fun l hl => by rw [Src.inj I hl hqx]; exact hx, fun l hl => by rw [Src.inj I hl hqy]; exact hy⟩, ⟨z'', ?_, ⟨u, u2, ?_⟩, ?_, ?_, by omega, by omega⟩, fun c hcm => ?_⟩
    · exact (sb.2 _ Z.TIz).trans (hk _ _ Z.TIz Z.TITO Z.TIi1 Z.TIi2 hTI)
    · exact (sb.2 _ Z.TOz).trans TO'
    · exact Src.keep (c1 _ _ h1') fun o q => (sb.2 _ (Ne.symm Z.zi1)).trans q
    · exact Src.keep (c2 _ _ h2') fun o q => (sb.2 _ (Ne.symm Z.zi2)).trans q
    · have hlt : c < s.heap.objs.size := by
        have e' : c = N + 4 ∨ c = N + 2 ∨ c = N + 3 ∨ c = N ∨ c = N + 1 := by simpa using hcm
        have hzl' : (N + 4 : Nat) < s.heap.objs.size := hzl
        have e'' : (c : Nat) ≤ N + 4 := by rcases e' with q | q | q | q | q <;> (rw [q]; first | exact Nat.le_refl _ | (show (_ : Nat) ≤ N + 4; omega))
        exact Nat.lt_of_le_of_lt e'' hzl'
      rw [upd_ne (Nat.ne_of_lt hlt)]
      exact (hf c hcm).1
  done := by
    intro X hP hw hK hc i pins s σ H E I hf st hg
    subst hP hw hK
    obtain ⟨hz, hTI, ⟨x0, y0, hTO⟩, h1, h2, l1, l2⟩ := st
    obtain ⟨xs, ys, hqx, hqy, e1, e2, hend⟩ := hg
    obtain ⟨P1, St1, D1, a1, c1, v1⟩ := Src.draw I (I.ok.hd hc) (it := N) hqx (fun b hb => Nat.ne_of_lt (b1 b hb))
    obtain ⟨P2, St2, D2, a2, c2, v2⟩ := Src.draw I (I.ok.hd hc) (it := N + 1) hqy (fun b hb => Nat.ne_of_lt (Nat.lt_succ_of_lt (b2 b hb)))
    have Z := zip_sep2 b1 b2
    exact wpAny_pyNext_zipD2_end Z D1 D2 hz hTI hTO (a1 i h1) (a2 i h2) (by omega) (by omega) (by omega) fun h' tk hk => ⟨rfl, I.turnedL (t' := tk) (ch := [N + 4, N + 2, N + 3, N, N + 1]) (fun c o hb q =>
      hk c o (fun q' => hb (by simp [q'])) (fun q' => hb (by simp [q'])) (fun q' => hb (by simp [q'])) (fun q' => hb (by simp [q'])) q) hf⟩
  self := fun A i s Q E st h => wpAny_pyIter_zip st.1 h
/-! ### the call -/
inductive Sk
  | lst (a : Addr)
  | tup (a : Addr)
  | txt (x : Str)
def Sk.v : Sk → V
  | .lst a => .ref a
  | .tup a => .ref a
  | .txt x => .str x
def Sk.src (t : Tok) : Sk → Src
  | .lst a => .lst a
  | .tup a => .tup a
  | .txt x => .txt x t
theorem Sk.rel {k : Sk} {u : Value} (r : RelV k.v u) : ∃ t, u = (k.src t).val := by
  cases k with
  | lst a => cases r; exact ⟨0, rfl⟩
  | tup a => cases r; exact ⟨0, rfl⟩
  | txt x => obtain ⟨t, rfl⟩ := r; exact ⟨t, rfl⟩
theorem Sk.any {k : Sk} {K : PySem.W.Frag} {H : Hp} {xs : List V} (t t' : Tok) (h : (k.src t).holds K H xs) : (k.src t').holds K H xs := by
  cases k <;> exact h
theorem pi_zipS {X : Cx} {e e2 : Expr} {ta : TA} {p pos tpos : Pos} {elts : List Expr} {kk : Nat} (hg : Gl X "zip") (hm : X.mg "zip" = none) (ha : PA X [e, e2] ta)
    (hs : starEach [e, e2] X.env = (false, eval e X.env) :: starEach [e2] X.env := by rfl) (hpl : (backTo pos (starEach [e2] X.env)).any (·.1) = false := by rfl) :
    PI X (.Tuple elts kk tpos) (.Call (.Name "zip" p) [e, e2] [] pos) (fun σ H R => ta σ H fun vs H1 => ∃ (k1 k2 : Sk) (xs ys : List V), vs = [k1.v, k2.v] ∧ (k1.src 0).holds X.K H1 xs ∧ (k2.src 0).holds X.K H1 ys ∧ ∀ t1 t2, R (Itq X.K (k1.src t1) (k2.src t2) xs.length ys.length) H1) := by
  refine ⟨fun pins s σ H R I h => ?_⟩
  refine Call_ (ld_blt I hg hm PyProof.Rows.boot_zip (PyProof.Rows.callWith_type1 (thn (ha.run pos pins s σ H _ I h) fun us s1 ⟨vs, H1, I1, r1, q1⟩ => ?_) hs hpl))
  obtain ⟨k1, k2, xs, ys, ex, hqx, hqy, q⟩ := q1
  subst ex
  cases r1 with
  | cons r rr =>
    cases rr with
    | cons r' rr =>
      cases rr
      obtain ⟨t1, rfl⟩ := Sk.rel r
      obtain ⟨t2, rfl⟩ := Sk.rel r'
      obtain ⟨H1', B1, g1, b1⟩ := Src.begins I1 (Sk.any 0 t1 hqx)
      obtain ⟨H2', B2, g2, b2⟩ := Src.begins I1 (Sk.any 0 t2 hqy)
      refine zip_begins2 B1 B2 g1 g2 fun h' hz hTI hTO h1 h2 hsz hk => wpAny_pyIter_zip hz ?_
      have I2 : Inv X pins σ H1 { s1 with heap := h' } := I1.kept (t' := s1.toks) hk
      refine ⟨s1.heap.objs.size + 4, [s1.heap.objs.size + 4, s1.heap.objs.size + 2, s1.heap.objs.size + 3, s1.heap.objs.size, s1.heap.objs.size + 1], _, _, H1, rfl, I2, turn_zipS (k1.src t1) (k2.src t2) s1.heap.objs.size xs.length ys.length b1 b2, ⟨hz, hTI, ⟨_, _, hTO⟩, Src.at0 h1, Src.at0 h2, Nat.zero_le _, Nat.zero_le _⟩, fun c hcm => ?_, q t1 t2⟩
      have e' : c = s1.heap.objs.size + 4 ∨ c = s1.heap.objs.size + 2 ∨ c = s1.heap.objs.size + 3 ∨ c = s1.heap.objs.size ∨ c = s1.heap.objs.size + 1 := by simpa using hcm
      have hle : s1.heap.objs.size ≤ c := by
        rcases e' with z | z | z | z | z
        · rw [z]; exact Nat.le_add_right _ _
        · rw [z]; exact Nat.le_add_right _ _
        · rw [z]; exact Nat.le_add_right _ _
        · rw [z]; exact Nat.le_refl _
        · rw [z]; exact Nat.le_add_right _ _
      exact I1.fpOk hle (I1.hok.fresh hle)
/-! ### as data -/
def seqI : D → Option (List D)
  | .str s => some (s.map fun c => .str [c])
  | .lst ds => some ds
  | .frl ds => some ds
  | .tup ds => some ds
  | _ => none
def zipD (l m : List D) : List D := List.zipWith (fun a b => .tup [a, b]) l m
theorem src_of {W : Wd} {F : Hp} {ρ : Nat → Option Addr} {d : D} {v : V} {ds : List D} (r : RpE W F F ρ (.imm d) v) (h : seqI d = some ds) : ∃ (k : Sk) (vs : List V), v = k.v ∧ RpL W.K F ds vs ∧ ∀ t F' H', Same F F' → Same F' H' → (k.src t).holds W.K H' vs := by
  unfold RpE at r
  cases d with
  | str z =>
    cases h
    obtain ⟨rfl, ok⟩ := rd_str (F := F) (H := F) (rd_of r (Same.refl F))
    refine ⟨.txt (mkS z), txtV (mkS z), rfl, ?_, fun t F' H' _ _ => rfl⟩
    have e : txtV (mkS z) = z.map fun c => V.str ⟨#[c]⟩ := by unfold txtV; simp [mkS]
    rw [e]
    clear e r
    induction z with
    | nil => exact rpl_nil
    | cons c z ih =>
      refine rpl_cons (rp_str (okS_one ok (by simp))) (ih (okS_sub ok (by simp) fun c hc => by simp [hc]))
  | lst xs =>
    cases h
    obtain ⟨a, vs, rfl, h1, r1⟩ := rd_lst (rd_of r (Same.refl F))
    exact ⟨.lst a, vs, rfl, r1, fun t F' H' s s' => (s.trans s').seq (.inl (.inl h1))⟩
  | frl xs =>
    cases h
    obtain ⟨a, vs, rfl, h1, r1⟩ := rd_frl (F := F) (H := F) (rd_of r (Same.refl F))
    exact ⟨.lst a, vs, rfl, r1, fun t F' H' s s' => (s.trans s').seq h1⟩
  | tup xs =>
    cases h
    obtain ⟨a, vs, rfl, h1, r1⟩ := rd_tup (F := F) (H := F) (rd_of r (Same.refl F))
    exact ⟨.tup a, vs, rfl, r1, fun t F' H' s s' => sqT_mono (s.trans s') h1⟩
  | _ => cases h
theorem itd_zip {W : Wd} {F : Hp} {k1 k2 : Sk} {t1 t2 : Tok} {xs ys : List V} {l m : List D} (h1 : ∀ t F' H', Same F F' → Same F' H' → (k1.src t).holds W.K H' xs) (h2 : ∀ t F' H', Same F F' → Same F' H' → (k2.src t).holds W.K H' ys) (r1 : RpL W.K F l xs) (r2 : RpL W.K F m ys) :
    ItD W F (Itq W.K (k1.src t1) (k2.src t2) xs.length ys.length) (zipD l m) := by
  intro i W' F' H ρ σ Γ eK s S
  have q1 := h1 t1 F' H s S.sub
  have q2 := h2 t2 F' H s S.sub
  have e1 := rpl_len r1
  have e2 := rpl_len r2
  have zl : (zipD l m).length = min l.length m.length := by unfold zipD; rw [List.length_zipWith]
  refine ⟨fun hl => ⟨xs, ys, q1, q2, rfl, rfl, by rw [zl] at hl; omega⟩, fun d hd => ?_⟩
  have hi := (List.getElem?_eq_some_iff.mp hd).1
  rw [zl] at hi
  have hd' : d = .tup [l[i]'(by omega), m[i]'(by omega)] := by
    unfold zipD at hd
    rw [List.getElem?_zipWith, List.getElem?_eq_getElem (show i < l.length by omega), List.getElem?_eq_getElem (show i < m.length by omega)] at hd
    exact (Option.some.inj hd).symm
  obtain ⟨v, hv, rv⟩ := rpl_get r1 (List.getElem?_eq_getElem (show i < l.length by omega))
  obtain ⟨u, hu, ru⟩ := rpl_get r2 (List.getElem?_eq_getElem (show i < m.length by omega))
  subst hd'
  refine ⟨⟨xs, ys, q1, q2, rfl, rfl, by omega, by omega⟩, fun w H' y => ?_⟩
  obtain ⟨T, x', y', rfl, hT, rfl, y1, y2⟩ := y
  have a1 := y1 xs q1
  have a2 := y2 ys q2
  rw [hv] at a1; cases a1
  rw [hu] at a2; cases a2
  obtain ⟨k, S2⟩ := S.allocF (o := .tup [v, u]) hT
  refine ⟨_, k, S2, ?_, same_upd hT⟩
  exact rp_tup (upd_same) (rpl_cons (by rw [eK]; exact Rp.mono (s.trans k) _ _ rv) (rpl_cons (by rw [eK]; exact Rp.mono (s.trans k) _ _ ru) rpl_nil))
def zpE : List EV → Option (List D)
  | [.imm d1, .imm d2] => (seqI d1).bind fun l => (seqI d2).map fun m => zipD l m
  | _ => none
def iZipD (a : AM) : IM := fun Γ => match a Γ with
  | .ok es Γ1 => match zpE es with
    | some ds => .ok ds Γ1
    | none => .stuck
  | .stuck => .stuck
theorem di_zip {X : Cx} {a b : Expr} {f g : EM} {p pos tpos : Pos} {elts : List Expr} {kk : Nat} (hm : X.mg "zip" = none) (ha : DA X [a, b] (aCons f (aCons g aNil))) (hg : Gl X "zip" := by rfl)
    (hs : starEach [a, b] X.env = (false, eval a X.env) :: starEach [b] X.env := by rfl) (hpl : (backTo pos (starEach [b] X.env)).any (·.1) = false := by rfl) :
    DI X (.Tuple elts kk tpos) (.Call (.Name "zip" p) [a, b] [] pos) (iZipD (aCons f (aCons g aNil))) :=
  pi_imp (pi_zipS hg hm ha hs hpl) fun σ H R ⟨W, F, ρ, Γ, eK, S, ds, Γ', ef, q⟩ => by
    unfold iZipD at ef
    cases hf : aCons f (aCons g aNil) Γ with
    | stuck => rw [hf] at ef; cases ef
    | ok es Γ1 =>
      rw [hf] at ef
      dsimp only at ef
      cases hz : zpE es with
      | none => rw [hz] at ef; cases ef
      | some zs =>
        rw [hz] at ef
        cases ef
        unfold zpE at hz
        split at hz
        · rename_i d1 d2
          obtain ⟨l, h1, hz⟩ := obind_inv hz
          obtain ⟨m, h2, rfl⟩ := omap_inv hz
          have ok : EV.oks [.imm d1, .imm d2] = true := rfl
          refine ⟨W, F, ρ, Γ, eK, S, [.imm d1, .imm d2], Γ', hf, ok, fun vs F1 H1 k S1 r1 => ?_⟩
          unfold RpEs at r1
          obtain ⟨v1, ws, rfl, ra, rb⟩ := r1
          unfold RpEs at rb
          obtain ⟨v2, ws, rfl, rb, rc⟩ := rb
          unfold RpEs at rc
          subst rc
          obtain ⟨k1, xs, rfl, rl1, p1⟩ := src_of (F := F1) (ρ := ρ) (by unfold RpE at ra ⊢; exact ra) h1
          obtain ⟨k2, ys, rfl, rl2, p2⟩ := src_of (F := F1) (ρ := ρ) (by unfold RpE at rb ⊢; exact rb) h2
          rw [← eK]
          exact ⟨k1, k2, xs, ys, rfl, p1 0 F1 H1 (Same.refl F1) S1.sub, p2 0 F1 H1 (Same.refl F1) S1.sub, fun t1 t2 => q _ _ _ k S1 (itd_zip p1 p2 rl1 rl2)⟩
        · cases hz
def wZp (es : List EV) (Q : List D → Prop) : Prop := wO (zpE es) Q
@[simp] theorem wZp_i (d1 d2 : D) (Q : List D → Prop) : wZp [.imm d1, .imm d2] Q = wO (seqI d1) fun l => wO (seqI d2) fun m => Q (zipD l m) := by
  unfold wZp zpE
  rw [wO_bind]
  congr; funext l
  rw [wO_map]
@[simp] theorem seqI_s (s : List Nat) : seqI (.str s) = some (s.map fun c => .str [c]) := rfl
@[simp] theorem seqI_l (ds : List D) : seqI (.lst ds) = some ds := rfl
@[simp] theorem seqI_f (ds : List D) : seqI (.frl ds) = some ds := rfl
@[simp] theorem seqI_t (ds : List D) : seqI (.tup ds) = some ds := rfl
@[simp] theorem wI_zip (a : AM) (Γ : Gm) (Q : List D → Gm → Prop) : wI (iZipD a) Γ Q = wA a Γ fun es Γ1 => wZp es fun ds => Q ds Γ1 := by
  unfold wI iZipD wA
  cases a Γ with
  | stuck => rfl
  | ok es Γ1 =>
    dsimp only
    unfold wZp
    cases zpE es <;> simp
end DL

set_option maxHeartbeats 4000000
namespace DL
open PySem PySem.Spec PyProof.Rows L2
/-- a new dict of one pair, both constants -/
def eD1 (z : List Nat) (d : D) : EM := fun Γ => .ok (.fr (dicL [(kS z, d)])) Γ
section
variable {X : Cx} {pos p1 : Pos}
theorem disp_core {e : Expr} {j : Nat} {x : Str} {z : List Nat} {d : D} {v : V} (hx : x = mkS z) (hv : PE X e (tC v)) (hr : ∀ K F, Rp K F d v) {p : Pos} : DE X (.Dict [some (.Constant (.str x) j p)] [e] pos) (eD1 z d) := by
  subst hx
  exact pe_imp (pe_disp (pps_cons pe_str hv pps_nil) rfl rfl (by simp) (by simp)) fun σ H Q ⟨W, F, ρ, Γ, eK, S, e, Γ', ef, ok, q⟩ => by
    cases ef
    intro p hp
    refine ⟨upd_same, [(kS z, v)], rfl, by simp, ?_⟩
    have e1 : mergeK [] [(kS z, v)] = [(kS z, v)] := rfl
    rw [e1]
    have e2 : upd (upd H p (.dK [])) p (.dK [(kS z, v)]) = upd H p (.dK [(kS z, v)]) := by
      funext x
      by_cases h : x = p
      · subst h; rw [upd_same, upd_same]
      · rw [upd_ne h, upd_ne h, upd_ne h]
    rw [e2]
    refine q (.ref p) F _ (Same.refl _) (S.alloc hp) ?_
    unfold RpE
    refine ⟨p, rfl, own_dic upd_same ?_, (S.fresh hp).up⟩
    exact .cons ⟨rfl, hr _ _⟩ .nil
theorem de_d1i {j j' : Nat} {x : Str} {z : List Nat} {i : Int} {p p' : Pos} (hx : x = mkS z := by first | rfl | decide +kernel) : DE X (.Dict [some (.Constant (.str x) j p)] [.Constant (.int i) j' p'] pos) (eD1 z (.int i)) :=
  disp_core hx pe_int fun _ _ => rp_int
theorem de_d1b {j j' : Nat} {x : Str} {z : List Nat} {b : Bool} {p p' : Pos} (hx : x = mkS z := by first | rfl | decide +kernel) : DE X (.Dict [some (.Constant (.str x) j p)] [.Constant (.bool b) j' p'] pos) (eD1 z (.bl b)) :=
  disp_core hx pe_bl fun _ _ => rp_bl
end
@[simp] theorem wE_d1 (z : List Nat) (d : D) (Γ : Gm) (Q : EV → Gm → Prop) : wE (eD1 z d) Γ Q = Q (.fr (dicL [(kS z, d)])) Γ := rfl
end DL

set_option maxHeartbeats 4000000
namespace DL
open PySem PySem.Spec PyProof.Rows L2 PyProof
def sItems (xs : Array (Str × Tok)) : Array Value := xs.map fun p => .str p.1 p.2
def sAt (xs : Array (Str × Tok)) (i : Nat) : Str := (xs[i]?.map (·.1)).getD Str.empty
theorem sItems_at {xs : Array (Str × Tok)} {i : Nat} {v : Value} (h : (sItems xs)[i]? = some v) : ∃ t, v = .str (sAt xs i) t := by
  unfold sItems at h
  rw [Array.getElem?_map] at h
  unfold sAt
  cases hx : xs[i]? with
  | none => rw [hx] at h; cases h
  | some p => rw [hx] at h; simp at h; exact ⟨p.2, by simp [← h]⟩
theorem cmp_gtS {prog : Program} {w : World} {A : Around} {P : Nat → Value → Prop} (val : Nat → Str) (hval : ∀ i v, P i v → ∃ t, v = .str (val i) t) :
    CmpOf prog w A .Gt P (fun i j => decide ((val j).cps.toList < (val i).cps.toList)) := fun i j vi vj s Q E hi hj h => by
  obtain ⟨t, rfl⟩ := hval i vi hi
  obtain ⟨u, rfl⟩ := hval j vj hj
  exact richCompare_gives (op := .Gt) (typeIs_str s _ t) (typeIs_str s _ u) F.slot_str_gt F.entry_str_gt (F.args_str_gt_2 _ _) (gives_str_gt _ _ t u) (fun x => nomatch x) h
theorem cmp_ltS {prog : Program} {w : World} {A : Around} {P : Nat → Value → Prop} (val : Nat → Str) (hval : ∀ i v, P i v → ∃ t, v = .str (val i) t) :
    CmpOf prog w A .Lt P (fun i j => decide ((val i).cps.toList < (val j).cps.toList)) := fun i j vi vj s Q E hi hj h => by
  obtain ⟨t, rfl⟩ := hval i vi hi
  obtain ⟨u, rfl⟩ := hval j vj hj
  exact richCompare_gives (op := .Lt) (typeIs_str s _ t) (typeIs_str s _ u) F.slot_str_lt F.entry_str_lt (F.args_str_lt_2 _ _) (gives_str_lt _ _ t u) (fun x => nomatch x) h
section
variable {prog : Program} {w : World} {A : Around} {E : Value → Shared → Prop} {s : Shared}
theorem max_two_strs {a b : Str} {t u : Tok} {Q : Value → Shared → Prop} (hh : A.handled = none)
    (h : ∀ h' tk, (∀ c o, s.heap.get? c = some o → h'.get? c = some o) → Q (if a.cps.toList < b.cps.toList then .str b u else .str a t) { s with heap := h', toks := tk }) :
    wpAny (model prog w) A (call (.builtin "max") [.str a t, .str b u]) Q E s := by
  have hT : (s.heap.push { cls := .type "tuple", data := .seq #[.str a t, .str b u] }).IsTuple s.heap.objs.size (sItems #[(a, t), (b, u)]) := ⟨_, Heap.get?_push_size _ rfl, rfl, 0, by simp [sItems]⟩
  refine call_max_two (wpAny_pyIter_tuple hT ?_)
  have hsz : (s.heap.push { cls := .type "tuple", data := .seq #[.str a t, .str b u] }).objs.size = s.heap.objs.size + 1 := Heap.size_push ..
  refine ⟨_, [_, s.heap.objs.size], [_], _, _, _, _, rfl, Walks.tuple (A := A.in1) hh _ s.heap.objs.size (by rw [hsz]; exact Nat.ne_of_lt (Nat.lt_succ_self _)) (sItems #[(a, t), (b, u)]),
    ⟨⟨_, Heap.get?_push_size _ rfl, rfl, rfl⟩, hT.push _⟩, fun c hc => ?_, by simp [sItems], cmp_gtS (sAt #[(a, t), (b, u)]) (fun _ _ => sItems_at), fun v h' tk hP hk => ?_⟩
  · show c < ((s.heap.push _).push _).objs.size
    rw [Heap.size_push, hsz]
    rcases List.mem_cons.mp hc with rfl | hc
    · rw [hsz]; exact Nat.lt_succ_self _
    · rcases List.mem_cons.mp hc with rfl | hc
      · exact Nat.lt_succ_of_lt (Nat.lt_succ_self _)
      · cases hc
  · have hold : ∀ c o, s.heap.get? c = some o → h'.get? c = some o := fun c o e => by
      refine hk c o (fun hm => ?_) (Heap.get?_push_of_some _ (Heap.get?_push_of_some _ e))
      rcases List.mem_cons.mp hm with e1 | hm
      · have := Heap.lt_size e; rw [e1, hsz] at this; exact Nat.lt_irrefl _ (Nat.lt_of_succ_lt this)
      · cases hm
    have := h h' tk hold
    have hv : v = if a.cps.toList < b.cps.toList then Value.str b u else Value.str a t := by
      have hsz2 : (sItems #[(a, t), (b, u)]).size - 1 = 1 := by simp [sItems]
      rw [hsz2] at hP
      by_cases hba : a.cps.toList < b.cps.toList
      · simp [argBest, sAt, hba, sItems] at hP
        simp [hba, hP]
      · simp [argBest, sAt, hba, sItems] at hP
        simp [hba, hP]
    rw [hv]; exact this
theorem min_two_strs {a b : Str} {t u : Tok} {Q : Value → Shared → Prop} (hh : A.handled = none)
    (h : ∀ h' tk, (∀ c o, s.heap.get? c = some o → h'.get? c = some o) → Q (if b.cps.toList < a.cps.toList then .str b u else .str a t) { s with heap := h', toks := tk }) :
    wpAny (model prog w) A (call (.builtin "min") [.str a t, .str b u]) Q E s := by
  have hT : (s.heap.push { cls := .type "tuple", data := .seq #[.str a t, .str b u] }).IsTuple s.heap.objs.size (sItems #[(a, t), (b, u)]) := ⟨_, Heap.get?_push_size _ rfl, rfl, 0, by simp [sItems]⟩
  refine call_min_two (wpAny_pyIter_tuple hT ?_)
  have hsz : (s.heap.push { cls := .type "tuple", data := .seq #[.str a t, .str b u] }).objs.size = s.heap.objs.size + 1 := Heap.size_push ..
  refine ⟨_, [_, s.heap.objs.size], [_], _, _, _, _, rfl, Walks.tuple (A := A.in1) hh _ s.heap.objs.size (by rw [hsz]; exact Nat.ne_of_lt (Nat.lt_succ_self _)) (sItems #[(a, t), (b, u)]),
    ⟨⟨_, Heap.get?_push_size _ rfl, rfl, rfl⟩, hT.push _⟩, fun c hc => ?_, by simp [sItems], cmp_ltS (sAt #[(a, t), (b, u)]) (fun _ _ => sItems_at), fun v h' tk hP hk => ?_⟩
  · show c < ((s.heap.push _).push _).objs.size
    rw [Heap.size_push, hsz]
    rcases List.mem_cons.mp hc with rfl | hc
    · rw [hsz]; exact Nat.lt_succ_self _
    · rcases List.mem_cons.mp hc with rfl | hc
      · exact Nat.lt_succ_of_lt (Nat.lt_succ_self _)
      · cases hc
  · have hold : ∀ c o, s.heap.get? c = some o → h'.get? c = some o := fun c o e => by
      refine hk c o (fun hm => ?_) (Heap.get?_push_of_some _ (Heap.get?_push_of_some _ e))
      rcases List.mem_cons.mp hm with e1 | hm
      · have := Heap.lt_size e; rw [e1, hsz] at this; exact Nat.lt_irrefl _ (Nat.lt_of_succ_lt this)
      · cases hm
    have := h h' tk hold
    have hv : v = if b.cps.toList < a.cps.toList then Value.str b u else Value.str a t := by
      have hsz2 : (sItems #[(a, t), (b, u)]).size - 1 = 1 := by simp [sItems]
      rw [hsz2] at hP
      by_cases hba : b.cps.toList < a.cps.toList
      · simp [argBest, sAt, hba, sItems] at hP
        simp [hba, hP]
      · simp [argBest, sAt, hba, sItems] at hP
        simp [hba, hP]
    rw [hv]; exact this
end
section
variable {X : Cx}
def rTwoS (g : List Nat → List Nat → Prop) [DecidableRel g] : List V → Hp → VK → Prop := fun xs H Q => ∃ i j : Str, xs = [.str i, .str j] ∧ Q (.str (if g i.cps.toList j.cps.toList then j else i)) H
theorem cr_max2S (hc : X.calm = true) : CallR X (.builtin "max") (rTwoS fun a b => a < b) := by
  intro pins s σ H xs us Q I r h
  obtain ⟨i, j, rfl, q⟩ := h
  obtain ⟨u, w', rfl, ⟨t, rfl⟩, ⟨t', rfl⟩⟩ := vals2 r
  refine max_two_strs (I.ok.hd hc) fun h' tk k => ⟨_, H, I.kept k, ?_, q⟩
  by_cases hj : i.cps.toList < j.cps.toList
  · rw [if_pos hj, if_pos hj]; exact ⟨_, rfl⟩
  · rw [if_neg hj, if_neg hj]; exact ⟨_, rfl⟩
theorem cr_min2S (hc : X.calm = true) : CallR X (.builtin "min") (rTwoS fun a b => b < a) := by
  intro pins s σ H xs us Q I r h
  obtain ⟨i, j, rfl, q⟩ := h
  obtain ⟨u, w', rfl, ⟨t, rfl⟩, ⟨t', rfl⟩⟩ := vals2 r
  refine min_two_strs (I.ok.hd hc) fun h' tk k => ⟨_, H, I.kept k, ?_, q⟩
  by_cases hj : j.cps.toList < i.cps.toList
  · rw [if_pos hj, if_pos hj]; exact ⟨_, rfl⟩
  · rw [if_neg hj, if_neg hj]; exact ⟨_, rfl⟩
def oMax2S : OL
  | [.str i, .str j] => some (.imm (.str (if i < j then j else i)))
  | _ => none
def oMin2S : OL
  | [.str i, .str j] => some (.imm (.str (if j < i then j else i)))
  | _ => none
theorem cd_max2S : CallD X (rTwoS fun a b => a < b) oMax2S := by
  intro W F H ρ σ Γ ds vs e Q eK S r h w
  unfold oMax2S at h
  split at h
  · rename_i a b
    cases h
    obtain ⟨v, u, rfl, r1, r2⟩ := rdvs2 r
    obtain ⟨rfl, o1⟩ := rd_str r1
    obtain ⟨rfl, o2⟩ := rd_str r2
    refine ⟨_, _, rfl, ?_⟩
    rw [mkS_cps, mkS_cps]
    by_cases h : a < b
    · rw [if_pos h] at w ⊢; exact w.here S (rp_str o2)
    · rw [if_neg h] at w ⊢; exact w.here S (rp_str o1)
  · cases h
theorem cd_min2S : CallD X (rTwoS fun a b => b < a) oMin2S := by
  intro W F H ρ σ Γ ds vs e Q eK S r h w
  unfold oMin2S at h
  split at h
  · rename_i a b
    cases h
    obtain ⟨v, u, rfl, r1, r2⟩ := rdvs2 r
    obtain ⟨rfl, o1⟩ := rd_str r1
    obtain ⟨rfl, o2⟩ := rd_str r2
    refine ⟨_, _, rfl, ?_⟩
    rw [mkS_cps, mkS_cps]
    by_cases h : b < a
    · rw [if_pos h] at w ⊢; exact w.here S (rp_str o2)
    · rw [if_neg h] at w ⊢; exact w.here S (rp_str o1)
  · cases h
end
@[simp] theorem oMax2S_s (i j : List Nat) : oMax2S [.str i, .str j] = some (.imm (.str (if i < j then j else i))) := rfl
@[simp] theorem oMin2S_s (i j : List Nat) : oMin2S [.str i, .str j] = some (.imm (.str (if j < i then j else i))) := rfl
end DL

namespace DL
open PySem PySem.Spec PyProof.Rows L2
section
variable {W : Wd} {F F' H H' : Hp} {ρ : Nat → Option Addr} {σ : L2.St} {Γ : Gm} {a : Addr}
theorem Sim.afterN (S : Sim W F H ρ σ Γ) (N : New W F H ρ a) (k : Same F F') (fh : Same F' H') (hk : ∀ x o, H x = some o → x ≠ a → H' x = some o) (hn : ∀ x o, F' x = some o → F x = some o ∨ H x = none) : Sim W F' H' ρ σ Γ := by
  have no : ∀ a o, H a = some o → F a = none → F' a = none := fun a o h f => by
    cases q : F' a with
    | none => rfl
    | some u =>
      rcases hn a u q with z | z
      · rw [f] at z; cases z
      · rw [h] at z; cases z
  have nr : ∀ {j : Nat} {x : Addr}, ρ j = some x → x ≠ a := fun {j x} e z => N.r j (by rw [e, z])
  refine ⟨fh, fun x o e => ?_, fun x o e np => hk _ _ (S.keep x o e np) (fun z => by rw [z, N.b] at e; cases e), fun x h => let ⟨o, e⟩ := S.pal x h; ⟨o, hk _ _ e (fun z => N.np (by rw [← z]; exact h))⟩, fun i x e => let ⟨o, q⟩ := S.ro i x e; ⟨o, hk _ _ q (nr e)⟩, S.len, S.gl, fun i s e => ?_, S.one, fun q hq => ?_, S.ext.up fun x hx o e n => ⟨o, hk _ _ e (fun z => N.np (by rw [← z]; exact hx)), n⟩⟩
  · rcases hn x o e with z | z
    · exact S.new _ _ z
    · exact .inr (S.fresh z).b
  · refine (S.slot i s e).mono k (fun x ex u z => ?_) fun x ex f => ?_
    · rcases ex with ex | ⟨_, ex⟩
      · exact hk _ _ z (nr ex)
      · exact hk _ _ z (nr ex)
    · have : ∃ o, H x = some o := by
        rcases ex with ex | ⟨_, ex⟩
        · exact S.ro _ x ex
        · exact S.ro _ x ex
      obtain ⟨o, ho⟩ := this
      exact no x o ho f
  · obtain ⟨x, y, z⟩ := S.pin q hq
    exact ⟨hk _ _ x (N.n q hq), no _ _ x y, z⟩
end
def lastIo (n : Nat) : List Bool := List.replicate n false ++ [true]
theorem args_last {K : PySem.W.Frag} {F H : Hp} {a : Addr} {d : D} (o : OwnAt K F H a d) (f : F a = none) : ∀ {ds : List D} {vs : List V}, RpL K F ds vs → ∃ as, ArgsOk K F H (lastIo ds.length) (vs ++ [.ref a]) (ds ++ [d]) as ∧ addrs as = [a]
  | [], vs, r => by
    rw [rpl_nil_inv r]
    refine ⟨[some (a, [])], .io ?_ f .nil, rfl⟩
    cases d with
    | tup ds => unfold OwnAt at o; exact o.elim
    | _ => exact ⟨rfl, o⟩
  | x :: ds, vs, r => by
    obtain ⟨v, ws, rfl, r1, r2⟩ := rpl_cons_inv r
    obtain ⟨as, h1, h2⟩ := args_last o f r2
    exact ⟨none :: as, .pl r1 h1, h2⟩
theorem call_fr {K : PySem.W.Frag} {fn : FS} {W : Wd} {F H : Hp} {ρ : Nat → Option Addr} {σ : L2.St} {Γ : Gm} {ds : List D} {vs : List V} {d r d' : D} {fr : Bool} {v : V} {Q : VK} {E : XK} (eK : W.K = K) (S : Sim W F H ρ σ Γ) (rl : RpL W.K F ds vs) (rv : RpE W F H ρ (.fr d) v)
    (h : fn (ds ++ [d]) = .ok fr r [d']) (q : Wish W F ρ σ Γ (mkR fr r) Q) : spD K (lastIo ds.length) fn (vs ++ [v]) H Q E := by
  subst eK
  unfold RpE at rv
  obtain ⟨a, rfl, o0, N0⟩ := rv
  obtain ⟨u, hu, _⟩ := own_ho o0
  obtain ⟨F0, k0, Sp, aT⟩ := (S.hold hu N0 (o0.nt hu)).tupz
  obtain ⟨S, u1, u2, u3⟩ := Sp.unhold
  have o := o0.mono k0 (fun _ z => z)
  have N : New W F0 H ρ a := ⟨u2, N0.b, N0.np, N0.r, N0.n⟩
  have rl := RpL.mono k0 _ _ rl
  obtain ⟨as, h1, h2⟩ := args_last o N.f rl
  refine ⟨F0, ds ++ [d], as, S.sub, aT, h1, by rw [h2]; simp, .inl ⟨fr, r, [d'], h, fun v F' H' p rr => ?_⟩⟩
  have S2 := S.afterN N p.ff p.fh (fun x o e hx => p.keep x o e (by rw [h2]; simpa using hx)) p.new
  refine q v F' H' (k0.trans p.ff) S2 ?_
  unfold RpR at rr
  unfold mkR
  split at rr
  · rename_i hfr
    rw [if_pos hfr]
    obtain ⟨c, rfl, o, f1, f2⟩ := rr
    have N2 := S.fresh f2
    unfold RpE
    exact ⟨c, rfl, o, f1, N2.b, N2.np, N2.r, N2.n⟩
  · rename_i hfr
    rw [if_neg hfr]
    unfold RpE
    exact rr
/-- arguments, the last one a new object -/
def tAF (K : PySem.W.Frag) (a : AM) (f : EM) : TA := fun σ H Q => ∃ (W : Wd) (F : Hp) (ρ : Nat → Option Addr) (Γ : Gm), W.K = K ∧ Sim W F H ρ σ Γ ∧ ∃ es Γ1 d Γ2, a Γ = .ok es Γ1 ∧ EV.oks es = true ∧ f Γ1 = .ok (.fr d) Γ2 ∧
  ∀ vs v F' H', Same F F' → Sim W F' H' ρ σ Γ2 → RpEs W F' H' ρ es vs → RpE W F' H' ρ (.fr d) v → Q (vs ++ [v]) H'
def DAF (X : Cx) (es : List Expr) (a : AM) (f : EM) : Prop := PA X es (tAF X.K a f)
def callFrR (ms : List Bool) (fn : FS) (o : Option (List D)) (d : D) (Γ : Gm) : ERes := match o with
  | some ds => if ms = lastIo ds.length then match fn (ds ++ [d]) with
      | .ok fr r [_] => .ok (mkR fr r) Γ
      | _ => .stuck
    else .stuck
  | none => .stuck
def eCallFr (ms : List Bool) (fn : FS) (a : AM) (f : EM) : EM := fun Γ => match a Γ with
  | .ok es Γ1 => if EV.oks es = true then match f Γ1 with
      | .ok (.fr d) Γ2 => callFrR ms fn (allImm es) d Γ2
      | _ => .stuck
    else .stuck
  | .stuck => .stuck
section
variable {X : Cx} {k : Nat} {st : Stmt} {ps : List Str} {x : Str} {p pos : Pos} {e : Expr} {es : List Expr} {ms : List Bool} {fn : FS} {a : AM} {f g : EM}
theorem daf_one (ha : DE X e f) (hs : starEach (e :: []) X.env = (false, eval e X.env) :: starEach [] X.env := by rfl) : DAF X [e] aNil f :=
  pa_imp (pa_cons ha pa_nil hs) fun _ _ _ ⟨W, F, ρ, Γ, eK, S, es, Γ1, d, Γ2, ea, oks, ef, q⟩ => by
    cases ea
    refine ⟨W, F, ρ, Γ, eK, S, .fr d, Γ2, ef, rfl, fun v F1 H1 s1 S1 r1 => ?_⟩
    exact q [] v F1 H1 s1 S1 (by unfold RpEs; rfl) r1
theorem daf_cons (ha : DE X e g) (hr : DAF X es a f) (hs : starEach (e :: es) X.env = (false, eval e X.env) :: starEach es X.env := by rfl) : DAF X (e :: es) (aCons g a) f :=
  pa_imp (pa_cons ha hr hs) fun _ _ _ ⟨W, F, ρ, Γ, eK, S, es, Γ1, d, Γ2, ea, oks, ef, q⟩ => by
    obtain ⟨e1, Γ3, es', h1, h2, rfl⟩ := aCons_inv ea
    unfold EV.oks at oks
    rw [Bool.and_eq_true] at oks
    refine tE_then eK S h1 oks.1 fun v F1 H1 s1 S1 r1 => ?_
    refine ⟨W, F1, ρ, Γ3, eK, S1, es', Γ1, d, Γ2, h2, oks.2, ef, fun vs w F2 H2 s2 S2 r2 r3 => q (v :: vs) w F2 H2 (s1.trans s2) S2 ?_ r3⟩
    unfold RpEs
    exact ⟨v, vs, rfl, RpE.mono s2 _ _ oks.1 r1, r2⟩
theorem de_callFr (D : Df X.prog X.w X.K X.mg X.base k x st ps ms fn) (hr : Room k X.A) (ha : DAF X (e :: es) a f)
    (hg : Gl X x := by rfl) (hdb : (x == ("__debug__" : Str)) = false := by decide) (he : starEach (e :: es) X.env = (false, eval e X.env) :: starEach es X.env := by rfl) (hpl : (backTo pos (starEach es X.env)).any (·.1) = false := by rfl) :
    DE X (.Call (.Name x p) (e :: es) [] pos) (eCallFr ms fn a f) := by
  obtain ⟨fa, fd, Fn0, hm, Fn, hb⟩ := D.ex
  exact pe_imp (pe_call Fn0 hr hg hm Fn.kp hb .nil pass0 ha hdb he hpl) fun σ H Q ⟨W, F, ρ, Γ, eK, S, e, Γ', ef, ok, q⟩ => by
    unfold eCallFr at ef
    cases h1 : a Γ with
    | stuck => rw [h1] at ef; cases ef
    | ok es Γ1 =>
      rw [h1] at ef
      dsimp only at ef
      split at ef
      · rename_i oks
        split at ef
        · rename_i d Γ2 h2
          unfold callFrR at ef
          split at ef
          · rename_i ds hds
            split at ef
            · rename_i hms
              split at ef
              · rename_i fr r d' hf
                cases ef
                refine ⟨W, F, ρ, Γ, eK, S, es, Γ1, d, Γ', h1, oks, h2, fun vs v F1 H1 k1 S1 r1 r2 => ?_⟩
                show spD X.K ms fn ((vs ++ [v]) ++ []) H1 _ _
                rw [List.append_nil, hms]
                exact call_fr eK S1 (allImm_rp hds r1) r2 hf fun v F' H' k' S' r' => q v F' H' (k1.trans k') S' r'
              · cases ef
            · cases ef
          · cases ef
        · cases ef
      · cases ef
end
/-! ### by what is wished -/
@[simp] theorem wE_callFr (ms : List Bool) (fn : FS) (a : AM) (f : EM) (Γ : Gm) (Q : EV → Gm → Prop) : wE (eCallFr ms fn a f) Γ Q = wA a Γ fun es Γ1 => EV.oks es = true ∧ wE f Γ1 fun e Γ2 => wFr e fun d => wO (allImm es) fun ds => ms = lastIo ds.length ∧ wF fn (ds ++ [d]) fun fr r ios => (∃ d', ios = [d']) ∧ Q (mkR fr r) Γ2 := by
  unfold wE wA eCallFr
  cases a Γ with
  | stuck => rfl
  | ok es Γ1 =>
    dsimp only
    by_cases h : EV.oks es = true
    · rw [if_pos h]
      cases f Γ1 with
      | stuck => simp [h]
      | ok e Γ2 =>
        cases e with
        | fr d =>
          simp only [mE_ok, wFr_fr, h, true_and]
          unfold callFrR
          cases allImm es with
          | none => simp
          | some ds =>
            simp only [wO_some]
            by_cases h2 : ms = lastIo ds.length
            · rw [if_pos h2]
              simp only [h2, true_and, wF_eq]
              cases fn (ds ++ [d]) with
              | stuck => simp
              | okN _ _ => simp
              | ok fr r ios =>
                match ios with
                | [] => simp
                | [d'] => simp
                | _ :: _ :: _ => simp
            · rw [if_neg h2]; simp [h2]
        | _ => simp [h, wFr]
    · rw [if_neg h]; simp [h]
/-- a list or dict of one's own handed in at any place -/
theorem bo_io {ms : List Bool} {fn : FS} {es : List EV} {Γ : Gm} {Q : EV → Gm → Prop} (i : Nat) (b : Bool) (d : D) (ds : List D) (hs : Γ[i]? = some (.own b d)) (h2 : ioArgs Γ ms es = some ds) (q : wF fn ds fun fr r ios => ∃ d', ios = [d'] ∧ wO (ioPut (some (.own b d)) d') fun s' => Q (mkR fr r) (Γ.set i s'))
    (h1 : ioSlots ms es = [i] := by rfl) (h0 : allImm es = none := by rfl) (hm : ms.any id = true := by rfl) : wBo ms fn es Γ Q := by
  constructor
  obtain ⟨fr, r, ios, e, d', rfl, s', hs', q⟩ := wF_get q
  unfold wC callR
  rw [h0]
  dsimp only
  rw [if_pos hm]
  unfold ioR
  rw [h1, h2]
  dsimp only
  rw [e]
  dsimp only
  rw [hs, hs']
  exact q
end DL

set_option maxHeartbeats 4000000
namespace DL
open PySem PySem.Spec PyProof.Rows L2 PySem.Froz
section
variable {P : Program} {w : World} {A : Around} {E : Value → Shared → Prop} {s : Shared}
theorem items_signs {x : Str} {acc : Array Value} (h : ItemsOf (SignAt x) acc x.cps.size) : StrsAre acc.toList ((List.range x.cps.size).map (signV x)) := by
  have key : ∀ (n : Nat) (l : List Value) (j : Nat), l.length = n → (∀ i v, l[i]? = some v → SignAt x (j + i) v) → StrsAre l ((List.range n).map fun i => signV x (j + i)) := by
    intro n
    induction n with
    | zero => intro l j hl _; rw [List.eq_nil_of_length_eq_zero hl]; exact .nil
    | succ n ih =>
      intro l j hl hv
      cases l with
      | nil => cases hl
      | cons v l =>
        obtain ⟨t, e⟩ := sign_at (hv 0 v rfl)
        have e' : v = .str (signV x (j + 0)) t := e
        rw [List.range_succ_eq_map, List.map_cons, List.map_map, e']
        refine .cons _ t ?_
        have := ih l (j + 1) (by simpa using hl) (fun i v hi => by
          have := hv (i + 1) v (by simpa using hi)
          rw [show j + 1 + i = j + (i + 1) by omega]; exact this)
        have e2 : ((fun i => signV x (j + i)) ∘ Nat.succ) = fun i => signV x (j + 1 + i) := funext fun i => by
          show signV x (j + (i + 1)) = _
          rw [show j + 1 + i = j + (i + 1) by omega]
        rw [e2]; exact this
  have := key x.cps.size acc.toList 0 (by rw [Array.length_toList]; exact h.1) (fun i v hi => by
    rw [Nat.zero_add]; exact h.2 i v (by simpa using hi))
  simpa using this
theorem sorted_coll {v : Value} {l : List Str} {Q : Value → Shared → Prop} (hsz : l.length ≤ sizeLine)
    (hcol : ∀ (B : Around) (E' : Value → Shared → Prop) (Q' : List Value → Shared → Prop), B.handled = none → (∀ (s' : Shared) (vs : List Value), (∀ b o, s.heap.get? b = some o → s'.heap.get? b = some o) → s'.gens = s.gens → s'.drawn = s.drawn → s'.os = s.os → StrsAre vs l → Q' vs s') → wpAny (model P w) B (collect v) Q' E' s)
    (hh : A.handled = none)
    (hQ : ∀ (s1 : Shared) (h' : Heap) (out : Array Value) (c : Nat) (ys : List Str), (∀ b o, s.heap.get? b = some o → s1.heap.get? b = some o) → s1.gens = s.gens → s1.drawn = s.drawn → s1.os = s.os → (∀ b o, s1.heap.get? b = some o → h'.get? b = some o) →
      h'.get? s1.heap.objs.size = some (seqObj "list" out c) → StrsAre out.toList ys → ys.Perm l → sortedS ys = true → Q (.ref s1.heap.objs.size) { s1 with heap := h' }) :
    wpAny (model P w) A (call (.builtin "sorted") [v]) Q E s := by
  refine Calls.call_function_entry kind_sorted plain_sorted entry_sorted (args_sorted1 _) ?_
  unfold Builtin.«sorted»
  refine wpAny_bind (m := checkCount "sorted" 1 1 _) (wpAny_pure ?_)
  refine wpAny_bind (hcol A.in1 _ _ hh fun s1 vs k1 g1 d1 o1 hS => ?_)
  have hvl : vs.length = l.length := hS.length
  have hll : vs.length ≤ sizeLine := by rw [hvl]; exact hsz
  refine wpAny_bind (wpAny_newList ?_ hll)
  have hoL : (s1.heap.push (seqObj "list" vs.toArray 0)).get? s1.heap.objs.size = some (seqObj "list" vs.toArray 0) := Heap.get?_push_size _ rfl
  refine wpAny_bind (wpAny_holding (wpAny_call_entry slot_list_sort ⟨_, hoL, rfl⟩ entry_list_sort (list_sort_treeKAny strKind_oneLt hoL hS.keysOf (fun v₁ v₂ rest e => keyKind_strs (by rw [← e]; exact hS)) hll fun st' hp hs => ?_) (args_list_sort _)))
  obtain ⟨ys, b1, b2, b3⟩ := sorted_out_str hS hp hs
  obtain ⟨c, hc⟩ := sortedHeap_at (vs := vs) (out := (arrOf st').map (·.2)) hoL
  refine ⟨_, rfl, wpAny_pure ⟨_, rfl, hQ s1 _ _ c ys k1 g1 d1 o1 (fun b u e => ?_) hc b1 b2 b3⟩⟩
  have hlt := Heap.lt_size e
  rw [sortedHeap_old (Nat.ne_of_lt hlt) (by rw [size_push']; exact Nat.lt_succ_of_lt hlt)]
  exact Heap.get?_push_of_some _ e
theorem signs_text (z : List Nat) : (List.range (mkS z).cps.size).map (signV (mkS z)) = (z.map fun c => [c]).map mkS := by
  apply List.ext_getElem
  · simp [mkS]
  · intro i h1 h2
    simp at h2
    simp [signV, mkS, h2]
end
section
variable {X : Cx}
/-- the signs of a text, sorted; of a tuple of texts -/
def rSortT (K : PySem.W.Frag) : List V → Hp → VK → Prop := fun vs H Q => ∃ z, vs = [.str (mkS z)] ∧ z.length ≤ sizeLine ∧ ∀ p, H p = none → Q (.ref p) (upd H p (.lst (((isort ltS (z.map fun c => [c])).map mkS).map V.str)))
theorem cr_sortT (hc : X.calm = true) : CallR X (.builtin "sorted") (rSortT X.K) := by
  intro pins s1 σ H1 vs us Q I1 r h
  obtain ⟨z, rfl, hz, q1⟩ := h
  obtain ⟨u, rfl, t, rfl⟩ := vals1 r
  refine sorted_coll (l := (z.map fun c => [c]).map mkS) (by rw [List.length_map, List.length_map]; exact hz) (fun B E' Q' hB k => wpAny_collect_str hB _ _ (fun s' acc hk hg hd ho hi => k s' acc.toList hk hg hd ho (by rw [← signs_text]; exact items_signs hi)) (by show (mkS z).cps.size ≤ sizeLine; simpa [mkS] using hz)) (I1.ok.hd hc) fun s2 h' out c ys k g d o k2 hgt hi hperm hsrt => ?_
  have ey := sorted_mkS hperm hsrt
  subst ey
  have hlen : (((isort ltS (z.map fun c => [c])).map mkS).map V.str).length ≤ sizeLine := by
    rw [List.length_map, List.length_map, (isort_perm ltS _).length_eq, List.length_map]; exact hz
  obtain ⟨h2, g2, d2, t2, o2⟩ := s2
  dsimp only at g d o
  subst g d o
  have I2 : L2.Inv X pins σ H1 { s1 with heap := h2, toks := t2 } := I1.kept k
  exact ⟨.ref _, _, I2.laid (t' := t2) k2 (Nat.le_refl _) (show ObjOk X.prog X.w _ h' _ (.lst (((isort ltS (z.map fun c => [c])).map mkS).map V.str)) from ⟨hlen, out.toList, c, vals_of_strs hi, hgt⟩), rfl, q1 _ (I2.hok.fresh (Nat.le_refl _))⟩
def oSortT : OL
  | [.str z] => some (.fr (.lst ((isort ltS (z.map fun c => [c])).map D.str)))
  | _ => none
theorem cd_sortT : CallD X (rSortT X.K) oSortT := by
  intro W F H ρ σ Γ ds vs e Q eK S r h w
  unfold oSortT at h
  split at h
  · rename_i z
    cases h
    obtain ⟨v, rfl, rr⟩ := rdvs1 r
    obtain ⟨rfl, ok⟩ := rd_str rr
    refine ⟨z, rfl, ok.1, fun p hp => w.newl S hp (rpl_strs fun s hs => ?_)⟩
    obtain ⟨c, hc, rfl⟩ := List.mem_map.mp ((isort_perm ltS _).mem_iff.mp hs)
    exact okS_one ok hc
  · cases h
/-- the signs of a text as a list -/
def rListT : List V → Hp → VK → Prop := fun vs H Q => ∃ z, vs = [.str (mkS z)] ∧ z.length ≤ sizeLine ∧ ∀ p, H p = none → Q (.ref p) (upd H p (.lst (((z.map fun c => [c]).map mkS).map V.str)))
theorem cr_listT (hc : X.calm = true) : CallR X (.type "list") rListT := by
  intro pins s1 σ H1 vs us Q I1 r h
  obtain ⟨z, rfl, hz, q1⟩ := h
  obtain ⟨u, rfl, t, rfl⟩ := vals1 r
  refine call_list_str (I1.ok.hd hc) _ _ (fun h' tk acc c k hS hi => ?_) (by show (mkS z).cps.size ≤ sizeLine; simpa [mkS] using hz)
  have hlen : (((z.map fun c => [c]).map mkS).map V.str).length ≤ sizeLine := by
    rw [List.length_map, List.length_map, List.length_map]; exact hz
  have hv : Vals (((z.map fun c => [c]).map mkS).map V.str) acc.toList := by rw [← signs_text]; exact vals_of_strs (items_signs hi)
  exact ⟨.ref _, _, I1.laid (t' := tk) k (Nat.le_refl _) (show ObjOk X.prog X.w _ h' _ (.lst (((z.map fun c => [c]).map mkS).map V.str)) from ⟨hlen, acc.toList, c, hv, by simpa using hS⟩), rfl, q1 _ (I1.hok.fresh (Nat.le_refl _))⟩
def oListT : OL
  | [.str z] => some (.fr (.lst ((z.map fun c => [c]).map D.str)))
  | _ => none
theorem cd_listT : CallD X rListT oListT := by
  intro W F H ρ σ Γ ds vs e Q eK S r h w
  unfold oListT at h
  split at h
  · rename_i z
    cases h
    obtain ⟨v, rfl, rr⟩ := rdvs1 r
    obtain ⟨rfl, ok⟩ := rd_str rr
    refine ⟨z, rfl, ok.1, fun p hp => w.newl S hp (rpl_strs fun s hs => ?_)⟩
    obtain ⟨c, hc, rfl⟩ := List.mem_map.mp hs
    exact okS_one ok hc
  · cases h
end
@[simp] theorem oSortT_s (z : List Nat) : oSortT [.str z] = some (.fr (.lst ((isort ltS (z.map fun c => [c])).map D.str))) := rfl
@[simp] theorem oListT_s (z : List Nat) : oListT [.str z] = some (.fr (.lst ((z.map fun c => [c]).map D.str))) := rfl
end DL

namespace DL
open PySem PySem.Spec PyProof.Rows L2
def chK (o' : O2) (e2 : EV) (h : EM) (Γ2 : Gm) : Option EV → ERes
  | some (.imm (.bl true)) => (h Γ2).bind fun e3 Γ3 => ERes.of ((eGet Γ3 e2).bind fun x => (eGet Γ3 e3).bind fun y => o' x y) Γ3
  | some (.imm (.bl false)) => .ok (.imm (.bl false)) Γ2
  | _ => .stuck
def eChain (o o' : O2) (f g h : EM) : EM := fun Γ => (f Γ).bind fun e1 Γ1 => (g Γ1).bind fun e2 Γ2 => if e2.ok = true then chK o' e2 h Γ2 ((eGet Γ2 e1).bind fun x => (eGet Γ2 e2).bind fun y => o x y) else .stuck
section
variable {X : Cx} {a b c : Expr} {f g h : EM} {pos : Pos} {r r' : R2} {o o' : O2}
theorem chain_core {σ : L2.St} {H : Hp} {Q : VK} (hd : OpD X r o) (hd' : OpD X r' o') (q : tE X.K (eChain o o' f g h) σ H Q) : tChain r r' (tE X.K f) (tE X.K g) (tE X.K h) σ H Q := by
  obtain ⟨W, F, ρ, Γ, eK, S, e, Γ', ef, ok, q⟩ := q
  obtain ⟨e1, Γ1, h1, ef⟩ := bind_inv ef
  obtain ⟨e2, Γ2, h2, ef⟩ := bind_inv ef
  split at ef
  · rename_i ok2
    unfold chK at ef
    have fin : ∀ (k : Bool), ((eGet Γ2 e1.fz).bind fun x => (eGet Γ2 e2.fz).bind fun y => o x y) = some (.imm (.bl k)) → (∀ F2 H2 v2, Same F F2 → Sim W F2 H2 ρ σ Γ2 → RpE W F2 H2 ρ e2.fz v2 → if k = true then tE X.K h σ H2 fun w' H4 => r' v2 w' H4 Q else Q (.bl false) H2) → tChain r r' (tE X.K f) (tE X.K g) (tE X.K h) σ H Q := fun k hk fin => by
      obtain ⟨d1, g1, hk⟩ := obind_inv hk
      obtain ⟨d2, g2, hk⟩ := obind_inv hk
      refine tE_then eK S h1 (ok_get g1) fun v1 F1 H1 s1 S1 r1 => ?_
      refine tE_then eK S1 h2 ok2 fun v2 F2 H2 s2 S2 r2 => ?_
      refine hd W F2 H2 ρ σ Γ2 d1 d2 v1 v2 _ _ eK S2 (rd_get S2 (RpE.mono s2 _ _ (ok_get g1) r1) g1) (rd_get S2 r2 g2) hk fun v F' H' hs S' r' => ?_
      unfold RpE at r'
      refine ⟨k, rd_bl (rd_of r' S'.sub), ?_⟩
      exact fin F' H' v2 ((s1.trans s2).trans hs) S' (RpE.mono hs _ _ ok2 r2)
    split at ef
    · rename_i hk
      refine fin true hk fun F2 H2 v2 s2 S2 r2 => ?_
      rw [if_pos rfl]
      obtain ⟨e3, Γ3, h3, ef⟩ := bind_inv ef
      obtain ⟨ef, rfl⟩ := of_inv ef
      obtain ⟨d2, g2, ef⟩ := obind_inv ef
      obtain ⟨d3, g3, ef⟩ := obind_inv ef
      refine tE_then eK S2 h3 (ok_get g3) fun v3 F3 H3 s3 S3 r3 => ?_
      exact hd' W F3 H3 ρ σ Γ' d2 d3 v2 v3 e Q eK S3 (rd_get S3 (RpE.mono s3 _ _ ok2 r2) g2) (rd_get S3 r3 g3) ef fun v F' H' hs S' r' => q v F' H' ((s2.trans s3).trans hs) S' r'
    · rename_i hk
      refine fin false hk fun F2 H2 v2 s2 S2 r2 => ?_
      rw [if_neg (by decide)]
      cases ef
      exact q (.bl false) F2 H2 s2 S2 (by unfold RpE; exact rp_bl)
    · cases ef
  · cases ef
theorem de_chain {op op' : CmpOp} (ho : OpR X (compareOp op) r) (hd : OpD X r o) (ho' : OpR X (compareOp op') r') (hd' : OpD X r' o') (ha : DE X a f) (hb : DE X b g) (hc : DE X c h) (hm : lastMarks [op, op'] [b, c] = false := by with_unfolding_all rfl) : DE X (.Compare a [op, op'] [b, c] pos) (eChain o o' f g h) :=
  pe_imp (pe_chain ho ho' ha hb hc hm) fun _ _ _ q => chain_core hd hd' q
theorem dt_chain {op op' : CmpOp} (ho : OpR X (compareOp op) r) (hd : OpD X r o) (ho' : OpR X (compareOp op') r') (hd' : OpD X r' o') (ha : DE X a f) (hb : DE X b g) (hc : DE X c h) (hm : lastMarks [op, op'] [b, c] = false := by with_unfolding_all rfl) : DT X (.Compare a [op, op'] [b, c] pos) (eChain o o' f g h) :=
  pt_imp (pt_chain ho ho' ha hb hc hm) fun σ H Q ⟨W, F, ρ, Γ, eK, S, e1, b, Γ', ef, hb, q⟩ => chain_core (Q := fun x H' => ∃ k, x = .bl k ∧ Q k H') hd hd' (tE_bool eK S ef hb fun F1 H1 s1 S1 => ⟨b, rfl, q F1 H1 s1 S1⟩)
end
@[simp] theorem wE_chain (o o' : O2) (f g h : EM) (Γ : Gm) (Q : EV → Gm → Prop) : wE (eChain o o' f g h) Γ Q = wE f Γ fun e1 Γ1 => wE g Γ1 fun e2 Γ2 => e2.fz.ok = true ∧ wV Γ2 e1.fz fun x => wV Γ2 e2.fz fun y => wO (o x y) fun e => wB e fun k =>
    (k = true → wE h Γ2 fun e3 Γ3 => wV Γ3 e2.fz fun y => wV Γ3 e3.fz fun z => wO (o' y z) fun e => Q e Γ3) ∧ (k = false → Q (.imm (.bl false)) Γ2) := by
  unfold wE eChain
  simp only [wE_bind]
  congr; funext e1 Γ1; congr; funext e2 Γ2
  rw [mE_if]
  congr 1
  unfold wV
  cases eGet Γ2 e1.fz with
  | none => simp [chK]
  | some x =>
    cases eGet Γ2 e2.fz with
    | none => simp [chK]
    | some y =>
      simp only [Option.bind_some, wO_some]
      cases o x y with
      | none => simp [chK]
      | some e =>
        simp only [wO_some]
        cases e with
        | imm d =>
          cases d with
          | bl k =>
            cases k with
            | true => simp only [chK, wB_bl, wE_bind, of_w, wV, wO_bind]; simp
            | false => simp [chK]
          | _ => simp [chK, wB]
        | _ => simp [chK, wB]
/-! ### list(x), x a list, a tuple or a text -/
def oListU : OL := fun xs => match oList xs with
  | some r => some r
  | none => oListT xs
section
variable {X : Cx}
def rListU (K : PySem.W.Frag) : List V → Hp → VK → Prop := fun xs H Q => (∃ p ys, xs = [.ref p] ∧ (SqL K H p ys ∨ SqT K H p ys) ∧ ∀ l, H l = none → Q (.ref l) (upd H l (.lst ys))) ∨ rListT xs H Q
theorem cr_listU (hc : X.calm = true) : CallR X (.type "list") (rListU X.K) := CallR.or call_list_of (cr_listT hc)
theorem cd_listU : CallD X (rListU X.K) oListU := by
  intro W F H ρ σ Γ ds vs e Q eK S r h w
  unfold oListU at h
  split at h
  · rename_i e' hr
    cases h
    exact .inl (cd_list W F H ρ σ Γ ds vs e Q eK S r hr w)
  · exact .inr (cd_listT W F H ρ σ Γ ds vs e Q eK S r h w)
end
@[simp] theorem oListU_l (s : List D) : oListU [.lst s] = some (.fr (.lst s)) := rfl
@[simp] theorem oListU_t (s : List D) : oListU [.tup s] = some (.fr (.lst s)) := rfl
@[simp] theorem oListU_f (s : List D) : oListU [.frl s] = some (.fr (.lst s)) := rfl
@[simp] theorem oListU_s (z : List Nat) : oListU [.str z] = some (.fr (.lst ((z.map fun c => [c]).map D.str))) := rfl
/-! ### n & 1 -/
def oAnd1 : O2
  | .int i, .int j => if 0 ≤ i ∧ j = 1 then some (.imm (.int (i % 2))) else none
  | _, _ => none
section
variable {X : Cx}
theorem od_and1 : OpD X (fun x y H Q => ∃ n : Nat, x = .int (n : Int) ∧ y = .int 1 ∧ Q (.int ((n % 2 : Nat) : Int)) H) oAnd1 := by
  intro W F H ρ σ Γ d1 d2 v1 v2 e Q eK S r1 r2 h w
  unfold oAnd1 at h
  split at h
  · rename_i i j
    obtain ⟨⟨h0, rfl⟩, rfl⟩ := if_some h
    rw [rd_int r1, rd_int r2]
    refine ⟨i.toNat, by rw [Int.toNat_of_nonneg h0], rfl, ?_⟩
    have e : (((i.toNat % 2 : Nat)) : Int) = i % 2 := by omega
    rw [e]
    exact w.here S rp_int
  · cases h
end
@[simp] theorem oAnd1_n (n : Nat) : oAnd1 (.int (n : Int)) (.int 1) = some (.imm (.int ((n : Int) % 2))) := by
  unfold oAnd1
  dsimp only
  rw [if_pos ⟨Int.natCast_nonneg n, rfl⟩]
end DL

namespace DL
open PySem PySem.Spec PyProof.Rows L2

/-- the items that a slice picks -/
def pickI {α : Type} (xs : List α) (lo hi st : Option Int) : List α := (sliceRange (sliceBounds lo hi st xs.length).1 (sliceBounds lo hi st xs.length).2.1 (sliceBounds lo hi st xs.length).2.2).filterMap (xs[·]?)
theorem pickI_mem {α : Type} {xs : List α} {lo hi st : Option Int} {x : α} (h : x ∈ pickI xs lo hi st) : x ∈ xs := by
  unfold pickI at h
  obtain ⟨j, _, hj⟩ := List.mem_filterMap.mp h
  exact List.mem_of_getElem? hj
theorem pickI_map {α β : Type} (f : α → β) (xs : List α) (lo hi st : Option Int) : pickI (xs.map f) lo hi st = (pickI xs lo hi st).map f := by
  unfold pickI
  rw [List.length_map, List.map_filterMap]
  congr 1
  funext j
  rw [List.getElem?_map]
theorem pickI_vals {xs : List V} {us : List Value} (r : Vals xs us) (lo hi st : Option Int) : Vals (pickI xs lo hi st) (slicePick us.toArray lo hi st).toList := by
  unfold pickI slicePick
  simp only [List.size_toArray, ← r.length]
  show Vals _ ((sliceRange _ _ _).filterMap (us.toArray[·]?)).toArray.toList
  simp only [List.getElem?_toArray]
  generalize sliceRange _ _ _ = js
  induction js with
  | nil => exact .nil
  | cons i js ih =>
    cases h : xs[i]? with
    | none =>
      have h2 := Vals.none_of r h
      rw [List.filterMap_cons_none h, List.filterMap_cons_none h2]
      exact ih
    | some v =>
      obtain ⟨u, hu, rv⟩ := r.get h
      rw [List.filterMap_cons_some h, List.filterMap_cons_some hu]
      exact .cons rv ih
theorem pickI_len {xs : List V} {us : List Value} (r : Vals xs us) (lo hi st : Option Int) : (pickI xs lo hi st).length ≤ xs.length := by
  rw [(pickI_vals r lo hi st).length, r.length]
  have := slicePick_size_le us.toArray lo hi st
  simpa using this
theorem pickI_rp {K : PySem.W.Frag} {F : Hp} {ds : List D} {vs : List V} (r : RpL K F ds vs) (lo hi st : Option Int) : RpL K F (pickI ds lo hi st) (pickI vs lo hi st) := by
  unfold pickI
  rw [rpl_len r]
  generalize sliceRange _ _ _ = js
  induction js with
  | nil => exact rpl_nil
  | cons i js ih =>
    cases h : vs[i]? with
    | none =>
      have h2 : ds[i]? = none := by
        rw [List.getElem?_eq_none_iff] at h ⊢
        rw [rpl_len r]; exact h
      rw [List.filterMap_cons_none h, List.filterMap_cons_none h2]
      exact ih
    | some v =>
      obtain ⟨d, hd, rd⟩ := rpl_get' r h
      rw [List.filterMap_cons_some h, List.filterMap_cons_some hd]
      exact rpl_cons rd ih
section
variable {X : Cx} {e b c : Expr} {te : TE} {tl th : TO} {f g h : EM} {pos p2 : Pos}
def tSlS (K : PySem.W.Frag) (te : TE) (tl tst : TO) : TE := fun σ H Q => te σ H fun x H1 => tl σ H1 fun lo H2 => tst σ H2 fun st H3 => st ≠ some 0 ∧ ∃ a xs, x = .ref a ∧ SqL K H3 a xs ∧ ∀ p, H3 p = none → Q (.ref p) (upd H3 p (.lst (pickI xs lo none st)))
theorem pe_slS {bo : Option Expr} (he : PE X e te) (hl : PO X bo tl) (hu : PO X (some c) th) : PE X (.Subscript e (.Slice bo none (some c) p2) pos) (tSlS X.K te tl th) := by
  refine ⟨fun pins s σ H Q I h => ?_⟩
  refine Subscript_ (thn (he.run pins s σ H _ I h) fun v s1 ⟨x, H1, I1, r1, q1⟩ => ?_)
  refine wpAny_Slice (thn (hl.run pins s1 σ H1 _ I1 q1) fun vl s2 ⟨l, H2, I2, pl, q2⟩ => ?_)
  refine thn (po_none.run pins s2 σ H2 (fun o H3 => o = none ∧ H3 = H2) I2 ⟨rfl, rfl⟩) fun vu s3 ⟨u, H3, I3, pu, eu, e3⟩ => ?_
  subst eu e3
  refine thn (hu.run pins s3 σ H3 _ I3 q2) fun vs s4 ⟨o, H4, I4, ps, q4⟩ => ?_
  obtain ⟨h0, a, xs, ex, hx, q⟩ := q4
  subst ex
  cases r1
  have I5 : Inv X pins σ H4 { s4 with heap := s4.heap.push { cls := .type "slice", data := .fields #[vl, vu, vs] } } := I4.kept (t' := s4.toks) fun b ob q => Heap.get?_push_of_some _ q
  obtain ⟨its, r, ht, hz⟩ := I5.list hx
  have hlen := r.length
  show wpAny (model X.prog X.w) X.A (subscriptTail e (.Slice bo none (some c) p2) (.ref a) (.ref s4.heap.objs.size)) (EP X pins σ Q) X.xe { s4 with heap := s4.heap.push { cls := .type "slice", data := .fields #[vl, vu, vs] } }
  refine tail_any (ops := [.ref a, .ref s4.heap.objs.size]) ht.isList.typeIs (PySem.slot_list_getitem.lookup) ?_ (by with_unfolding_all rfl)
  refine wpAny_getItem_list_slice ht.isList (Heap.IsSliceOf.new _ vl vu vs) pl pu ps h0 ?_ (by rw [List.size_toArray]; omega)
  refine ⟨.ref _, _, I5.laid (t' := s4.toks) (o := .lst (pickI xs l none o)) (fun b ob q => Heap.get?_push_of_some _ q) (Nat.le_refl _) ?_, rfl, q _ (I5.hok.fresh (Nat.le_refl _))⟩
  exact ⟨Nat.le_trans (pickI_len r _ _ _) hz, _, 0, pickI_vals r _ _ _, Heap.get?_push_size _ rfl⟩
/-- xs[lo::step] of a list -/
def oSlS (d : D) (i k : Int) : Option EV := if k = 0 then none else match d with
  | .lst ds => some (.fr (.lst (pickI ds (some i) none (some k))))
  | .frl ds => some (.fr (.lst (pickI ds (some i) none (some k))))
  | _ => none
def slsK (o : Option D) (e2 e3 : EV) (Γ : Gm) : ERes := match e2, e3 with
  | .imm (.int i), .imm (.int k) => ERes.of (o.bind fun d => oSlS d i k) Γ
  | _, _ => .stuck
def eSlS (f g h : EM) : EM := fun Γ => (f Γ).bind fun e1 Γ1 => (g Γ1).bind fun e2 Γ2 => (h Γ2).bind fun e3 Γ3 => slsK (eGet Γ3 e1) e2 e3 Γ3
theorem de_slS (ha : DE X e f) (hb : DE X b g) (hc : DE X c h) : DE X (.Subscript e (.Slice (some b) none (some c) p2) pos) (eSlS f g h) :=
  pe_imp (pe_slS ha (po_some hb) (po_some hc)) fun _ _ Q ⟨W, F, ρ, Γ, eK, S, e, Γ', ef, ok, q⟩ => by
    obtain ⟨e1, Γ1, h1, ef⟩ := bind_inv ef
    obtain ⟨e2, Γ2, h2, ef⟩ := bind_inv ef
    obtain ⟨e3, Γ3, h3, ef⟩ := bind_inv ef
    unfold slsK at ef
    split at ef
    · rename_i i k hi hk
      obtain ⟨ef, rfl⟩ := of_inv ef
      obtain ⟨d, g1, ef⟩ := obind_inv ef
      refine tE_then eK S h1 (ok_get g1) fun v1 F1 H1 s1 S1 r1 => ?_
      refine tE_then eK S1 h2 (by rw [hi]; rfl) fun v2 F2 H2 s2 S2 r2 => ?_
      rw [hi] at r2
      unfold RpE at r2
      refine ⟨i, rd_int (rd_of r2 S2.sub), ?_⟩
      refine tE_then eK S2 h3 (by rw [hk]; rfl) fun v3 F3 H3 s3 S3 r3 => ?_
      rw [hk] at r3
      unfold RpE at r3
      refine ⟨k, rd_int (rd_of r3 S3.sub), ?_⟩
      unfold oSlS at ef
      split at ef
      · cases ef
      · rename_i hk0
        refine ⟨fun z => hk0 (by cases z; rfl), ?_⟩
        have rr := rd_get S3 (RpE.mono (s2.trans s3) _ _ (ok_get g1) r1) g1
        have w : Wish W F3 ρ _ Γ' e Q := fun v F' H' hs S' r' => q v F' H' (((s1.trans s2).trans s3).trans hs) S' r'
        rw [← eK]
        split at ef
        · cases ef
          obtain ⟨a, vs, rfl, x1, x2⟩ := rd_lst rr
          exact ⟨a, vs, rfl, .inl (.inl x1), fun p hp => w.newl S3 hp (pickI_rp x2 _ _ _)⟩
        · cases ef
          obtain ⟨a, vs, rfl, x1, x2⟩ := rd_frl rr
          exact ⟨a, vs, rfl, S3.sub.seq x1, fun p hp => w.newl S3 hp (pickI_rp x2 _ _ _)⟩
        · cases ef
    · cases ef
end
/-! ### by weakest preconditions -/
@[simp] theorem wE_slS (f g h : EM) (Γ : Gm) (Q : EV → Gm → Prop) : wE (eSlS f g h) Γ Q = wE f Γ fun e1 Γ1 => wE g Γ1 fun e2 Γ2 => wE h Γ2 fun e3 Γ3 => wInt e2.fz fun i => wInt e3.fz fun k => wV Γ3 e1.fz fun x => wO (oSlS x i k) fun e => Q e Γ3 := by
  unfold wE eSlS
  simp only [wE_bind]
  congr; funext e1 Γ1; congr; funext e2 Γ2; congr; funext e3 Γ3
  unfold slsK
  generalize e2.fz = z
  generalize e3.fz = y
  cases z with
  | imm d => cases d with
    | int i => cases y with
      | imm d => cases d with
        | int i => simp only [wInt_int, of_w, wV, wO_bind]
        | _ => simp [wInt]
      | _ => simp [wInt]
    | _ => simp [wInt]
  | _ => simp [wInt]
end DL

namespace DL
open PySem PySem.Spec PyProof.Rows L2

/-- the k-th of the owned items is d -/
def setInn : List D → Nat → D → List D
  | [], _, _ => []
  | x :: xs, k, d => if isInn x = true then (match k with
    | 0 => d :: xs
    | k + 1 => x :: setInn xs k d) else x :: setInn xs k d
theorem setInn_nin : ∀ {ds : List D} {k : Nat} {d : D}, isInn d = true → ninn (setInn ds k d) = ninn ds
  | [], _, _, _ => rfl
  | x :: xs, k, d, h => by
    unfold setInn ninn
    split
    · rename_i hx
      cases k with
      | zero => rw [List.filter_cons_of_pos h, List.filter_cons_of_pos hx]; rfl
      | succ k => rw [List.filter_cons_of_pos hx, List.filter_cons_of_pos hx]; simp only [List.length_cons]; congr 1; exact setInn_nin (k := k) h
    · rename_i hx
      rw [List.filter_cons_of_neg hx, List.filter_cons_of_neg hx]; exact setInn_nin (k := k) h
/-- where a nested list's items are, by place -/
def nAt (i : Nat) (ds : List D) (n : Nat) (d : D) : EV := if isInn d = true then .inn i ((ds.take n).filter isInn).length else .imm d
section
variable {K : PySem.W.Frag} {F F' H H' : Hp} {ds : List D} {vs : List V} {bs : List Addr}
theorem NstL.at (n : NstL K F H ds vs bs) : ∀ {m : Nat} {d : D}, ds[m]? = some d → ∃ v, vs[m]? = some v ∧ (isInn d = false → Rp K F d v) ∧ (isInn d = true → ∃ b, v = .ref b ∧ bs[((ds.take m).filter isInn).length]? = some b) := by
  induction n with
  | nil => intro m d h; simp at h
  | @pl d0 v vs ds bs h1 h2 _ ih =>
    intro m d h
    cases m with
    | zero => cases h; exact ⟨v, rfl, fun _ => h2, fun z => by rw [h1] at z; cases z⟩
    | succ m =>
      obtain ⟨w, e1, e2, e3⟩ := ih (by simpa using h)
      exact ⟨w, by simpa using e1, e2, fun z => by rw [List.take_succ_cons, List.filter_cons_of_neg (by rw [h1]; decide)]; exact e3 z⟩
  | @inn d0 b ds vs bs h1 h2 h3 _ ih =>
    intro m d h
    cases m with
    | zero => cases h; exact ⟨_, rfl, fun z => (by rw [h1] at z; cases z), fun _ => ⟨b, rfl, rfl⟩⟩
    | succ m =>
      obtain ⟨w, e1, e2, e3⟩ := ih (by simpa using h)
      exact ⟨w, by simpa using e1, e2, fun z => by rw [List.take_succ_cons, List.filter_cons_of_pos h1]; obtain ⟨c, e4, e5⟩ := e3 z; exact ⟨c, e4, by simpa using e5⟩⟩
/-- a plain item is stored -/
theorem NstL.set (n : NstL K F H ds vs bs) {d : D} {v : V} (hd : isInn d = false) (r : Rp K F d v) : ∀ {m : Nat} {d0 : D}, ds[m]? = some d0 → isInn d0 = false → NstL K F H (ds.set m d) (vs.set m v) bs := by
  induction n with
  | nil => intro m d0 h; simp at h
  | pl h1 h2 h3 ih =>
    intro m d0 h hd0
    cases m with
    | zero => exact .pl hd r h3
    | succ m => exact .pl h1 h2 (ih (by simpa using h) hd0)
  | inn h1 h2 h3 h4 ih =>
    intro m d0 h hd0
    cases m with
    | zero => cases h; rw [h1] at hd0; cases hd0
    | succ m => exact .inn h1 h2 h3 (ih (by simpa using h) hd0)
/-- an owned item is written -/
theorem NstL.write (n : NstL K F H ds vs bs) (nd : bs.Nodup) : ∀ {k : Nat} {d : D} {b : Addr} {o : HO}, bs[k]? = some b → isInn d = true → OwnAt K F (upd H b o) b d → NstL K F (upd H b o) (setInn ds k d) vs bs := by
  induction n with
  | nil => intro k d b o h; simp at h
  | @pl d0 v ds vs bs h1 h2 _ ih =>
    intro k d b o h hd ho
    unfold setInn
    rw [if_neg (by rw [h1]; decide)]
    exact .pl h1 h2 (ih nd h hd ho)
  | @inn d0 b0 ds vs bs h1 h2 h3 h4 ih =>
    intro k d b o h hd ho
    obtain ⟨n1, n2⟩ := List.nodup_cons.mp nd
    unfold setInn
    rw [if_pos h1]
    cases k with
    | zero =>
      cases h
      refine .inn hd ho h3 (h4.mono (Same.refl F) (fun c hc u hu => ?_) fun c _ z => z)
      rw [upd_ne fun e => n1 (by rw [← e]; exact hc)]
      exact hu
    | succ k =>
      have hb : bs[k]? = some b := by simpa using h
      refine .inn h1 (h2.mono (Same.refl F) fun u hu => ?_) h3 (ih n2 hb hd ho)
      rw [upd_ne fun e => n1 (by rw [e]; exact List.mem_of_getElem? hb)]
      exact hu
end
section
variable {W : Wd} {F F' H H' : Hp} {ρ : Nat → Option Addr} {σ : L2.St} {Γ : Gm} {i : Nat} {io : Bool} {ds : List D}
/-- what a slot with a nested list says -/
theorem Sim.nst (S : Sim W F H ρ σ Γ) (h : Γ[i]? = some (.nst io ds)) : ∃ a bs vs, ρ i = some a ∧ σ[i]? = some (some (.ref a)) ∧ H a = some (.lst vs) ∧ NstL W.K F H ds vs bs ∧ (a :: bs).Nodup ∧ F a = none ∧ (∀ (k : Nat) (b : Addr), bs[k]? = some b → ρ (gix Γ.length i k) = some b) ∧ OkR W Γ.length i io a bs ∧ bs.length = ninn ds := by
  obtain ⟨a, bs, e1, e2, ⟨vs, n1, n2, n3⟩, e4, e5, e6⟩ := S.slot i _ h
  exact ⟨a, bs, vs, e1, e2, n1, n2, n3, e4, e5, e6, n2.len.2⟩
theorem Sim.writeC {a c : Addr} {bs : List Addr} {o : HO} {ds' : List D} (S : Sim W F H ρ σ Γ) (hs : Γ[i]? = some (.nst io ds)) (ha : ρ i = some a) (hg : ∀ (k : Nat) (b : Addr), bs[k]? = some b → ρ (gix Γ.length i k) = some b) (hR : OkR W Γ.length i io a bs) (hbl : bs.length = ninn ds) (hf : F a = none) (hc : c ∈ a :: bs) (hfc : F c = none)
    (ho : NstAt W.K F (upd H c o) a bs ds') : Sim W F (upd H c o) ρ σ (Γ.set i (.nst io ds')) :=
  S.after1N hs ha hg hR hbl (Same.refl F) (fun b x q => by rw [upd_ne (fun e => by subst e; rw [hfc] at q; cases q)]; exact S.sub _ _ q) (fun x u e hx => by rw [upd_ne (fun z => hx (by rw [z]; exact hc))]; exact e) (fun a o e => .inl e) ho hf
/-- a plain item is stored -/
theorem Sim.storeN {a : Addr} {m : Nat} {d d0 : D} {v : V} (S : Sim W F H ρ σ Γ) (hs : Γ[i]? = some (.nst io ds)) (ha : ρ i = some a) (hm : ds[m]? = some d0) (hd0 : isInn d0 = false) (hd : isInn d = false) (r : Rp W.K F d v) : ∃ vs, H a = some (.lst vs) ∧ ds.length = vs.length ∧ Sim W F (upd H a (.lst (vs.set m v))) ρ σ (Γ.set i (.nst io (ds.set m d))) := by
  obtain ⟨a', bs, vs, e1, e2, n1, n2, n3, e4, e5, e6, e7⟩ := S.nst hs
  rw [ha] at e1; cases e1
  refine ⟨vs, n1, n2.len.1, S.writeC hs ha e5 e6 e7 e4 List.mem_cons_self e4 ⟨vs.set m v, upd_same, ?_, n3⟩⟩
  refine (n2.set hd r hm hd0).mono (Same.refl F) (fun b hb o h => ?_) fun b _ z => z
  rw [upd_ne fun e => (List.nodup_cons.mp n3).1 (by rw [← e]; exact hb)]
  exact h
/-- an owned item is written -/
theorem Sim.writeI {b : Addr} {k : Nat} {d d0 : D} {o : HO} (S : Sim W F H ρ σ Γ) (hs : Γ[i]? = some (.nst io ds)) (hb : ρ (gix W.n i k) = some b) (h0 : (ds.filter isInn)[k]? = some d0) (hd : isInn d = true) (ho : OwnAt W.K F (upd H b o) b d) : Sim W F (upd H b o) ρ σ (Γ.set i (.nst io (setInn ds k d))) := by
  obtain ⟨a, bs, vs, e1, e2, n1, n2, n3, e4, e5, e6, e7⟩ := S.nst hs
  obtain ⟨c, hc, oc, fc⟩ := n2.inn_at h0
  have : ρ (gix W.n i k) = some c := by rw [← S.gl]; exact e5 k c hc
  rw [hb] at this; cases this
  obtain ⟨m1, m2⟩ := List.nodup_cons.mp n3
  refine S.writeC hs e1 e5 e6 e7 e4 (List.mem_cons_of_mem _ (List.mem_of_getElem? hc)) fc ⟨vs, ?_, n2.write m2 hc hd ho, n3⟩
  rw [upd_ne fun e => m1 (by rw [e]; exact List.mem_of_getElem? hc)]
  exact n1
end

/-! ### pot[k] -/
def nixK (i : Nat) (s : Option Sl) (e : EV) (Γ : Gm) : ERes := match s, e with
  | some (.nst _ ds), .imm (.int k) => (match ixN ds.length k with
    | some n => ERes.of (ds[n]?.map (nAt i ds n)) Γ
    | none => .stuck)
  | _, _ => .stuck
def isNst : Option Sl → Bool
  | some (.nst _ _) => true
  | _ => false
theorem isNst_inv {s : Option Sl} (h : isNst s = true) : ∃ io ds, s = some (.nst io ds) := by
  unfold isNst at h
  split at h
  · exact ⟨_, _, rfl⟩
  · cases h
def eNIx (i : Nat) (ix : EM) : EM := fun Γ => if isNst Γ[i]? = true then (ix Γ).bind fun e Γ1 => nixK i Γ1[i]? e Γ1 else .stuck
section
variable {X : Cx} {x : Str} {p pos apos cpos : Pos} {e o b : Expr} {f g ix : EM} {i : Nat}
theorem name_bN {σ : L2.St} {H : Hp} {Q : VK} {W : Wd} {F : Hp} {ρ : Nat → Option Addr} {Γ : Gm} (eK : W.K = X.K) (S : Sim W F H ρ σ Γ) (hs : isNst Γ[i]? = true) (k : ∀ a F1 H1, Same F F1 → Sim W F1 H1 ρ σ Γ → ρ i = some a → Q (.ref a) H1) : tE X.K (eName i) σ H Q := by
  obtain ⟨io, ds, hs⟩ := isNst_inv hs
  refine ⟨W, F, ρ, Γ, eK, S, .bor i, Γ, by unfold eName; rw [hs], rfl, fun v F' H' hs' S' r => ?_⟩
  unfold RpE at r
  obtain ⟨a, ea, rfl⟩ := r
  exact k a F' H' hs' S' ea
theorem ok_nAt {i : Nat} {ds : List D} {n : Nat} {d : D} : (nAt i ds n d).fz.ok = true := by
  unfold nAt
  split <;> rfl
theorem de_nix (ho : DE X (.Name x p) (eName i)) (hi : DE X b ix) (hs : PlainIx b := by exact fun _ _ => rfl) : DE X (.Subscript (.Name x p) b pos) (eNIx i ix) :=
  pe_imp (pe_ix ix_list ho hi hs) fun σ H Q ⟨W, F, ρ, Γ, eK, S, e, Γ', ef, ok, q⟩ => by
    unfold eNIx at ef
    split at ef
    · rename_i hn
      obtain ⟨e1, Γ1, h1, ef⟩ := bind_inv ef
      refine name_bN eK S hn fun a F1 H1 s1 S1 ea => ?_
      unfold nixK at ef
      split at ef
      · rename_i io ds k hs he
        split at ef
        · rename_i n hk
          obtain ⟨ef2, rfl⟩ := of_inv ef
          obtain ⟨d, hd, rfl⟩ := omap_inv ef2
          refine tE_then eK S1 h1 (by rw [he]; rfl) fun v2 F2 H2 s2 S2 r2 => ?_
          rw [he] at r2
          unfold RpE at r2
          obtain ⟨a', bs, vs, e1, e2, n1, n2, n3, e4, e5, e6, e7⟩ := S2.nst hs
          rw [ea] at e1; cases e1
          obtain ⟨v, hv, p1, p2⟩ := n2.at hd
          refine ⟨a, vs, k, v, rfl, rd_int (rd_of r2 S2.sub), .inl (.inl n1), ?_, ?_⟩
          · unfold atI
            rw [← n2.len.1, hk]
            exact hv
          · refine q v F2 H2 (s1.trans s2) S2 ?_
            unfold nAt
            split
            · rename_i hin
              obtain ⟨c, rfl, hc⟩ := p2 hin
              unfold RpE
              exact ⟨c, by rw [← S2.gl]; exact e5 _ _ hc, rfl⟩
            · rename_i hin
              unfold RpE
              exact p1 (by simpa using hin)
        · cases ef
      · cases ef
    · cases ef

/-! ### pot[k] = e -/
def nstS (i : Nat) (d : D) (e2 : EV) (Γ : Gm) : SRes := match Γ[i]?, e2 with
  | some (.nst io ds), .imm (.int k) => (match ixN ds.length k with
    | some n => (match ds[n]? with
      | some d0 => if isInn d0 = false ∧ isInn d = false then .nx (Γ.set i (.nst io (ds.set n d))) else .stuck
      | none => .stuck)
    | none => .stuck)
  | _, _ => .stuck
def sNIx (i : Nat) (ix f : EM) : SM := fun Γ => (f Γ).go fun e Γ1 => if e.fz.ok = true then SRes.ofS (settle e.fz Γ1) (fun d Γ2 => if isNst Γ2[i]? = true then (ix Γ2).go fun e2 Γ3 => nstS i d e2.fz Γ3 else .stuck) else .stuck
theorem ds_nix {spos : Pos} (he : DE X e f) (ho : DE X (.Name x p) (eName i)) (hi : DE X b ix)
    (ha : ∀ v, assign (.Subscript (.Name x p) b pos) X.env v = (do
      let ov ← holding [v] (eval (.Name x p) X.env)
      let iv ← holding [v, ov] (eval b X.env)
      standAt pos
      holding [v, ov, iv] (setItem ov iv v)
      release [v, ov, iv] []) := by intro _; rfl)
    (hs : swapsWithSole [.Subscript (.Name x p) b pos] e spos.line X.env = pure false := by rfl) (hw : swappedStores [.Subscript (.Name x p) b pos] e X.env = pure none := by rfl)
    (h1 : (assignEach [.Subscript (.Name x p) b pos] X.env).map (·.2) = [assign (.Subscript (.Name x p) b pos) X.env] := by rfl) :
    DS X (.Assign [.Subscript (.Name x p) b pos] e spos) (sNIx i ix f) :=
  ps_imp (ps_asg he (pg_sub ho hi set_list ha) hs hw h1) fun D' σ H ⟨W, F, ρ, Γ, eK, S, h⟩ => by
    obtain ⟨e1, Γ1, ef, h⟩ := go_inv h
    obtain ⟨ok, h⟩ := ifok_inv h
    obtain ⟨d, Γ2, hd, h⟩ := ofS_inv h
    obtain ⟨hn, h⟩ := ifok_inv h
    obtain ⟨e2, Γ3, ei, h⟩ := go_inv h
    refine tE_then eK S ef ok fun v F1 H1 k1 S1 r1 => ?_
    obtain ⟨F2, k2, S2, r2⟩ := settle_ok _ _ _ _ _ _ S1 ok r1 hd
    refine name_bN eK S2 hn fun a F3 H3 k3 S3 ea => ?_
    unfold nstS at h
    split at h
    · rename_i io ds k hsl hk
      split at h
      · rename_i n hix
        split at h
        · rename_i d0 hd0
          split at h
          · rename_i hh
            refine tE_then eK S3 ei (by rw [hk]; rfl) fun vi F4 H4 k4 S4 r4 => ?_
            rw [hk] at r4
            unfold RpE at r4
            obtain ⟨vs, x1, x2, S5⟩ := S4.storeN hsl ea hd0 hh.1 hh.2 (Rp.mono (k3.trans k4) _ _ r2)
            refine ⟨a, vs, k, n, rfl, rd_int (F := F4) (H := H4) (rd_of r4 S4.sub), x1, by rw [← x2]; exact hix, ?_⟩
            exact h F4 _ ρ _ (((k1.trans k2).trans k3).trans k4) S5
          · exact False.elim h
        · exact False.elim h
      · exact False.elim h
    · exact False.elim h

/-! ### o.pop(j), o an item that a list owns -/
def setI (Γ : Gm) (i k : Nat) (d : D) : Gm := match Γ[i]? with
  | some (.nst io ds) => Γ.set i (.nst io (setInn ds k d))
  | _ => Γ
def popIK (e1 e2 : EV) (Γ : Gm) : ERes := match e1, e2 with
  | .inn i k, .imm (.int j) => (match nstD Γ i k with
    | some (.lst xs) => if -(2 ^ 63) ≤ j ∧ j < 2 ^ 63 then (match seqIndex? j xs.length with
      | some m => (match xs[m]? with
        | some d => .ok (.imm d) (setI Γ i k (.lst (xs.eraseIdx m)))
        | none => .stuck)
      | none => .stuck) else .stuck
    | _ => .stuck)
  | _, _ => .stuck
def isL (Γ : Gm) (e : EV) : Bool := match eGet Γ e with
  | some (.lst _) => true
  | _ => false
def ePopI (f g : EM) : EM := fun Γ => (f Γ).bind fun e1 Γ1 => if isL Γ1 e1 = true then (g Γ1).bind fun e2 Γ2 => popIK e1 e2 Γ2 else .stuck
theorem nstD_inv {Γ : Gm} {i k : Nat} {d : D} (h : nstD Γ i k = some d) : ∃ io ds, Γ[i]? = some (.nst io ds) ∧ (ds.filter isInn)[k]? = some d := by
  unfold nstD at h
  split at h
  · rename_i io ds hs; exact ⟨io, ds, hs, h⟩
  · cases h
theorem de_popI (ho : DE X o f) (he : DE X e g)
    (hbase : attributeBase o "pop" X.env (eval o X.env) = eval o X.env := by rfl)
    (hfew : ((backTo cpos (starEach (e :: []) X.env)).all (fun x => !x.1) && (backToKw cpos (keywordEach [] X.env)).all (fun x => x.1.isSome)
      && decide ((e :: []).length + ([] : List Keyword).length + (if ([] : List Keyword).isEmpty then 0 else 1) < 30)) = true := by rfl)
    (hline : (apos.endLine == cpos.line) = true := by rfl) (hs : starEach (e :: []) X.env = (false, eval e X.env) :: starEach [] X.env := by rfl) (hplain : (backTo cpos (starEach [] X.env)).any (·.1) = false := by rfl) :
    DE X (.Call (.Attribute o "pop" apos) [e] [] cpos) (ePopI f g) :=
  pe_imp (pe_bm PySem.F.plainAttrs_list PySem.F.slot_list_pop PySem.F.type_list_pop mt_popAt ho (pa_cons he pa_nil hs) hbase hfew hline hs hplain) fun σ H Q ⟨W, F, ρ, Γ, eK, S, e, Γ', ef, ok, q⟩ => by
    obtain ⟨e1, Γ1, h1, ef⟩ := bind_inv ef
    split at ef
    · rename_i hl
      obtain ⟨e2, Γ2, h2, ef⟩ := bind_inv ef
      have hg : ∃ ys, eGet Γ1 e1.fz = some (.lst ys) := by
        unfold isL at hl
        split at hl
        · exact ⟨_, by assumption⟩
        · cases hl
      obtain ⟨ys, hg⟩ := hg
      unfold popIK at ef
      split at ef
      · rename_i i k j hi hj
        refine tE_then eK S h1 (ok_get hg) fun v1 F1 H1 s1 S1 r1 => ?_
        obtain ⟨a, vs1, rfl, x1, _⟩ := rd_lst (rd_get S1 r1 hg)
        refine ⟨.inl ⟨rfl, vs1, .inl (.inl x1)⟩, ?_⟩
        refine tE_then eK S1 h2 (by rw [hj]; rfl) fun v2 F2 H2 s2 S2 r2 => ?_
        rw [hj] at r2
        unfold RpE at r2
        rw [hi] at r1
        unfold RpE at r1
        obtain ⟨b, hb, eb⟩ := r1
        cases eb
        split at ef
        · rename_i xs hx
          split at ef
          · rename_i hjj
            split at ef
            · rename_i m hm
              split at ef
              · rename_i d hd
                cases ef
                obtain ⟨io, ds, hsl, hf⟩ := nstD_inv hx
                obtain ⟨c, hc, oc, fc⟩ := S2.nstk hx
                rw [hb] at hc; cases hc
                obtain ⟨vs, x3, x4⟩ := oc
                obtain ⟨y, hy, ry⟩ := rpl_get x4 hd
                refine ⟨a, vs, j, m, y, rfl, by rw [rd_int (rd_of r2 S2.sub)], x3, hjj.1, hjj.2, by rw [← rpl_len x4]; exact hm, hy, ?_⟩
                refine q y F2 _ (s1.trans s2) ?_ (by unfold RpE; exact ry)
                unfold setI
                rw [hsl]
                exact S2.writeI hsl hb hf rfl ⟨_, upd_same, rpl_erase m x4⟩
              · cases ef
            · cases ef
          · cases ef
        · cases ef
      · cases ef
    · cases ef
end
end DL

namespace DL
open PySem PySem.Spec PyProof.Rows L2

@[simp] theorem allImm_inn (i k : Nat) (r : List EV) : allImm (.inn i k :: r) = none := rfl
section
variable {W : Wd} {F H : Hp} {ρ : Nat → Option Addr} {σ : L2.St} {Γ : Gm} {i : Nat} {a : Addr} {d : D}
theorem OwnAt.inn {K : PySem.W.Frag} (o : OwnAt K F H a d) : isInn d = true := by
  unfold OwnAt at o
  split at o
  · rfl
  · rfl
  · rfl
  · exact o.elim
/-- a name gives up what it owns -/
theorem Sim.drop (S : Sim W F H ρ σ Γ) (hs : Γ[i]? = some (.own false d)) (ha : ρ i = some a) : Sim W F H (unset ρ i) σ (Γ.set i .un) ∧ OwnAt W.K F H a d ∧ New W F H (unset ρ i) a := by
  obtain ⟨a', e1, e2, e3, e4, e5⟩ := S.slot i _ hs
  rw [ha] at e1; cases e1
  rw [if_neg (by decide)] at e5
  have hi : i < Γ.length := (List.getElem?_eq_some_iff.mp hs).1
  refine ⟨S.chg hi (Same.refl F) S.sub (fun a o e => .inl e) S.keep S.pal (fun j a e => S.ro j a (unset_le e).2) (fun j hj _ => unset_ne hj) rfl (fun j hj => rfl) unset_same (fun _ _ _ _ _ _ => ⟨fun _ z => z, fun z => z⟩) (fun j l b h => ?_) (fun j b l aj hj ng ej hl el => ?_) (fun q hq => ?_) S.ext, e3, e4, e5.2, e5.1, fun j e => ?_, fun q hq e => ?_⟩
  · rcases h with ⟨_, h⟩ | ⟨_, _, _, h, _⟩ <;> cases h
  · obtain ⟨h1, h2⟩ := unset_le el
    rcases hl with rfl | ⟨k, rfl⟩
    · exact h1 rfl
    · exact ng k (S.one j _ b aj ej h2)
  · obtain ⟨x, y, z⟩ := S.pin q hq
    exact ⟨x, y, fun j e => z j (unset_le e).2⟩
  · obtain ⟨h1, h2⟩ := unset_le e
    exact h1 (S.one i j a (Act.own hs) ha h2).symm
  · exact (S.pin q hq).2.2 i (by rw [ha, e])
end
/-- the items of a new list: own lists move into it -/
def mvs : List EV → Gm → Option (List D × Gm)
  | [], Γ => some ([], Γ)
  | .imm d :: es, Γ => if isInn d = true then none else (mvs es Γ).map fun p => (d :: p.1, p.2)
  | .bor i :: es, Γ => match Γ[i]? with
    | some (.own false d) => (mvs es (Γ.set i .un)).map fun p => (d :: p.1, p.2)
    | _ => none
  | _, _ => none
theorem mvs_ok {W : Wd} {F H : Hp} {ρ0 : Nat → Option Addr} {σ : L2.St} : ∀ (es : List EV) (vs : List V) (ρ : Nat → Option Addr) (Γ Γ' : Gm) (ds : List D), Sim W F H ρ σ Γ → (∀ i s, Γ[i]? = some s → isOwned s = true → ρ i = ρ0 i) → RpEs W F H ρ0 es vs → mvs es Γ = some (ds, Γ') →
    ∃ ρ' bs, Sim W F H ρ' σ Γ' ∧ NstL W.K F H ds vs bs ∧ bs.Nodup ∧ (∀ b ∈ bs, New W F H ρ' b) ∧ (∀ b ∈ bs, ∃ i, ρ i = some b) ∧ ∀ j c, ρ' j = some c → ρ j = some c
  | [], vs, ρ, Γ, Γ', ds, S, hc, r, h => by
    unfold mvs at h
    cases h
    unfold RpEs at r
    subst r
    exact ⟨ρ, [], S, .nil, List.nodup_nil, fun b hb => absurd hb (List.not_mem_nil), fun b hb => absurd hb (List.not_mem_nil), fun j c e => e⟩
  | .imm d :: es, vs, ρ, Γ, Γ', ds, S, hc, r, h => by
    unfold mvs at h
    split at h
    · cases h
    · rename_i hd
      obtain ⟨p, hp, e⟩ := omap_inv h
      cases e
      unfold RpEs at r
      obtain ⟨v, ws, rfl, r1, r2⟩ := r
      unfold RpE at r1
      obtain ⟨ρ', bs, x1, x2, x3, x4, x5, x6⟩ := mvs_ok es ws ρ Γ p.2 p.1 S hc r2 hp
      exact ⟨ρ', bs, x1, .pl (by simpa using hd) r1 x2, x3, x4, x5, x6⟩
  | .bor i :: es, vs, ρ, Γ, Γ', ds, S, hc, r, h => by
    unfold mvs at h
    split at h
    · rename_i d hs
      obtain ⟨p, hp, e⟩ := omap_inv h
      cases e
      unfold RpEs at r
      obtain ⟨v, ws, rfl, r1, r2⟩ := r
      unfold RpE at r1
      obtain ⟨a, ea, rfl⟩ := r1
      have ha : ρ i = some a := by rw [hc i _ hs rfl]; exact ea
      obtain ⟨S1, o1, N1⟩ := S.drop hs ha
      have hi : i < Γ.length := (List.getElem?_eq_some_iff.mp hs).1
      obtain ⟨ρ', bs, x1, x2, x3, x4, x5, x6⟩ := mvs_ok es ws (unset ρ i) (Γ.set i .un) p.2 p.1 S1 (fun j s hj ho => by
        by_cases hji : j = i
        · subst hji
          rw [List.getElem?_set_self hi] at hj
          cases hj
          cases ho
        · rw [List.getElem?_set_ne (Ne.symm hji)] at hj
          rw [unset_ne hji]
          exact hc j s hj ho) r2 hp
      have na : a ∉ bs := fun hb => by
        obtain ⟨j, hj⟩ := x5 a hb
        exact N1.r j hj
      refine ⟨ρ', a :: bs, x1, .inn o1.inn o1 N1.f x2, List.nodup_cons.mpr ⟨na, x3⟩, fun b hb => ?_, fun b hb => ?_, fun j c e => (unset_le (x6 j c e)).2⟩
      · rcases List.mem_cons.mp hb with rfl | hb
        · exact ⟨N1.f, N1.b, N1.np, fun j e => N1.r j (x6 j _ e), N1.n⟩
        · exact x4 b hb
      · rcases List.mem_cons.mp hb with rfl | hb
        · exact ⟨i, ha⟩
        · obtain ⟨j, hj⟩ := x5 b hb
          exact ⟨j, (unset_le hj).2⟩
    · cases h
  | .fr d :: es, vs, ρ, Γ, Γ', ds, S, hc, r, h => by unfold mvs at h; cases h
  | .frn d :: es, vs, ρ, Γ, Γ', ds, S, hc, r, h => by unfold mvs at h; cases h
  | .inn _ _ :: es, vs, ρ, Γ, Γ', ds, S, hc, r, h => by unfold mvs at h; cases h
  | .tl _ :: es, vs, ρ, Γ, Γ', ds, S, hc, r, h => by unfold mvs at h; cases h
  | .tt _ :: es, vs, ρ, Γ, Γ', ds, S, hc, r, h => by unfold mvs at h; cases h
@[simp] theorem mvs_nil (Γ : Gm) : mvs [] Γ = some ([], Γ) := rfl
@[simp] theorem mvs_int (i : Int) (es : List EV) (Γ : Gm) : mvs (.imm (.int i) :: es) Γ = (mvs es Γ).map fun p => (.int i :: p.1, p.2) := rfl
def mvB (s : Option Sl) (i : Nat) (es : List EV) (Γ : Gm) : Option (List D × Gm) := match s with
  | some (.own false d) => (mvs es (Γ.set i .un)).map fun p => (d :: p.1, p.2)
  | _ => none
@[simp] theorem mvs_bor (i : Nat) (es : List EV) (Γ : Gm) : mvs (.bor i :: es) Γ = mvB Γ[i]? i es Γ := rfl
@[simp] theorem mvB_own (d : D) (i : Nat) (es : List EV) (Γ : Gm) : mvB (some (.own false d)) i es Γ = (mvs es (Γ.set i .un)).map fun p => (d :: p.1, p.2) := rfl
/-- return [.., own list, ..] -/
def sRetMv (r : AM) : SM := fun Γ => match r Γ with
  | .ok es Γ1 => if EV.oks es = true ∧ es.length ≤ 1000 then (match mvs es Γ1 with
    | some p => .ret (.frn p.1) p.2
    | none => .stuck) else .stuck
  | .stuck => .stuck
section
variable {X : Cx} {pos lp : Pos} {es : List Expr} {r : AM}
theorem ds_retMv (ha : DA X es r) : DS X (.Return (some (.List es lp)) pos) (sRetMv r) :=
  ps_imp (ps_ret (pe_lst ha)) fun D σ H ⟨W, F, ρ, Γ, eK, S, h⟩ => by
    unfold sRetMv at h
    split at h
    · rename_i es' Γ1 hr
      split at h
      · rename_i hh
        split at h
        · rename_i p hp
          refine ⟨W, F, ρ, Γ, eK, S, es', Γ1, hr, hh.1, fun vs F1 H1 s1 S1 r1 => ⟨by rw [rpes_len r1, sizeLine_eq]; omega, fun q hq => ?_⟩⟩
          obtain ⟨ρ', bs, x1, x2, x3, x4, x5, x6⟩ := mvs_ok es' vs ρ Γ1 p.2 p.1 S1 (fun _ _ _ _ => rfl) r1 hp
          have N := x1.fresh hq
          refine h (.ref q) F1 _ ρ' _ s1 (x1.alloc (o := .lst vs) hq) ?_
          have nq : q ∉ bs := fun hb => by
            obtain ⟨u, hu⟩ := (x2.there q hb).1
            rw [hq] at hu; cases hu
          unfold RpE
          refine ⟨q, bs, rfl, ⟨vs, upd_same, x2.mono (Same.refl F1) (fun b hb o hu => ?_) (fun b _ z => z), List.nodup_cons.mpr ⟨nq, x3⟩⟩, N.f, fun b hb => ?_⟩
          · rw [upd_ne fun e => nq (by rw [← e]; exact hb)]
            exact hu
          · rcases List.mem_cons.mp hb with rfl | hb
            · exact N.up
            · have N4 := x4 b hb
              exact ⟨N4.f, N4.b, N4.np, N4.r, N4.n⟩
        · exact h.elim
      · exact h.elim
    · exact h.elim
end
@[simp] theorem wS_retMv (r : AM) (Γ : Gm) (Q : SRes → Prop) : wS (sRetMv r) Γ Q = wA r Γ fun es Γ1 => (EV.oks es = true ∧ es.length ≤ 1000) ∧ wO (mvs es Γ1) fun p => Q (.ret (.frn p.1) p.2) := by
  simp only [wS_eq]
  unfold sRetMv wA
  cases r Γ with
  | stuck => rfl
  | ok es Γ1 =>
    simp only [wX_if]
    congr 1
    cases mvs es Γ1 <;> simp

/-! ### x = f(..), f hands back a new list that owns lists -/
def ownNK (i : Nat) (fn : FS) (ms : List Bool) (o : Option (List D)) (Γ : Gm) : SRes := match o with
  | some ds => if ms.any id = false ∧ isIo Γ[i]? = false then (match fn ds with
    | .okN es [] => .nx (Γ.set i (.nst false es))
    | _ => .stuck) else .stuck
  | none => .stuck
def sOwnNC (i : Nat) (ms : List Bool) (fn : FS) (a : AM) : SM := fun Γ => match a Γ with
  | .ok es Γ1 => if EV.oks es = true then ownNK i fn ms (allImm es) Γ1 else .stuck
  | .stuck => .stuck
section
variable {X : Cx} {k : Nat} {f : Addr} {fd : FuncData} {ps ks : List Str} {x y : Str} {p p0 pos cpos : Pos} {e : Expr} {es : List Expr} {ms : List Bool} {fn : FS} {a : AM} {i : Nat}
theorem ds_ownNC (hN : X.N.Nodup) (F : FnOk X.prog X.w X.K X.mg X.base CX0 k f fd ps (spD X.K ms fn)) (hr : Room k X.A) (hm : X.mg x = some (.ref f)) (hk : PySem.W.keepIn X.K (.ref f) = true) (hb : Binds X.K fd ps []) (hlen : ∀ ds, fn ds ≠ .stuck → ds.length = ms.length) (ha : DA X (e :: es) a)
    (hi : X.N[i]? = some y := by rfl) (hx : Loc X.env.scope y := by first | exact Or.inl rfl | exact Or.inr rfl) (hs : swapsWith (.Call (.Name x p) (e :: es) [] cpos) (some (.Name y p0)) pos.line X.env = pure false := by rfl)
    (hf : X.fn y = true ∨ X.env.scope.names.lookup y = some .local := by first | exact .inl rfl | exact .inr rfl)
    (hg : Gl X x := by rfl) (hdb : (x == ("__debug__" : Str)) = false := by decide) (he : starEach (e :: es) X.env = (false, eval e X.env) :: starEach es X.env := by rfl) (hpl : (backTo cpos (starEach es X.env)).any (·.1) = false := by rfl) :
    DS X (.Assign [.Name y p0] (.Call (.Name x p) (e :: es) [] cpos) pos) (sOwnNC i ms fn a) :=
  ps_imp (ps_set hN hi hx (pe_call F hr hg hm hk hb .nil pass0 ha hdb he hpl) hs hf) fun D σ H ⟨W, F, ρ, Γ, eK, S, h⟩ => by
    unfold sOwnNC at h
    split at h
    · rename_i es' Γ1 hr'
      obtain ⟨oks, h⟩ := ifok_inv h
      unfold ownNK at h
      split at h
      · rename_i ds hd
        split at h
        · rename_i hh
          split at h
          · rename_i es2 hfn
            refine ⟨W, F, ρ, Γ, eK, S, es', Γ1, hr', oks, fun vs F0 H1 k0 S0 r0 => ?_⟩
            obtain ⟨F1, k01, S1, aT⟩ := S0.tupz
            have k1 := k0.trans k01
            have r1 := RpEs.mono (H' := H1) k01 _ _ oks r0
            show spD X.K ms fn (vs ++ []) H1 _ _
            rw [List.append_nil, ← eK]
            obtain ⟨as, a1, a2⟩ := noio_args (H := H1) hh.1 (allImm_rp hd r1) (hlen ds (by rw [hfn]; intro z; cases z))
            refine ⟨F1, ds, as, S1.sub, aT, a1, by rw [a2]; exact List.nodup_nil, .inr ⟨es2, [], hfn, fun v F' H' pp rr => ?_⟩⟩
            have hkk : Same H1 H' := fun a o e => pp.keep a o e (by rw [a2]; simp)
            have S2 := S1.after pp.ff pp.fh hkk pp.new
            obtain ⟨a, bs, rfl, o, f1, f2⟩ := rr
            have N : ∀ b ∈ a :: bs, New W F' H' ρ b := fun b hb => by
              have N0 := S1.fresh (f2 b hb)
              refine ⟨?_, N0.b, N0.np, N0.r, N0.n⟩
              rcases List.mem_cons.mp hb with rfl | hb
              · exact f1
              · obtain ⟨_, _, n2, _⟩ := o
                exact (n2.there b hb).2
            exact h F' H' _ _ (k1.trans pp.ff) (S2.setNst (isIo_lt (by rw [hh.2]; decide)) o f1 N)
          · exact h.elim
        · exact h.elim
      · exact h.elim
    · exact h.elim
end
def wAI (o : Option (List D)) (Q : List D → Prop) : Prop := wO o Q
@[simp] theorem wS_ownNC (i : Nat) (ms : List Bool) (fn : FS) (a : AM) (Γ : Gm) (Q : SRes → Prop) : wS (sOwnNC i ms fn a) Γ Q = wA a Γ fun es Γ1 => EV.oks es = true ∧ wO (allImm es) fun ds => (ms.any id = false ∧ isIo Γ1[i]? = false) ∧ wFN fn ds fun es ios => ios = [] ∧ Q (.nx (Γ1.set i (.nst false es))) := by
  simp only [wS_eq]
  unfold sOwnNC wA
  cases a Γ with
  | stuck => rfl
  | ok es Γ1 =>
    simp only [wX_if]
    congr 1
    unfold ownNK
    cases allImm es with
    | none => simp
    | some ds =>
      simp only [wO_some, wX_if]
      congr 1
      have e : ∀ Q, wFN fn ds Q = ∃ es ios, fn ds = .okN es ios ∧ Q es ios := fun Q => propext ⟨fun h => h.out, fun h => ⟨h⟩⟩
      rw [e]
      cases hf : fn ds with
      | okN es2 ios =>
        cases ios with
        | nil => simp; exact ⟨fun h => ⟨_, _, ⟨rfl, rfl⟩, rfl, h⟩, fun ⟨_, _, ⟨h1, _⟩, _, h⟩ => by rw [h1]; exact h⟩
        | cons a b => simp
      | ok _ _ _ => simp
      | stuck => simp
end DL

namespace DL
open PySem PySem.Spec PyProof.Rows L2

/-- a slot that holds a list that owns lists -/
def wNs (s : Option Sl) (Q : Bool → List D → Prop) : Prop := match s with
  | some (.nst b ds) => Q b ds
  | _ => False
@[simp] theorem wNs_nst (b : Bool) (ds : List D) (Q : Bool → List D → Prop) : wNs (some (.nst b ds)) Q = Q b ds := rfl
theorem isNst_w (s : Option Sl) : (isNst s = true) = wNs s fun _ _ => True := by
  apply propext
  unfold isNst wNs
  split <;> simp
@[simp] theorem isInn_int (i : Int) : isInn (.int i) = false := rfl
@[simp] theorem isInn_str (s : List Nat) : isInn (.str s) = false := rfl
@[simp] theorem isInn_bl (b : Bool) : isInn (.bl b) = false := rfl
@[simp] theorem isInn_non : isInn .non = false := rfl
@[simp] theorem isInn_tup (ds : List D) : isInn (.tup ds) = false := rfl
@[simp] theorem isInn_lst (ds : List D) : isInn (.lst ds) = true := rfl
@[simp] theorem isInn_dic (ks : List Key) (ds : List D) : isInn (.dic ks ds) = true := rfl
theorem of_map_w (o : Option D) (f : D → EV) (Γ : Gm) (Q : EV → Gm → Prop) : mE (ERes.of (o.map f) Γ) Q = wO o fun d => Q (f d) Γ := by
  cases o with
  | none => simp only [Option.map_none, wO_none]; rfl
  | some d => simp
theorem mt_w (o : Option D) (k : D → SRes) (Q : SRes → Prop) : wX (match o with
  | some d0 => k d0
  | none => .stuck) Q = wO o fun d0 => wX (k d0) Q := by cases o <;> simp
theorem mte_w (o : Option D) (k : D → ERes) (Q : EV → Gm → Prop) : mE (match o with
  | some d0 => k d0
  | none => .stuck) Q = wO o fun d0 => mE (k d0) Q := by cases o <;> simp
@[simp] theorem wE_nix (i : Nat) (ix : EM) (Γ : Gm) (Q : EV → Gm → Prop) : wE (eNIx i ix) Γ Q = (wNs Γ[i]? (fun _ _ => True) ∧ wE ix Γ fun e Γ1 => wInt e.fz fun k => wNs Γ1[i]? fun _ ds => wO (ixN ds.length k) fun n => wO ds[n]? fun d => Q (nAt i ds n d) Γ1) := by
  unfold wE eNIx
  rw [mE_if, isNst_w, wE_bind]
  congr 1
  congr; funext e Γ1
  unfold nixK wNs
  generalize Γ1[i]? = s
  generalize e.fz = z
  cases s with
  | none =>
    cases z with
    | imm d => cases d <;> simp [wInt]
    | _ => simp [wInt]
  | some s =>
    cases s with
    | nst b ds =>
      cases z with
      | imm d =>
        cases d with
        | int k =>
          simp only [wInt_int]
          cases ixN ds.length k with
          | none => simp
          | some n => simp only [wO_some]; exact of_map_w _ _ _ _
        | _ => simp [wInt]
      | _ => simp [wInt]
    | _ =>
      cases z with
      | imm d => cases d <;> simp [wInt]
      | _ => simp [wInt]
@[simp] theorem wS_nix (i : Nat) (ix f : EM) (Γ : Gm) (Q : SRes → Prop) : wS (sNIx i ix f) Γ Q = wE f Γ fun e Γ1 => e.fz.ok = true ∧ wO (settle e.fz Γ1) fun p => wNs p.2[i]? (fun _ _ => True) ∧ wE ix p.2 fun e2 Γ3 => wInt e2.fz fun k =>
    wNs Γ3[i]? fun b ds => wO (ixN ds.length k) fun n => wO ds[n]? fun d0 => (isInn d0 = false ∧ isInn p.1 = false) ∧ Q (.nx (Γ3.set i (.nst b (ds.set n p.1)))) := by
  simp only [wS_eq]
  unfold sNIx
  simp only [go_wE, wX_if, ofS_w, isNst_w]
  congr; funext e Γ1; congr; funext p; congr; funext e2 Γ3
  unfold nstS wNs
  generalize Γ3[i]? = s
  generalize e2.fz = z
  cases s with
  | none =>
    cases z with
    | imm d => cases d <;> simp [wInt]
    | _ => simp [wInt]
  | some s =>
    cases s with
    | nst b ds =>
      cases z with
      | imm d =>
        cases d with
        | int k =>
          simp only [wInt_int]
          cases ixN ds.length k with
          | none => simp
          | some n =>
            simp only [wO_some]
            refine (mt_w _ _ _).trans ?_
            simp only [wX_if, wX_nx]
        | _ => simp [wInt]
      | _ => simp [wInt]
    | _ =>
      cases z with
      | imm d => cases d <;> simp [wInt]
      | _ => simp [wInt]
/-- what stands there is an item k of slot i that is owned -/
def wInn (e : EV) (Q : Nat → Nat → Prop) : Prop := ∃ i k, e = .inn i k ∧ Q i k
@[simp] theorem wInn_inn (i k : Nat) (Q : Nat → Nat → Prop) : wInn (.inn i k) Q = Q i k := by
  unfold wInn
  apply propext
  constructor
  · rintro ⟨i', k', h, q⟩; cases h; exact q
  · exact fun q => ⟨i, k, rfl, q⟩
def nDs (s : Option Sl) (k : Nat) : Option D := match s with
  | some (.nst _ ds) => (ds.filter isInn)[k]?
  | _ => none
@[simp] theorem nstD_eq (Γ : Gm) (i k : Nat) : nstD Γ i k = nDs Γ[i]? k := rfl
theorem nDs_nst (b : Bool) (ds : List D) (k : Nat) : nDs (some (.nst b ds)) k = (ds.filter isInn)[k]? := rfl
def nSt (s : Option Sl) (k : Nat) (d : D) (i : Nat) (Γ : Gm) : Gm := match s with
  | some (.nst io ds) => Γ.set i (.nst io (setInn ds k d))
  | _ => Γ
@[simp] theorem setI_eq (Γ : Gm) (i k : Nat) (d : D) : setI Γ i k d = nSt Γ[i]? k d i Γ := rfl
@[simp] theorem nSt_nst (b : Bool) (ds : List D) (k : Nat) (d : D) (i : Nat) (Γ : Gm) : nSt (some (.nst b ds)) k d i Γ = Γ.set i (.nst b (setInn ds k d)) := rfl
def wL1 (d : D) (Q : List D → Prop) : Prop := match d with
  | .lst xs => Q xs
  | _ => False
@[simp] theorem wL1_lst (xs : List D) (Q : List D → Prop) : wL1 (.lst xs) Q = Q xs := rfl
theorem isL_w (Γ : Gm) (e : EV) : (isL Γ e = true) = wV Γ e fun d => wL1 d fun _ => True := by
  apply propext
  unfold isL wV
  cases eGet Γ e with
  | none => simp
  | some d => cases d <;> simp [wL1]
@[simp] theorem wE_popI (f g : EM) (Γ : Gm) (Q : EV → Gm → Prop) : wE (ePopI f g) Γ Q = wE f Γ fun e1 Γ1 => (wV Γ1 e1.fz fun d => wL1 d fun _ => True) ∧ wE g Γ1 fun e2 Γ2 => wInn e1.fz fun i k => wInt e2.fz fun j => wO (nstD Γ2 i k) fun d => wL1 d fun xs =>
    (-(2 ^ 63) ≤ j ∧ j < 2 ^ 63) ∧ wO (seqIndex? j xs.length) fun m => wO xs[m]? fun d => Q (.imm d) (setI Γ2 i k (.lst (xs.eraseIdx m))) := by
  unfold wE ePopI
  simp only [wE_bind, mE_if, isL_w]
  congr; funext e1 Γ1; congr; funext e2 Γ2
  unfold popIK
  generalize e1.fz = y
  generalize e2.fz = z
  cases y with
  | inn i k =>
    simp only [wInn_inn]
    cases z with
    | imm d =>
      cases d with
      | int j =>
        simp only [wInt_int]
        cases nstD Γ2 i k with
        | none => simp
        | some d =>
          cases d with
          | lst xs =>
            simp only [wO_some, wL1_lst, mE_if]
            congr 1
            cases seqIndex? j xs.length with
            | none => simp
            | some m => simp only [wO_some]; exact mte_w _ _ _
          | _ => simp [wL1]
      | _ => simp [wInt]
    | _ => simp [wInt]
  | _ => simp [wInn]

/-! ### tuple(range(n)) -/
def oTR1 : O1
  | .int n => if n ≤ 1000000 ∧ -1000000 ≤ n then some (.imm (.tup (rng1 n))) else none
  | _ => none
theorem oTR1_i (n : Int) : oTR1 (.int n) = if n ≤ 1000000 ∧ -1000000 ≤ n then some (.imm (.tup (rng1 n))) else none := rfl
@[simp] theorem w_TR1 (n : Int) (Q : EV → Prop) : wO (oTR1 (.int n)) Q = ((n ≤ 1000000 ∧ -1000000 ≤ n) ∧ Q (.imm (.tup (rng1 n)))) := by rw [oTR1_i, wO_if]
def rTR1 : V → Hp → VK → Prop := fun x H Q => ∃ a b : Int, (∃ n, x = .int n ∧ (a = 0 ∧ b = n)) ∧ RgOk a b ∧ ∀ q, H q = none → Q (.ref q) (upd H q (.tup (rgV a b)))
section
variable {X : Cx}
theorem ud_TR1 : UnD X rTR1 oTR1 := by
  intro W F H ρ σ Γ d v e Q eK S r h w
  unfold oTR1 at h
  split at h
  · rename_i n
    obtain ⟨hl, rfl⟩ := if_some h
    rw [rd_int r]
    refine ⟨0, n, ⟨n, rfl, rfl, rfl⟩, ⟨by omega, by omega, by omega, by omega, by omega⟩, fun q hq => w.newt S hq ?_⟩
    unfold rng1 rgV
    rw [Int.sub_zero]
    have := rpl_ints (K := W.K) (F := F) ((List.range n.toNat).map fun i : Nat => (i : Int))
    rw [List.map_map, List.map_map] at this
    simpa [Function.comp_def] using this
  · cases h
theorem de_TR1 {a : Expr} {f : EM} {p p2 q pos : Pos} (hc : X.calm = true) (hm : X.mg "tuple" = none) (hm2 : X.mg "range" = none) (ha : DE X a f) (hg : Gl X "tuple" := by rfl) (hg2 : Gl X "range" := by rfl) (na2 : starEach [a] X.env = (false, eval a X.env) :: starEach [] X.env := by rfl)
    (na : starEach [.Call (.Name "range" p2) [a] [] q] X.env = (false, eval (.Call (.Name "range" p2) [a] [] q) X.env) :: starEach [] X.env := by rfl) :
    DE X (.Call (.Name "tuple" p) [.Call (.Name "range" p2) [a] [] q] [] pos) (eUn oTR1 f) :=
  pe_imp (pe_tupRg hc hg hm (prg_1 hg2 hm2 ha na2) na) fun σ H Q h => by
    obtain ⟨W, F, ρ, Γ, eK, S, e, Γ', ef, ok, q⟩ := un_core ud_TR1 h
    refine ⟨W, F, ρ, Γ, eK, S, e, Γ', ef, ok, fun v F' H' k S' r => ?_⟩
    obtain ⟨a, b, ⟨n, rfl, ea, eb⟩, h1, h2⟩ := q v F' H' k S' r
    subst ea eb
    exact ⟨_, rfl, h1, h2⟩
end
section
variable {X : Cx} {k : Nat} {st : Stmt} {ps : List Str} {x y : Str} {p p0 pos cpos : Pos} {e : Expr} {es : List Expr} {ms : List Bool} {fn : FS} {a : AM} {i : Nat}
theorem ds_ownND (hN : X.N.Nodup) (D : Df X.prog X.w X.K X.mg X.base k x st ps ms fn) (hr : Room k X.A) (ha : DA X (e :: es) a)
    (hi : X.N[i]? = some y := by rfl) (hx : Loc X.env.scope y := by first | exact Or.inl rfl | exact Or.inr rfl) (hs : swapsWith (.Call (.Name x p) (e :: es) [] cpos) (some (.Name y p0)) pos.line X.env = pure false := by rfl)
    (hf : X.fn y = true ∨ X.env.scope.names.lookup y = some .local := by first | exact .inl rfl | exact .inr rfl)
    (hg : Gl X x := by rfl) (hdb : (x == ("__debug__" : Str)) = false := by decide) (he : starEach (e :: es) X.env = (false, eval e X.env) :: starEach es X.env := by rfl) (hpl : (backTo cpos (starEach es X.env)).any (·.1) = false := by rfl) :
    DS X (.Assign [.Name y p0] (.Call (.Name x p) (e :: es) [] cpos) pos) (sOwnNC i ms fn a) := by
  obtain ⟨f, fd, F, hm, Fn, hb⟩ := D.ex
  exact ds_ownNC hN F hr hm Fn.kp hb D.len ha hi hx hs hf hg hdb he hpl
end
end DL

namespace DL
open PySem PySem.Spec PyProof.Rows L2
@[simp] theorem nAt_int (i : Nat) (ds : List D) (n : Nat) (x : Int) : nAt i ds n (.int x) = .imm (.int x) := rfl
@[simp] theorem nAt_str (i : Nat) (ds : List D) (n : Nat) (x : List Nat) : nAt i ds n (.str x) = .imm (.str x) := rfl
@[simp] theorem nAt_bl (i : Nat) (ds : List D) (n : Nat) (x : Bool) : nAt i ds n (.bl x) = .imm (.bl x) := rfl
@[simp] theorem nAt_non (i : Nat) (ds : List D) (n : Nat) : nAt i ds n .non = .imm .non := rfl
@[simp] theorem nAt_tup (i : Nat) (ds : List D) (n : Nat) (x : List D) : nAt i ds n (.tup x) = .imm (.tup x) := rfl
@[simp] theorem nAt_lst (i : Nat) (ds : List D) (n : Nat) (x : List D) : nAt i ds n (.lst x) = .inn i ((ds.take n).filter isInn).length := rfl
@[simp] theorem nAt_dic (i : Nat) (ds : List D) (n : Nat) (ks : List Key) (x : List D) : nAt i ds n (.dic ks x) = .inn i ((ds.take n).filter isInn).length := rfl
@[simp] theorem setInn_nil (k : Nat) (d : D) : setInn [] k d = [] := rfl
@[simp] theorem setInn_int (x : Int) (xs : List D) (k : Nat) (d : D) : setInn (.int x :: xs) k d = .int x :: setInn xs k d := rfl
@[simp] theorem setInn_str (x : List Nat) (xs : List D) (k : Nat) (d : D) : setInn (.str x :: xs) k d = .str x :: setInn xs k d := rfl
@[simp] theorem setInn_bl (x : Bool) (xs : List D) (k : Nat) (d : D) : setInn (.bl x :: xs) k d = .bl x :: setInn xs k d := rfl
@[simp] theorem setInn_non (xs : List D) (k : Nat) (d : D) : setInn (.non :: xs) k d = .non :: setInn xs k d := rfl
@[simp] theorem setInn_tup (x xs : List D) (k : Nat) (d : D) : setInn (.tup x :: xs) k d = .tup x :: setInn xs k d := rfl
@[simp] theorem setInn_l0 (x xs : List D) (d : D) : setInn (.lst x :: xs) 0 d = d :: xs := rfl
@[simp] theorem setInn_lS (x xs : List D) (k : Nat) (d : D) : setInn (.lst x :: xs) (k + 1) d = .lst x :: setInn xs k d := rfl
theorem ixN_of {n : Nat} {i : Int} (h0 : 0 ≤ i) (h1 : i < n) : ixN n i = some i.toNat := by
  unfold ixN
  rw [if_pos h0, if_pos h1]
@[simp] theorem ixN_l41 : ixN 4 1 = some 1 := rfl
@[simp] theorem ixN_l42 : ixN 4 2 = some 2 := rfl
@[simp] theorem ixN_l43 : ixN 4 3 = some 3 := rfl
@[simp] theorem ixN_l40 : ixN 4 0 = some 0 := rfl
theorem seqIndex_z {n : Nat} (h : 0 < n) : seqIndex? 0 n = some 0 := by
  rw [seqIndex_of (by decide) (by omega)]; rfl
/-- the k-th owned item -/
def innAt : List D → Nat → Option D
  | [], _ => none
  | x :: xs, k => if isInn x = true then (match k with
    | 0 => some x
    | k + 1 => innAt xs k) else innAt xs k
theorem innAt_eq : ∀ (ds : List D) (k : Nat), (ds.filter isInn)[k]? = innAt ds k
  | [], k => by simp [innAt]
  | x :: xs, k => by
    unfold innAt
    split
    · rename_i h
      rw [List.filter_cons_of_pos h]
      cases k with
      | zero => rfl
      | succ k => rw [List.getElem?_cons_succ]; exact innAt_eq xs k
    · rename_i h
      rw [List.filter_cons_of_neg h]; exact innAt_eq xs k
@[simp] theorem nDs_n (b : Bool) (ds : List D) (k : Nat) : nDs (some (.nst b ds)) k = innAt ds k := by rw [nDs_nst, innAt_eq]
@[simp] theorem innAt_int (x : Int) (xs : List D) (k : Nat) : innAt (.int x :: xs) k = innAt xs k := rfl
@[simp] theorem innAt_str (x : List Nat) (xs : List D) (k : Nat) : innAt (.str x :: xs) k = innAt xs k := rfl
@[simp] theorem innAt_bl (x : Bool) (xs : List D) (k : Nat) : innAt (.bl x :: xs) k = innAt xs k := rfl
@[simp] theorem innAt_non (xs : List D) (k : Nat) : innAt (.non :: xs) k = innAt xs k := rfl
@[simp] theorem innAt_tup (x xs : List D) (k : Nat) : innAt (.tup x :: xs) k = innAt xs k := rfl
@[simp] theorem innAt_l0 (x xs : List D) : innAt (.lst x :: xs) 0 = some (.lst x) := rfl
@[simp] theorem innAt_lS (x xs : List D) (k : Nat) : innAt (.lst x :: xs) (k + 1) = innAt xs k := rfl
@[simp] theorem wV_inn (Γ : Gm) (i k : Nat) (Q : D → Prop) : wV Γ (.inn i k) Q = wO (nDs Γ[i]? k) Q := rfl
end DL

set_option maxHeartbeats 4000000
namespace DL
open PySem PySem.Spec PyProof.Rows L2
section
variable {prog : Program} {w : World} {A : Around} {E : Value → Shared → Prop} {s : Shared}
theorem min_idx {l : Addr} {vs : Array Value} {xs : List PyData} {as : List Addr} {Q : Value → Shared → Prop} (hh : A.handled = none) (hl : s.heap.IsList l vs) (hr : ReadsAll s.heap vs.toList xs as) (ha : PySem.W.AlikeAll xs) (h0 : 0 < vs.size) (hu : A.units + 1 + PyData.depthAll xs < cLine)
    (h : ∀ v h' tk, vs[argBest (fun i j => PySem.W.dataLt (xs.getD i .none) (xs.getD j .none)) (vs.size - 1)]? = some v → (∀ b o, s.heap.get? b = some o → h'.get? b = some o) → Q v { s with heap := h', toks := tk }) :
    wpAny (model prog w) A (call (.builtin "min") [.ref l]) Q E s := by
  refine PySem.call_min_walkH (PySem.W.iter_listW (A := A.in1) hh hl fun s₂ e W st hfp hw hk => ?_)
  refine ⟨_, _, _, _, _, _, _, s.heap, _, rfl, W, st, hfp, h0, hw, hk, PySem.W.cmpIn_lt (A := A.in1) hr ha (by show A.units + 1 + _ < _; exact hu), fun v s' hP m => ?_⟩
  obtain ⟨h', tk, rfl, hk'⟩ := PySem.W.moved_old e rfl m
  exact h v h' tk hP hk'
end
theorem readsAll_of {h : Heap} : ∀ {us : List Value} {ps : List (PyData × V)}, PySem.W.EachIs (fun u p => ∃ as, Reads h u p.1 as) us ps → ∃ as, ReadsAll h us (ps.map (·.1)) as
  | _, _, .nil => ⟨_, .nil⟩
  | _, _, .cons r rs => by
    obtain ⟨as, r⟩ := r
    obtain ⟨bs, rs⟩ := readsAll_of rs
    exact ⟨_, .cons r rs⟩
section
variable {X : Cx}
def rMinD (K : PySem.W.Frag) : List V → Hp → VK → Prop := fun vs H Q => ∃ (a : Addr) (ps : List (PyData × V)), vs = [V.ref a] ∧ SqL K H a (ps.map (·.2)) ∧ (∀ p ∈ ps, Dp K H p.2 p.1) ∧ PySem.W.AlikeAll (ps.map (·.1)) ∧ PyData.depthAll (ps.map (·.1)) ≤ 60 ∧ 0 < ps.length ∧
  ∀ v, (ps.map (·.2))[argBest (fun i j => PySem.W.dataLt ((ps.map (·.1)).getD i .none) ((ps.map (·.1)).getD j .none)) (ps.length - 1)]? = some v → Q v H
theorem cr_minD (hc : X.calm = true) (hu : X.A.units + 64 < cLine) : CallR X (.builtin "min") (rMinD X.K) := by
  intro pins s σ H vs us Q I r h
  obtain ⟨a, ps, rfl, hs, hd, hal, hdep, h0, q⟩ := h
  obtain ⟨its, rv, hl, hz⟩ := I.list hs
  rw [Vals.ref1 r]
  have hlen := rv.length
  rw [List.length_map] at hlen
  obtain ⟨e1, e2⟩ := reads_pair I ps its hd rv
  obtain ⟨as, hr⟩ := readsAll_of e2
  refine min_idx (I.ok.hd hc) hl.isList (by simpa using hr) hal (by rw [List.size_toArray]; omega) (by omega) fun v h' tk hv hk => ?_
  rw [List.size_toArray, ← hlen, List.getElem?_toArray] at hv
  cases hvv : (ps.map (·.2))[argBest (fun i j => PySem.W.dataLt ((ps.map (·.1)).getD i .none) ((ps.map (·.1)).getD j .none)) (ps.length - 1)]? with
  | none =>
    have := Vals.none_of rv hvv
    rw [this] at hv; cases hv
  | some y =>
    obtain ⟨u, hu', ru⟩ := rv.get hvv
    rw [hu'] at hv; cases hv
    exact ⟨y, H, I.kept hk, ru, q y hvv⟩
end
/-! ### as data -/
def minOk (ds : List D) : Prop := okEs ds = true ∧ (∀ a ∈ ds, ∀ b ∈ ds, dalike a b = true) ∧ (∀ a ∈ ds, isN a = false) ∧ deps ds ≤ 50
instance (ds : List D) : Decidable (minOk ds) := by unfold minOk; infer_instance
def oMinU : OL := fun xs => match oMin1 xs with
  | some r => some r
  | none => match xs with
    | [.lst (d :: ds)] => if minOk (d :: ds) then some (.imm (bestL dlt d ds)) else none
    | _ => none
def rMinU (K : PySem.W.Frag) : List V → Hp → VK → Prop := fun vs H Q => rMin1 K vs H Q ∨ rMinD K vs H Q
theorem depthAll_pd (ds : List D) : PyData.depthAll (ds.map toPD) = deps ds := by
  induction ds with
  | nil => rfl
  | cons d ds ih => show max (toPD d).depth (PyData.depthAll (ds.map toPD)) = max (dep d) (deps ds); rw [ih, dep_pd]
theorem argBest_congr {f g : Nat → Nat → Bool} (h : ∀ i j, f i j = g i j) : ∀ n, argBest f n = argBest g n
  | 0 => rfl
  | n + 1 => by unfold argBest; rw [argBest_congr h n, h]
section
variable {X : Cx}
theorem cr_minU (hc : X.calm = true) (hu : X.A.units + 64 < cLine) : CallR X (.builtin "min") (rMinU X.K) := CallR.or (cr_min1 hc hu) (cr_minD hc hu)
theorem cd_minU : CallD X (rMinU X.K) oMinU := by
  intro W F H ρ σ Γ ds vs e Q eK S r h w
  unfold oMinU at h
  split at h
  · rename_i e' hr
    cases h
    exact .inl (cd_min1 W F H ρ σ Γ ds vs e Q eK S r hr w)
  · rw [← eK]
    split at h
    · rename_i d0 ds _
      obtain ⟨v, rfl, rr⟩ := rdvs1 r
      obtain ⟨a, vs, rfl, h1, q1⟩ := rd_lst rr
      obtain ⟨⟨k1, k2, k3, k4⟩, rfl⟩ := if_some h
      have hl := rpl_len q1
      have z1 : ((d0 :: ds).zip vs).map (·.1) = d0 :: ds := List.map_fst_zip (by omega)
      have z2 : ((d0 :: ds).zip vs).map (·.2) = vs := List.map_snd_zip (by omega)
      have hrp := rpl_map q1
      obtain ⟨ps, hps⟩ : ∃ ps, ps = (d0 :: ds).zip vs := ⟨_, rfl⟩
      rw [← hps] at z1 z2 hrp
      have m1 : ∀ p ∈ ps, p.1 ∈ d0 :: ds := fun p hp => by rw [← z1]; exact List.mem_map_of_mem hp
      have f1 : (ps.map fun p => (toPD p.1, p.2)).map (·.1) = (d0 :: ds).map toPD := by rw [← z1, List.map_map, List.map_map]; rfl
      have f2 : (ps.map fun p => (toPD p.1, p.2)).map (·.2) = vs := by rw [← z2, List.map_map]; rfl
      have hpl : ps.length = ds.length + 1 := by
        have := congrArg List.length z1
        simpa using this
      refine .inr ⟨a, ps.map fun p => (toPD p.1, p.2), rfl, by rw [f2]; exact .inl (.inl h1), fun p hp => ?_, ?_, ?_, by rw [List.length_map]; omega, fun v hv => ?_⟩
      · obtain ⟨q, hq, rfl⟩ := List.mem_map.mp hp
        exact (dp_of S.sub _ _ (hrp q hq) (okE_memD (m1 q hq) k1)).1
      · rw [f1]
        refine ⟨fun x hx y hy => ?_, fun x hx => ?_⟩
        · obtain ⟨x, hx', rfl⟩ := List.mem_map.mp hx
          obtain ⟨y, hy', rfl⟩ := List.mem_map.mp hy
          exact k2 x hx' y hy'
        · obtain ⟨x, hx', rfl⟩ := List.mem_map.mp hx
          have n1 := k3 x hx'
          have n2 := okE_memD hx' k1
          intro e
          cases x with
          | non => cases n1
          | dic _ _ => cases n2
          | dct _ _ => cases n2
          | lkd _ _ => cases n2
          | lkt _ _ => cases n2
          | tup _ => unfold toPD at e; cases e
          | lst _ => unfold toPD at e; cases e
          | frl _ => unfold toPD at e; cases e
          | _ => cases e
      · rw [f1, depthAll_pd]; omega
      · rw [f1, f2, List.length_map, hpl, Nat.add_sub_cancel] at hv
        have hb : ∀ i j, PySem.W.dataLt (((d0 :: ds).map toPD).getD i .none) (((d0 :: ds).map toPD).getD j .none) = dlt ((d0 :: ds).getD i .non) ((d0 :: ds).getD j .non) := fun i j => by
          have g : ∀ i, ((d0 :: ds).map toPD).getD i .none = toPD ((d0 :: ds).getD i .non) := fun i => by
            rw [List.getD_eq_getElem?_getD, List.getD_eq_getElem?_getD, List.getElem?_map]
            cases (d0 :: ds)[i]? <;> rfl
          rw [g, g]; rfl
        rw [argBest_congr hb] at hv
        have e2 := (PySem.W.argBest_fold dlt D.non d0 ds ds.length (Nat.le_refl _)).2
        rw [List.take_length] at e2
        obtain ⟨d', hd', rd⟩ := rpl_get' q1 hv
        rw [List.getD_eq_getElem?_getD, hd', Option.getD_some] at e2
        have e3 : bestL dlt d0 ds = d' := e2.symm
        rw [e3] at w
        exact w.here S rd
    · cases h
end
/-- min, where an order of one's own stands for the data's -/
theorem oMinU_by {α : Type} {lt : α → α → Bool} (f : α → D) {x : α} {xs : List α} (hf : ∀ a b, dlt (f a) (f b) = lt a b) (h : minOk ((x :: xs).map f)) (h0 : oMin1 [.lst ((x :: xs).map f)] = none) : oMinU [.lst ((x :: xs).map f)] = some (.imm (f (bestL lt x xs))) := by
  have key : ∀ (xs : List α) (x : α), bestL dlt (f x) (xs.map f) = f (bestL lt x xs) := by
    intro xs
    induction xs with
    | nil => intro x; rfl
    | cons z xs ih =>
      intro x
      show bestL dlt (if dlt (f z) (f x) = true then f z else f x) (xs.map f) = f (bestL lt (if lt z x = true then z else x) xs)
      rw [hf, ← ih]
      congr 1
      split <;> rfl
  unfold oMinU
  rw [h0, List.map_cons]
  dsimp only
  have h' : minOk (f x :: xs.map f) := h
  rw [if_pos h', key]
end DL

set_option maxHeartbeats 4000000
namespace DL
open PySem PySem.Spec PyProof.Rows L2
def d1K (k : Key) (e : EV) (Γ : Gm) : ERes := if e.ok = true then (match settle e Γ with
  | some q => .ok (.fr (dicL [(k, q.1)])) q.2
  | none => .stuck) else .stuck
def eD1e (f g : EM) : EM := fun Γ => (f Γ).bind fun e1 Γ1 => match keyE e1 with
  | some k => (g Γ1).bind fun e2 Γ2 => d1K k e2 Γ2
  | none => .stuck
section
variable {X : Cx} {pos : Pos} {ke ve : Expr} {f g : EM}
theorem de_d1e (hk : DE X ke f) (hv : DE X ve g) : DE X (.Dict [some ke] [ve] pos) (eD1e f g) :=
  pe_imp (pe_disp (pps_cons hk hv pps_nil) rfl rfl (by simp) (by simp)) fun σ H Q ⟨W, F, ρ, Γ, eK, S, e, Γ', ef, ok, q⟩ => by
    intro p hp
    obtain ⟨e1, Γ1, h1, ef⟩ := bind_inv ef
    split at ef
    · rename_i k hk1
      obtain ⟨e2, Γ2, h2, ef⟩ := bind_inv ef
      unfold d1K at ef
      split at ef
      · rename_i ok2
        split at ef
        · rename_i qq hst
          obtain ⟨d, Γ3⟩ := qq
          cases ef
          have N := S.fresh hp
          have S0 : Sim (W.pin p (.dK [])) F (upd H p (.dK [])) ρ σ Γ := (S.alloc (o := .dK []) hp).hold upd_same N.up
          obtain ⟨x, hx, hkd⟩ : ∃ x, e1.fz = .imm x ∧ keyD x = some k := by
            unfold keyE at hk1
            split at hk1
            · rename_i x hx; exact ⟨x, hx, hk1⟩
            · cases hk1
          show tE X.K f σ (upd H p (.dK [])) _
          refine tE_then (W := W.pin p (.dK [])) eK S0 h1 (by rw [hx]; rfl) fun v1 F1 H1 s1 S1 r1 => ?_
          rw [hx] at r1
          unfold RpE at r1
          have ev := keyD_rd (rd_of r1 S1.sub) hkd
          show tE X.K g σ H1 _
          refine tE_then (W := W.pin p (.dK [])) eK S1 h2 ok2 fun v2 F2 H2 s2 S2 r2 => ?_
          obtain ⟨F3, s3, S3, r3⟩ := settle_ok _ _ _ _ _ _ S2 ok2 r2 hst
          have hpin := S3.pin (p, .dK []) List.mem_cons_self
          refine ⟨hpin.1, [(k, v2)], by rw [ev]; rfl, by simp, ?_⟩
          have e1 : mergeK [] [(k, v2)] = [(k, v2)] := rfl
          rw [e1]
          have S4 := S3.pinWrite (o' := .dK [(k, v2)]) N.b N.np N.n
          obtain ⟨S5, u1, u2, u3⟩ := S4.unhold
          refine q (.ref p) F3 _ ((s1.trans s2).trans s3) S5 ?_
          unfold RpE
          refine ⟨p, rfl, own_dic upd_same ?_, u2, N.b, N.np, u3, N.n⟩
          exact .cons ⟨rfl, r3⟩ .nil
        · cases ef
      · cases ef
    · cases ef
end
@[simp] theorem wE_d1e (f g : EM) (Γ : Gm) (Q : EV → Gm → Prop) : wE (eD1e f g) Γ Q = wE f Γ fun e1 Γ1 => wKey e1.fz fun k => wE g Γ1 fun e2 Γ2 => e2.fz.ok = true ∧ wO (settle e2.fz Γ2) fun q => Q (.fr (dicL [(k, q.1)])) q.2 := by
  unfold wE eD1e
  simp only [wE_bind]
  congr; funext e1 Γ1
  unfold wKey
  cases keyE e1.fz with
  | none => simp
  | some k =>
    simp only [wO_some, wE_bind]
    congr; funext e2 Γ2
    unfold d1K
    rw [mE_if]
    congr 1
    cases settle e2.fz Γ2 <;> simp
/-! ### text.startswith, text.endswith -/
def oStarts : O2
  | .str s, .str t => some (.imm (.bl (decide (s.take t.length = t))))
  | _, _ => none
def oEnds : O2
  | .str s, .str t => some (.imm (.bl (decide (t.length ≤ s.length ∧ s.drop (s.length - t.length) = t))))
  | _, _ => none
theorem starts_eq (s t : List Nat) : Txt.startswith (mkS s) (mkS t) = decide (s.take t.length = t) := by
  unfold Txt.startswith
  rw [StrLaws.subAt_eq, mkS_cps, mkS_cps, mkS_len, mkS_len, Nat.zero_add, List.drop_zero]
  by_cases h : s.take t.length = t
  · have hl : t.length ≤ s.length := by
      have := congrArg List.length h
      rw [List.length_take] at this
      omega
    rw [decide_eq_true h, h]
    simp [hl]
  · rw [decide_eq_false h]
    have : (s.take t.length == t) = false := by simpa using h
    rw [this, Bool.and_false]
theorem ends_eq (s t : List Nat) : Txt.endswith (mkS s) (mkS t) = decide (t.length ≤ s.length ∧ s.drop (s.length - t.length) = t) := by
  unfold Txt.endswith
  rw [StrLaws.subAt_eq, mkS_cps, mkS_cps, mkS_len, mkS_len, Nat.zero_add]
  by_cases hl : t.length ≤ s.length
  · have e : (s.drop (s.length - t.length)).take t.length = s.drop (s.length - t.length) := List.take_of_length_le (by rw [List.length_drop]; omega)
    rw [e]
    by_cases h : s.drop (s.length - t.length) = t
    · simp [hl, h]
    · have : (s.drop (s.length - t.length) == t) = false := by simpa using h
      rw [this, Bool.and_false]
      simp [h]
  · simp [hl]
section
variable {X : Cx} {o e : Expr} {f g : EM} {apos pos : Pos}
theorem od_starts : OpD X (fun x y H Q => ∃ a b, x = .str a ∧ [y] = [.str b] ∧ Q (.bl (Txt.startswith a b)) H) oStarts := by
  intro W F H ρ σ Γ d1 d2 v1 v2 e Q eK S r1 r2 h w
  unfold oStarts at h
  split at h
  · cases h
    obtain ⟨rfl, o1⟩ := rd_str r1
    obtain ⟨rfl, o2⟩ := rd_str r2
    refine ⟨_, _, rfl, rfl, ?_⟩
    rw [starts_eq]
    exact w.here S rp_bl
  · cases h
theorem od_ends : OpD X (fun x y H Q => ∃ a b, x = .str a ∧ [y] = [.str b] ∧ Q (.bl (Txt.endswith a b)) H) oEnds := by
  intro W F H ρ σ Γ d1 d2 v1 v2 e Q eK S r1 r2 h w
  unfold oEnds at h
  split at h
  · cases h
    obtain ⟨rfl, o1⟩ := rd_str r1
    obtain ⟨rfl, o2⟩ := rd_str r2
    refine ⟨_, _, rfl, rfl, ?_⟩
    rw [ends_eq]
    exact w.here S rp_bl
  · cases h
theorem de_starts (ho : DE X o f) (he : DE X e g) (hs : starEach [e] X.env = [(false, eval e X.env)] := by rfl) (hbase : attributeBase o "startswith" X.env (eval o X.env) = eval o X.env := by rfl) (hline : (apos.endLine == pos.line) = true := by rfl) :
    DE X (.Call (.Attribute o "startswith" apos) [e] [] pos) (eM1 oStarts f g) := pe_imp (pe_m1 PySem.F.slot_str_startswith PySem.F.type_str_startswith mt_startswith ho he hs hbase hline) fun _ _ _ h => m1_core od_starts h
theorem de_ends (ho : DE X o f) (he : DE X e g) (hs : starEach [e] X.env = [(false, eval e X.env)] := by rfl) (hbase : attributeBase o "endswith" X.env (eval o X.env) = eval o X.env := by rfl) (hline : (apos.endLine == pos.line) = true := by rfl) :
    DE X (.Call (.Attribute o "endswith" apos) [e] [] pos) (eM1 oEnds f g) := pe_imp (pe_m1 PySem.F.slot_str_endswith PySem.F.type_str_endswith mt_endswith ho he hs hbase hline) fun _ _ _ h => m1_core od_ends h
end
@[simp] theorem oStarts_s (s t : List Nat) : oStarts (.str s) (.str t) = some (.imm (.bl (decide (s.take t.length = t)))) := rfl
@[simp] theorem oEnds_s (s t : List Nat) : oEnds (.str s) (.str t) = some (.imm (.bl (decide (t.length ≤ s.length ∧ s.drop (s.length - t.length) = t)))) := rfl
end DL

namespace DL
open PySem PySem.Spec PyProof.Rows L2
def keysL : List D → Option (List Key)
  | [] => some []
  | d :: ds => (keyD d).bind fun k => (keysL ds).map (k :: ·)
def keysD : D → Option (List Key)
  | .tup ds => keysL ds
  | _ => none
theorem keysL_rp {K : PySem.W.Frag} {F : Hp} : ∀ {ds : List D} {vs : List V} {ks : List Key}, RpL K F ds vs → keysL ds = some ks → vs = ks.map kV
  | [], vs, ks, r, h => by
    cases h
    exact rpl_nil_inv r
  | d :: ds, vs, ks, r, h => by
    obtain ⟨v, ws, rfl, a, b⟩ := rpl_cons_inv r
    unfold keysL at h
    obtain ⟨k, hk, h⟩ := obind_inv h
    obtain ⟨ks', hks, rfl⟩ := omap_inv h
    rw [List.map_cons, ← keysL_rp b hks, keyD_rd (rd_of a (Same.refl F)) hk]
theorem keysD_rd {K : PySem.W.Frag} {F H : Hp} {d : D} {v : V} {ks : List Key} (r : RdV K F H d v) (h : keysD d = some ks) : ∃ b, v = .ref b ∧ F b = some (.tup (ks.map kV)) := by
  unfold keysD at h
  split at h
  · obtain ⟨b, vs, e, x, q⟩ := rd_tupP r
    exact ⟨b, e, by rw [← keysL_rp q h]; exact x⟩
  · cases h
def lookT (l : List ((List Key) × D)) (k : (List Key)) : Option D := (l.find? fun p => decide (p.1 = k)).map (·.2)
def hasT (l : List ((List Key) × D)) (k : (List Key)) : Bool := l.any fun p => decide (p.1 = k)
def putT (l : List ((List Key) × D)) (k : (List Key)) (d : D) : List ((List Key) × D) := if hasT l k = true then l.map (fun p => if p.1 = k then (p.1, d) else p) else l ++ [(k, d)]
def dctL (l : List ((List Key) × D)) : D := .dct (l.map (·.1)) (l.map (·.2))
theorem zip_dctL : ∀ l : List ((List Key) × D), (l.map (·.1)).zip (l.map (·.2)) = l
  | [] => rfl
  | p :: l => by simp [zip_dctL l]
/-- pairs that stand for pairs -/
def PT (K : PySem.W.Frag) (F : Hp) : List ((List Key) × D) → List ((List Key) × V) → Prop := Paired fun p q => p.1 = q.1 ∧ Rp K F p.2 q.2
section
variable {K : PySem.W.Frag} {F : Hp}
theorem pt_of : ∀ {ks : List (List Key)} {ds : List D} {vs : List V}, ks.length = ds.length → RpL K F ds vs → PT K F (ks.zip ds) (ks.zip vs)
  | [], [], vs, _, _ => by simp; exact .nil
  | [], _ :: _, _, h, _ => by simp at h
  | _ :: _, [], _, h, _ => by simp at h
  | k :: ks, d :: ds, vs, h, r => by
    obtain ⟨v, r', rfl, a, b⟩ := rpl_cons_inv r
    rw [List.zip_cons_cons, List.zip_cons_cons]
    exact .cons ⟨rfl, a⟩ (pt_of (by simpa using h) b)
theorem pt_back : ∀ {l : List ((List Key) × D)} {m : List ((List Key) × V)}, PT K F l m → m = (l.map (·.1)).zip (m.map (·.2)) ∧ RpL K F (l.map (·.2)) (m.map (·.2))
  | [], _, h => by cases h; exact ⟨rfl, rpl_nil⟩
  | p :: l, _, h => by
    cases h with
    | @cons _ q _ ms h1 h2 =>
      obtain ⟨a, b⟩ := pt_back h2
      refine ⟨?_, rpl_cons h1.2 b⟩
      rw [List.map_cons, List.map_cons, List.zip_cons_cons, ← a, h1.1]
theorem pt_len {l : List ((List Key) × D)} {m : List ((List Key) × V)} (h : PT K F l m) : l.length = m.length := by
  unfold PT at h
  induction h with
  | nil => rfl
  | cons _ _ ih => rw [List.length_cons, List.length_cons, ih]
theorem pt_look : ∀ {l : List ((List Key) × D)} {m : List ((List Key) × V)} (k : (List Key)), PT K F l m → (hasT l k = (valV m k).isSome) ∧ (lookT l k = none → valV m k = none) ∧ ∀ d, lookT l k = some d → ∃ v, valV m k = some v ∧ Rp K F d v
  | [], _, k, h => by cases h; exact ⟨rfl, fun _ => rfl, fun d hd => by cases hd⟩
  | p :: l, _, k, h => by
    cases h with
    | @cons _ q _ ms h1 h2 =>
      obtain ⟨a, b, c⟩ := pt_look k h2
      by_cases e : p.1 = k
      · have e' : q.1 = k := h1.1 ▸ e
        rw [valV_pos e']
        refine ⟨by simp [hasT, e], fun hn => ?_, fun d hd => ?_⟩
        · simp [lookT, e] at hn
        · simp [lookT, e] at hd
          subst hd
          exact ⟨_, rfl, h1.2⟩
      · have e' : ¬ q.1 = k := h1.1 ▸ e
        rw [valV_neg e']
        refine ⟨by simpa [hasT, e] using a, fun hn => b (by simpa [lookT, e] using hn), fun d hd => c d (by simpa [lookT, e] using hd)⟩
theorem pt_map {k : (List Key)} {d : D} {v : V} (r : Rp K F d v) : ∀ {l : List ((List Key) × D)} {m : List ((List Key) × V)}, PT K F l m → PT K F (l.map fun p => if p.1 = k then (p.1, d) else p) (m.map fun kv => if kv.1 = k then (kv.1, v) else kv)
  | [], _, h => by cases h; exact .nil
  | p :: l, _, h => by
    cases h with
    | @cons _ q _ ms h1 h2 =>
      rw [List.map_cons, List.map_cons]
      refine .cons ?_ (pt_map r h2)
      by_cases e : p.1 = k
      · rw [if_pos e, if_pos (h1.1 ▸ e)]; exact ⟨h1.1, r⟩
      · rw [if_neg e, if_neg (h1.1 ▸ e)]; exact h1
theorem pt_snoc {k : (List Key)} {d : D} {v : V} (r : Rp K F d v) : ∀ {l : List ((List Key) × D)} {m : List ((List Key) × V)}, PT K F l m → PT K F (l ++ [(k, d)]) (m ++ [(k, v)])
  | [], _, h => by cases h; exact .cons ⟨rfl, r⟩ .nil
  | p :: l, _, h => by
    cases h with
    | cons h1 h2 => exact .cons h1 (pt_snoc r h2)
theorem pt_put {l : List ((List Key) × D)} {m : List ((List Key) × V)} {k : (List Key)} {d : D} {v : V} (h : PT K F l m) (r : Rp K F d v) : PT K F (putT l k d) (putK m k v) := by
  unfold putT putK
  have e := (pt_look k h).1
  rw [← valV_any k m] at e
  rw [e]
  split
  · exact pt_map r h
  · exact pt_snoc r h
end
theorem putT_len (l : List ((List Key) × D)) (k : (List Key)) (d : D) : (putT l k d).length ≤ l.length + 1 := by
  unfold putT; split <;> simp
theorem rd_dct {K : PySem.W.Frag} {F H : Hp} {ks : List (List Key)} {ds : List D} {v : V} (h : RdV K F H (.dct ks ds) v) : ∃ a m, v = .ref a ∧ H a = some (.dT m) ∧ PT K F (ks.zip ds) m := by
  unfold RdV at h
  obtain ⟨a, vs, rfl, e, r, l⟩ := h
  exact ⟨a, _, rfl, e, pt_of l r⟩
def lktL (l : List ((List Key) × D)) : D := .lkt (l.map (·.1)) (l.map (·.2))
theorem rd_lkt {K : PySem.W.Frag} {F H : Hp} {ks : List (List Key)} {ds : List D} {v : V} (h : RdV K F H (.lkt ks ds) v) : ∃ a m o, v = .ref a ∧ H a = some (.frz o (.dT m)) ∧ PT K F (ks.zip ds) m := by
  unfold RdV at h
  obtain ⟨a, vs, o, rfl, e, r, l⟩ := h
  exact ⟨a, _, o, rfl, e, pt_of l r⟩
theorem own_dct {K : PySem.W.Frag} {F H : Hp} {l : List ((List Key) × D)} {m : List ((List Key) × V)} {a : Addr} (e : H a = some (.dT m)) (h : PT K F l m) : OwnAt K F H a (dctL l) := by
  obtain ⟨a1, a2⟩ := pt_back h
  unfold dctL OwnAt
  exact ⟨m.map (·.2), by rw [← a1]; exact e, a2, by simp⟩
section
variable {X : Cx}
/-! ### {} -/
def eDNewT : EM := fun Γ => .ok (.fr (dctL [])) Γ
theorem de_dnewT {pos : Pos} : DE X (.Dict [] [] pos) eDNewT :=
  pe_imp pe_dnewT fun σ H Q ⟨W, F, ρ, Γ, eK, S, e, Γ', ef, ok, q⟩ => by
    cases ef
    intro p hp
    refine q (.ref p) F _ (Same.refl _) (S.alloc hp) ?_
    unfold RpE
    exact ⟨p, rfl, own_dct upd_same .nil, (S.fresh hp).up⟩
/-! ### d[k], k in d -/
def oIxT : O2 := fun x y => match x with
  | .dct ks ds => (keysD y).bind fun k => (lookT (ks.zip ds) k).map .imm
  | .lkt ks ds => (keysD y).bind fun k => (lookT (ks.zip ds) k).map .imm
  | _ => none
@[simp] theorem oIxT_l (l : List ((List Key) × D)) (y : D) : oIxT (dctL l) y = (keysD y).bind fun k => (lookT l k).map .imm := by
  unfold oIxT dctL; dsimp only; rw [zip_dctL]
@[simp] theorem oIxT_k (l : List ((List Key) × D)) (y : D) : oIxT (lktL l) y = (keysD y).bind fun k => (lookT l k).map .imm := by
  unfold oIxT lktL; dsimp only; rw [zip_dctL]
theorem od_ixT : OpD X rIxD oIxT := by
  intro W F H ρ σ Γ d1 d2 v1 v2 e Q eK S r1 r2 h w
  unfold oIxT at h
  split at h
  · obtain ⟨k, hk, h⟩ := obind_inv h
    obtain ⟨d, hd, rfl⟩ := omap_inv h
    obtain ⟨a, m, rfl, hm, pr⟩ := rd_dct r1
    obtain ⟨v, hv, rv⟩ := (pt_look k pr).2.2 d hd
    obtain ⟨b, eb, hb⟩ := keysD_rd r2 hk
    rw [eb]
    exact ⟨a, v, rfl, by rw [← hv]; exact DGet.t hm (S.sub _ _ hb), w.here S rv⟩
  · obtain ⟨k, hk, h⟩ := obind_inv h
    obtain ⟨d, hd, rfl⟩ := omap_inv h
    obtain ⟨a, m, o, rfl, hm, pr⟩ := rd_lkt r1
    obtain ⟨v, hv, rv⟩ := (pt_look k pr).2.2 d hd
    obtain ⟨b, eb, hb⟩ := keysD_rd r2 hk
    rw [eb]
    exact ⟨a, v, rfl, by rw [← hv]; exact .inr ⟨m, k, b, .inr ⟨o, hm⟩, rfl, S.sub _ _ hb, rfl⟩, w.here S rv⟩
  · cases h
theorem de_ixT {a b : Expr} {f g : EM} {pos : Pos} (hu : X.A.units + 1 < cLine) (ha : DE X a f) (hb : DE X b g) (hs : NoSl b := by exact fun _ _ => rfl) : DE X (.Subscript a b pos) (eBin oIxT f g) :=
  pe_imp (pe_dget hu ha hb hs) fun _ _ _ h => bin_core od_ixT h
def oInT (neg : Bool) : O2 := fun x y => match y with
  | .dct ks ds => (keysD x).bind fun k => some (.imm (.bl (if neg then !hasT (ks.zip ds) k else hasT (ks.zip ds) k)))
  | .lkt ks ds => (keysD x).bind fun k => some (.imm (.bl (if neg then !hasT (ks.zip ds) k else hasT (ks.zip ds) k)))
  | _ => none
@[simp] theorem oInT_l (neg : Bool) (l : List ((List Key) × D)) (x : D) : oInT neg x (dctL l) = (keysD x).bind fun k => some (.imm (.bl (if neg then !hasT l k else hasT l k))) := by
  unfold oInT dctL; dsimp only; rw [zip_dctL]
@[simp] theorem oInT_k (neg : Bool) (l : List ((List Key) × D)) (x : D) : oInT neg x (lktL l) = (keysD x).bind fun k => some (.imm (.bl (if neg then !hasT l k else hasT l k))) := by
  unfold oInT lktL; dsimp only; rw [zip_dctL]
theorem od_inT (neg : Bool) : OpD X (rInDc neg) (oInT neg) := by
  intro W F H ρ σ Γ d1 d2 v1 v2 e Q eK S r1 r2 h w
  unfold oInT at h
  split at h
  · obtain ⟨k, hk, h⟩ := obind_inv h
    cases h
    obtain ⟨a, m, rfl, hm, pr⟩ := rd_dct r2
    obtain ⟨b, eb, hb⟩ := keysD_rd r1 hk
    rw [eb]
    refine ⟨a, valV m k, rfl, DGet.t hm (S.sub _ _ hb), ?_⟩
    rw [← (pt_look k pr).1]
    exact w.here S rp_bl
  · obtain ⟨k, hk, h⟩ := obind_inv h
    cases h
    obtain ⟨a, m, o, rfl, hm, pr⟩ := rd_lkt r2
    obtain ⟨b, eb, hb⟩ := keysD_rd r1 hk
    rw [eb]
    refine ⟨a, valV m k, rfl, .inr ⟨m, k, b, .inr ⟨o, hm⟩, rfl, S.sub _ _ hb, rfl⟩, ?_⟩
    rw [← (pt_look k pr).1]
    exact w.here S rp_bl
  · cases h
/-! ### d.get(k, x) -/
def eGet2T (f g h : EM) : EM := fun Γ => (f Γ).bind fun e1 Γ1 => match eGet Γ1 e1 with
  | some (.dct _ _) => (g Γ1).bind fun e2 Γ2 => (h Γ2).bind fun e3 Γ3 => match eGet Γ3 e1, e2, e3 with
    | some (.dct ks ds), .imm d2, .imm d3 => ERes.of ((keysD d2).bind fun k => some (.imm ((lookT (ks.zip ds) k).getD d3))) Γ3
    | _, _, _ => .stuck
  | _ => .stuck
theorem de_get2T {o a b : Expr} {f g h : EM} {apos cpos : Pos} (hu : X.A.units + 1 < cLine) (ho : DE X o f) (ha : DE X a g) (hb : DE X b h)
    (hbase : attributeBase o "get" X.env (eval o X.env) = eval o X.env := by rfl)
    (hfew : ((backTo cpos (starEach [a, b] X.env)).all (fun x => !x.1) && (backToKw cpos (keywordEach [] X.env)).all (fun x => x.1.isSome)
      && decide (([a, b] : List Expr).length + ([] : List Keyword).length + (if ([] : List Keyword).isEmpty then 0 else 1) < 30)) = true := by rfl)
    (hline : (apos.endLine == cpos.line) = true := by rfl) (htr : backTo cpos (starEach [a, b] X.env) = [(false, eval a X.env), (false, eval b X.env)] := by rfl) :
    DE X (.Call (.Attribute o "get" apos) [a, b] [] cpos) (eGet2T f g h) :=
  pe_imp (pe_dget2 hu ho ha hb ⟨hbase, hfew, hline, htr⟩) fun σ H Q ⟨W, F, ρ, Γ, eK, S, e, Γ', ef, ok, q⟩ => by
    unfold eGet2T at ef
    obtain ⟨e1, Γ1, h1, ef⟩ := bind_inv ef
    split at ef
    · rename_i ks0 ds0 hg0
      obtain ⟨e2, Γ2, h2, ef⟩ := bind_inv ef
      obtain ⟨e3, Γ3, h3, ef⟩ := bind_inv ef
      split at ef
      · rename_i ks ds d2 d3 hg1 hd2 hd3
        obtain ⟨ef', rfl⟩ := of_inv ef
        obtain ⟨k, hk, ef'⟩ := obind_inv ef'
        cases ef'
        refine tE_then eK S h1 (ok_get hg0) fun v1 F1 H1 s1 S1 r1 => ?_
        obtain ⟨a0, m0, rfl, hm0, pr0⟩ := rd_dct (rd_get S1 r1 hg0)
        refine ⟨a0, rfl, .inr ⟨m0, .inl hm0⟩, ?_⟩
        refine tE_then eK S1 h2 (by rw [hd2]; rfl) fun v2 F2 H2 s2 S2 r2 => ?_
        refine tE_then eK S2 h3 (by rw [hd3]; rfl) fun v3 F3 H3 s3 S3 r3 => ?_
        rw [hd2] at r2
        rw [hd3] at r3
        obtain ⟨a1, m1, ea, hm1, pr1⟩ := rd_dct (rd_get S3 (RpE.mono (s2.trans s3) _ _ (ok_get hg0) r1) hg1)
        cases ea
        unfold RpE at r2 r3
        have q2 : RdV W.K F3 H3 d2 v2 := rd_of (Rp.mono s3 _ _ r2) S3.sub
        obtain ⟨b, eb, hb⟩ := keysD_rd q2 hk
        rw [eb]
        refine ⟨valV m1 k, DGet.t hm1 (S3.sub _ _ hb), ?_⟩
        have L := pt_look k pr1
        have fin : ∀ (d : D) (v : V), (lookT (ks.zip ds) k).getD d3 = d → Rp W.K F3 d v → Q v H3 := fun d v e1 r => q v F3 H3 ((s1.trans s2).trans s3) S3 (by show RpE W F3 H3 ρ (.imm ((lookT (ks.zip ds) k).getD d3)) v; rw [e1]; unfold RpE; exact r)
        cases hl : lookT (ks.zip ds) k with
        | none => rw [L.2.1 hl]; exact fin d3 v3 (by rw [hl]; rfl) r3
        | some d =>
          obtain ⟨v, hv, rv⟩ := L.2.2 d hl
          rw [hv]
          exact fin d v (by rw [hl]; rfl) rv
      · cases ef
    · cases ef
/-! ### d[k] = e -/
def ownT (Γ : Gm) (i : Nat) : Option (Bool × List ((List Key) × D)) := match Γ[i]? with
  | some (.own b (.dct ks ds)) => some (b, ks.zip ds)
  | _ => none
theorem ownT_inv {Γ : Gm} {i : Nat} {p : Bool × List ((List Key) × D)} (h : ownT Γ i = some p) : ∃ ks ds, Γ[i]? = some (.own p.1 (.dct ks ds)) ∧ p.2 = ks.zip ds := by
  unfold ownT at h
  split at h
  · rename_i b ks ds e; cases h; exact ⟨ks, ds, e, rfl⟩
  · cases h
theorem Sim.ownt {W : Wd} {F H : Hp} {ρ : Nat → Option Addr} {σ : L2.St} {Γ : Gm} {i : Nat} {io : Bool} {ks : List (List Key)} {ds : List D} {a : Addr} (S : Sim W F H ρ σ Γ) (h : Γ[i]? = some (.own io (.dct ks ds))) (ha : ρ i = some a) : ∃ m, H a = some (.dT m) ∧ PT W.K F (ks.zip ds) m := by
  obtain ⟨a', e1, e2, e3, _⟩ := S.slot i _ h
  rw [ha] at e1; cases e1
  unfold OwnAt at e3
  obtain ⟨vs, e, r, l⟩ := e3
  exact ⟨_, e, pt_of l r⟩
def keyET : EV → Option (List Key)
  | .imm d => keysD d
  | _ => none
def sPutT (i : Nat) (ix f : EM) : SM := fun Γ => (f Γ).go fun e Γ1 => if e.fz.ok = true then SRes.ofS (settle e.fz Γ1) (fun d Γ2 => (ownT Γ2 i).elim .stuck fun _ => (ix Γ2).go fun e2 Γ3 => match keyET e2.fz, ownT Γ3 i with
  | some k, some p => if p.2.length < sizeLine then .nx (Γ3.set i (.own p.1 (dctL (putT p.2 k d)))) else .stuck
  | _, _ => .stuck) else .stuck
theorem ds_putT {x : Str} {p pos' spos : Pos} {e ie : Expr} {ix f : EM} {i : Nat} (hu : X.A.units + 1 < cLine) (he : DE X e f) (ho : DE X (.Name x p) (eName i)) (hi : DE X ie ix)
    (hs : swapsWith e (some (.Subscript (.Name x p) ie pos')) spos.line X.env = pure false := by rfl) :
    DS X (.Assign [.Subscript (.Name x p) ie pos'] e spos) (sPutT i ix f) :=
  ps_imp (ps_dput hu ho hi he hs) fun D' σ H ⟨W, F, ρ, Γ, eK, S, h⟩ => by
    obtain ⟨e1, Γ1, ef, h⟩ := go_inv h
    obtain ⟨ok, h⟩ := ifok_inv h
    obtain ⟨d, Γ2, hd, h⟩ := ofS_inv h
    obtain ⟨p0, hp0, h⟩ := selim_inv h
    obtain ⟨ks0, ds0, h0, _⟩ := ownT_inv hp0
    obtain ⟨e2, Γ3, ei, h⟩ := go_inv h
    refine tE_then eK S ef ok fun v F1 H1 k1 S1 r1 => ?_
    obtain ⟨F2, k2, S2, r2⟩ := settle_ok _ _ _ _ _ _ S1 ok r1 hd
    refine name_bor eK S2 h0 fun a F3 H3 k3 S3 ea => ?_
    split at h
    · rename_i k pp hk hpp
      split at h
      · rename_i hl
        obtain ⟨ks, ds, h3, hz⟩ := ownT_inv hpp
        have ek : ∃ dk, e2.fz = .imm dk ∧ keysD dk = some k := by
          unfold keyET at hk
          generalize e2.fz = z at hk ⊢
          cases z with
          | imm dk => exact ⟨dk, rfl, hk⟩
          | _ => cases hk
        obtain ⟨dk, ek, hk⟩ := ek
        refine tE_then eK S3 ei (by rw [ek]; rfl) fun vi F4 H4 k4 S4 r4 => ?_
        rw [ek] at r4
        unfold RpE at r4
        obtain ⟨m, hm, pr⟩ := S4.ownt h3 ea
        rw [← hz] at pr
        obtain ⟨b, eb, hb⟩ := keysD_rd (F := F4) (H := H4) (rd_of r4 S4.sub) hk
        subst eb
        refine ⟨a, _, rfl, DPut.t hm (S4.sub _ _ hb) (by rw [← pt_len pr]; exact hl), ?_⟩
        exact h F4 _ ρ _ (((k1.trans k2).trans k3).trans k4) (S4.write h3 ea (own_dct upd_same (pt_put pr (Rp.mono (k3.trans k4) _ _ r2))))
      · exact False.elim h
    · exact False.elim h
end
/-! ### what must hold -/
@[simp] theorem wE_dnewT (Γ : Gm) (Q : EV → Gm → Prop) : wE eDNewT Γ Q = Q (.fr (dctL [])) Γ := rfl
def wDct (d : D) (Q : List ((List Key) × D) → Prop) : Prop := match d with
  | .dct ks ds => Q (ks.zip ds)
  | _ => False
@[simp] theorem wDct_l (l : List ((List Key) × D)) (Q : List ((List Key) × D) → Prop) : wDct (dctL l) Q = Q l := by unfold wDct dctL; dsimp only; rw [zip_dctL]
@[simp] theorem wE_get2T (f g h : EM) (Γ : Gm) (Q : EV → Gm → Prop) : wE (eGet2T f g h) Γ Q = wE f Γ fun e1 Γ1 => wV Γ1 e1.fz fun d0 => wDct d0 fun _ => wE g Γ1 fun e2 Γ2 => wE h Γ2 fun e3 Γ3 => wImm e2.fz fun d2 => wImm e3.fz fun d3 => wV Γ3 e1.fz fun d => wDct d fun l => wO (keysD d2) fun k => Q (.imm ((lookT l k).getD d3)) Γ3 := by
  unfold wE eGet2T
  simp only [wE_bind]
  congr; funext e1 Γ1
  unfold wV
  cases hg : eGet Γ1 e1.fz with
  | none => simp
  | some d0 =>
    cases d0 with
    | dct ks0 ds0 =>
      simp only [wO_some, wE_bind, wDct]
      congr; funext e2 Γ2; congr; funext e3 Γ3
      cases hg2 : eGet Γ3 e1.fz with
      | none => cases e2.fz <;> simp [wImm] <;> cases e3.fz <;> simp
      | some d =>
        cases d with
        | dct ks ds =>
          cases h2 : e2.fz with
          | imm d2 =>
            cases h3 : e3.fz with
            | imm d3 => simp [of_w]
            | _ => simp [wImm]
          | _ => simp [wImm]
        | _ => cases h2 : e2.fz <;> cases h3 : e3.fz <;> simp [wImm]
    | _ => simp [wDct]
def wOt (s : Option Sl) (Q : Bool → List ((List Key) × D) → Prop) : Prop := match s with
  | some (.own b (.dct ks ds)) => Q b (ks.zip ds)
  | _ => False
@[simp] theorem wOt_own (b : Bool) (l : List ((List Key) × D)) (Q : Bool → List ((List Key) × D) → Prop) : wOt (some (.own b (dctL l))) Q = Q b l := by unfold wOt dctL; dsimp only; rw [zip_dctL]
theorem wO_ownT (Γ : Gm) (i : Nat) (Q : Bool × List ((List Key) × D) → Prop) : wO (ownT Γ i) Q = wOt Γ[i]? fun b l => Q (b, l) := by
  unfold ownT wOt
  generalize Γ[i]? = o
  cases o with
  | none => simp
  | some s => cases s with
    | own b d => cases d <;> simp
    | _ => simp
def wKeyT (e : EV) (Q : (List Key) → Prop) : Prop := wO (keyET e) Q
@[simp] theorem wKeyT_imm (d : D) (Q : (List Key) → Prop) : wKeyT (.imm d) Q = wO (keysD d) Q := rfl
@[simp] theorem wS_putT (i : Nat) (ix f : EM) (Γ : Gm) (Q : SRes → Prop) : wS (sPutT i ix f) Γ Q = wE f Γ fun e Γ1 => e.fz.ok = true ∧ wO (settle e.fz Γ1) fun p => wOt p.2[i]? fun _ _ => wE ix p.2 fun e2 Γ3 => wKeyT e2.fz fun k =>
    wOt Γ3[i]? fun b l => l.length < sizeLine ∧ Q (.nx (Γ3.set i (.own b (dctL (putT l k p.1))))) := by
  simp only [wS_eq]
  unfold sPutT
  simp only [go_wE, wX_if, ofS_w, elim_w, wO_ownT]
  congr; funext e Γ1; congr; funext p; congr; funext b ds; congr; funext e2 Γ3
  unfold wKeyT
  cases hk : keyET e2.fz with
  | none => simp
  | some k =>
    simp only [wO_some]
    rw [← wO_ownT Γ3 i (fun q => q.2.length < sizeLine ∧ Q (.nx (Γ3.set i (.own q.1 (dctL (putT q.2 k p.1))))))]
    cases ownT Γ3 i with
    | none => simp
    | some q =>
      simp only [wO_some]
      by_cases h : q.2.length < sizeLine <;> simp [h]
@[simp] theorem lookT_nil (k : (List Key)) : lookT [] k = none := rfl
@[simp] theorem hasT_nil (k : (List Key)) : hasT [] k = false := rfl
theorem hasT_look (l : List ((List Key) × D)) (k : (List Key)) : hasT l k = (lookT l k).isSome := by
  induction l with
  | nil => rfl
  | cons p l ih =>
    by_cases e : p.1 = k
    · simp [hasT, lookT, e]
    · have h1 : hasT (p :: l) k = hasT l k := by simp [hasT, e]
      have h2 : lookT (p :: l) k = lookT l k := by simp [lookT, e]
      rw [h1, h2, ih]
theorem lookT_put (l : List ((List Key) × D)) (k j : (List Key)) (d : D) : lookT (putT l k d) j = if j = k then some d else lookT l j := by
  have cons : ∀ (p : (List Key) × D) (l : List ((List Key) × D)) (j : (List Key)), lookT (p :: l) j = if p.1 = j then some p.2 else lookT l j := fun p l j => by
    by_cases e : p.1 = j <;> simp [lookT, e]
  unfold putT
  by_cases h : hasT l k = true
  · rw [if_pos h]
    induction l with
    | nil => cases h
    | cons p l ih =>
      rw [List.map_cons, cons, cons]
      by_cases e : p.1 = k
      · rw [if_pos e]
        dsimp only
        subst e
        by_cases e2 : p.1 = j
        · rw [if_pos e2, if_pos e2.symm]
        · rw [if_neg e2, if_neg (Ne.symm e2)]
          by_cases h2 : hasT l p.1 = true
          · have := ih h2
            rw [if_neg (Ne.symm e2)] at this
            rw [this, if_neg e2]
          · have : l.map (fun q => if q.1 = p.1 then (q.1, d) else q) = l := by
              rw [List.map_congr_left (g := id), List.map_id]
              intro q hq
              have : ¬ q.1 = p.1 := fun e => h2 (List.any_eq_true.mpr ⟨q, hq, decide_eq_true e⟩)
              rw [if_neg this]; rfl
            rw [this, if_neg e2]
      · have h2 : hasT l k = true := by simpa [hasT, e] using h
        rw [if_neg e, ih h2]
        by_cases e2 : p.1 = j
        · rw [if_pos e2, if_pos e2, if_neg (fun e3 => e (e2.trans e3))]
        · rw [if_neg e2, if_neg e2]
  · rw [if_neg h]
    induction l with
    | nil =>
      rw [List.nil_append, cons]
      by_cases e : k = j
      · rw [if_pos e, if_pos e.symm]
      · rw [if_neg e, if_neg (Ne.symm e)]
    | cons p l ih =>
      have e : ¬ p.1 = k := fun e => h (by simp [hasT, e])
      have h2 : ¬ hasT l k = true := fun e2 => h (by simpa [hasT, e] using e2)
      rw [List.cons_append, cons, cons, ih h2]
      by_cases e2 : p.1 = j
      · rw [if_pos e2, if_pos e2, if_neg (fun e3 => e (e2.trans e3))]
      · rw [if_neg e2, if_neg e2]
theorem putT_new {l : List ((List Key) × D)} {k : (List Key)} (d : D) (h : hasT l k = false) : putT l k d = l ++ [(k, d)] := by unfold putT; rw [if_neg (by rw [h]; decide)]

end DL

namespace DL
open PySem PySem.Spec PyProof.Rows L2
def oLenT : OL
  | [.dct ks _] => some (.imm (.int ks.length))
  | _ => none
theorem cd_lenT {X : Cx} : CallD X rLenT oLenT := by
  intro W F H ρ σ Γ ds vs e Q eK S r h w
  unfold oLenT at h
  split at h
  · cases h
    obtain ⟨v, rfl, rr⟩ := rdvs1 r
    unfold RdV at rr
    obtain ⟨a, vs, rfl, hm, q, l⟩ := rr
    refine ⟨a, _, rfl, hm, ?_⟩
    have hl := rpl_len q
    rw [List.length_zip, Nat.min_eq_left (by omega)]
    exact w.here S rp_int
  · cases h
@[simp] theorem oLenT_l (l : List (List Key × D)) : oLenT [dctL l] = some (.imm (.int (l.length : Nat))) := by
  unfold dctL oLenT; simp
@[simp] theorem keysL_nil : keysL [] = some [] := rfl
@[simp] theorem keysL_i (i : Int) (ds : List D) : keysL (.int i :: ds) = (keysL ds).map (kI i :: ·) := rfl
@[simp] theorem keysL_s (s : List Nat) (ds : List D) : keysL (.str s :: ds) = (keysL ds).map (kS s :: ·) := rfl
@[simp] theorem keysD_t (ds : List D) : keysD (.tup ds) = keysL ds := rfl
theorem keysL_is (l : List Int) : keysL (l.map D.int) = some (l.map kI) := by
  induction l with
  | nil => rfl
  | cons x l ih => rw [List.map_cons, keysL_i, ih]; rfl
end DL

set_option maxHeartbeats 4000000
namespace DL
open PySem PySem.Spec PyProof.Rows L2
def keysB (k : List Key) : D := .tup (k.map keyB)
def okKs (k : List Key) : Bool := k.all okK
/-! ### the keys -/
def iKeyD (f : EM) : IM := fun Γ => match f Γ with
  | .ok e Γ1 => (match e.fz with
    | .imm (.lkd ks ds) => if ks.all okK = true ∧ ks.length = ds.length then .ok (ks.map keyB) Γ1 else .stuck
    | .imm (.lkt ks ds) => if ks.all okKs = true ∧ ks.length = ds.length then .ok (ks.map keysB) Γ1 else .stuck
    | _ => .stuck)
  | .stuck => .stuck
theorem rpl_kB {K : PySem.W.Frag} {F : Hp} : ∀ {ks : List Key}, ks.all okK = true → RpL K F (ks.map keyB) (ks.map kV)
  | [], _ => rpl_nil
  | k :: ks, h => by
    rw [List.all_cons, Bool.and_eq_true] at h
    exact rpl_cons (keyB_kV _ h.1) (rpl_kB h.2)
theorem pr_keys {K : PySem.W.Frag} {F : Hp} : ∀ {l : List (Key × D)} {m : List (Key × V)}, PR K F l m → m.map (·.1) = l.map (·.1) := fun h => by
  unfold PR at h
  induction h with
  | nil => rfl
  | cons h _ ih => rw [List.map_cons, List.map_cons, ih, h.1]
theorem pt_keys {K : PySem.W.Frag} {F : Hp} : ∀ {l : List (List Key × D)} {m : List (List Key × V)}, PT K F l m → m.map (·.1) = l.map (·.1) := fun h => by
  unfold PT at h
  induction h with
  | nil => rfl
  | cons h _ ih => rw [List.map_cons, List.map_cons, ih, h.1]
theorem itd_keys {W : Wd} {F : Hp} {a : Addr} {o : Obj} {m : List (Key × V)} {ks : List Key} (h : F a = some (.frz o (.dK m))) (e : m.map (·.1) = ks) (ok : ks.all okK = true) : ItD W F (Itk a o m) (ks.map keyB) := by
  intro i W' F' H ρ σ Γ eK s S
  have hH : H a = some (.frz o (.dK m)) := S.sub _ _ (s _ _ h)
  have hl : ks.length = m.length := by rw [← e, List.length_map]
  refine ⟨fun q => ⟨hH, by rw [List.length_map] at q; omega⟩, fun d hd => ?_⟩
  rw [List.getElem?_map] at hd
  obtain ⟨k, hk, rfl⟩ := omap_inv hd
  refine ⟨⟨hH, by rw [← hl]; exact (List.getElem?_eq_some_iff.mp hk).1⟩, fun x H' y => ?_⟩
  obtain ⟨rfl, k', v, h1, rfl⟩ := y
  have : ks[i]? = some k' := by rw [← e, List.getElem?_map, h1]; rfl
  rw [hk] at this; cases this
  exact ⟨F', Same.refl _, S, keyB_kV _ (List.all_eq_true.mp ok k (List.mem_of_getElem? hk)), Same.refl _⟩
theorem itd_keysT {W : Wd} {F : Hp} {a : Addr} {o : Obj} {m : List (List Key × V)} {ks : List (List Key)} (h : F a = some (.frz o (.dT m))) (e : m.map (·.1) = ks) (ok : ks.all okKs = true) : ItD W F (Itkt a o m) (ks.map keysB) := by
  intro i W' F' H ρ σ Γ eK s S
  have hH : H a = some (.frz o (.dT m)) := S.sub _ _ (s _ _ h)
  have hl : ks.length = m.length := by rw [← e, List.length_map]
  refine ⟨fun q => ⟨hH, by rw [List.length_map] at q; omega⟩, fun d hd => ?_⟩
  rw [List.getElem?_map] at hd
  obtain ⟨k, hk, rfl⟩ := omap_inv hd
  refine ⟨⟨hH, by rw [← hl]; exact (List.getElem?_eq_some_iff.mp hk).1⟩, fun x H' y => ?_⟩
  obtain ⟨rfl, k', v, q, h1, rfl, hq⟩ := y
  have : ks[i]? = some k' := by rw [← e, List.getElem?_map, h1]; rfl
  rw [hk] at this; cases this
  obtain ⟨F2, k2, S2, aT⟩ := S.tupz
  exact ⟨F2, k2, S2, rp_tup (aT _ _ hq) (rpl_kB (List.all_eq_true.mp ok k (List.mem_of_getElem? hk))), Same.refl _⟩
theorem di_keys {X : Cx} {tg e : Expr} {f : EM} (he : DE X e f) : DI X tg e (iKeyD f) :=
  pi_imp (pi_keys he) fun σ H R ⟨W, F, ρ, Γ, eK, S, ds, Γ', ef, q⟩ => by
    unfold iKeyD at ef
    cases hf : f Γ with
    | stuck => rw [hf] at ef; cases ef
    | ok e Γ1 =>
      rw [hf] at ef
      dsimp only at ef
      cases hz : e.fz with
      | imm d =>
        rw [hz] at ef
        cases d with
        | lkd ks vs =>
          dsimp only at ef
          split at ef
          · rename_i hc
            cases ef
            refine tE_then eK S hf (by rw [hz]; rfl) fun v F1 H1 s1 S1 r1 => ?_
            rw [hz] at r1
            unfold RpE Rp at r1
            obtain ⟨a, ws, o, rfl, ha, hr, hl⟩ := r1
            refine ⟨a, o, rfl, .inl ⟨_, S1.sub _ _ ha, q _ F1 H1 s1 S1 (itd_keys ha ?_ hc.1)⟩⟩
            rw [List.map_fst_zip (by rw [← rpl_len hr]; omega)]
          · cases ef
        | lkt ks vs =>
          dsimp only at ef
          split at ef
          · rename_i hc
            cases ef
            refine tE_then eK S hf (by rw [hz]; rfl) fun v F1 H1 s1 S1 r1 => ?_
            rw [hz] at r1
            unfold RpE Rp at r1
            obtain ⟨a, ws, o, rfl, ha, hr, hl⟩ := r1
            refine ⟨a, o, rfl, .inr ⟨_, S1.sub _ _ ha, q _ F1 H1 s1 S1 (itd_keysT ha ?_ hc.1)⟩⟩
            rw [List.map_fst_zip (by rw [← rpl_len hr]; omega)]
          · cases ef
        | _ => cases ef
      | _ => rw [hz] at ef; cases ef
def wLk (e : EV) (Q : List D → Prop) : Prop := match e with
  | .imm (.lkd ks ds) => (ks.all okK = true ∧ ks.length = ds.length) ∧ Q (ks.map keyB)
  | .imm (.lkt ks ds) => (ks.all okKs = true ∧ ks.length = ds.length) ∧ Q (ks.map keysB)
  | _ => False
@[simp] theorem wLk_d (l : List (Key × D)) (Q : List D → Prop) : wLk (.imm (lkdL l)) Q = ((l.all fun p => okK p.1) = true ∧ Q (l.map fun p => keyB p.1)) := by
  unfold wLk lkdL
  dsimp only
  rw [List.all_map, List.map_map, List.length_map, List.length_map, eq_self, and_true]
  rfl
@[simp] theorem wLk_t (l : List (List Key × D)) (Q : List D → Prop) : wLk (.imm (lktL l)) Q = ((l.all fun p => okKs p.1) = true ∧ Q (l.map fun p => keysB p.1)) := by
  unfold wLk lktL
  dsimp only
  rw [List.all_map, List.map_map, List.length_map, List.length_map, eq_self, and_true]
  rfl
@[simp] theorem wI_keyD (f : EM) (Γ : Gm) (Q : List D → Gm → Prop) : wI (iKeyD f) Γ Q = wE f Γ fun e Γ1 => wLk e.fz fun ds => Q ds Γ1 := by
  unfold wI iKeyD wE
  cases f Γ with
  | stuck => rfl
  | ok e Γ1 =>
    simp only [mE_ok]
    unfold wLk
    cases he : e.fz with
    | imm d =>
      cases d with
      | lkd ks ds =>
        dsimp only
        by_cases h : ks.all okK = true ∧ ks.length = ds.length
        · rw [if_pos h]; simp only [h, and_self, true_and]
        · rw [if_neg h]; simp only [h, false_and]
      | lkt ks ds =>
        dsimp only
        by_cases h : ks.all okKs = true ∧ ks.length = ds.length
        · rw [if_pos h]; simp only [h, and_self, true_and]
        · rw [if_neg h]; simp only [h, false_and]
      | _ => rfl
    | _ => rfl
end DL

set_option maxHeartbeats 4000000
namespace DL
open PySem PySem.Spec PyProof.Rows L2
mutual
def noDic : D → Bool
  | .tup ds => noDics ds
  | .lst ds => noDics ds
  | .frl ds => noDics ds
  | .dic _ _ => false
  | .dct _ _ => false
  | .lkd _ _ => false
  | .lkt _ _ => false
  | _ => true
def noDics : List D → Bool
  | [] => true
  | d :: ds => noDic d && noDics ds
end
def noDic1 : D → Bool
  | .dic _ ds => noDics ds
  | .dct _ ds => noDics ds
  | d => noDic d
@[simp] theorem noDics_map {α : Type} (l : List α) (f : α → D) : noDics (l.map f) = l.all fun a => noDic (f a) := by
  induction l with
  | nil => rfl
  | cons a l ih => rw [List.map_cons, List.all_cons, ← ih]; rfl
def noD (o : HO) : Prop := (∀ m, o ≠ .dK m) ∧ ∀ m, o ≠ .dT m
mutual
theorem noDic_rp {K : PySem.W.Frag} {F F' : Hp} (s : ∀ b o, F b = some o → noD o → F' b = some o) : ∀ (d : D) (v : V), noDic d = true → Rp K F d v → Rp K F' d v
  | .non, _, _, q => by unfold Rp at q ⊢; exact q
  | .bl _, _, _, q => by unfold Rp at q ⊢; exact q
  | .int _, _, _, q => by unfold Rp at q ⊢; exact q
  | .str _, _, _, q => by unfold Rp at q ⊢; exact q
  | .tup ds, v, h, q => by
    unfold noDic at h
    unfold Rp at q ⊢
    obtain ⟨a, vs, e, x, r⟩ := q
    exact ⟨a, vs, e, s _ _ x ⟨fun _ z => (nomatch z), fun _ z => (nomatch z)⟩, noDics_rp s ds vs h r⟩
  | .lst ds, v, h, q => by
    unfold noDic at h
    unfold Rp at q ⊢
    obtain ⟨a, vs, e, x, r⟩ := q
    exact ⟨a, vs, e, s _ _ x ⟨fun _ z => (nomatch z), fun _ z => (nomatch z)⟩, noDics_rp s ds vs h r⟩
  | .frl ds, v, h, q => by
    unfold noDic at h
    unfold Rp at q ⊢
    obtain ⟨a, vs, e, x, r⟩ := q
    refine ⟨a, vs, e, ?_, noDics_rp s ds vs h r⟩
    rcases x with (x | ⟨o, x⟩) | x
    · exact .inl (.inl (s _ _ x ⟨fun _ z => (nomatch z), fun _ z => (nomatch z)⟩))
    · exact .inl (.inr ⟨o, s _ _ x ⟨fun _ z => (nomatch z), fun _ z => (nomatch z)⟩⟩)
    · exact .inr x
theorem noDics_rp {K : PySem.W.Frag} {F F' : Hp} (s : ∀ b o, F b = some o → noD o → F' b = some o) : ∀ (ds : List D) (vs : List V), noDics ds = true → RpL K F ds vs → RpL K F' ds vs
  | [], _, _, q => by unfold RpL at q ⊢; exact q
  | d :: ds, vs, h, q => by
    unfold noDics at h
    rw [Bool.and_eq_true] at h
    unfold RpL at q ⊢
    obtain ⟨v, r, e, a, b⟩ := q
    exact ⟨v, r, e, noDic_rp s d v h.1 a, noDics_rp s ds r h.2 b⟩
end
def frD : Sl → Sl
  | .own _ d => if noDic1 d = true then .val d else .un
  | .val d => if noDic d = true then .val d else .un
  | _ => .un
/-- what is gone through, locked -/
def lkOf : D → Option D
  | .dic ks ds => if noDics ds = true then some (.lkd ks ds) else none
  | .dct ks ds => if noDics ds = true then some (.lkt ks ds) else none
  | _ => none
def slDat : Option Sl → Option D
  | some (.own _ d) => some d
  | some (.val d) => some d
  | _ => none
def lkG (i : Nat) (l : D) (Γ : Gm) : Gm := (Γ.map frD).set i (.val l)
def lkSl (i : Nat) (Γ : Gm) : Option D := (slDat Γ[i]?).bind lkOf
open Classical in
noncomputable def eBorD (i : Nat) (f : EM) : EM := fun Γ => match lkSl i Γ with
  | some l => if h : ∃ ds, f (lkG i l Γ) = .ok (.fr (.lst ds)) (lkG i l Γ) ∧ ds.all flat = true then .ok (.fr (.lst h.choose)) Γ else .stuck
  | none => .stuck
/-- what stands at the dict -/
theorem lk_at {W : Wd} {F H : Hp} {ρ : Nat → Option Addr} {σ : L2.St} {Γ : Gm} {i : Nat} {l : D} (S : Sim W F H ρ σ Γ) (h : lkSl i Γ = some l) :
    ∃ a u, σ[i]? = some (some (.ref a)) ∧ H a = some u ∧ Mut (some u) ∧ ¬ noD u ∧ (∀ j io d, j ≠ i → Γ[j]? = some (.own io d) → ρ j ≠ some a) ∧ ∀ F' od, (∀ b o, F b = some o → noD o → F' b = some o) → F' a = some (.frz od u) → Rp W.K F' l (.ref a) := by
  unfold lkSl at h
  obtain ⟨d, hd, h⟩ := obind_inv h
  have key : ∃ a u, σ[i]? = some (some (.ref a)) ∧ H a = some u ∧ (∀ j io d, j ≠ i → Γ[j]? = some (.own io d) → ρ j ≠ some a) ∧ ((∃ ks ds vs, d = .dic ks ds ∧ u = .dK (ks.zip vs) ∧ RpL W.K F ds vs ∧ ks.length = ds.length) ∨ ∃ ks ds vs, d = .dct ks ds ∧ u = .dT (ks.zip vs) ∧ RpL W.K F ds vs ∧ ks.length = ds.length) := by
    have two : (∃ ks ds, d = .dic ks ds) ∨ ∃ ks ds, d = .dct ks ds := by
      cases d with
      | dic ks ds => exact .inl ⟨ks, ds, rfl⟩
      | dct ks ds => exact .inr ⟨ks, ds, rfl⟩
      | _ => cases h
    cases hs : Γ[i]? with
    | none => rw [hs] at hd; cases hd
    | some s =>
      rw [hs] at hd
      have q := S.slot i s hs
      cases s with
      | own io d' =>
        cases hd
        obtain ⟨a, e1, e2, e3, e4, e5⟩ := q
        have un : ∀ j io d, j ≠ i → Γ[j]? = some (.own io d) → ρ j ≠ some a := fun j io d hj hj2 e => hj (S.one j i a (Act.own hj2) e e1)
        rcases two with ⟨ks, ds, rfl⟩ | ⟨ks, ds, rfl⟩
        · unfold OwnAt at e3
          obtain ⟨vs, x, r, z⟩ := e3
          exact ⟨a, _, e2, x, un, .inl ⟨ks, ds, vs, rfl, rfl, r, z⟩⟩
        · unfold OwnAt at e3
          obtain ⟨vs, x, r, z⟩ := e3
          exact ⟨a, _, e2, x, un, .inr ⟨ks, ds, vs, rfl, rfl, r, z⟩⟩
      | val d' =>
        cases hd
        obtain ⟨v, e1, e2, e3⟩ := q
        have un : ∀ a o, F a = some o → ∀ j io d, j ≠ i → Γ[j]? = some (.own io d) → ρ j ≠ some a := fun a o ha j io d hj hj2 e => by
          obtain ⟨b, b1, b2, b3, b4, _⟩ := S.slot j _ hj2
          rw [e] at b1; cases b1
          rw [ha] at b4; cases b4
        rcases two with ⟨ks, ds, rfl⟩ | ⟨ks, ds, rfl⟩
        · unfold Rp at e2
          obtain ⟨a, vs, rfl, x, r, z⟩ := e2
          exact ⟨a, _, e1, S.sub _ _ x, un a _ x, .inl ⟨ks, ds, vs, rfl, rfl, r, z⟩⟩
        · unfold Rp at e2
          obtain ⟨a, vs, rfl, x, r, z⟩ := e2
          exact ⟨a, _, e1, S.sub _ _ x, un a _ x, .inr ⟨ks, ds, vs, rfl, rfl, r, z⟩⟩
      | _ => cases hd
  obtain ⟨a, u, e1, e2, un, e3⟩ := key
  rcases e3 with ⟨ks, ds, vs, rfl, rfl, r, z⟩ | ⟨ks, ds, vs, rfl, rfl, r, z⟩
  · unfold lkOf at h
    obtain ⟨hn, rfl⟩ := if_some h
    refine ⟨a, _, e1, e2, True.intro, fun n => n.1 _ rfl, un, fun F' od s ha => ?_⟩
    unfold Rp
    exact ⟨a, vs, od, rfl, ha, noDics_rp s ds vs hn r, z⟩
  · unfold lkOf at h
    obtain ⟨hn, rfl⟩ := if_some h
    refine ⟨a, _, e1, e2, True.intro, fun n => n.2 _ rfl, un, fun F' od s ha => ?_⟩
    unfold Rp
    exact ⟨a, vs, od, rfl, ha, noDics_rp s ds vs hn r, z⟩
theorem lkG_get {i j : Nat} {l : D} {Γ : Gm} (h : j ≠ i) : (lkG i l Γ)[j]? = (Γ[j]?).map frD := by
  unfold lkG
  rw [List.getElem?_set_ne (Ne.symm h), List.getElem?_map]
theorem lk_sim {W : Wd} {F H : Hp} {ρ : Nat → Option Addr} {σ : L2.St} {Γ : Gm} {i : Nat} {l : D} {a : Addr} {u : HO} (od : Obj) (S : Sim W F H ρ σ Γ) (hi : i < Γ.length) (e1 : σ[i]? = some (some (.ref a))) (e2 : H a = some u) (nd : ¬ noD u)
    (un : ∀ j io d, j ≠ i → Γ[j]? = some (.own io d) → ρ j ≠ some a) (rp : ∀ F' od, (∀ b o, F b = some o → noD o → F' b = some o) → F' a = some (.frz od u) → Rp W.K F' l (.ref a)) :
    Sim ⟨W.K, upd H a (.frz od u), upd H a (.frz od u), fun _ => none, [], [], W.n⟩ (upd H a (.frz od u)) (upd H a (.frz od u)) (fun _ => none) σ (lkG i l Γ) := by
  have sw : ∀ b o, F b = some o → noD o → upd H a (.frz od u) b = some o := fun b o e n => by
    have := S.sub _ _ e
    rw [upd_ne fun z => by subst z; rw [e2] at this; cases this; exact nd n]
    exact this
  have gl : (lkG i l Γ).length = Γ.length := by unfold lkG; rw [List.length_set, List.length_map]
  refine ⟨Same.refl _, fun a o e => .inl e, fun a o e _ => e, fun a h => absurd h (by simp), fun i a e => (by cases e), by rw [gl]; exact S.len, by rw [gl]; exact S.gl, fun j s e => ?_, fun i j a ha h3 h4 => (by cases h3), fun p h => absurd h (by simp), ⟨fun _ _ e => e, fun a h => absurd h (by simp), fun q h => absurd h (by simp)⟩⟩
  by_cases hj : j = i
  · subst hj
    unfold lkG at e
    rw [List.getElem?_set_self (by rw [List.length_map]; exact hi)] at e
    cases e
    exact ⟨_, e1, rp _ od sw upd_same, fun b eb => by cases eb⟩
  · rw [lkG_get hj] at e
    cases h : Γ[j]? with
    | none => rw [h] at e; cases e
    | some t =>
      rw [h] at e
      cases e
      have q := S.slot j t h
      cases t with
      | un => rfl
      | nst io d => rfl
      | val d =>
        by_cases hn : noDic d = true
        · rw [show frD (.val d) = .val d from if_pos hn]
          obtain ⟨v, e1, e2, e3⟩ := q
          exact ⟨v, e1, noDic_rp sw _ _ hn e2, fun a ea => by cases ea⟩
        · rw [show frD (.val d) = .un from if_neg hn]; rfl
      | own io d =>
        by_cases hn : noDic1 d = true
        · rw [show frD (.own io d) = .val d from if_pos hn]
          obtain ⟨b, b1, b2, b3, _⟩ := q
          have hb : b ≠ a := fun z => un j io d hj h (by rw [b1, z])
          refine ⟨.ref b, b2, ?_, fun c ec => by cases ec⟩
          cases d with
          | lst ds =>
            unfold OwnAt at b3
            obtain ⟨vs, x, r⟩ := b3
            exact rp_lst (by rw [upd_ne hb]; exact x) (noDics_rp sw ds vs hn r)
          | dic ks ds =>
            unfold OwnAt at b3
            obtain ⟨vs, x, r, z⟩ := b3
            unfold Rp
            exact ⟨b, vs, rfl, by rw [upd_ne hb]; exact x, noDics_rp sw ds vs hn r, z⟩
          | dct ks ds =>
            unfold OwnAt at b3
            obtain ⟨vs, x, r, z⟩ := b3
            unfold Rp
            exact ⟨b, vs, rfl, by rw [upd_ne hb]; exact x, noDics_rp sw ds vs hn r, z⟩
          | _ => exact b3.elim
        · rw [show frD (.own io d) = .un from if_neg hn]; rfl
theorem borD_core {K : PySem.W.Frag} {i : Nat} {f : EM} {σ : L2.St} {H : Hp} {Q : VK} (h : tE K (eBorD i f) σ H Q) : tLockE (tE K f) σ H Q := by
  obtain ⟨W, F, ρ, Γ, eK, S, e, Γ', ef, ok, q⟩ := h
  unfold eBorD at ef
  split at ef
  · rename_i l hl
    split at ef
    · rename_i hx
      obtain ⟨hf, hfl⟩ := hx.choose_spec
      generalize hx.choose = ds at hf hfl ef
      cases ef
      obtain ⟨a, u, e1, e2, mu, nd, un, rp⟩ := lk_at S hl
      have hi : i < Γ.length := by rw [← S.len]; exact (List.getElem?_eq_some_iff.mp e1).1
      refine ⟨a, u, e2, mu, fun od => ⟨⟨W.K, upd H a (.frz od u), upd H a (.frz od u), fun _ => none, [], [], W.n⟩, upd H a (.frz od u), fun _ => none, lkG i l Γ, eK, lk_sim od S hi e1 e2 nd un rp, .fr (.lst ds), lkG i l Γ, hf, rfl, fun v F2 H2 k2 S2 r => ?_⟩⟩
      have hk : Same (upd H a (.frz od u)) H2 := k2.trans S2.sub
      refine ⟨hk _ _ upd_same, ?_⟩
      unfold RpE at r
      obtain ⟨p, rfl, o, N⟩ := r
      obtain ⟨vs, hv, rv⟩ := o
      have pa : p ≠ a := fun z => by
        subst z
        have := hk _ _ (upd_same (H := H) (o := .frz od u))
        rw [hv] at this; cases this
      have hp : H p = none := by
        have : upd H a (.frz od u) p = none := N.b
        rw [upd_ne pa] at this
        exact this
      have hs : Same H (upd H2 a u) := fun b o e => by
        by_cases hb : b = a
        · subst hb; rw [e2] at e; cases e; exact upd_same
        · rw [upd_ne hb]; exact hk b o (by rw [upd_ne hb]; exact e)
      have M := S.fresh hp
      refine q (.ref p) F _ (Same.refl F) (S.grow hs) ?_
      unfold RpE
      exact ⟨p, rfl, ⟨vs, by rw [upd_ne pa]; exact hv, flat_rpl hfl rv⟩, M.f, M.b, M.np, M.r, M.n⟩
    · cases ef
  · cases ef
theorem de_borD {X : Cx} {e : Expr} {f : EM} {i : Nat} (h : DE X e f) : DE X e (eBorD i f) := pe_imp (pe_lock h) fun _ _ _ h => borD_core h
structure wBd (i : Nat) (f : EM) (Γ : Gm) (Q : EV → Gm → Prop) : Prop where
  out : wE (eBorD i f) Γ Q
@[simp] theorem wE_borD (i : Nat) (f : EM) (Γ : Gm) (Q : EV → Gm → Prop) : wE (eBorD i f) Γ Q = wBd i f Γ Q := propext ⟨fun h => ⟨h⟩, fun h => h.out⟩
theorem bd_i {i : Nat} {f : EM} {Γ : Gm} {Q : EV → Gm → Prop} (l : D) (ds : List D) (hl : lkSl i Γ = some l) (hf : ds.all flat = true) (h : wE f (lkG i l Γ) fun e Γ' => e = .fr (.lst ds) ∧ Γ' = lkG i l Γ) (q : Q (.fr (.lst ds)) Γ) : wBd i f Γ Q := by
  constructor
  unfold wE at h ⊢
  have hf2 : f (lkG i l Γ) = .ok (.fr (.lst ds)) (lkG i l Γ) := by
    cases hr : f (lkG i l Γ) with
    | stuck => rw [hr] at h; exact h.elim
    | ok e Γ' =>
      rw [hr, mE_ok] at h
      rw [h.1, h.2]
  have hx : ∃ ds, f (lkG i l Γ) = .ok (.fr (.lst ds)) (lkG i l Γ) ∧ ds.all flat = true := ⟨ds, hf2, hf⟩
  unfold eBorD
  rw [hl]
  dsimp only
  rw [dif_pos hx]
  have := hx.choose_spec.1
  have this := hf2.symm.trans this
  have e : hx.choose = ds := by
    injection this with a b
    injection a with a
    injection a with a
    exact a.symm
  rw [e]
  exact q
@[simp] theorem lkSl_i (i : Nat) (Γ : Gm) : lkSl i Γ = (slDat Γ[i]?).bind lkOf := rfl
@[simp] theorem slDat_own (b : Bool) (d : D) : slDat (some (.own b d)) = some d := rfl
@[simp] theorem slDat_val (d : D) : slDat (some (.val d)) = some d := rfl
theorem lkOf_d (l : List (Key × D)) (h : (l.all fun p => noDic p.2) = true) : lkOf (dicL l) = some (lkdL l) := by
  unfold lkOf dicL lkdL
  dsimp only
  rw [noDics_map, if_pos h]
theorem lkOf_t (l : List (List Key × D)) (h : (l.all fun p => noDic p.2) = true) : lkOf (dctL l) = some (lktL l) := by
  unfold lkOf dctL lktL
  dsimp only
  rw [noDics_map, if_pos h]
end DL

set_option maxHeartbeats 4000000
namespace DL
open PySem PySem.Spec PyProof.Rows L2
/-- tuples of ints and texts hold nothing that is written -/
theorem reads_key {h : Heap} : ∀ {k : List Key} {u : Value} {as : List Addr}, Reads h u (toPD (keysB k)) as → as = [] := by
  intro k u as r
  unfold keysB at r
  unfold toPD at r
  cases r with
  | tuple _ _ _ ra =>
    have key : ∀ {k : List Key} {us : List Value} {as : List Addr}, ReadsAll h us (toPDs (k.map keyB)) as → as = [] := by
      intro k
      induction k with
      | nil => intro us as ra; rw [List.map_nil] at ra; unfold toPDs at ra; cases ra; rfl
      | cons x k ih =>
        intro us as ra
        rw [List.map_cons] at ra
        unfold toPDs at ra
        cases ra with
        | cons r1 r2 =>
          rw [ih r2]
          cases x with
          | inl i => unfold keyB toPD at r1; cases r1; rfl
          | inr x => unfold keyB toPD at r1; cases r1; rfl
    exact key ra
def keyP (k : List Key) : PyData := toPD (keysB k)
section
variable {X : Cx}
def rSortKT : List V → Hp → VK → Prop := fun vs H Q => ∃ (a : Addr) (kvs : List (List Key × V)), vs = [.ref a] ∧ Rd H a (.dT kvs) ∧ ((kvs.map (·.1)).all okKs = true ∧ PySem.W.AllAlike ((kvs.map (·.1)).map keyP) ∧ PySem.W.Sortable ((kvs.map (·.1)).map keyP) ∧ ∀ k ∈ kvs.map (·.1), (keyP k).depth ≤ 50) ∧
  ∀ (p : Addr) (ps : List (List Key × Addr)), H p = none → ps.map (·.1) = kvs.map (·.1) → (∀ q ∈ ps, H q.2 = some (.tup (q.1.map kV))) → Q (.ref p) (upd H p (.lst ((ps.mergeSort (PySem.W.dataLe false fun q => keyP q.1)).map fun q => .ref q.2)))
theorem rp_here {K : PySem.W.Frag} {H : Hp} {k : List Key} {b : Addr} (h : okKs k = true) (e : H b = some (.tup (k.map kV))) : Rp K H (keysB k) (.ref b) := rp_tup e (rpl_kB h)
theorem okE_keys {k : List Key} : okE (keysB k) = true := by
  unfold keysB okE
  induction k with
  | nil => rfl
  | cons x k ih =>
    rw [List.map_cons]
    unfold okEs
    rw [ih]
    cases x <;> rfl
theorem kt_fst {H : Hp} {kvs : List (List Key × V)} {ks : List (List Key × Addr × Value)} (pr : KT H kvs ks) : (ks.map fun x => (x.1, x.2.1)).map (·.1) = kvs.map (·.1) := by
  induction pr with
  | nil => rfl
  | cons h _ ih => rw [List.map_cons, List.map_cons, ih, List.map_cons, h.1]
theorem kt_tup {H : Hp} {kvs : List (List Key × V)} {ks : List (List Key × Addr × Value)} (pr : KT H kvs ks) : ∀ q ∈ ks.map fun x => (x.1, x.2.1), H q.2 = some (.tup (q.1.map kV)) := by
  induction pr with
  | nil => intro q hq; cases hq
  | cons h _ ih =>
    intro q hq
    rw [List.map_cons] at hq
    rcases List.mem_cons.mp hq with rfl | hq
    · dsimp only; rw [← h.1]; exact h.2.1
    · exact ih q hq
theorem each_refs {h : Heap} {a : Addr} : ∀ {ps : List (List Key × Addr)}, (∀ q ∈ ps, ∃ as, Reads h (.ref q.2) (keyP q.1) as) → PySem.W.EachIs (fun (u : Value) (p : List Key × Addr) => u = .ref p.2) (ps.map fun q => Value.ref q.2) ps ∧
    PySem.W.EachIs (fun (u : Value) (p : List Key × Addr) => ∃ as, Reads h u (keyP p.1) as ∧ a ∉ as) (ps.map fun q => Value.ref q.2) ps
  | [], _ => ⟨.nil, .nil⟩
  | p :: ps, k => by
    obtain ⟨e1, e2⟩ := each_refs (a := a) (ps := ps) fun q hq => k q (List.mem_cons_of_mem _ hq)
    obtain ⟨as, r⟩ := k p List.mem_cons_self
    exact ⟨.cons rfl e1, .cons ⟨as, r, by rw [reads_key r]; simp⟩ e2⟩
theorem refs_each : ∀ {us : List Value} {ps : List (List Key × Addr)}, PySem.W.EachIs (fun (u : Value) (p : List Key × Addr) => u = .ref p.2) us ps → us = ps.map fun q => Value.ref q.2
  | _, _, .nil => rfl
  | _, _, .cons r rs => by rw [List.map_cons, ← refs_each rs, r]
theorem cr_sortKT (hc : X.calm = true) (hu : X.A.units + 64 < cLine) : CallR X (.builtin "sorted") rSortKT := by
  intro pins s σ H xs us Q I r ⟨d, kvs, e0, hd, ⟨k1, k2, k3, k4⟩, q⟩
  subst e0
  obtain ⟨u, eu, rx⟩ := vals1 r
  subst eu
  cases rx
  have ob : ObjOk X.prog X.w H s.heap d (.dT kvs) := hd.ok I.hok
  obtain ⟨z, hs, ks, pr, o, es, ep, ho, hx, hdt, he, hn⟩ := ob
  have l1 : es.size = ks.length := size_of_entries he
  have l2 : kvs.length = ks.length := Paired.length pr
  have pk := kt_fst pr
  have ph := kt_tup pr
  have psl : (ks.map fun x => (x.1, x.2.1)).length = ks.length := List.length_map _
  have ev : (ks.map fun x => Value.ref x.2.1) = (ks.map fun x => (x.1, x.2.1)).map fun q => Value.ref q.2 := by rw [List.map_map]; rfl
  generalize (ks.map fun x => (x.1, x.2.1)) = ps at pk ph psl ev
  refine Calls.call_function_entry kind_sorted plain_sorted entry_sorted (args_sorted1 _) ?_
  unfold Builtin.«sorted»
  refine wpAny_bind (m := checkCount "sorted" 1 1 _) (wpAny_pure ?_)
  refine wpAny_bind (PySem.W.kdu_collect (A := X.A.in1) (kdl_raw hs hx hdt) (I.ok.hd hc) ho (by omega) fun h' tk acc hk it => ?_)
  have ea : acc.toList = ps.map fun q => Value.ref q.2 := by
    rw [← ev]
    have hl : acc.toList.length = ks.length := by rw [Array.length_toList, it.1]; exact l1
    refine List.ext_getElem? fun j => ?_
    rw [List.getElem?_map]
    by_cases hj : j < ks.length
    · obtain ⟨en, hen, hv⟩ := it.2 j (acc.toList[j]'(by omega)) (by rw [← Array.getElem?_toList]; exact List.getElem?_eq_getElem (by omega))
      have qe := entry_at he j
      rw [hen, List.getElem?_eq_getElem hj] at qe
      have e2 : en = entryOfKey (tupleKind (mixKind X.prog X.w)) ks[j] := Option.some.inj qe
      rw [List.getElem?_eq_getElem (by omega), List.getElem?_eq_getElem hj, hv, e2]
      rfl
    · rw [List.getElem?_eq_none (by omega), List.getElem?_eq_none (by omega)]; rfl
  have I1 : L2.Inv X pins σ H { s with heap := h', toks := tk } := I.kept hk
  rw [ea]
  refine wpAny_bind (wpAny_newList ?_ (by rw [List.length_map]; omega))
  have hoL : (h'.push (seqObj "list" (ps.map fun q => Value.ref q.2).toArray 0)).get? h'.objs.size = some (seqObj "list" (ps.map fun q => Value.ref q.2).toArray 0) := Heap.get?_push_size _ rfl
  have rd : ∀ q ∈ ps, ∃ as, Reads (h'.push (seqObj "list" (ps.map fun q => Value.ref q.2).toArray 0)) (.ref q.2) (keyP q.1) as := fun q hq => by
    have ok : okKs q.1 = true := List.all_eq_true.mp k1 q.1 (by rw [← pk]; exact List.mem_map_of_mem hq)
    obtain ⟨as, r⟩ := Dp.reads I1 _ _ (.ref q.2) (dp_of (Same.refl H) _ _ (rp_here (K := X.K) ok (ph q hq)) okE_keys).1 rfl
    exact ⟨as, PyProof.Rows.Reads.keeps (fun b o e => Heap.get?_push_of_some _ e) r⟩
  obtain ⟨e1, e2⟩ := each_refs (a := h'.objs.size) rd
  refine wpAny_bind (wpAny_holding (wpAny_mono (PySem.W.list_sort_data (s := { s with heap := h'.push (seqObj "list" (ps.map fun q => Value.ref q.2).toArray 0), toks := tk }) (enc := fun q : List Key × Addr => keyP q.1) hoL e1 e2 ?_ ?_ (by omega) (fun b hb => ?_) (Q := fun _ s' => ∃ out : List Value, out.length = ps.length ∧ PySem.W.EachIs (fun (u : Value) (p : List Key × Addr) => u = .ref p.2) out (ps.mergeSort (PySem.W.dataLe false fun q => keyP q.1)) ∧ s' = { s with heap := sortedHeap (h'.push (seqObj "list" (ps.map fun q => Value.ref q.2).toArray 0)) h'.objs.size (ps.map fun q => Value.ref q.2) out.toArray, toks := tk }) fun out ho e => ⟨out, ho, e, rfl⟩) (fun _ s' x => ?_) fun _ _ e => e))
  · rw [show (ps.map fun q => keyP q.1) = (ps.map (·.1)).map keyP by rw [List.map_map]; rfl, pk]; exact k2
  · rw [show (ps.map fun q => keyP q.1) = (ps.map (·.1)).map keyP by rw [List.map_map]; rfl, pk]; exact k3
  · have := k4 b.1 (by rw [← pk]; exact List.mem_map_of_mem hb)
    have e1 : X.A.in1.units ≤ X.A.units + 1 := by first | exact Nat.le_refl _ | exact Nat.le_succ _ | (unfold Around.in1; simp)
    omega
  · obtain ⟨out, hol, heo, rfl⟩ := x
    have eo := refs_each heo
    obtain ⟨c, he'⟩ := PyProof.Rows.sortedHeap_at (vs := ps.map fun q => Value.ref q.2) (out := out.toArray) hoL
    subst eo
    have hlen : (((ps.mergeSort (PySem.W.dataLe false fun q => keyP q.1)).map fun q => V.ref q.2)).length ≤ sizeLine := by
      rw [List.length_map, List.length_mergeSort]; omega
    have rv : Vals ((ps.mergeSort (PySem.W.dataLe false fun q => keyP q.1)).map fun q => V.ref q.2) ((ps.mergeSort (PySem.W.dataLe false fun q => keyP q.1)).map fun q => Value.ref q.2) := by
      generalize ps.mergeSort (PySem.W.dataLe false fun q => keyP q.1) = m
      induction m with
      | nil => exact .nil
      | cons a m ih => exact .cons rfl ih
    refine wpAny_pure ⟨_, rfl, .ref h'.objs.size, upd H h'.objs.size (.lst ((ps.mergeSort (PySem.W.dataLe false fun q => keyP q.1)).map fun q => V.ref q.2)), I1.laid (t' := tk) (fun b u e => ?_) (Nat.le_refl _) ⟨hlen, _, c, rv, he'⟩, rfl, q _ ps (I1.hok.fresh (Nat.le_refl _)) pk ph⟩
    have hb : b < h'.objs.size := Heap.lt_size e
    rw [PyProof.Rows.sortedHeap_old (Nat.ne_of_lt hb) (by rw [size_push']; exact Nat.lt_succ_of_lt hb)]
    exact Heap.get?_push_of_some _ e
def oSortKT : OL
  | [.dct ks ds] => if srtOk (ks.map keysB) ∧ ks.all okKs = true ∧ ks.length = ds.length then some (.fr (.lst (msD (ks.map keysB)))) else none
  | _ => none
theorem srt_parts {ds : List D} (h : srtOk ds) : PySem.W.AllAlike (ds.map toPD) ∧ PySem.W.Sortable (ds.map toPD) ∧ ∀ d ∈ ds, (toPD d).depth ≤ 50 := by
  obtain ⟨k1, k2, k3, k4⟩ := h
  refine ⟨fun x hx y hy => ?_, ?_, fun d hd => ?_⟩
  · obtain ⟨x, hx', rfl⟩ := List.mem_map.mp hx
    obtain ⟨y, hy', rfl⟩ := List.mem_map.mp hy
    exact k2 x hx' y hy'
  · rcases k3 with k3 | k3
    · refine .inl fun d hd => ?_
      obtain ⟨x, hx, rfl⟩ := List.mem_map.mp hd
      have := k3 x hx
      cases x with
      | tup l => cases l with
        | nil => cases this
        | cons y l => exact ⟨_, _, rfl⟩
      | _ => cases this
    · refine .inr fun d hd => ?_
      obtain ⟨x, hx, rfl⟩ := List.mem_map.mp hd
      have := k3 x hx
      cases x with
      | tup l => cases this
      | non => cases this
      | dic _ _ => cases this
      | dct _ _ => cases this
      | lkd _ _ => cases this
      | lkt _ _ => cases this
      | _ => exact ⟨(fun e => by cases e), fun _ e => by cases e⟩
  · have := dep_memD hd
    rw [dep_pd]; omega
theorem rpl_sorted {K : PySem.W.Frag} {F : Hp} {ps : List (List Key × Addr)} (ok : ∀ q ∈ ps, okKs q.1 = true) (h : ∀ q ∈ ps, F q.2 = some (.tup (q.1.map kV))) : RpL K F (msD ((ps.map (·.1)).map keysB)) ((ps.mergeSort (PySem.W.dataLe false fun q => keyP q.1)).map fun q => V.ref q.2) := by
  have e2 : msD ((ps.map (·.1)).map keysB) = (ps.mergeSort (PySem.W.dataLe false fun q => keyP q.1)).map fun q => keysB q.1 := by
    unfold msD
    rw [List.map_mergeSort (r := PySem.W.dataLe false fun q : List Key × Addr => keyP q.1) (s := fun a b : D => !dlt b a) (f := fun q : List Key × Addr => keysB q.1) (fun a _ b _ => rfl), List.map_map]
    rfl
  rw [e2]
  have : ∀ {m : List (List Key × Addr)}, (∀ q ∈ m, q ∈ ps) → RpL K F (m.map fun q => keysB q.1) (m.map fun q => V.ref q.2) := by
    intro m
    induction m with
    | nil => intro _; exact rpl_nil
    | cons a m ih =>
      intro hm
      have ha := hm a List.mem_cons_self
      exact rpl_cons (rp_tup (h a ha) (rpl_kB (ok a ha))) (ih fun q hq => hm q (List.mem_cons_of_mem _ hq))
  exact this fun q hq => (List.mergeSort_perm _ _).mem_iff.mp hq
theorem cd_sortKT : CallD X rSortKT oSortKT := by
  intro W F H ρ σ Γ ds vs e Q eK S r h w
  unfold oSortKT at h
  split at h
  · rename_i ks ds
    obtain ⟨⟨h1, h2, h3⟩, rfl⟩ := if_some h
    obtain ⟨v, rfl, rr⟩ := rdvs1 r
    obtain ⟨a, m, rfl, hm, pr⟩ := rd_dct rr
    have ek : m.map (·.1) = ks := by rw [pt_keys pr, List.map_fst_zip (by omega)]
    have hs := srt_parts h1
    rw [List.map_map] at hs
    obtain ⟨F2, k2, S2, aT⟩ := S.tupz
    refine ⟨a, m, rfl, .inl hm, by rw [ek]; exact ⟨h2, hs.1, hs.2.1, fun k hk => hs.2.2 _ (List.mem_map_of_mem hk)⟩, fun p ps hp e1 e2 => ?_⟩
    refine w (.ref p) F2 _ k2 (S2.alloc hp) ?_
    unfold RpE
    refine ⟨p, rfl, ⟨_, upd_same, ?_⟩, (S2.fresh hp).up⟩
    rw [ek] at e1
    rw [← e1]
    exact rpl_sorted (fun q hq => List.all_eq_true.mp h2 _ (by rw [← e1]; exact List.mem_map_of_mem hq)) fun q hq => aT _ _ (e2 q hq)
  · cases h
/-! ### texts as keys -/
def kTxt : Key → Option (List Nat)
  | .inl _ => none
  | .inr x => some x.cps.toList
def kTxts : List Key → Option (List (List Nat))
  | [] => some []
  | k :: ks => (kTxt k).bind fun s => (kTxts ks).map (s :: ·)
theorem kTxts_eq : ∀ {ks : List Key} {ss : List (List Nat)}, kTxts ks = some ss → ks = (ss.map mkS).map Sum.inr
  | [], ss, h => by unfold kTxts at h; cases h; rfl
  | k :: ks, ss, h => by
    unfold kTxts at h
    obtain ⟨s, hs, h⟩ := obind_inv h
    obtain ⟨ss', h', rfl⟩ := omap_inv h
    rw [List.map_cons, List.map_cons, ← kTxts_eq h']
    cases k with
    | inl i => cases hs
    | inr x => cases hs; first | rfl | (congr 1)
@[simp] theorem kTxts_nil : kTxts [] = some [] := rfl
@[simp] theorem kTxts_map (ss : List (List Nat)) : kTxts (ss.map kS) = some ss := by
  induction ss with
  | nil => rfl
  | cons s ss ih =>
    rw [List.map_cons]
    unfold kTxts
    rw [ih]
    show ((some (mkS s).cps.toList).bind fun s => _) = _
    rw [mkS_cps]
    rfl
def oSortKD : OL
  | [.dic ks ds] => (kTxts ks).bind fun ss => if ss.all okSb = true ∧ ss.length < 64 ∧ ks.length = ds.length then some (.fr (.lst ((isort ltS ss).map D.str))) else none
  | _ => none
def rSortKD : List V → Hp → VK → Prop := fun xs H Q => ∃ (a : Addr) (kvs : List (Key × V)) (ks : List Str), xs = [.ref a] ∧ Rd H a (.dK kvs) ∧ kvs.map (·.1) = ks.map Sum.inr ∧ ks.length < 64 ∧
    ∀ ys p, ys.Perm ks → sortedS ys = true → H p = none → Q (.ref p) (upd H p (.lst (ys.map V.str)))
theorem cd_sortKD : CallD X rSortKD oSortKD := by
  intro W F H ρ σ Γ ds vs e Q eK S r h w
  unfold oSortKD at h
  split at h
  · rename_i ks ds
    obtain ⟨ss, hss, h⟩ := obind_inv h
    obtain ⟨⟨h1, h2, h3⟩, rfl⟩ := if_some h
    obtain ⟨v, rfl, rr⟩ := rdvs1 r
    obtain ⟨a, m, rfl, hm, pr⟩ := rd_dic rr
    have ek : m.map (·.1) = ks := by rw [pr_keys pr, List.map_fst_zip (by omega)]
    refine ⟨a, m, ss.map mkS, rfl, .inl hm, by rw [ek]; exact kTxts_eq hss, by rw [List.length_map]; exact h2, fun ys p hp hs hn => ?_⟩
    rw [sorted_mkS hp hs]
    exact w.newl S hn (rpl_strs fun s hs => okS_of (List.all_eq_true.mp h1 s ((isort_perm ltS _).mem_iff.mp hs)))
  · cases h
theorem cr_sortKD (hc : X.calm = true) : CallR X (.builtin "sorted") rSortKD := call_sortedD hc
end
theorem oSortKD_l {α : Type} (l : List α) (f : α → List Nat) (g : α → D) (h : ((l.map f).all okSb = true ∧ l.length < 64)) : oSortKD [dicL (l.map fun a => (kS (f a), g a))] = some (.fr (.lst ((isort ltS (l.map f)).map D.str))) := by
  unfold oSortKD dicL
  dsimp only
  rw [show (l.map fun a => (kS (f a), g a)).map (·.1) = (l.map f).map kS by rw [List.map_map, List.map_map]; rfl, kTxts_map]
  dsimp only [Option.bind_some]
  rw [if_pos]
  refine ⟨h.1, by rw [List.length_map]; exact h.2, by simp⟩
theorem oSortKT_l (l : List (List Key × D)) (h : srtOk ((l.map (·.1)).map keysB)) (h2 : (l.all fun p => okKs p.1) = true) : oSortKT [dctL l] = some (.fr (.lst (msD ((l.map (·.1)).map keysB)))) := by
  unfold oSortKT dctL
  dsimp only
  rw [if_pos ⟨h, by rw [List.all_map]; exact h2, by simp⟩]
/-- where an order of one's own stands for the data's -/
theorem msD_by {α : Type} {lt : α → α → Bool} (L : Lin lt) (f : α → D) {xs : List α} (hf : ∀ a b, dlt (f a) (f b) = lt a b) : msD (xs.map f) = (isort lt xs).map f := by
  unfold msD
  rw [← List.map_mergeSort (r := fun a b => !lt b a) (s := fun a b : D => !dlt b a) (f := f) (fun a _ b _ => by rw [hf])]
  congr 1
  refine (isort_eq L ?_ (List.mergeSort_perm _ _)).symm
  have := List.pairwise_mergeSort (le := fun a b => !lt b a) (fun a b c h1 h2 => ?_) (fun a b => ?_) xs
  · exact this.imp fun {a b} h => by simpa using h
  · have h1 : lt b a = false := by simpa using h1
    have h2 : lt c b = false := by simpa using h2
    simp [L.ntr h1 h2]
  · cases h : lt b a with
    | false => simp
    | true => simp [L.as _ _ h]
end DL

set_option maxHeartbeats 4000000
namespace DL
open PySem PySem.Spec PyProof.Rows L2
section
variable {X : Cx} {pos : Pos} {ke ve : Expr} {tk tv : TE}
def tDisp1T (tk tv : TE) : TE := fun σ H Q => ∀ p, H p = none → tk σ (upd H p (.dT [])) fun x H1 => tv σ H1 fun y H2 => H2 p = some (.dT []) ∧ ∃ k b, x = .ref b ∧ H2 b = some (.tup (k.map kV)) ∧ Q (.ref p) (upd H2 p (.dT [(k, y)]))
theorem pe_disp1T (hu : X.A.units + 1 < cLine) (hk : PE X ke tk) (hv : PE X ve tv) : PE X (.Dict [some ke] [ve] pos) (tDisp1T tk tv) := by
  refine ⟨fun pins s σ H Q I q => ?_⟩
  have hn := I.hok.fresh (Nat.le_refl s.heap.objs.size)
  have I1 := I.laid (a := s.heap.objs.size) (o := .dT []) (h' := s.heap.push { cls := .type "dict", data := .dict #[] }) (t' := s.toks) (fun _ _ q => Heap.get?_push_of_some _ q) (Nat.le_refl _) (dt_empty s.heap I.big)
  have Q1 := q _ hn
  rw [arm_eval_Dict, zip_pairTrees [some ke] [ve] X.env pos rfl rfl, dictDisplay_pairs _ (by unfold pairTrees; simp) (by rw [pairTrees_length _ _ _ _ rfl rfl]; show 1 < 17; decide)]
  refine wpAny_bind (wpAny_standAt (wpAny_bind (wpAny_subDictH (knd := tupleKind (mixKind X.prog X.w)) (by first | exact tupleKind_room hu | exact (show X.A.units < cLine by omega)) (by rw [pairTrees_length _ _ _ _ rfl rfl]; show 1 ≤ 15; decide) ?_)))
  refine pairTrees_cons_walk (thn (hk.run pins _ σ _ _ I1 Q1) fun u s1 ⟨x, H1, J1, rx, q1⟩ => thn (hv.run pins s1 σ H1 _ J1 q1) fun w2 s2 ⟨y, H2, J2, ry, q2⟩ => pairTrees_nil_walk ?_)
  obtain ⟨h2, k, b, e1, e2, q3⟩ := q2
  subst e1
  cases rx
  obtain ⟨z, hd, xs, r0, dd⟩ := dt_of J2.hok h2
  cases r0
  refine ⟨[(k, b, w2)], ⟨rfl, rfl, key_of J2.hok e2, trivial⟩, dd, fun h' tk' dd' hs => wpAny_pure ⟨.ref s.heap.objs.size, _, ?_, rfl, q3⟩⟩
  obtain ⟨o, es, ep, g1, g2, g3, g4, g5, g6⟩ := dd'
  have hb : b ≠ s.heap.objs.size := fun z => by rw [z, h2] at e2; cases e2
  exact d_write J2 (by rw [h2]; exact True.intro) hs ⟨_, g1⟩ ⟨by rw [sizeLine_eq]; show 1 ≤ 16777216; decide, hd, [(k, b, w2)], .cons ⟨rfl, by rw [upd_ne hb]; exact e2, ry⟩ .nil, o, es, ep, g1, g2, g3, g4, g6⟩
end
def d1T (k : List Key) (e : EV) (Γ : Gm) : ERes := if e.ok = true then (match settle e Γ with
  | some q => .ok (.fr (dctL [(k, q.1)])) q.2
  | none => .stuck) else .stuck
def eD1T (f g : EM) : EM := fun Γ => (f Γ).bind fun e1 Γ1 => match keyET e1 with
  | some k => (g Γ1).bind fun e2 Γ2 => d1T k e2 Γ2
  | none => .stuck
section
variable {X : Cx} {pos : Pos} {ke ve : Expr} {f g : EM}
theorem de_d1T (hu : X.A.units + 1 < cLine) (hk : DE X ke f) (hv : DE X ve g) : DE X (.Dict [some ke] [ve] pos) (eD1T f g) :=
  pe_imp (pe_disp1T hu hk hv) fun σ H Q ⟨W, F, ρ, Γ, eK, S, e, Γ', ef, ok, q⟩ => by
    intro p hp
    obtain ⟨e1, Γ1, h1, ef⟩ := bind_inv ef
    split at ef
    · rename_i k hk1
      obtain ⟨e2, Γ2, h2, ef⟩ := bind_inv ef
      unfold d1T at ef
      split at ef
      · rename_i ok2
        split at ef
        · rename_i qq hst
          obtain ⟨d, Γ3⟩ := qq
          cases ef
          have N := S.fresh hp
          have S0 : Sim (W.pin p (.dT [])) F (upd H p (.dT [])) ρ σ Γ := (S.alloc (o := .dT []) hp).hold upd_same N.up
          obtain ⟨x, hx, hkd⟩ : ∃ x, e1.fz = .imm x ∧ keysD x = some k := by
            unfold keyET at hk1
            split at hk1
            · rename_i x hx; exact ⟨x, hx, hk1⟩
            · cases hk1
          show tE X.K f σ (upd H p (.dT [])) _
          refine tE_then (W := W.pin p (.dT [])) eK S0 h1 (by rw [hx]; rfl) fun v1 F1 H1 s1 S1 r1 => ?_
          rw [hx] at r1
          unfold RpE at r1
          obtain ⟨b, eb, hb⟩ := keysD_rd (F := F1) (H := F1) (rd_of r1 (Same.refl F1)) hkd
          show tE X.K g σ H1 _
          refine tE_then (W := W.pin p (.dT [])) eK S1 h2 ok2 fun v2 F2 H2 s2 S2 r2 => ?_
          obtain ⟨F3, s3, S3, r3⟩ := settle_ok _ _ _ _ _ _ S2 ok2 r2 hst
          have hpin := S3.pin (p, .dT []) List.mem_cons_self
          refine ⟨hpin.1, k, b, eb, S3.sub _ _ ((s2.trans s3) _ _ hb), ?_⟩
          have S4 := S3.pinWrite (o' := .dT [(k, v2)]) N.b N.np N.n
          obtain ⟨S5, u1, u2, u3⟩ := S4.unhold
          refine q (.ref p) F3 _ ((s1.trans s2).trans s3) S5 ?_
          unfold RpE
          refine ⟨p, rfl, own_dct upd_same ?_, u2, N.b, N.np, u3, N.n⟩
          exact .cons ⟨rfl, r3⟩ .nil
        · cases ef
      · cases ef
    · cases ef
end
@[simp] theorem wE_d1T (f g : EM) (Γ : Gm) (Q : EV → Gm → Prop) : wE (eD1T f g) Γ Q = wE f Γ fun e1 Γ1 => wKeyT e1.fz fun k => wE g Γ1 fun e2 Γ2 => e2.fz.ok = true ∧ wO (settle e2.fz Γ2) fun q => Q (.fr (dctL [(k, q.1)])) q.2 := by
  unfold wE eD1T
  simp only [wE_bind]
  congr; funext e1 Γ1
  unfold wKeyT
  cases keyET e1.fz with
  | none => simp
  | some k =>
    simp only [wO_some, wE_bind]
    congr; funext e2 Γ2
    unfold d1T
    rw [mE_if]
    congr 1
    cases settle e2.fz Γ2 <;> simp
/-! ### x = [.. for k in d] -/
section
variable {X : Cx} {elt tg iter : Expr} {ifs : List Expr} {scope : Scope} {own : List (Str × Nat)} {pos spos : Pos} {it : IM} {t : Tg} {c : Option EM} {f : EM} {i j : Nat} {y : Str} {py : Pos}
theorem lockE_mono {t u : TE} {σ : L2.St} {H : Hp} {Q : VK} (k : ∀ σ H Q, t σ H Q → u σ H Q) (h : tLockE t σ H Q) : tLockE u σ H Q := by
  obtain ⟨d, o, e, m, h⟩ := h
  exact ⟨d, o, e, m, fun od => k _ _ _ (h od)⟩
theorem lock_asg {te : TE} {D' : Ends} {σ : L2.St} {H : Hp} (h : tLockE te σ H fun x H1 => gName i x σ H1 D'.nx) : tLock (tAsg te (gName i)) D' σ H := h
theorem set_coreL {st : Stmt} {te : TE} {g : EM} (h : PS X st (tAsg te (gName i))) (hi : ∀ σ H Q, tE X.K g σ H Q → tLockE te σ H Q) : DS X st (sSetOk i g) :=
  ps_imp (ps_lock h) fun D σ _ ⟨W, F, ρ, Γ, eK, S, h⟩ => by
    obtain ⟨e, Γ1, ef, h⟩ := go_inv h
    obtain ⟨ok, h⟩ := ifok_inv h
    obtain ⟨d, Γ2, hd, h⟩ := ofS_inv h
    obtain ⟨hl, h⟩ := setv_inv h
    refine lock_asg (hi _ _ _ (tE_then eK S ef ok fun v F1 H1 k S1 r => ?_))
    obtain ⟨F2, k2, S2, r2⟩ := settle_ok _ _ _ _ _ _ S1 ok r hd
    exact h F2 H1 _ _ (k.trans k2) (S2.setVal hl r2)
theorem own_coreL {st : Stmt} {te : TE} {g : EM} (h : PS X st (tAsg te (gName i))) (hi : ∀ σ H Q, tE X.K g σ H Q → tLockE te σ H Q) : DS X st (sOwnOk i g) :=
  ps_imp (ps_lock h) fun D σ _ ⟨W, F, ρ, Γ, eK, S, h⟩ => by
    obtain ⟨e, Γ1, ef, h⟩ := go_inv h
    obtain ⟨d, rfl, hl, h⟩ := ownK_inv h
    refine lock_asg (hi _ _ _ (tE_any eK S ef rfl fun v F1 H1 k S1 r => ?_))
    unfold RpE at r
    obtain ⟨a, rfl, o, N⟩ := r
    exact h F1 H1 _ _ k (S1.setOwn hl o N)
theorem ds_setLcD (hc : X.calm = true) (hN : X.N.Nodup) (ok : BlkOk X.N X.env.scope scope own) (hi : DI X tg iter it)
    (hg : ∀ (s : Shared) (H : Hp) (C : Addr) (cl : List (Str × Addr)) (fp : List Addr), DG (X.blk s H scope (compEnvC scope cl C X.env) fp) tg t) (ht : ∀ (s : Shared) (H : Hp) (C : Addr) (cl : List (Str × Addr)) (fp : List Addr), DTs (X.blk s H scope (compEnvC scope cl C X.env) fp) ifs c)
    (he : ∀ (s : Shared) (H : Hp) (C : Addr) (cl : List (Str × Addr)) (fp : List Addr), DE (X.blk s H scope (compEnvC scope cl C X.env) fp) elt f)
    (ha : (scope.names.any fun (n, k) => n == y && (k == .local || k == .cell)) = false) (hk : X.env.scope.kind = .function := by rfl)
    (hy : X.N[i]? = some y := by rfl) (hyl : X.env.scope.names.lookup y = some .local := by rfl) (hl : (py.line == pos.line) = true := by rfl) (hs : ∀ x, foldedSetIterable iter X.env x = pure x := by intro _; rfl) (hps : spos.line = pos.line := by rfl) :
    DS X (.Assign [.Name y py] (.ListComp elt [⟨tg, iter, ifs, 0⟩] scope pos) spos) (sSetOk i (eBorD j (eLc (own.map (·.2)) it t c f))) :=
  set_coreL (set_lc hc hN hy hyl (sw_true hk hyl hl ha) ok hi hg ht he hs) fun _ _ _ h => lockE_mono (fun _ _ _ h => lc_read h) (borD_core h)
theorem ds_ownLcD (hc : X.calm = true) (hN : X.N.Nodup) (ok : BlkOk X.N X.env.scope scope own) (hi : DI X tg iter it)
    (hg : ∀ (s : Shared) (H : Hp) (C : Addr) (cl : List (Str × Addr)) (fp : List Addr), DG (X.blk s H scope (compEnvC scope cl C X.env) fp) tg t) (ht : ∀ (s : Shared) (H : Hp) (C : Addr) (cl : List (Str × Addr)) (fp : List Addr), DTs (X.blk s H scope (compEnvC scope cl C X.env) fp) ifs c)
    (he : ∀ (s : Shared) (H : Hp) (C : Addr) (cl : List (Str × Addr)) (fp : List Addr), DE (X.blk s H scope (compEnvC scope cl C X.env) fp) elt f)
    (ha : (scope.names.any fun (n, k) => n == y && (k == .local || k == .cell)) = false) (hk : X.env.scope.kind = .function := by rfl)
    (hy : X.N[i]? = some y := by rfl) (hyl : X.env.scope.names.lookup y = some .local := by rfl) (hl : (py.line == pos.line) = true := by rfl) (hs : ∀ x, foldedSetIterable iter X.env x = pure x := by intro _; rfl) (hps : spos.line = pos.line := by rfl) :
    DS X (.Assign [.Name y py] (.ListComp elt [⟨tg, iter, ifs, 0⟩] scope pos) spos) (sOwnOk i (eBorD j (eLc (own.map (·.2)) it t c f))) :=
  own_coreL (set_lc hc hN hy hyl (sw_true hk hyl hl ha) ok hi hg ht he hs) fun _ _ _ h => lockE_mono (fun _ _ _ h => lc_read h) (borD_core h)
end
/-! ### a, b, c = x, y, z, some of which own -/
def pk (own : Bool) (f : EM) (Γ : Gm) (k : Sl → Gm → SRes) : SRes := (f Γ).go fun e Γ1 => if own = true then (match e with
  | .fr d => k (.own false d) Γ1
  | _ => .stuck) else if e.fz.ok = true then SRes.ofS (settle e.fz Γ1) fun d Γ2 => k (.val d) Γ2 else .stuck
/-- what is held is stored at last -/
def Drop (W W' : Wd) (F1 : Hp) (v : V) (s : Sl) : Prop := W'.K = W.K ∧ ∀ F2 H2 ρ2 σ2 Γ2 i, Same F1 F2 → Sim W' F2 H2 ρ2 σ2 Γ2 → i < Γ2.length → ∃ ρ3, Sim W F2 H2 ρ3 (σ2.set i (some v)) (Γ2.set i s)
theorem pk_ok {K : PySem.W.Frag} {W : Wd} {F H : Hp} {ρ : Nat → Option Addr} {σ : L2.St} {Γ : Gm} {own : Bool} {f : EM} {k : Sl → Gm → SRes} {D' : Ends} {F0 : Hp} {Wg : Wd} {Q : VK} (eK : W.K = K) (S : Sim W F H ρ σ Γ) (h : SGo Wg F0 D' (pk own f Γ k))
    (c : ∀ W' F1 H1 v s Γ1, Same F F1 → Sim W' F1 H1 ρ σ Γ1 → Drop W W' F1 v s → SGo Wg F0 D' (k s Γ1) → Q v H1) : tE K f σ H Q := by
  unfold pk at h
  obtain ⟨e, Γ1, ef, h⟩ := go_inv h
  cases own with
  | true =>
    rw [if_pos rfl] at h
    cases e with
    | fr d =>
      refine tE_any eK S ef rfl fun v F1 H1 k1 S1 r1 => ?_
      unfold RpE at r1
      obtain ⟨a, rfl, o, N⟩ := r1
      obtain ⟨u, hu, _⟩ := own_ho o
      refine c (W.pin a u) F1 H1 (.ref a) (.own false d) Γ1 k1 (S1.hold hu N (o.nt hu)) ⟨rfl, fun F2 H2 ρ2 σ2 Γ2 i k2 S2 hi => ?_⟩ h
      obtain ⟨S3, u1, u2, u3⟩ := S2.unhold
      exact ⟨_, S3.setOwn hi (o.mono k2 fun z e => by rw [hu] at e; cases e; exact u1) ⟨u2, N.b, N.np, u3, N.n⟩⟩
    | _ => exact False.elim h
  | false =>
    rw [if_neg Bool.false_ne_true] at h
    obtain ⟨ok, h⟩ := ifok_inv h
    obtain ⟨d, Γ2, hd, h⟩ := ofS_inv h
    refine tE_then eK S ef ok fun v F1 H1 k1 S1 r1 => ?_
    obtain ⟨F2, k2, S2, r2⟩ := settle_ok _ _ _ _ _ _ S1 ok r1 hd
    exact c W F2 H1 v (.val d) Γ2 (k1.trans k2) S2 ⟨rfl, fun F3 H3 ρ3 σ3 Γ3 i k3 S3 hi => ⟨_, S3.setVal hi (Rp.mono k3 _ _ r2)⟩⟩ h
def sPar3o (i : Nat) (oi : Bool) (f : EM) (j : Nat) (oj : Bool) (g : EM) (l : Nat) (ol : Bool) (h : EM) : SM := fun Γ => pk oi f Γ fun s1 Γ1 => pk oj g Γ1 fun s2 Γ2 => pk ol h Γ2 fun s3 Γ3 =>
  if isIo Γ3[i]? = true ∨ isIo Γ3[j]? = true ∨ isIo Γ3[l]? = true then .stuck else .nx (((Γ3.set i s1).set j s2).set l s3)
theorem set_comm3 {α : Type} (L : List α) {i j l : Nat} {a b c : α} (hij : i ≠ j) (hil : i ≠ l) (hjl : j ≠ l) : ((L.set l c).set j b).set i a = ((L.set i a).set j b).set l c := by
  rw [List.set_comm c b (Ne.symm hjl), List.set_comm _ _ (Ne.symm hil), List.set_comm _ _ (Ne.symm hij)]
section
variable {X : Cx} {f g h : EM}
theorem ds_par3o {i j l : Nat} {oi oj ol : Bool} {x y z : Str} {a b c : Expr} {px py pz pt pos : Pos} {kt k2 pt2} (hc : X.calm = true) (hN : X.N.Nodup) (ha : DE X a f) (hb : DE X b g) (hcc : DE X c h)
    (hx : X.env.scope.names.lookup x = some .local) (hy : X.env.scope.names.lookup y = some .local) (hz : X.env.scope.names.lookup z = some .local) (hij : i ≠ j) (hil : i ≠ l) (hjl : j ≠ l)
    (hw : swappedStores [.Tuple [.Name x px, .Name y py, .Name z pz] kt pt] (.Tuple [a, b, c] k2 pt2) X.env = pure (some [x, y, z]))
    (hi : X.N[i]? = some x := by rfl) (hj : X.N[j]? = some y := by rfl) (hl : X.N[l]? = some z := by rfl)
    (hs : swapsWithSole [.Tuple [.Name x px, .Name y py, .Name z pz] kt pt] (.Tuple [a, b, c] k2 pt2) pos.line X.env = pure false := by rfl)
    (he1 : starEach [a, b, c] X.env = (false, eval a X.env) :: starEach [b, c] X.env := by rfl) (he2 : starEach [b, c] X.env = (false, eval b X.env) :: starEach [c] X.env := by rfl) (he3 : starEach [c] X.env = (false, eval c X.env) :: starEach [] X.env := by rfl) :
    DS X (.Assign [.Tuple [.Name x px, .Name y py, .Name z pz] kt pt] (.Tuple [a, b, c] k2 pt2) pos) (sPar3o i oi f j oj g l ol h) :=
  ps_imp (ps_par3 hc hN hi hj hl hij hil hjl hx hy hz (pa_cons ha (pa_cons hb (pa_cons hcc pa_nil he3) he2) he1) hw hs) fun D' σ H ⟨W, F, ρ, Γ, eK, S, hh⟩ => by
    unfold sPar3o at hh
    refine pk_ok eK S hh fun W1 F1 H1 v1 s1 Γ1 k1 S1 d1 hh => ?_
    refine pk_ok (d1.1.trans eK) S1 hh fun W2 F2 H2 v2 s2 Γ2 k2 S2 d2 hh => ?_
    refine pk_ok (d2.1.trans (d1.1.trans eK)) S2 hh fun W3 F3 H3 v3 s3 Γ3 k3 S3 d3 hh => ?_
    by_cases hio : isIo Γ3[i]? = true ∨ isIo Γ3[j]? = true ∨ isIo Γ3[l]? = true
    · rw [if_pos hio] at hh; exact False.elim hh
    · rw [if_neg hio] at hh
      rw [not_or, not_or] at hio
      obtain ⟨ρ3, T3⟩ := d3.2 F3 H3 ρ σ Γ3 l (Same.refl F3) S3 (isIo_lt hio.2.2)
      obtain ⟨ρ2, T2⟩ := d2.2 F3 H3 _ _ _ j k3 T3 (by rw [List.length_set]; exact isIo_lt hio.2.1)
      obtain ⟨ρ1, T1⟩ := d1.2 F3 H3 _ _ _ i (k2.trans k3) T2 (by rw [List.length_set, List.length_set]; exact isIo_lt hio.1)
      rw [set_comm3 _ hij hil hjl, set_comm3 _ hij hil hjl] at T1
      exact ⟨v1, v2, v3, rfl, hh F3 H3 ρ1 _ ((k1.trans k2).trans k3) T1⟩
end
/-- an own slot, or a plain one -/
def wPk (own : Bool) (e : EV) (Γ : Gm) (Q : Sl → Gm → Prop) : Prop := if own = true then (match e with
  | .fr d => Q (.own false d) Γ
  | _ => False) else e.fz.ok = true ∧ wO (settle e.fz Γ) fun p => Q (.val p.1) p.2
@[simp] theorem wPk_own (d : D) (Γ : Gm) (Q : Sl → Gm → Prop) : wPk true (.fr d) Γ Q = Q (.own false d) Γ := rfl
@[simp] theorem wPk_val (e : EV) (Γ : Gm) (Q : Sl → Gm → Prop) : wPk false e Γ Q = (e.fz.ok = true ∧ wO (settle e.fz Γ) fun p => Q (.val p.1) p.2) := rfl
theorem pk_w (own : Bool) (f : EM) (Γ : Gm) (k : Sl → Gm → SRes) (Q : SRes → Prop) : wX (pk own f Γ k) Q = wE f Γ fun e Γ1 => wPk own e Γ1 fun s Γ2 => wX (k s Γ2) Q := by
  unfold pk
  rw [go_wE]
  congr; funext e Γ1
  unfold wPk
  cases own with
  | true =>
    rw [if_pos rfl, if_pos rfl]
    cases e <;> rfl
  | false =>
    rw [if_neg Bool.false_ne_true, if_neg Bool.false_ne_true, wX_if, ofS_w]
@[simp] theorem wS_par3o (i : Nat) (oi : Bool) (f : EM) (j : Nat) (oj : Bool) (g : EM) (l : Nat) (ol : Bool) (h : EM) (Γ : Gm) (Q : SRes → Prop) : wS (sPar3o i oi f j oj g l ol h) Γ Q =
    wE f Γ fun e1 Γ1 => wPk oi e1 Γ1 fun s1 Γ1 => wE g Γ1 fun e2 Γ2 => wPk oj e2 Γ2 fun s2 Γ2 => wE h Γ2 fun e3 Γ3 => wPk ol e3 Γ3 fun s3 Γ3 => (isIo Γ3[i]? = false ∧ isIo Γ3[j]? = false ∧ isIo Γ3[l]? = false) ∧ Q (.nx (((Γ3.set i s1).set j s2).set l s3)) := by
  simp only [wS_eq]
  unfold sPar3o
  simp only [pk_w]
  congr; funext e1 Γ1; congr; funext s1 Γ1; congr; funext e2 Γ2; congr; funext s2 Γ2; congr; funext e3 Γ3; congr; funext s3 Γ3
  by_cases hio : isIo Γ3[i]? = true ∨ isIo Γ3[j]? = true ∨ isIo Γ3[l]? = true
  · rw [if_pos hio]
    simp
    intro h1 h2 h3
    rcases hio with h | h | h
    · rw [h1] at h; cases h
    · rw [h2] at h; cases h
    · rw [h3] at h; cases h
  · rw [if_neg hio]
    simp at hio
    simp [hio]
end DL

set_option maxHeartbeats 4000000
namespace DL
open PySem PySem.Spec PyProof.Rows L2
def sPar2o (i : Nat) (oi : Bool) (f : EM) (j : Nat) (oj : Bool) (g : EM) : SM := fun Γ => pk oi f Γ fun s1 Γ1 => pk oj g Γ1 fun s2 Γ2 => if isIo Γ2[i]? = true ∨ isIo Γ2[j]? = true then .stuck else .nx ((Γ2.set i s1).set j s2)
section
variable {X : Cx} {f g : EM}
theorem ds_par2o {i j : Nat} {oi oj : Bool} {x y : Str} {a b : Expr} {px py pt pos : Pos} {kt k2 pt2} (hc : X.calm = true) (hN : X.N.Nodup) (ha : DE X a f) (hb : DE X b g) (hij : i ≠ j)
    (hi : X.N[i]? = some x := by rfl) (hj : X.N[j]? = some y := by rfl) (hx : Loc X.env.scope x := by first | exact Or.inl rfl | exact Or.inr rfl) (hy : Loc X.env.scope y := by first | exact Or.inl rfl | exact Or.inr rfl)
    (hfx : X.fn x = true ∨ X.env.scope.names.lookup x = some .local := by first | exact .inl rfl | exact .inr rfl) (hfy : X.fn y = true ∨ X.env.scope.names.lookup y = some .local := by first | exact .inl rfl | exact .inr rfl)
    (hs : swapsWithSole [.Tuple [.Name x px, .Name y py] kt pt] (.Tuple [a, b] k2 pt2) pos.line X.env = pure false := by rfl) (hw : swappedStores [.Tuple [.Name x px, .Name y py] kt pt] (.Tuple [a, b] k2 pt2) X.env = pure none := by rfl)
    (h1 : (assignEach [.Tuple [.Name x px, .Name y py] kt pt] X.env).map (·.2) = [assign (.Tuple [.Name x px, .Name y py] kt pt) X.env] := by rfl)
    (hn : (assignEach [.Name x px, .Name y py] X.env).length = 2 := by rfl) (hst : (assignEach [.Name x px, .Name y py] X.env).findIdx? (·.1) = none := by rfl)
    (hs1 : (assignEach [.Name x px, .Name y py] X.env).map (·.2) = assign (.Name x px) X.env :: (assignEach [.Name y py] X.env).map (·.2) := by rfl) (hs2 : (assignEach [.Name y py] X.env).map (·.2) = assign (.Name y py) X.env :: (assignEach [] X.env).map (·.2) := by rfl)
    (he1 : starEach [a, b] X.env = (false, eval a X.env) :: starEach [b] X.env := by rfl) (he2 : starEach [b] X.env = (false, eval b X.env) :: starEach [] X.env := by rfl) :
    DS X (.Assign [.Tuple [.Name x px, .Name y py] kt pt] (.Tuple [a, b] k2 pt2) pos) (sPar2o i oi f j oj g) :=
  ps_imp (ps_asg (pe_tup (pa_cons ha (pa_cons hb pa_nil he2) he1)) (pg_tup hc (pgs_cons (pg_name hN hi hx hfx) (pgs_cons (pg_name hN hj hy hfy) pgs_nil hs2) hs1) hn hst) hs hw h1) fun D' σ H ⟨W, F, ρ, Γ, eK, S, hh⟩ => by
    unfold sPar2o at hh
    refine pk_ok eK S hh fun W1 F1 H1 v1 s1 Γ1 k1 S1 d1 hh => ?_
    refine pk_ok (d1.1.trans eK) S1 hh fun W2 F2 H2 v2 s2 Γ2 k2 S2 d2 hh => ?_
    by_cases hio : isIo Γ2[i]? = true ∨ isIo Γ2[j]? = true
    · rw [if_pos hio] at hh; exact False.elim hh
    · rw [if_neg hio] at hh
      rw [not_or] at hio
      refine ⟨by rw [sizeLine_eq]; show 2 ≤ 16777216; decide, fun p hp => ⟨p, [v1, v2], rfl, .inl (.inl upd_same), rfl, v1, [v2], rfl, v2, [], rfl, rfl, ?_⟩⟩
      obtain ⟨ρ3, T3⟩ := d2.2 F2 _ ρ σ Γ2 j (Same.refl F2) (S2.alloc (o := .tup [v1, v2]) hp) (isIo_lt hio.2)
      obtain ⟨ρ1, T1⟩ := d1.2 F2 _ _ _ _ i k2 T3 (by rw [List.length_set]; exact isIo_lt hio.1)
      rw [List.set_comm _ _ (Ne.symm hij), List.set_comm _ _ (Ne.symm hij)] at T1
      exact hh F2 _ ρ1 _ (k1.trans k2) T1
end
@[simp] theorem wS_par2o (i : Nat) (oi : Bool) (f : EM) (j : Nat) (oj : Bool) (g : EM) (Γ : Gm) (Q : SRes → Prop) : wS (sPar2o i oi f j oj g) Γ Q =
    wE f Γ fun e1 Γ1 => wPk oi e1 Γ1 fun s1 Γ1 => wE g Γ1 fun e2 Γ2 => wPk oj e2 Γ2 fun s2 Γ2 => (isIo Γ2[i]? = false ∧ isIo Γ2[j]? = false) ∧ Q (.nx ((Γ2.set i s1).set j s2)) := by
  simp only [wS_eq]
  unfold sPar2o
  simp only [pk_w]
  congr; funext e1 Γ1; congr; funext s1 Γ1; congr; funext e2 Γ2; congr; funext s2 Γ2
  by_cases hio : isIo Γ2[i]? = true ∨ isIo Γ2[j]? = true
  · rw [if_pos hio]
    simp
    intro h1 h2
    rcases hio with h | h
    · rw [h1] at h; cases h
    · rw [h2] at h; cases h
  · rw [if_neg hio]
    simp at hio
    simp [hio]
end DL

set_option maxHeartbeats 4000000
namespace DL
open PySem PySem.Spec PyProof.Rows L2
theorem Sim.tupz2 {W : Wd} {F H : Hp} {ρ : Nat → Option Addr} {σ : L2.St} {Γ : Gm} (S : Sim W F H ρ σ Γ) : ∃ F', Same F F' ∧ Sim W F' H ρ σ Γ ∧ AllT F' H ∧ ∀ a, F a = none → (∀ u, H a = some u → noTup u) → F' a = none := by
  let F' : Hp := fun a => match F a with
    | some o => some o
    | none => match H a with
      | some (.tup vs) => some (.tup vs)
      | _ => none
  have f1 : ∀ a o, F a = some o → F' a = some o := fun a o e => by show (match F a with | some o => some o | none => _) = _; rw [e]
  have f2 : ∀ a vs, F a = none → H a = some (.tup vs) → F' a = some (.tup vs) := fun a vs e h => by
    show (match F a with | some o => some o | none => (match H a with | some (.tup vs) => some (.tup vs) | _ => none)) = _
    rw [e, h]
  have f3 : ∀ a o, F' a = some o → F a = some o ∨ (F a = none ∧ ∃ vs, H a = some (.tup vs) ∧ o = .tup vs) := fun a o e => by
    have e : (match F a with | some o => some o | none => (match H a with | some (.tup vs) => some (.tup vs) | _ => none)) = some o := e
    cases hF : F a with
    | some u => rw [hF] at e; exact .inl e
    | none =>
      rw [hF] at e
      dsimp only at e
      split at e
      · rename_i vs hh; cases e; exact .inr ⟨rfl, vs, hh, rfl⟩
      · cases e
  have f4 : ∀ a, F a = none → (∀ u, H a = some u → noTup u) → F' a = none := fun a h n => by
    cases e : F' a with
    | none => rfl
    | some o =>
      rcases f3 a o e with z | ⟨_, vs, z, _⟩
      · rw [h] at z; cases z
      · exact absurd rfl (n _ z vs)
  have k : Same F F' := f1
  refine ⟨F', k, ⟨fun a o e => ?_, fun a o e => ?_, S.keep, S.pal, S.ro, S.len, S.gl, fun i s e => ?_, S.one, fun q hq => ?_, S.ext⟩, fun a vs e => ?_, f4⟩
  · rcases f3 a o e with z | ⟨_, vs, z, rfl⟩
    · exact S.sub _ _ z
    · exact z
  · rcases f3 a o e with z | ⟨_, vs, z, rfl⟩
    · exact S.new _ _ z
    · cases hB : W.B a with
      | none => exact .inr rfl
      | some u =>
        by_cases hP : a ∈ W.P
        · obtain ⟨o, e1, e2⟩ := S.ext.pnt a hP
          rw [z] at e1; cases e1
          exact absurd rfl (e2 vs)
        · have := S.keep a u hB hP
          rw [z] at this; cases this
          exact .inl (S.ext.tb a vs hB)
  · have q := S.slot i s e
    cases s with
    | un => exact q
    | val d =>
      obtain ⟨v, e1, e2, e3⟩ := q
      exact ⟨v, e1, Rp.mono k d v e2, fun a ea => ⟨(e3 a ea).1, let ⟨o, eo⟩ := (e3 a ea).2; ⟨o, k _ _ eo⟩⟩⟩
    | own io d =>
      obtain ⟨a, e1, e2, e3, e4, e5⟩ := q
      exact ⟨a, e1, e2, e3.mono k (fun _ z => z), f4 a e4 fun u hu => e3.nt hu, e5⟩
    | nst io ds =>
      obtain ⟨a, bs, e1, e2, e3, e4, e5, e6⟩ := q
      have nt := e3.nt
      exact ⟨a, bs, e1, e2, e3.mono k (fun b _ o z => z) (fun b hb z => f4 b z (nt b (List.mem_cons_of_mem _ hb))), f4 a e4 (nt a List.mem_cons_self), e5, e6⟩
  · obtain ⟨a, b, c⟩ := S.pin q hq
    refine ⟨a, f4 _ b fun u hu => ?_, c⟩
    rw [a] at hu; cases hu
    exact S.ext.ptn q hq
  · cases hF : F a with
    | none => exact f2 a vs hF e
    | some o => have := S.sub _ _ hF; rw [e] at this; cases this; exact f1 a _ hF

mutual
/-- flat, or a tuple of such -/
def tupf : D → Bool
  | .non => true
  | .bl _ => true
  | .int _ => true
  | .str _ => true
  | .tup ds => tupfs ds
  | _ => false
def tupfs : List D → Bool
  | [] => true
  | d :: ds => tupf d && tupfs ds
end
mutual
theorem tupf_rp {K : PySem.W.Frag} {F F' H : Hp} (k : Same F H) (al : AllT F' H) : ∀ {d : D} {v : V}, tupf d = true → Rp K F d v → Rp K F' d v
  | .non, v, _, r => by unfold Rp at r ⊢; exact r
  | .bl b, v, _, r => by unfold Rp at r ⊢; exact r
  | .int b, v, _, r => by unfold Rp at r ⊢; exact r
  | .str b, v, _, r => by unfold Rp at r ⊢; exact r
  | .tup ds, v, h, r => by
    unfold Rp at r ⊢
    obtain ⟨a, vs, rfl, e, q⟩ := r
    unfold tupf at h
    exact ⟨a, vs, rfl, al a vs (k _ _ e), tupfs_rp k al h q⟩
  | .lst _, _, h, _ => by cases h
  | .frl _, _, h, _ => by cases h
  | .dic _ _, _, h, _ => by cases h
  | .dct _ _, _, h, _ => by cases h
  | .lkd _ _, _, h, _ => by cases h
  | .lkt _ _, _, h, _ => by cases h
theorem tupfs_rp {K : PySem.W.Frag} {F F' H : Hp} (k : Same F H) (al : AllT F' H) : ∀ {ds : List D} {vs : List V}, tupfs ds = true → RpL K F ds vs → RpL K F' ds vs
  | [], _, _, r => by rw [rpl_nil_inv r]; exact rpl_nil
  | d :: ds, _, h, r => by
    obtain ⟨v, ws, rfl, a, b⟩ := rpl_cons_inv r
    unfold tupfs at h
    rw [Bool.and_eq_true] at h
    exact rpl_cons (tupf_rp k al h.1 a) (tupfs_rp k al h.2 b)
end
open Classical in
noncomputable def eBorT (f : EM) : EM := fun Γ => if h : ∃ ds, f (frz Γ) = .ok (.fr (.lst ds)) (frz Γ) ∧ tupfs ds = true then .ok (.fr (.lst h.choose)) Γ else f Γ
theorem borT_core {K : PySem.W.Frag} {f : EM} {σ : L2.St} {H : Hp} {Q : VK} (h : tE K (eBorT f) σ H Q) : tE K f σ H Q := by
  obtain ⟨W, F, ρ, Γ, eK, S, e, Γ', ef, ok, q⟩ := h
  unfold eBorT at ef
  split at ef
  · rename_i hx
    obtain ⟨hf, hfl⟩ := hx.choose_spec
    generalize hx.choose = ds at hf hfl ef
    cases ef
    refine ⟨⟨W.K, H, FP F H ρ, fun _ => none, [], [], W.n⟩, FP F H ρ, fun _ => none, frz Γ, eK, frz_sim S, .fr (.lst ds), frz Γ, hf, rfl, fun v F2 H2 k2 S2 r => ?_⟩
    unfold RpE at r
    obtain ⟨a, rfl, o, N⟩ := r
    obtain ⟨vs, hv, rv⟩ := o
    have hk : Same H H2 := fun b o e => S2.keep b o e (by simp)
    have ha : H a = none := N.b
    have S3 := S.grow hk
    obtain ⟨F4, k4, S4, al, fn⟩ := S3.tupz2
    refine q (.ref a) F4 H2 k4 S4 ?_
    unfold RpE
    have M := S.fresh ha
    exact ⟨a, rfl, ⟨vs, hv, tupfs_rp S2.sub al hfl rv⟩, fn a M.f (fun u hu => by rw [hv] at hu; cases hu; intro _ h; cases h), M.b, M.np, M.r, M.n⟩
  · exact ⟨W, F, ρ, Γ, eK, S, e, Γ', ef, ok, q⟩
theorem de_borT {X : Cx} {e : Expr} {f : EM} (h : DE X e f) : DE X e (eBorT f) := pe_imp h fun _ _ _ h => borT_core h
structure wBrT (f : EM) (Γ : Gm) (Q : EV → Gm → Prop) : Prop where
  out : wE (eBorT f) Γ Q
@[simp] theorem wE_borT (f : EM) (Γ : Gm) (Q : EV → Gm → Prop) : wE (eBorT f) Γ Q = wBrT f Γ Q := propext ⟨fun h => ⟨h⟩, fun h => h.out⟩
theorem brT_i {f : EM} {Γ : Gm} {Q : EV → Gm → Prop} (ds : List D) (hf : tupfs ds = true) (h : wE f (frz Γ) fun e Γ' => e = .fr (.lst ds) ∧ Γ' = frz Γ) (q : Q (.fr (.lst ds)) Γ) : wBrT f Γ Q := by
  constructor
  unfold wE at h ⊢
  have hf2 : f (frz Γ) = .ok (.fr (.lst ds)) (frz Γ) := by
    cases hr : f (frz Γ) with
    | stuck => rw [hr] at h; exact h.elim
    | ok e Γ' =>
      rw [hr, mE_ok] at h
      rw [h.1, h.2]
  have hx : ∃ ds, f (frz Γ) = .ok (.fr (.lst ds)) (frz Γ) ∧ tupfs ds = true := ⟨ds, hf2, hf⟩
  unfold eBorT
  rw [dif_pos hx]
  have := hx.choose_spec.1
  have this := hf2.symm.trans this
  have e : hx.choose = ds := by
    injection this with a b
    injection a with a
    injection a with a
    exact a.symm
  rw [e]
  exact q
end DL

namespace DL
open PySem PySem.Spec PyProof.Rows L2

section
variable {W : Wd} {F F' H H' : Hp} {ρ : Nat → Option Addr} {σ : L2.St} {Γ : Gm} {i : Nat} {a : Addr} {ds : List D}
/-- without what slot i has -/
def unsetG (ρ : Nat → Option Addr) (n i : Nat) : Nat → Option Addr := fun j => if j = i ∨ (n ≤ j ∧ j % n = i) then none else ρ j
theorem unsetG_le {n j : Nat} {b : Addr} (h : unsetG ρ n i j = some b) : j ≠ i ∧ (i < n → ∀ k, j ≠ gix n i k) ∧ ρ j = some b := by
  unfold unsetG at h
  split at h
  · cases h
  · rename_i hj
    refine ⟨fun e => hj (.inl e), fun hi k e => hj (.inr ?_), h⟩
    subst e
    exact ⟨gix_ge, (gix_div hi).1⟩
theorem unsetG_out {n j : Nat} (hi : i < n) (hj : j ≠ i) (ng : ∀ k, j ≠ gix n i k) : unsetG ρ n i j = ρ j := by
  unfold unsetG
  rw [if_neg]
  rintro (h | ⟨h1, h2⟩)
  · exact hj h
  · refine ng (j / n - 1) ?_
    unfold gix
    have h4 : 1 ≤ j / n := Nat.div_pos h1 (by omega)
    rw [show j / n - 1 + 1 = j / n by omega]
    have := Nat.div_add_mod j n
    omega
/-- a name gives up a list that owns lists -/
theorem Sim.dropN (S : Sim W F H ρ σ Γ) (hs : Γ[i]? = some (.nst false ds)) : ∃ a bs, ρ i = some a ∧ σ[i]? = some (some (.ref a)) ∧ Sim W F H (unsetG ρ Γ.length i) σ (Γ.set i .un) ∧ NstAt W.K F H a bs ds ∧ F a = none ∧ ∀ b ∈ a :: bs, New W F H (unsetG ρ Γ.length i) b := by
  obtain ⟨a, bs, e1, e2, n1, n2, e5, e6⟩ := S.slot i _ hs
  have hi : i < Γ.length := (List.getElem?_eq_some_iff.mp hs).1
  unfold OkR at e6
  rw [if_neg (by decide)] at e6
  have bl : bs.length = ninn ds := by obtain ⟨_, _, h, _⟩ := n1; exact h.len.2
  have act : ∀ b ∈ a :: bs, ∃ j, (j = i ∨ ∃ k, j = gix Γ.length i k) ∧ Act Γ j ∧ ρ j = some b := fun b hb => by
    rcases List.mem_cons.mp hb with rfl | hb
    · exact ⟨i, .inl rfl, Act.nst hs, e1⟩
    · obtain ⟨k, hk, rfl⟩ := List.getElem_of_mem hb
      exact ⟨gix Γ.length i k, .inr ⟨k, rfl⟩, Act.inn hs (by omega), e5 k _ (List.getElem?_eq_getElem hk)⟩
  refine ⟨a, bs, e1, e2, S.chg hi (Same.refl F) S.sub (fun a o e => .inl e) S.keep S.pal (fun j b e => S.ro j b (unsetG_le e).2.2) (fun j hj ng => unsetG_out hi hj ng) rfl (fun j hj => rfl) ?_ (fun _ _ _ _ _ _ => ⟨fun _ z => z, fun z => z⟩) (fun j l b h => ?_) (fun j b l aj hj ng ej hl el => ?_) (fun q hq => ?_) S.ext, n1, n2, fun b hb => ?_⟩
  · show unsetG ρ Γ.length i i = none
    unfold unsetG
    rw [if_pos (.inl rfl)]
  · rcases h with ⟨_, h⟩ | ⟨_, _, _, h, _⟩ <;> cases h
  · obtain ⟨h1, h2, _⟩ := unsetG_le el
    rcases hl with rfl | ⟨k, rfl⟩
    · exact h1 rfl
    · exact h2 hi k rfl
  · obtain ⟨x, y, z⟩ := S.pin q hq
    exact ⟨x, y, fun j e => z j (unsetG_le e).2.2⟩
  · obtain ⟨j, hj, aj, ej⟩ := act b hb
    have hF : F b = none := by
      rcases List.mem_cons.mp hb with rfl | hb
      · exact n2
      · obtain ⟨_, _, h, _⟩ := n1; exact (h.there b hb).2
    refine ⟨hF, (e6 b hb).2, (e6 b hb).1, fun l e => ?_, fun q hq e => ?_⟩
    · obtain ⟨h1, h2, h3⟩ := unsetG_le e
      have := S.one j l b aj ej h3
      subst this
      rcases hj with rfl | ⟨k, rfl⟩
      · exact h1 rfl
      · exact h2 hi k rfl
    · exact (S.pin q hq).2.2 j (by rw [ej, e])
/-- what stands at a place that no name holds is written -/
theorem Sim.wr {o : HO} (S : Sim W F H ρ σ Γ) (N : New W F H ρ a) : Sim W F (upd H a o) ρ σ Γ := by
  refine ⟨fun b x e => ?_, S.new, fun b x e hp => ?_, fun b hp => ?_, fun j b e => ?_, S.len, S.gl, fun j s e => (S.slot j s e).mono (Same.refl F) (fun b hb x q => ?_) (fun _ _ z => z), S.one, fun q hq => ?_, S.ext.up fun b hb o e n => ⟨o, ?_, n⟩⟩
  · rw [upd_ne fun z => by rw [z, N.f] at e; cases e]; exact S.sub _ _ e
  · rw [upd_ne fun z => by rw [z, N.b] at e; cases e]; exact S.keep _ _ e hp
  · rw [upd_ne fun z => N.np (by rw [← z]; exact hp)]; exact S.pal b hp
  · rw [upd_ne fun z => N.r j (by rw [← z]; exact e)]; exact S.ro j b e
  · rw [upd_ne fun z => ?_]
    · exact q
    · subst z
      rcases hb with hb | ⟨k, hb⟩
      · exact N.r _ hb
      · exact N.r _ hb
  · obtain ⟨x, y, z⟩ := S.pin q hq
    exact ⟨by rw [upd_ne (N.n q hq)]; exact x, y, z⟩
  · rw [upd_ne fun z => N.np (by rw [← z]; exact hb)]; exact e
theorem New.frz {W : Wd} {p b : Addr} {o : HO} (N : New W F H ρ b) (h : b ≠ p) : New W (upd F p o) H ρ b := ⟨by rw [upd_ne h]; exact N.f, N.b, N.np, N.r, N.n⟩
/-- the lists that a list owns are frozen -/
theorem frzL {vs : List V} {bs : List Addr} (n : NstL W.K F H ds vs bs) : ∀ {F : Hp}, NstL W.K F H ds vs bs → bs.Nodup → Sim W F H ρ σ Γ → (∀ b ∈ bs, New W F H ρ b) → ∃ F', Same F F' ∧ Sim W F' H ρ σ Γ ∧ RpL W.K F' ds vs ∧ ∀ c, c ∉ bs → New W F H ρ c → New W F' H ρ c := by
  induction n with
  | nil => intro F n nd S N; exact ⟨F, Same.refl F, S, rpl_nil, fun c _ z => z⟩
  | @pl d v ds vs bs h1 _ n0 ih =>
    intro F n nd S N
    cases n with
    | pl _ h2 n =>
      obtain ⟨F', k, S', r, c⟩ := ih n nd S N
      exact ⟨F', k, S', rpl_cons (Rp.mono k _ _ h2) r, c⟩
    | inn h2 _ _ _ => rw [h1] at h2; cases h2
  | @inn d b ds vs bs h1 _ _ n0 ih =>
    intro F n nd S N
    cases n with
    | pl h2 _ _ => rw [h1] at h2; cases h2
    | inn _ h2 h3 n =>
      obtain ⟨n1, n2⟩ := List.nodup_cons.mp nd
      obtain ⟨u, hu, hr⟩ := own_ho h2
      obtain ⟨k1, S1⟩ := S.frz hu (N b List.mem_cons_self)
      have ne : ∀ c ∈ bs, c ≠ b := fun c hc e => n1 (by rw [← e]; exact hc)
      obtain ⟨F', k2, S2, r, cc⟩ := ih (F := upd F b u) (n.mono k1 (fun _ _ _ z => z) fun c hc z => by rw [upd_ne (ne c hc)]; exact z) n2 S1 (fun c hc => (N c (List.mem_cons_of_mem _ hc)).frz (ne c hc))
      refine ⟨F', k1.trans k2, S2, rpl_cons (Rp.mono k2 _ _ (hr _ upd_same k1)) r, fun c hc z => cc c (fun h => hc (List.mem_cons_of_mem _ h)) (z.frz fun e => hc (by rw [e]; exact List.mem_cons_self))⟩
theorem set_self {σ : L2.St} {v : V} (h : σ[i]? = some (some v)) : σ.set i (some v) = σ := by
  refine List.ext_getElem? fun j => ?_
  by_cases hj : i = j
  · subst hj
    rw [List.getElem?_set_self (List.getElem?_eq_some_iff.mp h).1, h]
  · rw [List.getElem?_set_ne hj]
theorem Sim.freezeN (S : Sim W F H ρ σ Γ) (hs : Γ[i]? = some (.nst false ds)) : ∃ F' ρ', Same F F' ∧ Sim W F' H ρ' σ (Γ.set i (.val (.lst ds))) := by
  have hi : i < Γ.length := (List.getElem?_eq_some_iff.mp hs).1
  obtain ⟨a, bs, e1, e2, S1, ⟨vs, n1, n2, n3⟩, f, N⟩ := S.dropN hs
  obtain ⟨m1, m2⟩ := List.nodup_cons.mp n3
  obtain ⟨F1, k1, S2, r, cc⟩ := frzL n2 n2 m2 S1 fun b hb => N b (List.mem_cons_of_mem _ hb)
  obtain ⟨k2, S3⟩ := S2.frz n1 (cc a m1 (N a List.mem_cons_self))
  have r2 : Rp W.K (upd F1 a (.lst vs)) (.lst ds) (.ref a) := by
    unfold Rp
    exact ⟨a, vs, rfl, upd_same, RpL.mono k2 _ _ r⟩
  have S4 := S3.setVal (i := i) (by rw [List.length_set]; exact hi) r2
  rw [set_self e2, List.set_set] at S4
  exact ⟨_, _, k1.trans k2, S4⟩
theorem Sim.promote (S : Sim W F H ρ σ Γ) (hs : Γ[i]? = some (.own false (.lst []))) : ∃ ρ', Sim W F H ρ' σ (Γ.set i (.nst false [])) := by
  have hi : i < Γ.length := (List.getElem?_eq_some_iff.mp hs).1
  obtain ⟨a, e1, e2, e3, e4, e5⟩ := S.slot i _ hs
  obtain ⟨S1, o1, N1⟩ := S.drop hs e1
  obtain ⟨vs, h1, h2⟩ := o1
  cases rpl_nil_inv h2
  have S2 := S1.setNst (i := i) (a := a) (bs := []) (ds := []) (by rw [List.length_set]; exact hi) ⟨[], h1, .nil, by simp⟩ N1.f (fun b hb => by rw [List.mem_singleton.mp hb]; exact N1)
  rw [set_self e2, List.set_set] at S2
  exact ⟨_, S2⟩
end

/-! ### ghost steps -/
structure Gh (g : Gm → Option Gm) : Prop where
  ok : ∀ {W : Wd} {F H : Hp} {ρ : Nat → Option Addr} {σ : L2.St} {Γ Γ' : Gm}, Sim W F H ρ σ Γ → g Γ = some Γ' → ∃ F' ρ', Same F F' ∧ Sim W F' H ρ' σ Γ'
def sGh (g : Gm → Option Gm) (s : SM) : SM := fun Γ => match g Γ with
  | some Γ' => s Γ'
  | none => .stuck
theorem ds_gh {X : Cx} {st : Stmt} {g : Gm → Option Gm} {s : SM} (G : Gh g) (h : DS X st s) : DS X st (sGh g s) :=
  ps_imp h fun D σ H ⟨W, F, ρ, Γ, eK, S, h⟩ => by
    unfold sGh at h
    split at h
    · rename_i Γ' hg
      obtain ⟨F', ρ', k, S'⟩ := G.ok S hg
      exact ⟨W, F', ρ', Γ', eK, S', h.mono k⟩
    · exact h.elim
def gFzS (s : Option Sl) (i : Nat) (Γ : Gm) : Option Gm := match s with
  | some (.nst false ds) => some (Γ.set i (.val (.lst ds)))
  | some (.own false d) => some (Γ.set i (.val d))
  | _ => none
/-- the name's list is frozen from here on -/
def gFz (i : Nat) : Gm → Option Gm := fun Γ => gFzS Γ[i]? i Γ
def gPrS (s : Option Sl) (i : Nat) (Γ : Gm) : Option Gm := match s with
  | some (.own false (.lst [])) => some (Γ.set i (.nst false []))
  | _ => none
/-- the name's empty list is one that owns lists from here on -/
def gPr (i : Nat) : Gm → Option Gm := fun Γ => gPrS Γ[i]? i Γ
theorem gh_fz (i : Nat) : Gh (gFz i) := ⟨fun {W F H ρ σ Γ Γ'} S h => by
  unfold gFz gFzS at h
  split at h
  · rename_i ds hs
    cases h
    exact S.freezeN hs
  · rename_i d hs
    cases h
    obtain ⟨a, e1, _⟩ := S.slot i _ hs
    obtain ⟨F', k, S', _⟩ := S.freeze hs e1
    exact ⟨F', ρ, k, S'⟩
  · cases h⟩
theorem gh_pr (i : Nat) : Gh (gPr i) := ⟨fun {W F H ρ σ Γ Γ'} S h => by
  unfold gPr gPrS at h
  split at h
  · rename_i hs
    cases h
    obtain ⟨ρ', S'⟩ := S.promote hs
    exact ⟨F, ρ', Same.refl F, S'⟩
  · cases h⟩
@[simp] theorem wS_gh (g : Gm → Option Gm) (s : SM) (Γ : Gm) (Q : SRes → Prop) : wS (sGh g s) Γ Q = wO (g Γ) fun Γ' => wS s Γ' Q := by
  simp only [wS_eq]
  unfold sGh
  cases g Γ <;> simp
@[simp] theorem gFz_def (i : Nat) (Γ : Gm) : gFz i Γ = gFzS Γ[i]? i Γ := rfl
@[simp] theorem gPr_def (i : Nat) (Γ : Gm) : gPr i Γ = gPrS Γ[i]? i Γ := rfl
@[simp] theorem gFzS_nst (ds : List D) (i : Nat) (Γ : Gm) : gFzS (some (.nst false ds)) i Γ = some (Γ.set i (.val (.lst ds))) := rfl
@[simp] theorem gFzS_own (d : D) (i : Nat) (Γ : Gm) : gFzS (some (.own false d)) i Γ = some (Γ.set i (.val d)) := rfl
@[simp] theorem gPrS_own (i : Nat) (Γ : Gm) : gPrS (some (.own false (.lst []))) i Γ = some (Γ.set i (.nst false [])) := rfl

/-! ### x.append(new list), x owns lists -/
def appN (i : Nat) (e : EV) (Γ : Gm) : SRes := match Γ[i]?, e with
  | some (.nst false ds), .fr (.lst xs) => if ds.length < sizeLine then .nx (Γ.set i (.nst false (ds ++ [.lst xs]))) else .stuck
  | _, _ => .stuck
def sAppN (i : Nat) (f : EM) : SM := fun Γ => if isNst Γ[i]? = true then (f Γ).go fun e Γ1 => appN i e Γ1 else .stuck
theorem NstL.snoc {K : PySem.W.Frag} {F H : Hp} {ds : List D} {vs : List V} {bs : List Addr} (n : NstL K F H ds vs bs) {d : D} {b : Addr} (h1 : isInn d = true) (h2 : OwnAt K F H b d) (h3 : F b = none) : NstL K F H (ds ++ [d]) (vs ++ [.ref b]) (bs ++ [b]) := by
  induction n with
  | nil => exact .inn h1 h2 h3 .nil
  | pl a b _ ih => exact .pl a b ih
  | inn a b c _ ih => exact .inn a b c ih
section
variable {X : Cx} {x : Str} {p pos apos cpos : Pos} {e o : Expr} {f g : EM} {i : Nat}
theorem ds_appN (ho : DE X (.Name x p) (eName i)) (he : DE X e f)
    (hbase : attributeBase (.Name x p) "append" X.env (eval (.Name x p) X.env) = eval (.Name x p) X.env := by rfl)
    (hfew : ((backTo cpos (starEach (e :: []) X.env)).all (fun x => !x.1) && (backToKw cpos (keywordEach [] X.env)).all (fun x => x.1.isSome)
      && decide ((e :: []).length + ([] : List Keyword).length + (if ([] : List Keyword).isEmpty then 0 else 1) < 30)) = true := by rfl)
    (hline : (apos.endLine == cpos.line) = true := by rfl) (hs : starEach (e :: []) X.env = (false, eval e X.env) :: starEach [] X.env := by rfl) (hplain : (backTo cpos (starEach [] X.env)).any (·.1) = false := by rfl)
    (hsw : swapsWith (.Call (.Attribute (.Name x p) "append" apos) [e] [] cpos) none pos.line X.env = pure false := by rfl) :
    DS X (.Expr (.Call (.Attribute (.Name x p) "append" apos) [e] [] cpos) pos) (sAppN i f) :=
  ps_imp (ps_expr (pe_bm PySem.F.plainAttrs_list PySem.F.slot_list_append PySem.F.type_list_append mt_append ho (pa_cons he pa_nil hs) hbase hfew hline hs hplain) hsw) fun E σ H ⟨W, F, ρ, Γ, eK, S, h⟩ => by
    unfold sAppN at h
    obtain ⟨hn, h⟩ := ifok_inv h
    obtain ⟨e1, Γ1, hf, h⟩ := go_inv h
    refine name_bN eK S hn fun a F0 H0 k0 S0 ea => ?_
    obtain ⟨io, ds0, hn0⟩ := isNst_inv hn
    obtain ⟨a0, bs0, vs0, y1, y2, y3, _⟩ := S0.nst hn0
    rw [ea] at y1; cases y1
    refine ⟨.inl ⟨rfl, vs0, .inl (.inl y3)⟩, ?_⟩
    unfold appN at h
    split at h
    · rename_i ds xs hsl
      split at h
      · rename_i hl
        refine tE_any eK S0 hf rfl fun v F1 H1 k1 S1 r1 => ?_
        unfold RpE at r1
        obtain ⟨q, rfl, oq, Nq⟩ := r1
        obtain ⟨a1, bs, e1, e2, S2, ⟨vs, n1, n2, n3⟩, fa, N⟩ := S1.dropN hsl
        rw [ea] at e1; cases e1
        obtain ⟨m1, m2⟩ := List.nodup_cons.mp n3
        have hi : i < Γ1.length := (List.getElem?_eq_some_iff.mp hsl).1
        have Nq2 : New W F1 H1 (unsetG ρ Γ1.length i) q := ⟨Nq.f, Nq.b, Nq.np, fun j z => Nq.r j (unsetG_le z).2.2, Nq.n⟩
        have qa : q ≠ a := fun z => Nq.r i (by rw [z]; exact ea)
        have qb : q ∉ bs := fun hb => by
          obtain ⟨a', bs', vs', w1, w2, w3, w4, w5, w6, w7, w8, w9⟩ := S1.nst hsl
          rw [ea] at w1; cases w1
          rw [n1] at w3; cases w3
          have eb : bs = bs' := by
            have : ∀ {ds : List D} {vs : List V} {b1 b2 : List Addr}, NstL W.K F1 H1 ds vs b1 → NstL W.K F1 H1 ds vs b2 → b1 = b2 := fun n1 => by
              intro n2
              rename_i b2
              induction n1 generalizing b2 with
              | nil => cases n2; rfl
              | pl h1 _ _ ih => cases n2 with
                | pl _ _ n => exact ih n
                | inn h2 _ _ _ => rw [h1] at h2; cases h2
              | inn h1 _ _ _ ih => cases n2 with
                | pl h2 _ _ => rw [h1] at h2; cases h2
                | inn _ _ _ n => rw [ih n]
            exact this n2 w4
          subst eb
          obtain ⟨k, hk, e⟩ := List.getElem_of_mem hb
          exact Nq.r _ (w7 k q (by rw [List.getElem?_eq_getElem hk, e]))
        refine ⟨a, vs, .ref q, rfl, rfl, n1, by rw [← n2.len.1]; exact hl, ?_⟩
        have S3 := S2.wr (o := .lst (vs ++ [.ref q])) (N a List.mem_cons_self)
        have oo : ∀ c, c ≠ a → ∀ o, H1 c = some o → upd H1 a (.lst (vs ++ [.ref q])) c = some o := fun c hc o z => by rw [upd_ne hc]; exact z
        have nst : NstAt W.K F1 (upd H1 a (.lst (vs ++ [.ref q]))) a (bs ++ [q]) (ds ++ [.lst xs]) := by
          refine ⟨vs ++ [.ref q], upd_same, ?_, ?_⟩
          · exact (n2.mono (Same.refl F1) (fun b hb => oo b fun z => m1 (by rw [← z]; exact hb)) fun _ _ z => z).snoc rfl (oq.mono (Same.refl F1) (oo q qa)) Nq.f
          · rw [← List.cons_append, List.nodup_append]
            refine ⟨n3, List.pairwise_singleton .., fun c hc c2 hc2 z => ?_⟩
            rw [List.mem_singleton.mp hc2] at z
            subst z
            rcases List.mem_cons.mp hc with z | z
            · exact qa z
            · exact qb z
        have S4 := S3.setNst (i := i) (by rw [List.length_set]; exact hi) nst fa (fun b hb => by
          have : b ∈ a :: bs ∨ b = q := by
            rcases List.mem_cons.mp hb with z | z
            · exact .inl (by rw [z]; exact List.mem_cons_self)
            · rcases List.mem_append.mp z with z | z
              · exact .inl (List.mem_cons_of_mem _ z)
              · exact .inr (List.mem_singleton.mp z)
          rcases this with z | rfl
          · exact ⟨(N b z).f, (N b z).b, (N b z).np, (N b z).r, (N b z).n⟩
          · exact ⟨Nq2.f, Nq2.b, Nq2.np, Nq2.r, Nq2.n⟩)
        rw [set_self e2, List.set_set] at S4
        exact h F1 _ _ _ (k0.trans k1) S4
      · exact h.elim
    · exact h.elim

/-! ### o.append(e), o an item that a list owns -/
def appIK (i k : Nat) (d : D) (Γ : Gm) : ERes := match nstD Γ i k with
  | some (.lst xs) => if xs.length < sizeLine then .ok (.imm .non) (setI Γ i k (.lst (xs ++ [d]))) else .stuck
  | _ => .stuck
def appI2 (e1 : EV) (o : Option (D × Gm)) : ERes := match e1, o with
  | .inn i k, some p => appIK i k p.1 p.2
  | _, _ => .stuck
def eAppI (f g : EM) : EM := fun Γ => (f Γ).bind fun e1 Γ1 => if isL Γ1 e1 = true then (g Γ1).bind fun e2 Γ2 => if e2.ok = true then appI2 e1 (settle e2 Γ2) else .stuck else .stuck
theorem fz_fz (e : EV) : e.fz.fz = e.fz := by cases e <;> rfl
theorem de_appI (ho : DE X o f) (he : DE X e g)
    (hbase : attributeBase o "append" X.env (eval o X.env) = eval o X.env := by rfl)
    (hfew : ((backTo cpos (starEach (e :: []) X.env)).all (fun x => !x.1) && (backToKw cpos (keywordEach [] X.env)).all (fun x => x.1.isSome)
      && decide ((e :: []).length + ([] : List Keyword).length + (if ([] : List Keyword).isEmpty then 0 else 1) < 30)) = true := by rfl)
    (hline : (apos.endLine == cpos.line) = true := by rfl) (hs : starEach (e :: []) X.env = (false, eval e X.env) :: starEach [] X.env := by rfl) (hplain : (backTo cpos (starEach [] X.env)).any (·.1) = false := by rfl) :
    DE X (.Call (.Attribute o "append" apos) [e] [] cpos) (eAppI f g) :=
  pe_imp (pe_bm PySem.F.plainAttrs_list PySem.F.slot_list_append PySem.F.type_list_append mt_append ho (pa_cons he pa_nil hs) hbase hfew hline hs hplain) fun σ H Q ⟨W, F, ρ, Γ, eK, S, e, Γ', ef, ok, q⟩ => by
    obtain ⟨e1, Γ1, h1, ef⟩ := bind_inv ef
    split at ef
    · rename_i hl
      obtain ⟨e2, Γ2, h2, ef⟩ := bind_inv ef
      split at ef
      · rename_i ok2
        have hg : ∃ ys, eGet Γ1 e1.fz = some (.lst ys) := by
          unfold isL at hl
          split at hl
          · exact ⟨_, by assumption⟩
          · cases hl
        obtain ⟨ys, hg⟩ := hg
        unfold appI2 at ef
        split at ef
        · rename_i i k pp hi hp
          obtain ⟨dd, Γ3⟩ := pp
          refine tE_then eK S h1 (ok_get hg) fun v1 F1 H1 s1 S1 r1 => ?_
          obtain ⟨a, vs1, rfl, x1, _⟩ := rd_lst (rd_get S1 r1 hg)
          refine ⟨.inl ⟨rfl, vs1, .inl (.inl x1)⟩, ?_⟩
          refine tE_then eK S1 h2 ok2 fun v2 F2 H2 s2 S2 r2 => ?_
          obtain ⟨F3, k3, S3, r3⟩ := settle_ok _ _ _ _ _ _ S2 ok2 r2 hp
          rw [hi] at r1
          unfold RpE at r1
          obtain ⟨b, hb, eb⟩ := r1
          cases eb
          unfold appIK at ef
          split at ef
          · rename_i xs hx
            split at ef
            · rename_i hlen
              cases ef
              obtain ⟨io, ds, hsl, hf⟩ := nstD_inv hx
              obtain ⟨c, hc, oc, fc⟩ := S3.nstk hx
              rw [hb] at hc; cases hc
              obtain ⟨vs, x3, x4⟩ := oc
              refine ⟨a, vs, v2, rfl, rfl, x3, by rw [← rpl_len x4]; exact hlen, ?_⟩
              refine q .non F3 _ ((s1.trans s2).trans k3) ?_ (by unfold RpE; exact rp_non)
              unfold setI
              rw [hsl]
              exact S3.writeI hsl hb hf rfl ⟨_, upd_same, rpl_append x4 (rpl_cons r3 rpl_nil)⟩
            · cases ef
          · cases ef
        · cases ef
      · cases ef
    · cases ef
end
end DL

namespace DL
open PySem PySem.Spec PyProof.Rows L2
def wNs0 (s : Option Sl) (Q : List D → Prop) : Prop := match s with
  | some (.nst false ds) => Q ds
  | _ => False
@[simp] theorem wNs0_nst (ds : List D) (Q : List D → Prop) : wNs0 (some (.nst false ds)) Q = Q ds := rfl
/-- a new list -/
def wFrl (e : EV) (Q : List D → Prop) : Prop := match e with
  | .fr (.lst xs) => Q xs
  | _ => False
@[simp] theorem wFrl_fr (xs : List D) (Q : List D → Prop) : wFrl (.fr (.lst xs)) Q = Q xs := rfl
@[simp] theorem wS_appN (i : Nat) (f : EM) (Γ : Gm) (Q : SRes → Prop) : wS (sAppN i f) Γ Q = (wNs Γ[i]? (fun _ _ => True) ∧ wE f Γ fun e Γ1 => wFrl e fun xs => wNs0 Γ1[i]? fun ds => ds.length < sizeLine ∧ Q (.nx (Γ1.set i (.nst false (ds ++ [.lst xs]))))) := by
  simp only [wS_eq]
  unfold sAppN
  simp only [go_wE, wX_if, isNst_w]
  congr; funext e Γ1
  unfold appN wNs0 wFrl
  generalize Γ1[i]? = s
  cases s with
  | none => cases e <;> first | (simp; done) | (rename_i d; cases d <;> simp)
  | some s =>
    cases s with
    | nst b ds =>
      cases b with
      | false =>
        cases e with
        | fr d => cases d <;> simp
        | _ => simp
      | true => cases e <;> first | (simp; done) | (rename_i d; cases d <;> simp)
    | _ => cases e <;> first | (simp; done) | (rename_i d; cases d <;> simp)
@[simp] theorem wE_appI (f g : EM) (Γ : Gm) (Q : EV → Gm → Prop) : wE (eAppI f g) Γ Q = wE f Γ fun e1 Γ1 => (wV Γ1 e1.fz fun d => wL1 d fun _ => True) ∧ wE g Γ1 fun e2 Γ2 => e2.fz.ok = true ∧ wInn e1.fz fun i k => wO (settle e2.fz Γ2) fun p => wO (nstD p.2 i k) fun d => wL1 d fun xs =>
    xs.length < sizeLine ∧ Q (.imm .non) (setI p.2 i k (.lst (xs ++ [p.1]))) := by
  unfold wE eAppI
  simp only [wE_bind, mE_if, isL_w]
  congr; funext e1 Γ1; congr; funext e2 Γ2; congr
  unfold appI2
  generalize e1.fz = y
  cases y with
  | inn i k =>
    simp only [wInn_inn]
    cases settle e2.fz Γ2 with
    | none => simp
    | some p =>
      simp only [wO_some]
      unfold appIK
      cases nstD p.2 i k with
      | none => simp
      | some d =>
        cases d with
        | lst xs => simp only [wO_some, wL1_lst, mE_if]; rfl
        | _ => simp [wL1]
  | _ => cases settle e2.fz Γ2 <;> simp [wInn]
/-! ### rows -/
theorem lsts_inn (R : List (List D)) : (R.map D.lst).filter isInn = R.map D.lst := by
  rw [List.filter_eq_self]
  intro d hd
  obtain ⟨r, _, rfl⟩ := List.mem_map.mp hd
  rfl
@[simp] theorem lsts_take (R : List (List D)) (n : Nat) : (((R.map D.lst).take n).filter isInn).length = min n R.length := by
  rw [← List.map_take, lsts_inn, List.length_map, List.length_take]
@[simp] theorem innAt_lsts (R : List (List D)) (k : Nat) : innAt (R.map D.lst) k = R[k]?.map D.lst := by
  rw [← innAt_eq, lsts_inn, List.getElem?_map]
theorem setInn_lsts : ∀ (R : List (List D)) (k : Nat) (x : List D), setInn (R.map D.lst) k (.lst x) = (R.set k x).map D.lst
  | [], _, _ => rfl
  | r :: R, 0, x => rfl
  | r :: R, k + 1, x => by
    rw [List.set_cons_succ, List.map_cons, List.map_cons, ← setInn_lsts R k x]; rfl
end DL

set_option maxHeartbeats 4000000
namespace DL
open PySem PySem.Spec PyProof.Rows L2
def ixS : D → D → Option EV
  | .lst ds, .str n => (mapO asS ds).bind fun ns => if n ∈ ns then some (.imm (.int ((ns.idxOf n : Nat) : Int))) else none
  | _, _ => none
theorem ixS_inv {d1 d2 : D} {e : EV} (h : ixS d1 d2 = some e) : ∃ ds n ns, d1 = .lst ds ∧ d2 = .str n ∧ mapO asS ds = some ns ∧ n ∈ ns ∧ e = .imm (.int ((ns.idxOf n : Nat) : Int)) := by
  unfold ixS at h
  split at h
  · obtain ⟨ns, hns, h⟩ := obind_inv h
    obtain ⟨hm, rfl⟩ := if_some h
    exact ⟨_, _, ns, rfl, rfl, hns, hm, rfl⟩
  · cases h
def eSLIdx (f g : EM) : EM := fun Γ => (f Γ).bind fun e1 Γ1 => match eGet Γ1 e1 with
  | some (.lst _) => (g Γ1).bind fun e2 Γ2 => ERes.of ((eGet Γ2 e1).bind fun d1 => (eGet Γ2 e2).bind fun d2 => ixS d1 d2) Γ2
  | _ => .stuck
section
variable {X : Cx}
theorem de_slidx {o e : Expr} {f g : EM} {apos cpos : Pos} (ho : DE X o f) (he : DE X e g)
    (hbase : attributeBase o "index" X.env (eval o X.env) = eval o X.env := by rfl)
    (hfew : ((backTo cpos (starEach (e :: []) X.env)).all (fun x => !x.1) && (backToKw cpos (keywordEach [] X.env)).all (fun x => x.1.isSome)
      && decide ((e :: []).length + ([] : List Keyword).length + (if ([] : List Keyword).isEmpty then 0 else 1) < 30)) = true := by rfl)
    (hline : (apos.endLine == cpos.line) = true := by rfl) (hs : starEach (e :: []) X.env = (false, eval e X.env) :: starEach [] X.env := by rfl) (hplain : (backTo cpos (starEach [] X.env)).any (·.1) = false := by rfl) :
    DE X (.Call (.Attribute o "index" apos) [e] [] cpos) (eSLIdx f g) :=
  pe_imp (pe_bm PySem.F.plainAttrs_list PySem.F.slot_list_index PySem.F.type_list_index mt_index ho (pa_cons he pa_nil hs) hbase hfew hline hs hplain) fun σ H Q ⟨W, F, ρ, Γ, eK, S, e, Γ', ef, ok, q⟩ => by
    unfold eSLIdx at ef
    obtain ⟨e1, Γ1, h1, ef⟩ := bind_inv ef
    split at ef
    · rename_i ds0 hg0
      obtain ⟨e2, Γ2, h2, ef⟩ := bind_inv ef
      obtain ⟨ef', rfl⟩ := of_inv ef
      obtain ⟨d1, hg1, ef'⟩ := obind_inv ef'
      obtain ⟨d2, hg2, ef'⟩ := obind_inv ef'
      obtain ⟨ds, n, ns, rfl, rfl, hns, hm, rfl⟩ := ixS_inv ef'
      refine tE_then eK S h1 (ok_get hg0) fun v1 F1 H1 s1 S1 r1 => ?_
      obtain ⟨a, vs, rfl, hv, _⟩ := rd_lst (rd_get S1 r1 hg0)
      refine ⟨.inl ⟨rfl, vs, .inl (.inl hv)⟩, ?_⟩
      refine tE_then eK S1 h2 (ok_get hg2) fun v2 F2 H2 s2 S2 r2 => ?_
      obtain ⟨a', vs', ea, hv', rv⟩ := rd_lst (rd_get S2 (RpE.mono s2 _ _ (ok_get hg0) r1) hg1)
      cases ea
      obtain ⟨hx, _⟩ := rd_str (rd_get S2 r2 hg2)
      subst hx
      obtain ⟨ev, _⟩ := mapO_strs rv hns
      subst ev
      have hl := List.idxOf_lt_length_of_mem hm
      refine ⟨a, (ns.map mkS).map V.str, .str (mkS n), ns.idxOf n, .str (mkS n), rfl, rfl, by rw [← eK]; exact .inl (.inl hv'), rfl, by simp [flatV], ?_, by simp [eqV], fun m z hm' hz => ?_, q _ F2 H2 (s1.trans s2) S2 (by unfold RpE; exact rp_int)⟩
      · rw [List.getElem?_map, List.getElem?_map, List.getElem?_eq_getElem hl, List.getElem_idxOf hl]; rfl
      · rw [List.getElem?_map, List.getElem?_map] at hz
        obtain ⟨k0, hk0, rfl⟩ := omap_inv hz
        obtain ⟨k, hk, rfl⟩ := omap_inv hk0
        have hkl := (List.getElem?_eq_some_iff.mp hk).1
        have hne : k ≠ n := fun e => by
          subst e
          have h3 := List.not_of_lt_findIdx (p := fun x => x == k) (xs := ns) (i := m) hm'
          have h4 := (List.getElem?_eq_some_iff.mp hk).2
          rw [h4] at h3
          simp at h3
        have hne2 : mkS k ≠ mkS n := fun e => hne (mkS_inj e)
        simpa [eqV] using hne2
    · cases ef
end
@[simp] theorem wE_slidx (f g : EM) (Γ : Gm) (Q : EV → Gm → Prop) : wE (eSLIdx f g) Γ Q = wE f Γ fun e1 Γ1 => wV Γ1 e1.fz fun d0 => wLst0 d0 (wE g Γ1 fun e2 Γ2 => wV Γ2 e1.fz fun d1 => wV Γ2 e2.fz fun d2 => wO (ixS d1 d2) fun e => Q e Γ2) := by
  unfold wE eSLIdx
  simp only [wE_bind]
  congr; funext e1 Γ1
  unfold wV
  cases hg : eGet Γ1 e1.fz with
  | none => simp
  | some d0 =>
    cases d0 with
    | lst ds =>
      simp only [wO_some, wLst0_l, wE_bind, of_w, wO_bind]
    | _ => simp [wLst0]
theorem ixS_s {ns : List (List Nat)} {n : List Nat} (h : n ∈ ns) : ixS (.lst (ns.map D.str)) (.str n) = some (.imm (.int ((ns.idxOf n : Nat) : Int))) := by
  show (mapO asS (ns.map D.str)).bind _ = _
  rw [mapO_map (g := D.str) (h := id) (f := asS) fun _ => rfl, List.map_id, Option.bind_some, if_pos h]
end DL

set_option maxHeartbeats 4000000
namespace DL
open PySem PySem.Spec PyProof.Rows L2
section
variable {prog : Program} {w : World} {K : Type} [DecidableEq K] {knd : KeyKind prog w K} {A : Around} {E : Value → Shared → Prop} {s : Shared}
theorem wpAny_dictPut {d : Addr} {kvs : List (K × Value)} {k : K} {key v : Value} {Q : Unit → Shared → Prop} (hkey : knd.is k key = true) (hm : s.heap.DictOf knd d kvs)
    (hQ : ∀ h', h'.DictOf knd d (stored kvs k v) → Heap.SameBut d s.heap h' → Q () { s with heap := h' })
    (hsz : kvs.length ≤ sizeLine) :
    wpAny (model prog w) A (dictPut d (knd.hash k) key v) Q E s := by
  obtain ⟨o, es, ep, ho, hc, hd, hk, hp, hn⟩ := hm
  have hes : es.size ≤ sizeLine := by
    have e1 := hp.length
    have e2 : es.toList.length = es.size := by simp
    omega
  unfold dictPut
  refine wpAny_bind (wpAny_dictFind_of hkey ho hd hk ?_)
  have hidx : (es.findIdx? fun e => knd.is k e.key) = kvs.findIdx? fun kv => decide (kv.1 = k) := by
    rw [← hp.findIdx k]
    obtain ⟨l⟩ := es
    simp
  cases hi : es.findIdx? fun e => knd.is k e.key with
  | some i =>
    refine wpAny_updateDict ho hd (hQ _ ⟨_, _, ep, Heap.get?_update_self _ ho (Obj.isFreed_of_dict (Obj.data_mapDict hd _)), hc.mapDict _, Obj.data_mapDict hd _, hk.modify _ _, ?_, ?_⟩ (Heap.SameBut.update ..))
    · rw [stored, if_pos (any_of_findIdx_some (hidx ▸ hi))]
      have hl : (es.toList.findIdx? fun e => knd.is k e.key) = some i := by
        rw [← hi]
        obtain ⟨l⟩ := es
        simp
      have := hp.modify hn hl v
      obtain ⟨l⟩ := es
      simpa using this
    · rw [stored, if_pos (any_of_findIdx_some (hidx ▸ hi)), keys_map_store]
      exact hn
  | none =>
    have hnot : k ∉ kvs.map (·.1) := not_mem_of_findIdx_none (hidx ▸ hi)
    have hany : ¬ (kvs.any fun kv => decide (kv.1 = k)) = true := by
      rw [List.any_eq_true]
      rintro ⟨kv, hkv, he⟩
      exact hnot (List.mem_map.mpr ⟨kv, hkv, of_decide_eq_true he⟩)
    refine wpAny_updateDictKeys (hz := hes) ho hd (hQ _ ⟨_, _, ep + 1, Heap.get?_update_self _ ho (Obj.isFreed_of_dict (Obj.data_mapDictKeys hd _)), hc.mapDictKeys _, Obj.data_mapDictKeys hd _, hk.push hkey _, ?_, ?_⟩ (Heap.SameBut.update ..))
    · rw [stored, if_neg hany]
      have := hp.append hkey (knd.hash k) v
      obtain ⟨l⟩ := es
      simpa using this
    · rw [stored, if_neg hany, List.map_append, List.nodup_append]
      refine ⟨hn, by simp, ?_⟩
      intro a ha b hb
      simp only [List.map_cons, List.map_nil, List.mem_singleton] at hb
      subst hb
      exact fun e => hnot (e ▸ ha)
theorem wpAny_mergeMap {d o : Addr} {kvs more : List (K × Value)} {Q : Unit → Shared → Prop} (hdo : d ≠ o) (hoS : (o == sysModules) = false)
    (hd : s.heap.DictOf knd d kvs) (ho : s.heap.DictOf knd o more)
    (hQ : ∀ h', h'.DictOf knd d (merged kvs more) → Heap.SameBut d s.heap h' → Q () { s with heap := h' })
    (hsz : kvs.length + more.length ≤ sizeLine) :
    wpAny (model prog w) A (mergeMapping d (.ref o) false) Q E s := by
  obtain ⟨od, esd, epd, hod, hcd, hdd, hkd, hpd, hnd⟩ := id hd
  obtain ⟨oo, eso, epo, hoo, hco, hdo', hko, hpo, hno⟩ := id ho
  have hlen : more.length = eso.size := by rw [← hpo.length]; simp
  unfold mergeMapping
  refine wpAny_bind (wpAny_isInstance ho.typeIs isSubtype_dict_dict ?_)
  dsimp only
  rw [if_pos rfl]
  refine wpAny_bind (wpAny_specialOf ho.typeIs F.slot_dict_iter.lookup (wpAny_bind (wpAny_pure ?_)))
  have e0 : (some (Value.builtin "dict.__iter__") == some (Value.builtin "dict.__iter__")) = true := by simp
  rw [e0]
  dsimp only
  rw [if_neg (by rw [hoS]; exact Bool.false_ne_true)]
  have loop : wpAny (model prog w) A (do
      let l ← dictEntries o
      let epoch ← dictEpoch o
      forIn (List.range l.size) PUnit.unit fun i (_ : PUnit) => (do
          let l' ← dictEntries o
          match l'[i]? with
            | some e => do
              holding [e.key, e.val] (dictPut d e.hash e.key e.val)
              let ep' ← dictEpoch o
              if (ep' != epoch) = true then do
                  (unsupported "dict.changed-during-merge" : Sem PUnit)
                  pure (ForInStep.yield PUnit.unit)
                else pure (ForInStep.yield PUnit.unit)
            | _ => do
              (unsupported "dict.changed-during-merge" : Sem PUnit)
              pure (ForInStep.yield PUnit.unit) : Sem (ForInStep PUnit))
      pure ()) Q E s := by
    refine wpAny_bind (wpAny_dictEntries hoo hdo' ?_)
    refine wpAny_bind (wpAny_dictEpoch hoo hdo' ?_)
    refine wpAny_bind ?_
    rw [List.range_eq_range']
    refine wpAny_forIn_list _
      (fun rest _ s' => ∃ h' i, s' = { s with heap := h' } ∧ rest = List.range' i (eso.size - i) ∧ i ≤ eso.size ∧ h'.DictOf knd d (merged kvs (more.take i)) ∧ h'.get? o = some oo ∧ Heap.SameBut d s.heap h')
      _ ?_ ?_ _ _ ⟨s.heap, 0, rfl, by simp, Nat.zero_le _, by simpa [merged] using hd, hoo, Heap.SameBut.refl _ _⟩
    · rintro x rest b s' ⟨h', i, rfl, hr, hi, hd', hoo', hs'⟩
      have hlt : i < eso.size := by
        rcases Nat.lt_or_ge i eso.size with h | h
        · exact h
        · rw [Nat.sub_eq_zero_of_le h] at hr
          simp at hr
      obtain ⟨rfl, hrest⟩ : x = i ∧ rest = List.range' (i + 1) (eso.size - (i + 1)) := by
        have e : eso.size - i = (eso.size - (i + 1)) + 1 := by omega
        rw [e, List.range'_succ] at hr
        injection hr with h1 h2
        exact ⟨h1, h2⟩
      refine wpAny_bind (wpAny_dictEntries hoo' hdo' ?_)
      rw [Array.getElem?_eq_getElem hlt]
      obtain ⟨kv, hkv⟩ : ∃ kv, more[x]? = some kv := ⟨more[x]'(by rw [hlen]; exact hlt), List.getElem?_eq_getElem _⟩
      obtain ⟨k, v⟩ := kv
      obtain ⟨hkey, hval⟩ := hpo.get? (e := eso[x]) (by simp [hlt]) hkv
      obtain ⟨k', hkey', hhash⟩ := hko eso[x] (Array.getElem_mem hlt)
      obtain rfl : k' = k := knd.inj _ _ _ hkey' hkey
      show wpAny _ _ (holding [eso[x].key, eso[x].val] (dictPut d eso[x].hash eso[x].key eso[x].val) >>= _) _ _ _
      rw [hhash, hval]
      have hmx : (merged kvs (more.take x)).length ≤ sizeLine := by
        have e1 := merged_length_le kvs (more.take x)
        have e2 : (more.take x).length ≤ more.length := by rw [List.length_take]; omega
        omega
      refine wpAny_bind (wpAny_holding (wpAny_dictPut hkey hd' (fun h'' hd'' hs'' => ?_) hmx))
      have hoo'' : h''.get? o = some oo := (hs''.2 o (Ne.symm hdo)).trans hoo'
      refine wpAny_bind (wpAny_dictEpoch hoo'' hdo' ?_)
      rw [if_neg (by simp)]
      exact wpAny_pure ⟨h'', x + 1, rfl, hrest, hlt, by rw [merged_take_succ kvs more x (k', v) hkv]; exact hd'', hoo'', hs'.trans hs''⟩
    · rintro b s' ⟨h', i, rfl, hr, hi, hd', hoo', hs'⟩
      have hin : i = eso.size := by
        rcases Nat.lt_or_ge i eso.size with h | h
        · have e : eso.size - i = (eso.size - (i + 1)) + 1 := by omega
          rw [e, List.range'_succ] at hr
          exact nomatch hr
        · exact Nat.le_antisymm hi h
      refine wpAny_pure (hQ h' ?_ hs')
      rw [hin, ← hlen, List.take_length] at hd'
      exact hd'
  refine wpAny_bind (wpAny_dictEntries hod hdd ?_)
  split
  · refine wpAny_bind (wpAny_dictEntries hoo hdo' ?_)
    refine wpAny_bind ?_
    rw [← Array.forIn_toList]
    refine wpAny_forIn_list _ (fun rest _ s' => s' = s ∧ ∀ e ∈ rest, e ∈ eso.toList) _ ?_ ?_ _ _ ⟨rfl, fun _ h => h⟩
    · rintro e rest b s' ⟨rfl, hall⟩
      obtain ⟨k, hkey, _⟩ := hko e (Array.mem_toList_iff.mp (hall e List.mem_cons_self))
      have hb := knd.byValue k _ hkey
      have hr : ∀ e' ∈ rest, e' ∈ eso.toList := fun x hx => hall x (List.mem_cons_of_mem _ hx)
      split
      · rename_i a ha
        rw [ha] at hb
        exact absurd hb (by simp [carriedByValue])
      · exact wpAny_pure ⟨rfl, hr⟩
    · rintro b s' ⟨rfl, _⟩
      exact loop
  · exact loop
theorem wpAny_disp_star {v k e : Sem Value} {Q : Value → Shared → Prop}
    (h : wpAny (model prog w) A v (fun m s1 => wpAny (model prog w) A (mergeMapping s.heap.objs.size m false) (fun _ s2 => wpAny (model prog w) A (subDict [(k, e)])
        (fun sub s3 => wpAny (model prog w) A (mergeMapping s.heap.objs.size (.ref sub) false) (fun _ s4 => Q (.ref s.heap.objs.size) s4) (fun _ _ => False) s3) E s2) (fun _ _ => False) s1) E
      { s with heap := s.heap.push { cls := .type "dict", data := .dict #[] } }) :
    wpAny (model prog w) A (dictDisplay [(none, v), (some k, e)]) Q E s := by
  unfold dictDisplay
  dsimp only
  simp only [List.forIn_cons, List.forIn_nil]
  refine wpAny_bind (wpAny_bind (wpAny_bind ?_))
  simp only [List.isEmpty_nil, if_true]
  refine wpAny_pure ?_
  dsimp only
  refine wpAny_bind (wpAny_alloc ?_)
  refine wpAny_bind (wpAny_holding (wpAny_mono h (fun m s1 h1 => ?_) fun _ _ z => z))
  refine wpAny_bind (wpAny_onRaise (wpAny_tryCatch (wpAny_onRaise (wpAny_holding (wpAny_mono h1 (fun _ s2 h2 => ?_) fun _ _ z => z.elim)))))
  refine wpAny_pure ?_
  dsimp only
  refine wpAny_bind ?_
  simp only [List.nil_append, List.length_cons, List.length_nil]
  rw [if_neg (by decide)]
  refine wpAny_pure ?_
  dsimp only
  refine wpAny_pure ?_
  refine wpAny_bind ?_
  simp only [List.isEmpty_cons, Bool.false_eq_true, if_false]
  refine wpAny_bind (wpAny_holding (wpAny_mono h2 (fun sub s3 h3 => ?_) fun _ _ z => z))
  refine wpAny_bind (wpAny_onRaise (wpAny_holding (wpAny_mono h3 (fun _ s4 h4 => ?_) fun _ _ z => z.elim)))
  exact wpAny_pure (wpAny_pure h4)
end
def tDStar (tv tk te : TE) : TE := fun σ H Q => ∀ p, H p = none → tv σ (upd H p (.dK [])) fun x H2 => H2 p = some (.dK []) ∧ ∃ (o : Addr) (kvs : List (Key × V)), x = .ref o ∧ o ≠ p ∧ Rd H2 o (.dK kvs) ∧ kvs.length ≤ 1000 ∧
  ∀ p', upd H2 p (.dK kvs) p' = none → tPairs [(tk, te)] σ (upd (upd H2 p (.dK kvs)) p' (.dK [])) fun ps H4 => H4 p = some (.dK kvs) ∧ H4 p' = some (.dK []) ∧ ∃ (k : Key) (z : V), ps = [(kV k, z)] ∧
    Q (.ref p) (upd (upd H4 p' (.dK [(k, z)])) p (.dK (putK kvs k z)))
section
variable {X : Cx} {pos : Pos} {ve ke xe : Expr} {tv tk te : TE}
theorem pe_dstar (hv : PE X ve tv) (hk : PE X ke tk) (he : PE X xe te) : PE X (.Dict [none, some ke] [ve, xe] pos) (tDStar tv tk te) := by
  refine ⟨fun pins s σ H Q I q => ?_⟩
  have hn := I.hok.fresh (Nat.le_refl s.heap.objs.size)
  have I1 := I.laid (a := s.heap.objs.size) (o := .dK []) (h' := s.heap.push { cls := .type "dict", data := .dict #[] }) (t' := s.toks) (fun _ _ q => Heap.get?_push_of_some _ q) (Nat.le_refl _) (dk_empty s.heap I.big)
  rw [arm_eval_Dict]
  refine wpAny_bind (wpAny_standAt ?_)
  show wpAny _ _ (dictDisplay [(none, do let x ← eval ve X.env; standAt pos; pure x), (some (eval ke X.env), do let x ← eval xe X.env; standAt pos; pure x)]) _ _ s
  refine wpAny_disp_star (wpAny_bind (thn (hv.run pins _ σ _ _ I1 (q _ hn)) fun m s1 ⟨x, H2, I2, rx, e2, o, kvs, ex, ne, rd, hl, q2⟩ => wpAny_bind (wpAny_standAt (wpAny_pure ?_))))
  subst ex
  obtain rfl : m = Value.ref o := rx
  obtain ⟨_, hd, vs0, r0, dd⟩ := dk_of I2.hok e2
  cases r0
  obtain ⟨_, hoS, vs, rel, ddo⟩ := dk_rd I2.hok rd
  have hz : kvs.length = vs.length := rel.length
  refine wpAny_mergeMap (knd := mixKind X.prog X.w) (Ne.symm ne) hoS dd ddo (fun h' dd' hs => ?_) (by rw [sizeLine_eq, List.length_nil]; omega)
  have hm : merged [] vs = vs := merged_nil_of_nodup vs (by obtain ⟨_, _, _, _, _, _, _, _, n⟩ := ddo; exact n)
  rw [hm] at dd'
  have he2 : ∃ q, h'.get? s.heap.objs.size = some q := let ⟨q, _, _, hq, _⟩ := dd'; ⟨q, hq⟩
  have I3 := d_write (t' := s1.toks) I2 (by rw [e2]; exact True.intro) hs he2 (dk_new (kvs := kvs) (by rw [sizeLine_eq]; omega) hd rel dd')
  have hn' := I3.hok.fresh (Nat.le_refl h'.objs.size)
  have I4 := I3.laid (a := h'.objs.size) (o := .dK []) (h' := h'.push { cls := .type "dict", data := .dict #[] }) (t' := s1.toks) (fun _ _ q => Heap.get?_push_of_some _ q) (Nat.le_refl _) (dk_empty h' I3.big)
  refine wpAny_subDict (knd := mixKind X.prog X.w) (by rw [List.length_cons, List.length_nil]; omega) ?_
  show wpAny _ _ (evalPairs (pairTrees [some ke] [xe] X.env pos)) _ _ _
  refine thn ((pps_cons hk he pps_nil).run pins _ σ _ _ I4 (q2 _ hn')) fun ws s5 ⟨ps, H5, I5, rel5, ep, ep', k, z, eps, q5⟩ => ?_
  subst eps
  obtain ⟨rs, c, rk⟩ := carries_of (P := X.prog) (w := X.w) (kvs := [(k, z)]) rel5
  obtain ⟨_, hd', vs0', r0', dd0⟩ := dk_of I5.hok ep'
  cases r0'
  refine ⟨rs, c, dd0, fun h'' dd'' hs'' => ?_⟩
  have he' : ∃ q, h''.get? h'.objs.size = some q := let ⟨q, _, _, hq, _⟩ := dd''; ⟨q, hq⟩
  have I6 := d_write (t' := s5.toks + ws.length) I5 (by rw [ep']; exact True.intro) hs'' he' (dk_new (kvs := [(k, z)]) (by rw [sizeLine_eq, List.length_cons, List.length_nil]; omega) hd' (rk.merge .nil) dd'')
  have hpp : s.heap.objs.size ≠ h'.objs.size := fun z => by
    rw [← z, upd_same] at hn'
    cases hn'
  have ep6 : (upd H5 h'.objs.size (.dK [(k, z)])) s.heap.objs.size = some (.dK kvs) := by rw [upd_ne hpp]; exact ep
  obtain ⟨_, hd6, vs6, rel6, dd6⟩ := dk_of I6.hok ep6
  obtain ⟨_, hoS6, vs7, rel7, dd7⟩ := dk_of (kvs := [(k, z)]) I6.hok upd_same
  have z6 : kvs.length = vs6.length := rel6.length
  have z7 : [(k, z)].length = vs7.length := rel7.length
  refine wpAny_mergeMap (knd := mixKind X.prog X.w) hpp hoS6 dd6 dd7 (fun h3 dd3 hs3 => ?_) (by rw [sizeLine_eq]; rw [List.length_cons, List.length_nil] at z7; omega)
  have he3 : ∃ q, h3.get? s.heap.objs.size = some q := let ⟨q, _, _, hq, _⟩ := dd3; ⟨q, hq⟩
  have hl3 : (putK kvs k z).length ≤ sizeLine := by
    have := length_putK kvs k z
    rw [sizeLine_eq]
    omega
  exact ⟨.ref s.heap.objs.size, _, d_write I6 (by rw [ep6]; exact True.intro) hs3 he3 (dk_new (kvs := putK kvs k z) hl3 hd6 (rel7.merge rel6) dd3), rfl, q5⟩
end
def dupK (l : List (Key × D)) (k : Key) (e : EV) (Γ : Gm) : ERes := if e.ok = true then (match settle e Γ with
  | some q => .ok (.fr (dicL (putL l k q.1))) q.2
  | none => .stuck) else .stuck
def eDUp (f g h : EM) : EM := fun Γ => (f Γ).bind fun e0 Γ0 => match e0 with
  | .imm (.dic ks ds) => if (ks.zip ds).length ≤ 1000 then (g Γ0).bind fun e1 Γ1 => (match keyE e1 with
      | some k => (h Γ1).bind fun e2 Γ2 => dupK (ks.zip ds) k e2 Γ2
      | none => .stuck) else .stuck
  | _ => .stuck
section
variable {X : Cx} {pos : Pos} {ve ke xe : Expr} {f g h : EM}
theorem de_dup (hv : DE X ve f) (hk : DE X ke g) (hx : DE X xe h) : DE X (.Dict [none, some ke] [ve, xe] pos) (eDUp f g h) :=
  pe_imp (pe_dstar hv hk hx) fun σ H Q ⟨W, F, ρ, Γ, eK, S, e, Γ', ef, ok, q⟩ => by
    intro p hp
    unfold eDUp at ef
    obtain ⟨e0, Γ0, h0, ef⟩ := bind_inv ef
    split at ef
    · rename_i ks ds hz0
      split at ef
      · rename_i hlen
        obtain ⟨e1, Γ1, h1, ef⟩ := bind_inv ef
        split at ef
        · rename_i k hk1
          obtain ⟨e2, Γ2, h2, ef⟩ := bind_inv ef
          unfold dupK at ef
          split at ef
          · rename_i ok2
            split at ef
            · rename_i qq hst
              obtain ⟨d, Γ3⟩ := qq
              cases ef
              have N := S.fresh hp
              have S0 : Sim (W.pin p (.dK [])) F (upd H p (.dK [])) ρ σ Γ := (S.alloc (o := .dK []) hp).hold upd_same N.up
              refine tE_then (W := W.pin p (.dK [])) eK S0 h0 (by rw [hz0]; rfl) fun v0 F1 H1 s1 S1 r1 => ?_
              rw [hz0] at r1
              unfold RpE Rp at r1
              obtain ⟨a, vs, rfl, ea, rl, el⟩ := r1
              have p1 := S1.pin (p, .dK []) List.mem_cons_self
              have lv : vs.length = ds.length := (rpl_len rl).symm
              refine ⟨p1.1, a, ks.zip vs, rfl, fun z => ?_, .inl (S1.sub _ _ ea), by rw [List.length_zip] at hlen ⊢; omega, fun p' hp' => ?_⟩
              · rw [z, p1.2.1] at ea
                cases ea
              have S2 := S1.pinWrite (o' := .dK (ks.zip vs)) N.b N.np N.n
              have N' := S2.fresh hp'
              have S3 := (S2.alloc (o := .dK []) hp').hold upd_same N'.up
              obtain ⟨x, hx1, hkd⟩ : ∃ x, e1.fz = .imm x ∧ keyD x = some k := by
                unfold keyE at hk1
                split at hk1
                · rename_i x hx; exact ⟨x, hx, hk1⟩
                · cases hk1
              show tE X.K g σ _ _
              refine tE_then (W := (W.pin p (.dK (ks.zip vs))).pin p' (.dK [])) eK S3 h1 (by rw [hx1]; rfl) fun v1 F2 H2 s2 S4 r2 => ?_
              rw [hx1] at r2
              unfold RpE at r2
              have ev := keyD_rd (rd_of r2 S4.sub) hkd
              show tE X.K h σ H2 _
              refine tE_then (W := (W.pin p (.dK (ks.zip vs))).pin p' (.dK [])) eK S4 h2 ok2 fun v2 F3 H3 s3 S5 r3 => ?_
              obtain ⟨F4, s4, S6, r4⟩ := settle_ok _ _ _ _ _ _ S5 ok2 r3 hst
              have hq' := S6.pin (p', .dK []) List.mem_cons_self
              have hq := S6.pin (p, .dK (ks.zip vs)) (List.mem_cons_of_mem _ List.mem_cons_self)
              refine ⟨hq.1, hq'.1, k, v2, by rw [ev], ?_⟩
              have S7 := S6.pinWrite (o' := .dK [(k, v2)]) N'.b N'.np N'.n
              obtain ⟨S8, u1, u2, u3⟩ := S7.unhold
              have S9 := S8.pinWrite (o' := .dK (putK (ks.zip vs) k v2)) N.b N.np N.n
              obtain ⟨S10, w1, w2, w3⟩ := S9.unhold
              refine q (.ref p) F4 _ (s1.trans (s2.trans (s3.trans s4))) S10 ?_
              unfold RpE
              exact ⟨p, rfl, own_dic upd_same (pr_put (pr_of el (RpL.mono (s2.trans (s3.trans s4)) _ _ rl)) r4), w2, N.b, N.np, w3, N.n⟩
            · cases ef
          · cases ef
        · cases ef
      · cases ef
    · cases ef
end
@[simp] theorem wE_dup (f g h : EM) (Γ : Gm) (Q : EV → Gm → Prop) : wE (eDUp f g h) Γ Q = wE f Γ fun e0 Γ0 => wImm e0.fz fun d0 => wDic d0 fun l => l.length ≤ 1000 ∧ wE g Γ0 fun e1 Γ1 => wKey e1.fz fun k => wE h Γ1 fun e2 Γ2 =>
    e2.fz.ok = true ∧ wO (settle e2.fz Γ2) fun q => Q (.fr (dicL (putL l k q.1))) q.2 := by
  unfold wE eDUp
  simp only [wE_bind]
  congr; funext e0 Γ0
  cases e0.fz with
  | imm d0 =>
    cases d0 with
    | dic ks ds =>
      rw [wImm_imm]
      simp only [wDic, mE_if, wE_bind]
      congr; funext e1 Γ1
      unfold wKey
      cases keyE e1.fz with
      | none => simp
      | some k =>
        simp only [wO_some]
        show mE ((h Γ1).bind _) Q = _
        rw [wE_bind]
        congr; funext e2 Γ2
        unfold dupK
        rw [mE_if]
        congr 1
        cases settle e2.fz Γ2 <;> simp
    | _ => simp [wImm, wDic]
  | _ => simp [wImm]
/-! xs != []: only the lengths are asked -/
def oNeE : O2
  | .lst ds, .lst [] => some (.imm (.bl (!ds.isEmpty)))
  | _, _ => none
@[simp] theorem oNeE_l (ds : List D) : oNeE (.lst ds) (.lst []) = some (.imm (.bl (!ds.isEmpty))) := rfl
def rNeE (K : PySem.W.Frag) : R2 := fun x y H Q => ∃ (a b : Addr) (vs : List V), x = .ref a ∧ y = .ref b ∧ SqL K H a vs ∧ SqL K H b [] ∧ Q (.bl (!vs.isEmpty)) H
section
variable {X : Cx}
theorem op_neE (hu : X.A.units + 64 < cLine) : OpR X (compareOp .NotEq) (rNeE X.K) := by
  intro pins s σ H x y v u Q I rx ry ⟨a, b, vs, ex, ey, ha, hb, q⟩
  subst ex ey
  obtain rfl : v = Value.ref a := rx
  obtain rfl : u = Value.ref b := ry
  obtain ⟨i1, r1, l1, _⟩ := I.list ha
  obtain ⟨i2, r2, l2, _⟩ := I.list hb
  cases r2
  cases vs with
  | nil =>
    cases r1
    exact SeqAt.RcNeAt.lists (e := fun _ => true) l1.isList l2.isList rfl (by omega) (fun j h1 _ => by simp at h1) _ _ _ _ ⟨.bl false, H, I, rfl, q⟩
  | cons v0 vs =>
    have hl := r1.length
    exact SeqAt.RcNeAt.lists_lengths l1.isList l2.isList (by rw [List.size_toArray, ← hl]; simp) (by omega) _ _ _ _ ⟨.bl true, H, I, rfl, q⟩
theorem od_neE : OpD X (rNeE X.K) oNeE := by
  intro W F H ρ σ Γ d1 d2 v1 v2 e Q eK S r1 r2 h w
  rw [← eK]
  unfold oNeE at h
  split at h
  · cases h
    obtain ⟨a, vs, rfl, ha, ra⟩ := rd_lst r1
    obtain ⟨b, us, rfl, hb, rb⟩ := rd_lst r2
    have eu := rpl_nil_inv rb
    subst eu
    refine ⟨a, b, vs, rfl, rfl, SqL.of ha, SqL.of hb, ?_⟩
    rename_i ds
    have e : vs.isEmpty = ds.isEmpty := by
      have := rpl_len ra
      cases vs <;> cases ds <;> simp at this ⊢
    rw [e]
    exact w.here S rp_bl
  · cases h
end
end DL

namespace DL
noncomputable section
def g_is_integer : SM :=
  (sRetOk (eAnd (eUn (oIsi [.int]) (eName 0)) (eNot (eUn (oIsi [.bool]) (eName 0)))))
def f_is_integer : FS := runF 1 [false] g_is_integer

def g_check_from : SM :=
  (sIf (eOr (eNot (eCallOk [false] f_is_integer (aCons (eName 0) aNil))) (eBin oLt (eName 0) (eName 1))) sNo sNil)
def f_check_from : FS := runF 2 [false, false] g_check_from

def g_is_of : SM :=
  (sRetOk (eAnd (eUn (oIsi [.str]) (eName 0)) (eB oAll (aCons (eLc [2] (iAny (eName 0)) (.nm 2) none (eBin (oIn false) (eName 2) (eName 1))) aNil))))
def f_is_of : FS := runF 3 [false, false] g_is_of

def g_is_word_of : SM :=
  (sRetOk (eCallOk [false, false] f_is_of (aCons (eName 0) (aCons (eC (.str [97, 98, 99, 100, 101, 102, 103, 104, 105, 106, 107, 108, 109, 110, 111, 112, 113, 114, 115, 116, 117, 118, 119, 120, 121, 122])) aNil))))
def f_is_word_of : FS := runF 1 [false] g_is_word_of

def g_check_word : SM :=
  (sIf (eNot (eCallOk [false] f_is_word_of (aCons (eName 0) aNil))) sNo sNil)
def f_check_word : FS := runF 1 [false] g_check_word

def g_is_pattern_of : SM :=
  (sRetOk (eAnd (eCallOk [false, false] f_is_of (aCons (eName 0) (aCons (eC (.str [65, 66, 67, 68, 69, 70, 71, 72, 73, 74, 75, 76, 77, 78, 79, 80, 81, 82, 83, 84, 85, 86, 87, 88, 89, 90])) aNil))) (eBin (oEq true) (eName 0) (eC (.str [])))))
def f_is_pattern_of : FS := runF 1 [false] g_is_pattern_of

def g_is_pattern : SM :=
  (sRetOk (eCallOk [false] f_is_pattern_of (aCons (eName 0) aNil)))
def f_is_pattern : FS := runF 1 [false] g_is_pattern

def g_check_pattern : SM :=
  (sIf (eNot (eCallOk [false] f_is_pattern_of (aCons (eName 0) aNil))) sNo sNil)
def f_check_pattern : FS := runF 1 [false] g_check_pattern

def g_ways_at (r : FS) : SM :=
  (sSeq (sIf (eBin (oEq false) (eName 1) (eC (.str []))) (sRetOk (eLst (aCons (eName 2) aNil))) sNil)
  (sSeq (sPar 5 false (eBin oIx (eName 1) (eC (.int 0))) 6 false (eSl (eName 1) (some (eC (.int 1))) none))
  (sSeq (sOwnOk 3 (eLst aNil))
  (sSeq (sFor (iR2 (eC (.int 1)) (eBin oAdd (eBin oSub (eB oLen (aCons (eName 0) aNil)) (eB oLen (aCons (eName 6) aNil))) (eC (.int 1)))) (.nm 4) (sSeq (sSetOk 7 (eSl (eName 0) none (some (eName 4))))
    (sIf (eBin (oEq false) (eGet2 (eName 2) (eName 5) (eName 7)) (eName 7)) (sExprOk (eExtend 3 (eCallOk [false, false, false] r (aCons (eSl (eName 0) (some (eName 4)) none) (aCons (eName 6) (aCons (eDUp (eName 2) (eName 5) (eName 7)) aNil)))))) sNil)))
  (sRetOk (eName 3))))))
def f_ways_at : Nat → FS
  | 0 => runF 8 [false, false, false] sNo
  | n + 1 => runF 8 [false, false, false] (g_ways_at (f_ways_at n))

def g_meets : SM :=
  (sSeq (sExprOk (eCallOk [false] f_check_word (aCons (eName 0) aNil)))
  (sSeq (sExprOk (eCallOk [false] f_check_pattern (aCons (eName 1) aNil)))
  (sSeq (sFor (iR1 (eB oLen (aCons (eName 0) aNil))) (.nm 2) (sSeq (sSetOk 3 (eCallOk [false, false, false] (f_ways_at 24) (aCons (eSl (eName 0) (some (eName 2)) none) (aCons (eName 1) (aCons eDNew aNil)))))
    (sIf (eBin oNeE (eName 3) (eLst aNil)) (sRetOk (eTup (aCons (eName 2) (aCons (eB oMinU (aCons (eLc [4] (iAny (eName 3)) (.nm 4) none (eB oTuple (aCons (eLc [5] (iAny (eB oSortKD (aCons (eName 4) aNil))) (.nm 5) none (eTup (aCons (eName 5) (aCons (eBin oIxD (eName 4) (eName 5)) aNil)))) aNil))) aNil)) aNil)))) sNil)))
  (sRetOk (eC .non)))))
def f_meets : FS := runF 6 [false, false] g_meets

def g_zimin_of : SM :=
  (sSeq (sSetOk 1 (eC (.str [])))
  (sSeq (sFor (iAny (eSl (eC (.str [65, 66, 67, 68, 69, 70, 71, 72, 73, 74, 75, 76, 77, 78, 79, 80, 81, 82, 83, 84, 85, 86, 87, 88, 89, 90])) none (some (eName 0)))) (.nm 2) (sSetOk 1 (eBin oAdd (eBin oAdd (eName 1) (eName 2)) (eName 1))))
  (sRetOk (eName 1))))
def f_zimin_of : FS := runF 3 [false] g_zimin_of

def g_zimin : SM :=
  (sSeq (sExprOk (eCallOk [false, false] f_check_from (aCons (eName 0) (aCons (eC (.int 0)) aNil))))
  (sRetOk (eCallOk [false] f_zimin_of (aCons (eName 0) aNil))))
def f_zimin : FS := runF 1 [false] g_zimin

def g_law_take : SM :=
  (sSeq (sIf (eAnd (eBin (oEq false) (eBin oIx (eName 0) (eC (.int 0))) (eC (.int 0))) (eBin oLt (eBin oIx (eName 0) (eC (.int 2))) (eB oLen (aCons (eName 0) aNil)))) (sSeq (sSetOk 2 (eBin oIx (eName 0) (eBin oIx (eName 0) (eC (.int 2)))))
    (sSeq (sAugIx 0 (eC (.int 2)) (eC (.int 1)) (· + ·))
    (sIf (eBin oGe (eName 2) (eBin oPow (eC (.int 10)) (eC (.int 18)))) (sIx 0 (eC (.int 0)) (eBin oSub (eName 2) (eBin oPow (eC (.int 10)) (eC (.int 18))))) (sSeq (sSetOk 4 (eBin oMod (eB oInt (aCons (eName 2) aNil)) (eC (.int 2147483647))))
      (sSeq (sSetOk 4 (eBin oMod (eB oInt (aCons (eBin oAdd (eBin oAdd (eBin oMul (eName 4) (eName 4)) (eBin oMul (eC (.int 69621)) (eName 4))) (eBin oMul (eC (.int 977)) (eBin oIx (eName 0) (eC (.int 2))))) aNil)) (eC (.int 2147483629))))
      (sIx 0 (eC (.int 1)) (eBin oMod (eB oInt (aCons (eBin oAdd (eBin oIx (eName 0) (eC (.int 1))) (eName 4)) aNil)) (eC (.int 2147483629))))))))) sNil)
  (sSeq (sIf (eBin oGt (eBin oIx (eName 0) (eC (.int 0))) (eC (.int 0))) (sSeq (sSetOk 3 (eBin oMod (eB oInt (aCons (eBin oIx (eName 0) (eC (.int 0))) aNil)) (eName 1)))
    (sSeq (sIx 0 (eC (.int 0)) (eBin oDiv (eBin oIx (eName 0) (eC (.int 0))) (eName 1)))
    (sRetOk (eName 3)))) sNil)
  (sSeq (sIx 0 (eC (.int 1)) (eBin oMod (eB oInt (aCons (eBin oAdd (eBin oAdd (eBin oMul (eBin oIx (eName 0) (eC (.int 1))) (eC (.int 48271))) (eBin oMul (eC (.int 40692)) (eBin oIx (eName 0) (eC (.int 2))))) (eC (.int 11))) aNil)) (eC (.int 2147483647))))
  (sSeq (sIx 0 (eC (.int 1)) (eBin oMod (eB oInt (aCons (eBin oAdd (eBin oMul (eBin oIx (eName 0) (eC (.int 1))) (eBin oIx (eName 0) (eC (.int 1)))) (eC (.int 7))) aNil)) (eC (.int 2147483629))))
  (sRetOk (eBin oMod (eB oInt (aCons (eBin oDiv (eBin oIx (eName 0) (eC (.int 1))) (eC (.int 8))) aNil)) (eName 1)))))))
def f_law_take : FS := runF 5 [true, false] g_law_take

def g_law_same (r : FS) : SM :=
  (sSeq (sIf (eBin oIs (eName 1) (eC .non)) (sRetOk (eBin oIs (eName 0) (eC .non))) sNil)
  (sSeq (sIf (eUn (oIsi [.bool, .str]) (eName 1)) (sRetOk (eAnd (eBin (oEq false) (eUn (oIsi [.bool]) (eName 0)) (eUn (oIsi [.bool]) (eName 1))) (eAnd (eUn (oIsi [.bool, .str]) (eName 0)) (eBin (oEq false) (eName 0) (eName 1))))) sNil)
  (sSeq (sIf (eUn (oIsi [.int]) (eName 1)) (sRetOk (eAnd (eUn (oIsi [.int]) (eName 0)) (eAnd (eNot (eUn (oIsi [.bool]) (eName 0))) (eBin (oEq false) (eName 0) (eName 1))))) sNil)
  (sSeq (sIf (eOr (eBin (oEq true) (eUn (oIsi [.list]) (eName 1)) (eUn (oIsi [.list]) (eName 0))) (eBin (oEq true) (eUn (oIsi [.tuple]) (eName 1)) (eUn (oIsi [.tuple]) (eName 0)))) (sRetOk (eC (.bl false))) sNil)
  (sRetOk (eAnd (eBin (oEq false) (eB oLen (aCons (eName 0) aNil)) (eB oLen (aCons (eName 1) aNil))) (eB oAll (aCons (eLc [2] (iR1 (eB oLen (aCons (eName 1) aNil))) (.nm 2) none (eCallOk [false, false] r (aCons (eBin oIx (eName 0) (eName 2)) (aCons (eBin oIx (eName 1) (eName 2)) aNil)))) aNil))))))))
def f_law_same : Nat → FS
  | 0 => runF 3 [false, false] sNo
  | n + 1 => runF 3 [false, false] (g_law_same (f_law_same n))

def g_law_cuts (r : FS) : SM :=
  (sSeq (sIf (eBin (oEq false) (eName 1) (eC (.int 0))) (sRetOk (eLst (aCons (eTup aNil) aNil))) sNil)
  (sSeq (sSetOk 2 (eLst aNil))
  (sSeq (sFor (iR2 (eC (.int 1)) (eBin oAdd (eBin oSub (eB oLen (aCons (eName 0) aNil)) (eName 1)) (eC (.int 2)))) (.nm 3) (sSetOk 2 (eBin oAdd (eName 2) (eLc [4] (iAny (eCallOk [false, false] r (aCons (eSl (eName 0) (some (eName 3)) none) (aCons (eBin oSub (eName 1) (eC (.int 1))) aNil)))) (.nm 4) none (eBin oAdd (eTup (aCons (eSl (eName 0) none (some (eName 3))) aNil)) (eName 4))))))
  (sRetOk (eName 2)))))
def f_law_cuts : Nat → FS
  | 0 => runF 5 [false, false] sNo
  | n + 1 => runF 5 [false, false] (g_law_cuts (f_law_cuts n))

def g_law_values : SM :=
  (sSeq (sOwnOk 2 eDNew)
  (sSeq (sFor (iZipD (aCons (eName 0) (aCons (eName 1) aNil))) (.tp ((.nm 3) :: ((.nm 4) :: []))) (sSeq (sIf (eBin (oEq true) (eGet2 (eName 2) (eName 4) (eName 3)) (eName 3)) (sRetOk (eC .non)) sNil)
    (sPutD 2 (eName 4) (eName 3))))
  (sRetOk (eB oTuple (aCons (eLc [4] (iAny (eB oSortKD (aCons (eName 2) aNil))) (.nm 4) none (eTup (aCons (eName 4) (aCons (eBin oIxD (eName 2) (eName 4)) aNil)))) aNil)))))
def f_law_values : FS := runF 5 [false, false] g_law_values

def g_law_met : SM :=
  (sSeq (sFor (iR1 (eB oLen (aCons (eName 0) aNil))) (.nm 2) (sSeq (sSetOk 3 (eLc [4] (iAny (eCallOk [false, false] (f_law_cuts 24) (aCons (eSl (eName 0) (some (eName 2)) none) (aCons (eB oLen (aCons (eName 1) aNil)) aNil)))) (.nm 4) none (eCallOk [false, false] f_law_values (aCons (eName 4) (aCons (eName 1) aNil)))))
    (sSeq (sSetOk 3 (eLc [5] (iAny (eName 3)) (.nm 5) (some (eBin oIsNot (eName 5) (eC .non))) (eName 5)))
    (sIf (eBin (oEq true) (eName 3) (eLst aNil)) (sRetOk (eTup (aCons (eName 2) (aCons (eB oMinU (aCons (eName 3) aNil)) aNil)))) sNil))))
  (sRetOk (eC .non)))
def f_law_met : FS := runF 6 [false, false] g_law_met

def t_1 : SM :=
  (sIf (eNot (eCallOk [false, false] (f_law_same 24) (aCons (eLst (aCons (eCallOk [false] f_is_pattern (aCons (eName 3) aNil)) (aCons (eCallOk [false] f_is_pattern (aPerm [0] 0 1 aNil (aCons (eName 3) aNil))) (aCons (eCallOk [false] f_is_pattern (aCons (eName 11) aNil)) aNil)))) (aCons (eLst (aCons (eC (.bl true)) (aCons (eC (.bl true)) (aCons (eC (.bl false)) aNil)))) aNil)))) (sRetOk (eC (.bl false))) sNil)
def t_2 : SM :=
  (sSeq (sSetOk 11 (eBin oIx (eLst (aCons (eC (.str [])) (aCons (eC (.str [97])) (aCons (eC (.str [65, 32])) (aCons (eC .non) (aCons (eTup (aCons (eC (.str [65])) aNil)) (aCons (eC (.int 7)) aNil))))))) (eCallOk [true, false] f_law_take (aCons (eName 1) (aCons (eC (.int 6)) aNil)))))
    t_1)
def t_3 : SM :=
  (sSeq (sIf (eNot (eCallOk [false, false] (f_law_same 24) (aCons (eLst (aCons (eCallOk [false] f_zimin (aCons (eBin oAdd (eName 9) (eC (.int 1))) aNil)) (aCons (eCallOk [false] f_zimin (aPerm [0] 0 1 aNil (aCons (eName 9) aNil))) (aCons (eCallOk [false] f_zimin (aCons (eC (.int 0)) aNil)) aNil)))) (aCons (eLst (aCons (eBin oAdd (eBin oAdd (eCallOk [false] f_zimin (aCons (eName 9) aNil)) (eName 10)) (eCallOk [false] f_zimin (aCons (eName 9) aNil))) (aCons (eCallOk [false] f_zimin (aCons (eName 9) aNil)) (aCons (eC (.str [])) aNil)))) aNil)))) (sRetOk (eC (.bl false))) sNil)
    t_2)
def t_4 : SM :=
  (sSeq (sSetOk 10 (eBin oIx (eC (.str [65, 66, 67, 68, 69, 70, 71])) (eName 9)))
    t_3)
def t_5 : SM :=
  (sSeq (sSetOk 9 (eCallOk [true, false] f_law_take (aCons (eName 1) (aCons (eC (.int 5)) aNil))))
    t_4)
def t_6 : SM :=
  (sSeq (sIf (eOr (eBin oIs (eName 8) (eC .non)) (eAnd (eBin oLt (eB oLen (aCons (eName 7) aNil)) (eC (.int 11))) (eNot (eCallOk [false, false] (f_law_same 24) (aCons (eName 8) (aCons (eCallOk [false, false] f_law_met (aCons (eName 7) (aCons (eName 3) aNil))) aNil)))))) (sRetOk (eC (.bl false))) sNil)
    t_5)
def t_7 : SM :=
  (sSeq (sSetOk 8 (eCallOk [false, false] f_meets (aCons (eName 7) (aCons (eName 3) aNil))))
    t_6)
def t_8 : SM :=
  (sSeq (sSetOk 7 (eBin oAdd (eBin oAdd (eBin oIx (eLst (aCons (eC (.str [])) (aCons (eC (.str [98])) aNil))) (eCallOk [true, false] f_law_take (aCons (eName 1) (aCons (eC (.int 2)) aNil)))) (eName 7)) (eBin oIx (eLst (aCons (eC (.str [])) (aCons (eC (.str [99])) aNil))) (eCallOk [true, false] f_law_take (aCons (eName 1) (aCons (eC (.int 2)) aNil))))))
    t_7)
def t_9 : SM :=
  (sSeq (sSetOk 7 (eM1 oJoin (eC (.str [])) (eLc [12] (iAny (eName 3)) (.nm 12) none (eBin oIx (eBin oIx (eName 6) (eM1 oSIdx (eC (.str [65, 66, 67])) (eName 12))) (eC (.int 1))))))
    t_8)
def t_10 : SM :=
  (sSeq (sSetOk 6 (eLc [12] (iAny (eC (.str [65, 66, 67]))) (.nm 12) none (eTup (aCons (eName 12) (aCons (eBin oAdd (eBin oIx (eC (.str [97, 98])) (eCallOk [true, false] f_law_take (aCons (eName 1) (aCons (eC (.int 2)) aNil)))) (eBin oIx (eLst (aCons (eC (.str [])) (aCons (eC (.str [97])) (aCons (eC (.str [99])) aNil)))) (eCallOk [true, false] f_law_take (aCons (eName 1) (aCons (eC (.int 3)) aNil))))) aNil)))))
    t_9)
def t_11 : SM :=
  (sSeq (sIf (eNot (eCallOk [false, false] (f_law_same 24) (aCons (eLst (aCons (eCallOk [false, false] f_meets (aCons (eName 4) (aCons (eName 3) aNil))) (aCons (eCallOk [false, false] f_meets (aPerm [1, 0] 0 2 aNil (aCons (eName 3) (aCons (eName 4) aNil)))) aNil))) (aCons (eLst (aCons (eName 5) (aCons (eName 5) aNil))) aNil)))) (sRetOk (eC (.bl false))) sNil)
    t_10)
def t_12 : SM :=
  (sSeq (sSetOk 5 (eCallOk [false, false] f_law_met (aCons (eName 4) (aCons (eName 3) aNil))))
    t_11)
def t_13 : SM :=
  (sSeq (sSetOk 4 (eM1 oJoin (eC (.str [])) (eLc [9] (iR1 (eCallOk [true, false] f_law_take (aCons (eName 1) (aCons (eC (.int 11)) aNil)))) (.nm 9) none (eBin oIx (eC (.str [97, 98, 99])) (eCallOk [true, false] f_law_take (aCons (eName 1) (aCons (eC (.int 3)) aNil)))))))
    t_12)
def t_14 : SM :=
  (sSeq (sSetOk 3 (eM1 oJoin (eC (.str [])) (eLc [9] (iR1 (eBin oAdd (eC (.int 1)) (eCallOk [true, false] f_law_take (aCons (eName 1) (aCons (eC (.int 4)) aNil))))) (.nm 9) none (eBin oIx (eC (.str [65, 66, 67])) (eCallOk [true, false] f_law_take (aCons (eName 1) (aCons (eC (.int 3)) aNil)))))))
    t_13)
def t_15 : SM :=
  (sSeq (sFor (iR1 (eC (.int 4))) (.nm 2) t_14)
  (sRetOk (eC (.bl true))))
def t_16 : SM :=
  (sSeq (sOwnOk 1 (eBin oAdd (eLst (aCons (eC (.int 0)) (aCons (eC (.int 7)) (aCons (eC (.int 3)) aNil)))) (eB oList (aCons (eName 0) aNil))))
  t_15)
def g_law : SM :=
  t_16
def f_law : FS := runF 13 [false] g_law
end
end DL

namespace DL
open PySem PySem.Spec PyProof.Rows L2
/-! ## the drawing pot -/
def PotOk (p : List D) : Prop := ∃ (a b c : Int) (r : List Int), p = .int a :: .int b :: .int c :: r.map D.int ∧ 0 ≤ a ∧ 0 ≤ b ∧ b < 2147483648 ∧ 3 ≤ c ∧ c ≤ r.length + 3
theorem cell_at {a b c : Int} {r : List Int} (hc : 3 ≤ c) (h : c < r.length + 3) : ∃ x : Int, atI (D.int a :: D.int b :: D.int c :: r.map D.int) c = some (.int x) := by
  rw [atI_n (by omega) (by simp; omega)]
  obtain ⟨n, rfl⟩ : ∃ n : Nat, c = (n : Int) + 3 := ⟨(c - 3).toNat, by omega⟩
  have e : ((n : Int) + 3).toNat = n + 1 + 1 + 1 := by omega
  rw [e]
  have hn : n < r.length := by omega
  exact ⟨r[n], by simp [hn]⟩
theorem take_w {p : List D} {m : Int} {Q : Bool → D → List D → Prop} (h : PotOk p) (h0 : 0 < m) (h1 : m < 1073741824) (q : ∀ r p', PotOk p' → 0 ≤ r → r < m → Q false (.int r) [.lst p']) : wF f_law_take [.lst p, .int m] Q := by
  obtain ⟨a, b, c, r, rfl, ha, hb, hb2, hc, hc2⟩ := h
  have mm : ∀ x : Int, 0 ≤ x % m ∧ x % m < m := fun x => ⟨Int.emod_nonneg _ (by omega), Int.emod_lt_of_pos _ h0⟩
  have fin1 : ∀ (a b c : Int), 0 < a → 0 ≤ b → b < 2147483648 → 3 ≤ c → c ≤ r.length + 3 → Q false (D.int (a % m)) [D.lst (D.int (a / m) :: D.int b :: D.int c :: List.map D.int r)] := fun a b c ha hb hb2 hc hc2 =>
    q _ _ ⟨_, _, _, _, rfl, Int.ediv_nonneg (by omega) (by omega), hb, hb2, hc, hc2⟩ (mm _).1 (mm _).2
  have fin2 : ∀ (a b c x y : Int), 0 ≤ a → 0 ≤ b → b < 2147483648 → 3 ≤ c → c ≤ r.length + 3 → Q false (D.int (x % m)) [D.lst (D.int a :: D.int b :: D.int c :: List.map D.int r)] := fun a b c x y ha hb hb2 hc hc2 =>
    q _ _ ⟨_, _, _, _, rfl, ha, hb, hb2, hc, hc2⟩ (mm _).1 (mm _).2
  unfold f_law_take
  refine wF_run rfl (by decide) ?_
  by_cases hcl : c < r.length + 3
  · obtain ⟨cell, hcell⟩ := cell_at (a := a) (b := b) hc hcl
    have hcl' : c < (r.length : Int) + 1 + 1 + 1 := by omega
    simp [g_law_take, hcell, h0, h1, hcl']
    repeat' (first | apply And.intro | intro _)
    all_goals first | omega | exact fin1 _ _ _ (by omega) (by omega) (by omega) (by omega) (by omega) | exact fin2 _ _ _ _ 0 (by omega) (by omega) (by omega) (by omega) (by omega)
  · have hcl' : ¬ c < (r.length : Int) + 1 + 1 + 1 := by omega
    simp [g_law_take, h0, h1, hcl']
    repeat' (first | apply And.intro | intro _)
    all_goals first | omega | exact fin1 _ _ _ (by omega) (by omega) (by omega) (by omega) (by omega) | exact fin2 _ _ _ _ 0 (by omega) (by omega) (by omega) (by omega) (by omega)
/-! ## what the law calls the same -/
theorem isN_of {d : D} (h : isN d = true) : d = .non := by cases d <;> first | rfl | cases h
def nI (n : Nat) : D := .int n
theorem rng1_nat (n : Nat) : rng1 (n : Int) = (List.range n).map nI := by unfold rng1; simp [nI]
theorem atI_nat' {α : Type} {xs : List α} {j : Nat} (h : j < xs.length) : atI xs (j : Int) = some xs[j] := by
  rw [atI_n (by omega) (by omega)]; simp [h]
theorem range_get {n i : Nat} {d : D} (h : ((List.range n).map nI)[i]? = some d) : i < n ∧ d = nI i := by
  have hl : i < n := by
    have := (List.getElem?_eq_some_iff.mp h).1
    simpa using this
  refine ⟨hl, ?_⟩
  simp [hl] at h
  exact h.symm
theorem dep_mem {ds : List D} {d : D} (h : d ∈ ds) : dep d ≤ deps ds := by
  induction ds with
  | nil => cases h
  | cons x ds ih =>
    unfold deps
    rcases List.mem_cons.mp h with rfl | h
    · exact Nat.le_max_left _ _
    · exact Nat.le_trans (ih h) (Nat.le_max_right _ _)
theorem okE_mem {ds : List D} {d : D} (h : d ∈ ds) (k : okEs ds = true) : okE d = true := by
  induction ds with
  | nil => cases h
  | cons x ds ih =>
    unfold okEs at k
    rw [Bool.and_eq_true] at k
    rcases List.mem_cons.mp h with rfl | h
    · exact k.1
    · exact ih h k.2
mutual
/-- no dict, no long list within -/
def fine : D → Bool
  | .tup ds => fines ds && decide (ds.length ≤ 1000000)
  | .lst ds => fines ds && decide (ds.length ≤ 1000000)
  | .frl _ => false
  | .dic _ _ => false
  | .dct _ _ => false
  | .lkd _ _ => false
  | .lkt _ _ => false
  | _ => true
def fines : List D → Bool
  | [] => true
  | d :: ds => fine d && fines ds
end
theorem fine_mem {ds : List D} {d : D} (h : d ∈ ds) (k : fines ds = true) : fine d = true := by
  induction ds with
  | nil => cases h
  | cons x ds ih =>
    unfold fines at k
    rw [Bool.and_eq_true] at k
    rcases List.mem_cons.mp h with rfl | h
    · exact k.1
    · exact ih h k.2
theorem same_seq {n : Nat} {x : D} {ds : List D} {Q : Bool → D → List D → Prop} (hx : x = .tup ds ∨ x = .lst ds) (hl : ds.length ≤ 1000000) (ih : ∀ d ∈ ds, ∀ Q : Bool → D → List D → Prop, Q false (.bl true) [] → wF (f_law_same n) [d, d] Q)
    (q : Q false (.bl true) []) : wF (f_law_same (n + 1)) [x, x] Q := by
  unfold f_law_same
  refine wF_run rfl (by decide) ?_
  have I : wL (.nm 2) [2] none (eCallOk [false, false] (f_law_same n) (aCons (eBin oIx (eName 0) (eName 2)) (aCons (eBin oIx (eName 1) (eName 2)) aNil))) (rng1 ds.length) [] [.val x, .val x, .un]
      (fun acc Γ => ∃ s, Γ = [.val x, .val x, s] ∧ acc = (List.replicate ds.length true).map D.bl) := by
    rw [rng1_nat]
    refine lc_inv (fun i acc Γ => ∃ s, isOwn (some s) = false ∧ Γ = [.val x, .val x, s] ∧ acc = (List.replicate i true).map D.bl) ⟨.un, rfl, rfl, rfl⟩ (fun i d acc Γ hd hI => ?_) (fun acc Γ hI => ?_)
    · obtain ⟨hi, rfl⟩ := range_get hd
      obtain ⟨s, hs, rfl, rfl⟩ := hI
      have hm : ds[i] ∈ ds := List.getElem_mem hi
      rcases hx with rfl | rfl
      · simp [hs, nI, atI_nat' hi]
        refine ih _ hm _ ?_
        simp [wipeG]
        exact ⟨sz63 (by omega), .un, rfl, rfl, by rw [List.replicate_succ']⟩
      · simp [hs, nI, atI_nat' hi]
        refine ih _ hm _ ?_
        simp [wipeG]
        exact ⟨sz63 (by omega), .un, rfl, rfl, by rw [List.replicate_succ']⟩
    · obtain ⟨s, hs, rfl, rfl⟩ := hI
      exact ⟨s, rfl, by simp⟩
  have hl2 : (ds.length : Int) < 4611686018427387904 := by omega
  rcases hx with rfl | rfl
  · simp [g_law_same, isN, isTy, hl2]
    refine wL_imp I fun acc Γ ⟨s, h2, h3⟩ => ?_
    rw [h3, oAll_b]
    simp [h2, resG, wipeG]
    exact q
  · simp [g_law_same, isN, isTy, hl2]
    refine wL_imp I fun acc Γ ⟨s, h2, h3⟩ => ?_
    rw [h3, oAll_b]
    simp [h2, resG, wipeG]
    exact q
theorem same_w : ∀ (n : Nat) (x : D), dep x < n → fine x = true → ∀ Q : Bool → D → List D → Prop, Q false (.bl true) [] → wF (f_law_same n) [x, x] Q := by
  intro n
  induction n with
  | zero => intro x h; omega
  | succ n ih =>
    intro x h hf Q q
    cases x with
    | tup ds =>
      unfold fine at hf
      simp only [Bool.and_eq_true, decide_eq_true_eq] at hf
      unfold dep at h
      exact same_seq (.inl rfl) hf.2 (fun d hd => ih d (by have := dep_mem hd; omega) (fine_mem hd hf.1)) q
    | lst ds =>
      unfold fine at hf
      simp only [Bool.and_eq_true, decide_eq_true_eq] at hf
      unfold dep at h
      exact same_seq (.inr rfl) hf.2 (fun d hd => ih d (by have := dep_mem hd; omega) (fine_mem hd hf.1)) q
    | frl ds => simp [fine] at hf
    | dic ks ds => simp [fine] at hf
    | dct ks ds => simp [fine] at hf
    | lkd ks ds => simp [fine] at hf
    | lkt ks ds => simp [fine] at hf
    | non =>
      unfold f_law_same
      refine wF_run rfl (by decide) ?_
      simp [g_law_same, isN]
      exact q
    | bl b =>
      unfold f_law_same
      refine wF_run rfl (by decide) ?_
      simp [g_law_same, isN, isTy]
      exact q
    | int i =>
      unfold f_law_same
      refine wF_run rfl (by decide) ?_
      simp [g_law_same, isN, isTy]
      exact q
    | str s =>
      unfold f_law_same
      refine wF_run rfl (by decide) ?_
      simp [g_law_same, isN, isTy]
      exact q
end DL

namespace DL
open PySem PySem.Spec PyProof.Rows L2
theorem joinL_nil : ∀ ys : List (List Nat), joinL [] ys = ys.flatten
  | [] => rfl
  | [y] => by simp [joinL]
  | y :: z :: r => by
    have := joinL_nil (z :: r)
    unfold joinL
    rw [this]
    simp
theorem len1 {ws : List (List Nat)} (h : ∀ w ∈ ws, w.length = 1) : (ws.map List.length).sum = ws.length := by
  induction ws with
  | nil => rfl
  | cons w ws ih =>
    simp only [List.map_cons, List.sum_cons, List.length_cons]
    rw [ih fun v hv => h v (List.mem_cons_of_mem _ hv), h w (List.mem_cons_self ..)]
    omega
theorem flat_len1 {ws : List (List Nat)} (h : ∀ w ∈ ws, w.length = 1) : ws.flatten.length = ws.length := by
  rw [List.length_flatten]; exact len1 h
theorem sIx_hi (n : Nat) (v : Int) (h : 0 ≤ v) : HT.sIx n n (some v) = min v.toNat n := by
  show (if v < 0 then _ else _) = _
  rw [if_neg (by omega)]
theorem cutL_to {α : Type} (xs : List α) (v : Int) (h : 0 ≤ v) : cutL xs none (some v) = xs.take v.toNat := by
  unfold cutL
  rw [HT.sIx_none, sIx_hi _ _ h]
  simp only [Nat.sub_zero, List.drop_zero]
  rw [List.take_eq_take_iff]
  omega
theorem cutL_from {α : Type} (xs : List α) (v : Int) (h : 0 ≤ v) : cutL xs (some v) none = xs.drop v.toNat := by
  unfold cutL
  rw [HT.sIx_none]
  have : HT.sIx xs.length 0 (some v) = min v.toNat xs.length := by show (if v < 0 then _ else _) = _; rw [if_neg (by omega)]
  rw [this]
  by_cases hv : v.toNat ≤ xs.length
  · rw [Nat.min_eq_left hv, List.take_of_length_le (by simp)]
  · rw [Nat.min_eq_right (by omega), List.drop_eq_nil_of_le (Nat.le_refl _), List.drop_eq_nil_of_le (by omega)]; simp
end DL

namespace DL
open PySem PySem.Spec PyProof.Rows L2
/-! ## words of letters -/
def abc : List Nat := [97, 98, 99, 100, 101, 102, 103, 104, 105, 106, 107, 108, 109, 110, 111, 112, 113, 114, 115, 116, 117, 118, 119, 120, 121, 122]
def isLet (c : Nat) : Bool := decide (97 ≤ c ∧ c ≤ 122)
def isW : D → Bool
  | .str s => s.all isLet
  | _ => false
theorem mem_abc (c : Nat) : isub [c] [97, 98, 99, 100, 101, 102, 103, 104, 105, 106, 107, 108, 109, 110, 111, 112, 113, 114, 115, 116, 117, 118, 119, 120, 121, 122] = isLet c := by
  rw [isub_one]
  unfold isLet
  by_cases h : 97 ≤ c ∧ c ≤ 122
  · rw [decide_eq_true h, decide_eq_true_eq]
    simp only [List.mem_cons]
    omega
  · rw [decide_eq_false h, decide_eq_false_iff_not]
    simp only [List.mem_cons, List.not_mem_nil, or_false]
    omega
theorem isW_of {s : List Nat} (h : ∀ c ∈ s, 97 ≤ c ∧ c ≤ 122) : isW (.str s) = true := by
  show s.all isLet = true
  rw [List.all_eq_true]
  exact fun c hc => decide_eq_true (h c hc)
theorem filter_all {α : Type} (xs : List α) : xs.filter (fun _ => true) = xs := by
  induction xs with
  | nil => rfl
  | cons x xs ih => rw [List.filter_cons_of_pos rfl, ih]
theorem is_of_w {d : D} {Q : Bool → D → List D → Prop} (hl : ∀ s, d = .str s → s.length ≤ 1000000) (q : Q false (.bl (isW d)) []) : wF f_is_of [d, .str [97, 98, 99, 100, 101, 102, 103, 104, 105, 106, 107, 108, 109, 110, 111, 112, 113, 114, 115, 116, 117, 118, 119, 120, 121, 122]] Q := by
  unfold f_is_of
  refine wF_run rfl (by decide) ?_
  cases d with
  | str s =>
    simp [g_is_of, isTy, wipeG]
    refine lc_pure (fun _ => true) (fun d => match d with
      | .str [c] => .bl (isLet c)
      | _ => .non) rfl (by simpa using hl s rfl) (fun d hd => ?_) ?_
    · obtain ⟨c, hc, rfl⟩ := List.mem_map.mp hd
      simp [mem_abc]
    · rw [filter_all, List.map_map]
      rw [show ((fun d => match d with
      | D.str [c] => D.bl (isLet c)
      | _ => D.non) ∘ fun c => D.str [c]) = D.bl ∘ isLet from rfl, ← List.map_map, oAll_b]
      simp [resG]
      have : isW (.str s) = s.all isLet := rfl
      rw [this] at q
      exact q
  | _ => simp [g_is_of, isTy]; exact q
theorem is_word_of_w {d : D} {Q : Bool → D → List D → Prop} (hl : ∀ s, d = .str s → s.length ≤ 1000000) (q : Q false (.bl (isW d)) []) : wF f_is_word_of [d] Q := by
  unfold f_is_word_of
  refine wF_run rfl (by decide) ?_
  simp [g_is_word_of]
  refine is_of_w hl ?_
  simp
  exact q
end DL

namespace DL
open PySem PySem.Spec PyProof.Rows L2
theorem check_word_w {s : List Nat} {Q : Bool → D → List D → Prop} (hl : s.length ≤ 1000000) (hc : ∀ c ∈ s, 97 ≤ c ∧ c ≤ 122) (q : Q false .non []) : wF f_check_word [.str s] Q := by
  unfold f_check_word
  refine wF_run rfl (by decide) ?_
  simp [g_check_word]
  refine is_word_of_w (fun t e => by cases e; exact hl) ?_
  simp [isW_of hc]
  exact q
end DL

namespace DL
open PySem PySem.Spec PyProof.Rows L2
theorem cutL_mid {α : Type} (xs : List α) (a b : Int) (ha : 0 ≤ a) (hb : 0 ≤ b) : cutL xs (some a) (some b) = (xs.drop a.toNat).take (b.toNat - a.toNat) := by
  unfold cutL
  have e1 : HT.sIx xs.length 0 (some a) = min a.toNat xs.length := by show (if a < 0 then _ else _) = _; rw [if_neg (by omega)]
  rw [e1, sIx_hi _ _ hb]
  by_cases h : a.toNat ≤ xs.length
  · rw [Nat.min_eq_left h, List.take_eq_take_iff, List.length_drop]
    omega
  · have h2 : min a.toNat xs.length = xs.length := Nat.min_eq_right (by omega)
    rw [h2, List.drop_eq_nil_of_le (Nat.le_refl _), List.drop_eq_nil_of_le (show xs.length ≤ a.toNat by omega)]
    simp
theorem fines_nI (l : List Nat) : fines (l.map nI) = true := by
  induction l with
  | nil => rfl
  | cons x l ih =>
    show fines (nI x :: l.map nI) = true
    unfold fines
    rw [ih]
    rfl
theorem deps_nI (l : List Nat) : deps (l.map nI) = 0 := by
  induction l with
  | nil => rfl
  | cons x l ih =>
    show deps (nI x :: l.map nI) = 0
    unfold deps
    rw [ih]
    rfl
end DL

namespace DL
open PySem PySem.Spec PyProof.Rows L2
theorem rng2_1 (n : Nat) : rng2 1 ((n : Int) + 1) = (List.range n).map fun i => nI (i + 1) := by
  unfold rng2
  rw [show ((n : Int) + 1 - 1).toNat = n by omega]
  apply List.map_congr_left
  intro i hi
  show D.int (1 + (i : Int)) = D.int ((i + 1 : Nat) : Int)
  congr 1; omega
theorem r1_get {n i : Nat} {d : D} (h : ((List.range n).map fun i => nI (i + 1))[i]? = some d) : i < n ∧ d = nI (i + 1) := by
  have hl : i < n := by
    have := (List.getElem?_eq_some_iff.mp h).1
    simpa using this
  refine ⟨hl, ?_⟩
  simp [hl] at h
  exact h.symm
theorem fines_strs (l : List (List Nat)) : fines (l.map D.str) = true := by
  induction l with
  | nil => rfl
  | cons x l ih =>
    show fines (D.str x :: l.map D.str) = true
    unfold fines
    rw [ih]
    rfl
theorem deps_strs (l : List (List Nat)) : deps (l.map D.str) = 0 := by
  induction l with
  | nil => rfl
  | cons x l ih =>
    show deps (D.str x :: l.map D.str) = 0
    unfold deps
    rw [ih]
    rfl
end DL

namespace DL
open PySem PySem.Spec PyProof.Rows L2
theorem oJoin_t0 (ys : List (List Nat)) (h : ys.flatten.length ≤ 1000000) : oJoin (.str []) (.tup (ys.map D.str)) = some (.imm (.str ys.flatten)) := by
  have e : oJoin (.str []) (.tup (ys.map D.str)) = if (ys.map List.length).sum + ys.length * ([] : List Nat).length ≤ 16777216 then some (.imm (.str (joinL [] ys))) else none := by
    simp [oJoin, mapO_map (g := D.str) (h := id) (f := asS) fun _ => rfl]
  rw [List.length_flatten] at h
  rw [e, if_pos (by simp; omega), joinL_nil]
theorem oJoin_l0 (ys : List (List Nat)) (h : ys.flatten.length ≤ 1000000) : oJoin (.str []) (.lst (ys.map D.str)) = some (.imm (.str ys.flatten)) := by
  have e : oJoin (.str []) (.lst (ys.map D.str)) = if (ys.map List.length).sum + ys.length * ([] : List Nat).length ≤ 16777216 then some (.imm (.str (joinL [] ys))) else none := by
    simp [oJoin, mapO_map (g := D.str) (h := id) (f := asS) fun _ => rfl]
  rw [List.length_flatten] at h
  rw [e, if_pos (by simp; omega), joinL_nil]
theorem oAll_true {acc : List D} (h : ∀ d ∈ acc, d = .bl true) : oAll [.lst acc] = some (.imm (.bl true)) := by
  rw [List.eq_replicate_of_mem h]; exact oAll_rep _
theorem oAny_false {acc : List D} (h : ∀ d ∈ acc, d = .bl false) : oAny [.lst acc] = some (.imm (.bl false)) := by
  rw [List.eq_replicate_of_mem h, ← List.map_replicate, oAny_b]
  congr 3
  rw [List.any_eq_false]
  intro x hx
  rw [(List.mem_replicate.mp hx).2]; decide
end DL

namespace DL
open PySem PySem.Spec PyProof.Rows L2
theorem check_from_w {k m : Int} {Q : Bool → D → List D → Prop} (h : m ≤ k) (q : Q false .non []) : wF f_check_from [.int k, .int m] Q := by
  unfold f_check_from
  refine wF_run rfl (by decide) ?_
  simp [g_check_from]
  unfold f_is_integer
  refine wF_run rfl (by decide) ?_
  simp [g_is_integer, isTy]
  exact ⟨h, fun _ => q⟩
end DL

namespace DL
open PySem PySem.Spec PyProof.Rows L2
theorem filter_tt {α : Type} (xs : List α) : xs.filter (fun _ => true) = xs := by
  induction xs with
  | nil => rfl
  | cons x xs ih => rw [List.filter_cons_of_pos rfl, ih]
/-- a comprehension that only reads, any target -/
theorem lc_pureT {t : Tg} {vs : List Nat} {c : Option EM} {f : EM} {ds : List D} {Γ : Gm} {Q : List D → Gm → Prop} (st : D → Gm) (cond : D → Bool) (val : D → D) (hl : ds.length ≤ 1000000)
    (hs : ∀ d ∈ ds, setT t d Γ = some (st d) ∧ wipeG (st d) vs = Γ)
    (h : ∀ d ∈ ds, wCd c (st d) fun b Γ2 => b = cond d ∧ Γ2 = st d ∧ (cond d = true → wE f (st d) fun e Γ3 => e.fz = .imm (val d) ∧ Γ3 = st d))
    (q : Q ((ds.filter cond).map val) Γ) : wL t vs c f ds [] Γ Q := by
  refine lc_inv (fun k acc Γ' => Γ' = Γ ∧ acc = ((ds.take k).filter cond).map val) ⟨rfl, by simp⟩ (fun k d acc Γ' hd hI => ?_) (fun acc Γ' hI => ?_)
  · obtain ⟨rfl, rfl⟩ := hI
    have hm : d ∈ ds := List.mem_of_getElem? hd
    have hk : k < ds.length := (List.getElem?_eq_some_iff.mp hd).1
    have H := h d hm
    obtain ⟨s1, s2⟩ := hs d hm
    have et : ds.take (k + 1) = ds.take k ++ [d] := by rw [List.take_add_one, hd]; rfl
    rw [s1, wO_some]
    unfold wCd at H ⊢
    obtain ⟨p, ep, h1, h2, h3⟩ := H
    refine ⟨p, ep, fun hb => ?_, fun hb => ?_⟩
    · rw [h1] at hb
      rw [h2]
      have H3 := h3 hb
      unfold wE at H3 ⊢
      cases hf : f (st d) with
      | stuck => rw [hf] at H3; exact H3.elim
      | ok e Γ3 =>
        rw [hf, mE_ok] at H3
        obtain ⟨e1, e2⟩ := H3
        rw [mE_ok, e1]
        refine ⟨rfl, ?_⟩
        rw [settle_imm, wO_some]
        dsimp only
        refine ⟨sz63 ?_, ?_, ?_⟩
        · rw [List.length_map]
          have := List.length_filter_le cond (ds.take k)
          rw [List.length_take] at this
          omega
        · rw [e2]; exact s2
        · rw [et, List.filter_append, List.map_append, List.filter_cons_of_pos hb]; rfl
    · rw [h1] at hb
      rw [h2]
      refine ⟨s2, ?_⟩
      rw [et, List.filter_append, List.map_append, List.filter_cons_of_neg (by rw [hb]; decide)]; simp
  · obtain ⟨rfl, rfl⟩ := hI
    rw [List.take_length]
    exact q
end DL

namespace DL
open PySem PySem.Spec PyProof.Rows L2
/-! ## patterns met: both list all cuts (no program) -/
abbrev LA := List (Nat × List Nat)
def pD (A : LA) : List (Key × D) := A.map fun a => (kS [a.1], .str a.2)
def look : LA → Nat → Option (List Nat)
  | [], _ => none
  | p :: A, c => if p.1 = c then some p.2 else look A c
def putA (A : LA) (c : Nat) (o : List Nat) : LA := if (A.any fun p => decide (p.1 = c)) = true then A.map (fun p => if p.1 = c then (p.1, o) else p) else A ++ [(c, o)]
theorem kS1 (a c : Nat) : (kS [a] = kS [c]) = (a = c) := by rw [kS_inj]; simp
theorem look_pD : ∀ (A : LA) (c : Nat), lookK (pD A) (kS [c]) = (look A c).map D.str
  | [], c => rfl
  | p :: A, c => by
    have ih := look_pD A c
    unfold lookK at ih ⊢
    unfold pD at ih ⊢
    rw [List.map_cons, List.find?_cons]
    unfold look
    by_cases h : p.1 = c
    · rw [if_pos h]
      have e : decide (kS [p.1] = kS [c]) = true := decide_eq_true (by rw [kS1]; exact h)
      simp only [e]
      rfl
    · rw [if_neg h]
      have e : decide (kS [p.1] = kS [c]) = false := decide_eq_false (by rw [kS1]; exact h)
      simp only [e]
      exact ih
theorem put_pD (A : LA) (c : Nat) (o : List Nat) : putL (pD A) (kS [c]) (.str o) = pD (putA A c o) := by
  have e : hasK (pD A) (kS [c]) = A.any fun p => decide (p.1 = c) := by
    unfold hasK pD
    rw [List.any_map]
    congr
    funext p
    show decide (kS [p.1] = kS [c]) = decide (p.1 = c)
    exact decide_eq_decide.mpr (by rw [kS1])
  unfold putL putA
  rw [e]
  split
  · unfold pD
    rw [List.map_map, List.map_map]
    apply List.map_congr_left
    intro p _
    show (if kS [p.1] = kS [c] then (kS [p.1], D.str o) else (kS [p.1], D.str p.2)) = _
    by_cases h : p.1 = c
    · rw [if_pos (by rw [kS1]; exact h)]
      simp [h]
    · rw [if_neg (by rw [kS1]; exact h)]
      simp [h]
  · unfold pD
    rw [List.map_append]
    rfl
theorem putA_len (A : LA) (c : Nat) (o : List Nat) : (putA A c o).length ≤ A.length + 1 := by
  unfold putA
  split <;> simp
theorem look_map (A : LA) (c : Nat) (o : List Nat) (x : Nat) : look (A.map fun p => if p.1 = c then (p.1, o) else p) x = if x = c then (look A x).map (fun _ => o) else look A x := by
  induction A with
  | nil => simp [look]
  | cons p A ih =>
    rw [List.map_cons]
    unfold look
    rw [ih]
    by_cases h : p.1 = c
    · rw [if_pos h]
      by_cases hx : x = c
      · subst hx; simp [h]
      · have : ¬ p.1 = x := fun z => hx (by rw [← z, h])
        simp [hx, this]
    · rw [if_neg h]
      by_cases hx : x = c
      · subst hx; simp [h]
      · simp [hx]
theorem look_none {A : LA} {c : Nat} (h : ¬ (A.any fun p => decide (p.1 = c)) = true) : look A c = none := by
  induction A with
  | nil => rfl
  | cons p A ih =>
    rw [List.any_cons, Bool.or_eq_true, decide_eq_true_eq] at h
    unfold look
    rw [if_neg fun z => h (.inl z)]
    exact ih fun z => h (.inr z)
theorem look_some {A : LA} {c : Nat} (h : (A.any fun p => decide (p.1 = c)) = true) : ∃ o, look A c = some o := by
  induction A with
  | nil => cases h
  | cons p A ih =>
    rw [List.any_cons, Bool.or_eq_true, decide_eq_true_eq] at h
    unfold look
    by_cases z : p.1 = c
    · exact ⟨_, if_pos z⟩
    · rw [if_neg z]
      exact ih (h.resolve_left z)
theorem look_app (A : LA) (c : Nat) (o : List Nat) (x : Nat) : look (A ++ [(c, o)]) x = (look A x).or (if c = x then some o else none) := by
  induction A with
  | nil => simp [look]
  | cons p A ih =>
    rw [List.cons_append]
    unfold look
    by_cases h : p.1 = x
    · simp [h]
    · rw [if_neg h, if_neg h]
      exact ih
theorem look_put (A : LA) (c : Nat) (o : List Nat) (x : Nat) : look (putA A c o) x = if x = c then some o else look A x := by
  unfold putA
  split
  · rename_i h
    rw [look_map]
    by_cases hx : x = c
    · subst hx
      obtain ⟨z, hz⟩ := look_some h
      rw [if_pos rfl, if_pos rfl, hz]
      rfl
    · rw [if_neg hx, if_neg hx]
  · rename_i h
    rw [look_app]
    by_cases hx : x = c
    · subst hx
      simp [look_none h]
    · rw [if_neg hx, if_neg fun z => hx z.symm]
      simp
def waysM : List Nat → LA → List Nat → List LA
  | [], A, _ => [A]
  | c :: p, A, w => (List.range (w.length - p.length)).flatMap fun i => if (look A c).getD (w.take (i + 1)) = w.take (i + 1) then waysM p (putA A c (w.take (i + 1))) (w.drop (i + 1)) else []
def cutsM : Nat → List Nat → List (List (List Nat))
  | 0, _ => [[]]
  | m + 1, w => (List.range (w.length - m)).flatMap fun i => (cutsM m (w.drop (i + 1))).map fun r => w.take (i + 1) :: r
def extA : List Nat → LA → List (List Nat) → Option LA
  | c :: p, A, o :: r => if (look A c).getD o = o then extA p (putA A c o) r else none
  | _, A, _ => some A
theorem ways_eq : ∀ (p : List Nat) (A : LA) (w : List Nat), waysM p A w = (cutsM p.length w).filterMap fun r => extA p A r
  | [], A, w => rfl
  | c :: p, A, w => by
    rw [List.length_cons]
    unfold waysM cutsM
    rw [List.filterMap_flatMap]
    congr 1
    funext i
    rw [List.filterMap_map]
    show _ = List.filterMap (fun r => extA (c :: p) A (w.take (i + 1) :: r)) _
    simp only [extA]
    split
    · exact ways_eq p _ _
    · simp
theorem ways_len : ∀ (p : List Nat) (A : LA) (w : List Nat), ∀ B ∈ waysM p A w, B.length ≤ A.length + p.length
  | [], A, w, B, h => by
    rw [waysM, List.mem_singleton] at h
    subst h
    simp
  | c :: p, A, w, B, h => by
    rw [waysM, List.mem_flatMap] at h
    obtain ⟨i, _, h⟩ := h
    split at h
    · have := ways_len p _ _ B h
      have h2 := putA_len A c (w.take (i + 1))
      rw [List.length_cons]
      omega
    · cases h
theorem flat_le {α β : Type} (l : List α) (f : α → List β) (k : Nat) (h : ∀ x ∈ l, (f x).length ≤ k) : (l.flatMap f).length ≤ l.length * k := by
  induction l with
  | nil => simp
  | cons x l ih =>
    rw [List.flatMap_cons, List.length_append, List.length_cons, Nat.succ_mul]
    have h1 := h x List.mem_cons_self
    have h2 := ih fun y hy => h y (List.mem_cons_of_mem _ hy)
    omega
theorem cuts_len : ∀ (m : Nat) (w : List Nat) (n : Nat), w.length ≤ n → (cutsM m w).length ≤ n ^ m
  | 0, w, n, _ => by simp [cutsM]
  | m + 1, w, n, h => by
    rw [cutsM]
    have := flat_le (List.range (w.length - m)) (fun i => (cutsM m (w.drop (i + 1))).map fun r => w.take (i + 1) :: r) (n ^ m) fun i _ => by
      rw [List.length_map]
      exact cuts_len m _ n (by rw [List.length_drop]; omega)
    rw [List.length_range] at this
    rw [Nat.pow_succ, Nat.mul_comm]
    exact Nat.le_trans this (Nat.mul_le_mul_right _ (by omega))
theorem ways_few (p : List Nat) (A : LA) (w : List Nat) (n : Nat) (h : w.length ≤ n) : (waysM p A w).length ≤ n ^ p.length := by
  rw [ways_eq]
  exact Nat.le_trans (List.length_filterMap_le _ _) (cuts_len _ _ _ h)
/-- a cut that is there -/
theorem cut_mem : ∀ (r : List (List Nat)) (post : List Nat), (∀ o ∈ r, o ≠ []) → r ∈ cutsM r.length (r.flatten ++ post)
  | [], post, _ => by simp [cutsM]
  | o :: r, post, h => by
    rw [List.length_cons, cutsM, List.mem_flatMap]
    have ho : 0 < o.length := List.length_pos_iff.mpr (h o List.mem_cons_self)
    have hr : r.length ≤ r.flatten.length := by
      have : ∀ r : List (List Nat), (∀ o ∈ r, o ≠ []) → r.length ≤ r.flatten.length := by
        intro r
        induction r with
        | nil => simp
        | cons a r ih =>
          intro h
          have := List.length_pos_iff.mpr (h a List.mem_cons_self)
          have := ih fun x hx => h x (List.mem_cons_of_mem _ hx)
          rw [List.flatten_cons, List.length_append, List.length_cons]
          omega
      exact this r fun x hx => h x (List.mem_cons_of_mem _ hx)
    refine ⟨o.length - 1, List.mem_range.mpr (by rw [List.flatten_cons, List.length_append, List.length_append]; omega), List.mem_map.mpr ⟨r, ?_, ?_⟩⟩
    · rw [show o.length - 1 + 1 = o.length by omega, List.flatten_cons, List.append_assoc, List.drop_left]
      exact cut_mem r post fun x hx => h x (List.mem_cons_of_mem _ hx)
    · rw [show o.length - 1 + 1 = o.length by omega, List.flatten_cons, List.append_assoc, List.take_left]
theorem ext_some (V : Nat → List Nat) : ∀ (p : List Nat) (A : LA), (∀ c o, look A c = some o → o = V c) → ∃ B, extA p A (p.map V) = some B
  | [], A, _ => ⟨A, rfl⟩
  | c :: p, A, h => by
    rw [List.map_cons, extA]
    have e : (look A c).getD (V c) = V c := by
      cases hl : look A c with
      | none => rfl
      | some o => exact h c o hl
    rw [if_pos e]
    refine ext_some V p _ fun x o hx => ?_
    rw [look_put] at hx
    split at hx
    · rename_i z
      subst z
      exact (Option.some.inj hx).symm
    · exact h x o hx
theorem ways_ne (V : Nat → List Nat) (p post : List Nat) (hV : ∀ c ∈ p, V c ≠ []) : waysM p [] ((p.map V).flatten ++ post) ≠ [] := by
  intro e
  rw [ways_eq] at e
  obtain ⟨B, hB⟩ := ext_some V p [] fun c o h => by cases h
  have hm := cut_mem (p.map V) post fun o ho => by
    obtain ⟨c, hc, rfl⟩ := List.mem_map.mp ho
    exact hV c hc
  rw [List.length_map] at hm
  have : B ∈ (cutsM p.length ((p.map V).flatten ++ post)).filterMap fun r => extA p [] r := List.mem_filterMap.mpr ⟨_, hm, hB⟩
  rw [e] at this
  cases this
/-! ### the least of them -/
def cnk (A : LA) : List (List Nat × List Nat) := (isort ltS (A.map fun a => [a.1])).map fun k => (k, (look A (k.headD 0)).getD [])
def cT (l : List (List Nat × List Nat)) : D := .tup (l.map fun p => .tup [.str p.1, .str p.2])
def mnD : List D → D
  | [] => .non
  | d :: ds => bestL dlt d ds
def metAt (w p : List Nat) : Option Nat := (List.range w.length).find? fun k => !(waysM p [] (w.drop k)).isEmpty
def metD (w p : List Nat) : D := match metAt w p with
  | some k => .tup [nI k, mnD ((waysM p [] (w.drop k)).map fun A => cT (cnk A))]
  | none => .non
theorem cnk_len (A : LA) : (cnk A).length = A.length := by
  unfold cnk
  rw [List.length_map, (isort_perm ltS _).length_eq, List.length_map]
theorem alikeAll_pairs : ∀ a b : List (List Nat × List Nat), PySem.W.alikeAll (toPDs (a.map fun p => D.tup [.str p.1, .str p.2])) (toPDs (b.map fun p => D.tup [.str p.1, .str p.2])) = true
  | [], b => by simp [toPDs, PySem.W.alikeAll]
  | x :: a, [] => by simp [toPDs, PySem.W.alikeAll]
  | x :: a, y :: b => by
    rw [List.map_cons, List.map_cons, toPDs, toPDs, PySem.W.alikeAll, alikeAll_pairs a b]
    rfl
theorem okE_cT (l : List (List Nat × List Nat)) : okE (cT l) = true := by
  show okEs (l.map fun p => D.tup [.str p.1, .str p.2]) = true
  induction l with
  | nil => rfl
  | cons x l ih => rw [List.map_cons]; unfold okEs; rw [ih]; rfl
theorem dep_cT (l : List (List Nat × List Nat)) : dep (cT l) ≤ 2 := by
  have : deps (l.map fun p => D.tup [.str p.1, .str p.2]) ≤ 1 := by
    induction l with
    | nil => exact Nat.zero_le _
    | cons x l ih => rw [List.map_cons]; unfold deps; exact Nat.max_le.mpr ⟨Nat.le_refl _, ih⟩
  show deps _ + 1 ≤ 2
  omega
theorem minOk_cT (L : List (List (List Nat × List Nat))) : minOk (L.map cT) := by
  refine ⟨?_, fun a ha b hb => ?_, fun a ha => ?_, ?_⟩
  · induction L with
    | nil => rfl
    | cons x l ih => rw [List.map_cons]; unfold okEs; rw [ih, okE_cT]; rfl
  · obtain ⟨x, _, rfl⟩ := List.mem_map.mp ha
    obtain ⟨y, _, rfl⟩ := List.mem_map.mp hb
    unfold dalike cT
    rw [toPD, toPD, PySem.W.alike]
    exact alikeAll_pairs x y
  · obtain ⟨x, _, rfl⟩ := List.mem_map.mp ha
    rfl
  · have : deps (L.map cT) ≤ 2 := by
      induction L with
      | nil => exact Nat.zero_le _
      | cons x l ih => rw [List.map_cons]; unfold deps; exact Nat.max_le.mpr ⟨dep_cT x, ih⟩
    omega
theorem bestL_mem {α : Type} (lt : α → α → Bool) : ∀ (xs : List α) (x : α), bestL lt x xs ∈ x :: xs
  | [], x => List.mem_singleton.mpr rfl
  | z :: xs, x => by
    have := bestL_mem lt xs (if lt z x = true then z else x)
    show bestL lt (if lt z x = true then z else x) xs ∈ _
    rcases List.mem_cons.mp this with h | h
    · rw [h]
      split
      · simp
      · simp
    · exact List.mem_cons_of_mem _ (List.mem_cons_of_mem _ h)
theorem min_cT {L : List (List (List Nat × List Nat))} (h : L ≠ []) : oMinU [.lst (L.map cT)] = some (.imm (mnD (L.map cT))) := by
  cases L with
  | nil => exact absurd rfl h
  | cons x xs =>
    have h1 := minOk_cT (x :: xs)
    unfold oMinU
    rw [show oMin1 [.lst ((x :: xs).map cT)] = none by simp [oMin1, mapO, asS, asI, cT]]
    rw [List.map_cons] at h1 ⊢
    dsimp only
    rw [if_pos h1]
    rfl
theorem mnD_is {L : List (List (List Nat × List Nat))} (h : L ≠ []) : ∃ l ∈ L, mnD (L.map cT) = cT l := by
  cases L with
  | nil => exact absurd rfl h
  | cons x xs =>
    have := bestL_mem dlt (xs.map cT) (cT x)
    rw [← List.map_cons, List.mem_map] at this
    obtain ⟨l, hl, e⟩ := this
    exact ⟨l, hl, e.symm⟩
theorem fine_cT (l : List (List Nat × List Nat)) (h : l.length ≤ 1000000) : fine (cT l) = true := by
  have : fines (l.map fun p => D.tup [.str p.1, .str p.2]) = true := by
    induction l with
    | nil => rfl
    | cons x l ih =>
      rw [List.map_cons]
      show fines (_ :: _) = true
      have i := ih (by rw [List.length_cons] at h; omega)
      simp [fines, fine, i]
  simp [cT, fine, this, h]
theorem metD_fine (w p : List Nat) (hp : p.length ≤ 1000) : fine (metD w p) = true ∧ dep (metD w p) ≤ 3 := by
  unfold metD metAt
  cases hk : (List.range w.length).find? fun k => !(waysM p [] (w.drop k)).isEmpty with
  | none => exact ⟨rfl, by simp [dep]⟩
  | some k =>
    have hne := List.find?_some hk
    dsimp only
    have h2 : (waysM p [] (w.drop k)).map cnk ≠ [] := by
      intro e
      rw [List.map_eq_nil_iff] at e
      rw [e] at hne
      cases hne
    obtain ⟨l, hl, e⟩ := mnD_is h2
    obtain ⟨A, hA, rfl⟩ := List.mem_map.mp hl
    have e2 : ((waysM p [] (w.drop k)).map fun A => cT (cnk A)) = ((waysM p [] (w.drop k)).map cnk).map cT := by rw [List.map_map]; rfl
    have al := ways_len p [] (w.drop k) A hA
    rw [List.length_nil] at al
    rw [e2, e]
    have f := fine_cT (cnk A) (by rw [cnk_len]; omega)
    have d := dep_cT (cnk A)
    constructor
    · simp [fine, fines, f, nI]
    · simp [dep, deps, nI]
      omega
end DL

namespace DL
open PySem PySem.Spec PyProof.Rows L2
theorem fzR (fr : Bool) (d : D) : (mkR fr d).fz = .imm d := by cases fr <;> rfl
def aD (B : LA) : D := dicL (pD B)
def rT (r : List (List Nat)) : D := .tup (r.map D.str)
theorem rng_cut (n m : Nat) : rng2 1 ((n : Int) - ((m + 1 : Nat) : Int) + 2) = (List.range (n - m)).map fun i => nI (i + 1) := by
  unfold rng2
  rw [show ((n : Int) - ((m + 1 : Nat) : Int) + 2 - 1).toNat = n - m by omega]
  apply List.map_congr_left
  intro i _
  simp [nI]
  omega
theorem pow_small {n m : Nat} (hn : n ≤ 12) (hm : m ≤ 4) : n ^ m ≤ 20736 := by
  have h1 : n ^ m ≤ 12 ^ m := Nat.pow_le_pow_left hn m
  have h2 : 12 ^ m ≤ 12 ^ 4 := Nat.pow_le_pow_right (by omega) hm
  omega
theorem cuts_row : ∀ (m : Nat) (w : List Nat), ∀ r ∈ cutsM m w, r.length = m
  | 0, w, r, h => by
    rw [cutsM, List.mem_singleton] at h
    subst h
    rfl
  | m + 1, w, r, h => by
    rw [cutsM, List.mem_flatMap] at h
    obtain ⟨i, _, h⟩ := h
    obtain ⟨s, hs, rfl⟩ := List.mem_map.mp h
    rw [List.length_cons, cuts_row m _ s hs]
def flR {α : Type} (F : Nat → List α) (n : Nat) : List α := (List.range n).flatMap F
theorem flR_zero {α : Type} (F : Nat → List α) : flR F 0 = [] := rfl
theorem flR_succ {α : Type} (F : Nat → List α) (n : Nat) : flR F (n + 1) = flR F n ++ F n := by
  unfold flR
  rw [List.range_succ, List.flatMap_append, List.flatMap_cons, List.flatMap_nil, List.append_nil]
theorem flR_len {α : Type} (F : Nat → List α) (n k : Nat) (h : ∀ i, (F i).length ≤ k) : (flR F n).length ≤ n * k := by
  have := flat_le (List.range n) F k fun i _ => h i
  rw [List.length_range] at this
  exact this
def cutF (m : Nat) (w : List Nat) (i : Nat) : List (List (List Nat)) := (cutsM m (w.drop (i + 1))).map fun r => w.take (i + 1) :: r
theorem cuts_F (m : Nat) (w : List Nat) : cutsM (m + 1) w = flR (cutF m w) (w.length - m) := rfl
theorem cutF_len {m : Nat} {w : List Nat} (hm : m ≤ 4) (hw : w.length ≤ 12) (i : Nat) : (cutF m w i).length ≤ 20736 := by
  unfold cutF
  rw [List.length_map]
  exact Nat.le_trans (cuts_len m _ 12 (by rw [List.length_drop]; omega)) (pow_small (by omega) (by omega))
theorem cuts_w : ∀ (n m : Nat) (w : List Nat), m < n → m ≤ 4 → w.length ≤ 12 → ∀ Q : Bool → D → List D → Prop, (∀ b, Q b (.lst ((cutsM m w).map rT)) []) → wF (f_law_cuts n) [.str w, .int (m : Nat)] Q := by
  intro n
  induction n with
  | zero => intro m w h; omega
  | succ n ih =>
    intro m w hmn hm hw Q q
    unfold f_law_cuts
    refine wF_run rfl (by decide) ?_
    cases m with
    | zero =>
      simp [g_law_cuts]
      exact q true
    | succ m =>
      have e0 : ¬ ((m : Int) + 1 = 0) := by omega
      simp [g_law_cuts, e0]
      rw [show (w.length : Int) - ((m : Int) + 1) + 2 = (w.length : Int) - ((m + 1 : Nat) : Int) + 2 by omega, rng_cut]
      refine ⟨by omega, ?_⟩
      refine for_inv (fun i Γ => ∃ z, isOwn (some z) = false ∧ Γ = [.val (.str w), .val (.int ((m : Int) + 1)), .val (.lst ((flR (cutF m w) i).map rT)), z, .un])
        ⟨.un, rfl, by rw [flR_zero]; rfl⟩ (fun i d Γ hd hI => ?_) (fun Γ hI => ?_)
      · obtain ⟨hi, rfl⟩ := r1_get hd
        obtain ⟨z, hz, rfl⟩ := hI
        have hF := flR_len (cutF m w) i 20736 (cutF_len (by omega) hw)
        have hc := cutF_len (m := m) (w := w) (by omega) hw i
        have hc' : (cutsM m (w.drop (i + 1))).length ≤ 20736 := by unfold cutF at hc; rw [List.length_map] at hc; exact hc
        have hF2 : i * 20736 ≤ 12 * 20736 := Nat.mul_le_mul_right _ (by omega)
        rw [flR_succ, List.map_append]
        generalize hG : flR (cutF m w) i = G at hF ⊢
        simp [hz, nI]
        rw [cutL_from _ _ (by omega), show ((i : Int) + 1).toNat = i + 1 by omega]
        refine ih m _ (by omega) (by omega) (by rw [List.length_drop]; omega) _ fun b => ?_
        simp [fzR]
        refine lc_pure (fun _ => true) (fun d => match d with
          | .tup ds => .tup (.str (w.take (i + 1)) :: ds)
          | _ => .non) rfl (by rw [List.length_map]; omega) (fun d hd => ?_) ?_
        · obtain ⟨r, hr, rfl⟩ := List.mem_map.mp hd
          have lr := cuts_row m _ r hr
          have z1 : r.length + 1 ≤ sizeLine := Nat.le_of_lt (sz63 (by omega))
          have z2 : 1 + r.length ≤ sizeLine := Nat.le_of_lt (sz63 (by omega))
          simp [rT, wipeG]
          rw [cutL_to _ _ (by omega), show ((i : Int) + 1).toNat = i + 1 by omega]
          simp [z1, z2]
        · have z1 : G.length + (cutsM m (w.drop (i + 1))).length ≤ sizeLine := Nat.le_of_lt (sz63 (by omega))
          simp [wipeG, resG, z1, cutF, rT, filter_all]
      · obtain ⟨z, hz, rfl⟩ := hI
        rw [List.length_map, List.length_range, ← cuts_F]
        simp
        exact q _
theorem put_keys {A : LA} {c : Nat} {o : List Nat} {P : Nat → Prop} (h : ∀ a ∈ A, P a.1) (hc : P c) : ∀ a ∈ putA A c o, P a.1 := by
  unfold putA
  intro a ha
  split at ha
  · obtain ⟨b, hb, rfl⟩ := List.mem_map.mp ha
    split
    · rename_i z
      exact h b hb
    · exact h b hb
  · rcases List.mem_append.mp ha with ha | ha
    · exact h a ha
    · rw [List.mem_singleton.mp ha]
      exact hc
theorem look_mem {A : LA} {a : Nat × List Nat} (h : a ∈ A) : ∃ o, look A a.1 = some o := look_some (by rw [List.any_eq_true]; exact ⟨a, h, decide_eq_true rfl⟩)
theorem zip_get {r : List (List Nat)} {p : List Nat} {i : Nat} {d : D} (h : (zipD (r.map D.str) (p.map fun c => .str [c]))[i]? = some d) : ∃ (a : i < r.length) (b : i < p.length), d = .tup [.str r[i], .str [p[i]]] := by
  unfold zipD at h
  have hl := (List.getElem?_eq_some_iff.mp h).1
  rw [List.length_zipWith, List.length_map, List.length_map] at hl
  refine ⟨by omega, by omega, ?_⟩
  rw [List.getElem?_zipWith, List.getElem?_map, List.getElem?_map, List.getElem?_eq_getElem (by omega), List.getElem?_eq_getElem (by omega)] at h
  exact (Option.some.inj h).symm
theorem sort_aD {A : LA} (h : A.length < 64) (hk : ∀ a ∈ A, okSb [a.1] = true) : oSortKD [aD A] = some (.fr (.lst ((isort ltS (A.map fun a => [a.1])).map D.str))) := by
  refine oSortKD_l A (fun a => [a.1]) (fun a => .str a.2) ⟨?_, h⟩
  rw [List.all_eq_true]
  intro k hk'
  obtain ⟨a, ha, rfl⟩ := List.mem_map.mp hk'
  exact hk a ha
theorem key_is {A : LA} {d : D} (h : d ∈ (isort ltS (A.map fun a => [a.1])).map D.str) : ∃ c o, d = .str [c] ∧ look A c = some o := by
  obtain ⟨k, hk, rfl⟩ := List.mem_map.mp h
  have := (isort_perm ltS _).mem_iff.mp hk
  obtain ⟨a, ha, rfl⟩ := List.mem_map.mp this
  obtain ⟨o, ho⟩ := look_mem ha
  exact ⟨a.1, o, rfl, ho⟩
def shw (A : LA) (d : D) : D := match d with
  | .str k => .tup [.str k, .str ((look A (k.headD 0)).getD [])]
  | _ => .non
theorem shw_all (A : LA) : D.tup (((isort ltS (A.map fun a => [a.1])).map D.str).map (shw A)) = cT (cnk A) := by
  unfold cT cnk
  rw [List.map_map, List.map_map]
  rfl
def optD : Option LA → D
  | some A => cT (cnk A)
  | none => .non
theorem values_w (r : List (List Nat)) (p : List Nat) (hr : r.length = p.length) (hp : p.length ≤ 40) (hk : ∀ c ∈ p, okSb [c] = true) {Q : Bool → D → List D → Prop} (q : Q false (optD (extA p [] r)) []) : wF f_law_values [rT r, .str p] Q := by
  unfold f_law_values
  refine wF_run rfl (by decide) ?_
  simp [g_law_values, rT]
  refine for_inv (fun i Γ => ∃ A z3 z4, isOwn (some z3) = false ∧ isOwn (some z4) = false ∧ Γ = [.val (.tup (r.map D.str)), .val (.str p), .own false (aD A), z3, z4] ∧ extA (p.drop i) A (r.drop i) = extA p [] r ∧ A.length ≤ i ∧ ∀ a ∈ A, okSb [a.1] = true)
    ⟨[], .un, .un, rfl, rfl, rfl, by simp, by simp, by simp⟩ (fun i d Γ hd hI => ?_) (fun Γ hI => ?_)
  · obtain ⟨A, z3, z4, h3, h4, rfl, e, la, ka⟩ := hI
    obtain ⟨hr', hp', rfl⟩ := zip_get hd
    rw [List.drop_eq_getElem_cons hr', List.drop_eq_getElem_cons hp', extA] at e
    have kc := hk p[i] (List.getElem_mem hp')
    generalize r[i] = o at e ⊢
    generalize p[i] = c at e kc ⊢
    have eA : ∀ K, wDic (aD A) K = K (pD A) := fun K => by unfold aD; exact wDic_l _ _
    have eO : ∀ b K, wOd (some (.own b (aD A))) K = K b (pD A) := fun b K => by unfold aD; exact wOd_own _ _ _
    have el : (lookK (pD A) (kS [c])).getD (.str o) = .str ((look A c).getD o) := by
      rw [look_pD]
      cases look A c <;> rfl
    have eP : dicL (putL (pD A) (kS [c]) (.str o)) = aD (putA A c o) := by rw [put_pD]; rfl
    have lp : (pD A).length < sizeLine := sz63 (by unfold pD; rw [List.length_map]; omega)
    simp [h3, h4, isIo_of h3, isIo_of h4, eA, eO, el, eP, lp]
    refine ⟨fun hn => ?_, fun hy => ?_⟩
    · rw [if_neg hn] at e
      rw [← e] at q
      exact q
    · rw [if_pos hy] at e
      refine ⟨_, _, rfl, _, rfl, ⟨rfl, rfl, rfl⟩, e, by have := putA_len A c o; omega, fun a b hab => ?_⟩
      exact put_keys (P := fun x => okSb [x] = true) ka kc (a, b) hab
  · obtain ⟨A, z3, z4, h3, h4, rfl, e, la, ka⟩ := hI
    have lz : (zipD (r.map D.str) (p.map fun c => .str [c])).length = p.length := by
      unfold zipD
      rw [List.length_zipWith, List.length_map, List.length_map]
      omega
    rw [lz] at e la
    rw [List.drop_length] at e
    simp [sort_aD (by omega : A.length < 64) ka, h4]
    have ls : (isort ltS (A.map fun a => [a.1])).length = A.length := by rw [(isort_perm ltS _).length_eq, List.length_map]
    refine lc_pure (fun _ => true) (shw A) rfl (by rw [List.length_map]; omega) (fun d hd => ?_) ?_
    · obtain ⟨c, o, rfl, ho⟩ := key_is hd
      have ex : oIxD (aD A) (.str [c]) = some (.imm (.str o)) := by
        unfold aD
        rw [oIxD_l]
        simp [look_pD, ho]
      simp [wipeG, ex, shw, ho]
    · rw [← e] at q
      rw [filter_all, shw_all]
      simp [wipeG, resG]
      exact q
def wayF (c : Nat) (p : List Nat) (A : LA) (w : List Nat) (i : Nat) : List LA := if (look A c).getD (w.take (i + 1)) = w.take (i + 1) then waysM p (putA A c (w.take (i + 1))) (w.drop (i + 1)) else []
theorem ways_F (c : Nat) (p : List Nat) (A : LA) (w : List Nat) : waysM (c :: p) A w = flR (wayF c p A w) (w.length - p.length) := rfl
theorem wayF_len {c : Nat} {p : List Nat} {A : LA} {w : List Nat} (hp : p.length ≤ 4) (hw : w.length ≤ 12) (i : Nat) : (wayF c p A w i).length ≤ 20736 := by
  unfold wayF
  split
  · exact Nat.le_trans (ways_few _ _ _ 12 (by rw [List.length_drop]; omega)) (pow_small (by omega) (by omega))
  · simp
theorem ways_w : ∀ (n : Nat) (p : List Nat) (A : LA) (w : List Nat), p.length < n → p.length ≤ 4 → A.length + p.length ≤ 4 → w.length ≤ 12 → ∀ Q : Bool → D → List D → Prop, (∀ b, Q b (.lst ((waysM p A w).map aD)) []) → wF (f_ways_at n) [.str w, .str p, aD A] Q := by
  intro n
  induction n with
  | zero => intro p A w h; omega
  | succ n ih =>
    intro p A w hpn hp hA hw Q q
    unfold f_ways_at
    refine wF_run rfl (by decide) ?_
    cases p with
    | nil =>
      simp [g_ways_at]
      exact q true
    | cons c p =>
      simp [g_ways_at]
      rw [cutL_from _ _ (by omega)]
      simp
      rw [List.length_cons] at hpn hp hA
      rw [show rng2 1 ((w.length : Int) - (p.length : Int) + 1) = (List.range (w.length - p.length)).map fun i => nI (i + 1) by
        have := rng_cut w.length p.length
        rw [← this]
        congr 1
        omega]
      refine ⟨by omega, ?_⟩
      refine for_inv (fun i Γ => ∃ z4 z7, isOwn (some z4) = false ∧ isOwn (some z7) = false ∧ Γ = [.val (.str w), .val (.str (c :: p)), .val (aD A), .own false (.lst ((flR (wayF c p A w) i).map aD)), z4, .val (.str [c]), .val (.str p), z7])
        ⟨.un, .un, rfl, rfl, by rw [flR_zero]; rfl⟩ (fun i d Γ hd hI => ?_) (fun Γ hI => ?_)
      · obtain ⟨hi, rfl⟩ := r1_get hd
        obtain ⟨z4, z7, h4, h7, rfl⟩ := hI
        have hF := flR_len (wayF c p A w) i 20736 (wayF_len (by omega) hw)
        have hc := wayF_len (c := c) (p := p) (A := A) (w := w) (by omega) hw i
        have hF2 : i * 20736 ≤ 12 * 20736 := Nat.mul_le_mul_right _ (by omega)
        rw [flR_succ, List.map_append]
        generalize hG : flR (wayF c p A w) i = G at hF ⊢
        unfold wayF at hc ⊢
        simp [h4, isIo_of h7, nI]
        rw [cutL_to _ _ (by omega), show ((i : Int) + 1).toNat = i + 1 by omega]
        have eA : ∀ K, wDic (aD A) K = K (pD A) := fun K => by unfold aD; exact wDic_l _ _
        have el : (lookK (pD A) (kS [c])).getD (.str (w.take (i + 1))) = .str ((look A c).getD (w.take (i + 1))) := by
          rw [look_pD]
          cases look A c <;> rfl
        have eP : dicL (putL (pD A) (kS [c]) (.str (w.take (i + 1)))) = aD (putA A c (w.take (i + 1))) := by rw [put_pD]; rfl
        have lp : (pD A).length ≤ 1000 := by unfold pD; rw [List.length_map]; omega
        simp [eA, el, eP, lp]
        refine ⟨fun hy => ?_, fun hn => ?_⟩
        · rw [if_pos hy] at hc
          rw [cutL_from _ _ (by omega), show ((i : Int) + 1).toNat = i + 1 by omega]
          refine ih p _ _ (by omega) (by omega) (by have := putA_len A c (w.take (i + 1)); omega) (by rw [List.length_drop]; omega) _ fun b => ?_
          have z : G.length + (waysM p (putA A c (w.take (i + 1))) (w.drop (i + 1))).length ≤ sizeLine := Nat.le_of_lt (sz63 (by omega))
          simp [fzR, hy, z]
        · exact ⟨_, rfl, _, rfl, fun h => absurd h hn, rfl, rfl⟩
      · obtain ⟨z4, z7, h4, h7, rfl⟩ := hI
        rw [List.length_map, List.length_range, ← ways_F]
        simp
        exact q _
end DL

namespace DL
open PySem PySem.Spec PyProof.Rows L2
theorem ways_keys : ∀ (p : List Nat) (A : LA) (w : List Nat) (P : Nat → Prop), (∀ a ∈ A, P a.1) → (∀ c ∈ p, P c) → ∀ B ∈ waysM p A w, ∀ a ∈ B, P a.1
  | [], A, w, P, hA, _, B, h => by
    rw [waysM, List.mem_singleton] at h
    subst h
    exact hA
  | c :: p, A, w, P, hA, hp, B, h => by
    rw [waysM, List.mem_flatMap] at h
    obtain ⟨i, _, h⟩ := h
    split at h
    · exact ways_keys p _ _ P (put_keys hA (hp c List.mem_cons_self)) (fun x hx => hp x (List.mem_cons_of_mem _ hx)) B h
    · cases h
theorem metAt_some {w p : List Nat} {k : Nat} (h1 : ∀ j < k, waysM p [] (w.drop j) = []) (h2 : waysM p [] (w.drop k) ≠ []) (hk : k < w.length) : metAt w p = some k := by
  unfold metAt
  rw [List.find?_range_eq_some]
  refine ⟨by simpa using h2, List.mem_range.mpr hk, fun j hj => by simp [h1 j hj]⟩
theorem metAt_none {w p : List Nat} (h1 : ∀ j < w.length, waysM p [] (w.drop j) = []) : metAt w p = none := by
  unfold metAt
  rw [List.find?_range_eq_none]
  intro j hj
  simp [h1 j hj]
theorem rT_list (n : Nat) : rng1 (n : Int) = (List.range n).map nI := rng1_nat n
theorem rows_map (p w : List Nat) : ((cutsM p.length w).map fun r => optD (extA p [] r)).filter (fun d => !isN d) = ((waysM p [] w).map cnk).map cT := by
  rw [ways_eq]
  induction cutsM p.length w with
  | nil => rfl
  | cons r l ih =>
    rw [List.map_cons, List.filter_cons, List.filterMap_cons]
    cases extA p [] r with
    | none => exact ih
    | some A =>
      rw [List.map_cons, List.map_cons, ← ih]
      rfl
def strOf : D → List Nat
  | .str s => s
  | _ => []
def vlM (p : List Nat) : D → D
  | .tup ds => optD (extA p [] (ds.map strOf))
  | _ => .non
theorem vlM_rT (p : List Nat) (r : List (List Nat)) : vlM p (rT r) = optD (extA p [] r) := by
  have er : (r.map D.str).map strOf = r := by rw [List.map_map]; exact List.map_id r
  unfold vlM rT
  dsimp only
  rw [er]
theorem oEq_cT (L : List (List (List Nat × List Nat))) : oEq true (.lst (L.map cT)) (.lst []) = some (.imm (.bl (!L.isEmpty))) := by
  have h := minOk_cT L
  unfold oEq
  rw [if_pos ⟨by unfold okE; exact h.1, by rfl, by simp only [dep]; have := h.2.2.2; omega⟩]
  cases L with
  | nil => rfl
  | cons x L => rfl
theorem met_w {w p : List Nat} (hp : p.length ≤ 4) (hw : w.length ≤ 12) (hk : ∀ c ∈ p, okSb [c] = true) {Q : Bool → D → List D → Prop} (q : Q false (metD w p) []) : wF f_law_met [.str w, .str p] Q := by
  unfold f_law_met
  refine wF_run rfl (by decide) ?_
  simp [g_law_met]
  rw [rng1_nat]
  refine ⟨by omega, ?_⟩
  refine for_inv (fun i Γ => ∃ z2 z3, isOwn (some z2) = false ∧ isOwn (some z3) = false ∧ Γ = [.val (.str w), .val (.str p), z2, z3, .un, .un] ∧ ∀ j < i, waysM p [] (w.drop j) = [])
    ⟨.un, .un, rfl, rfl, rfl, by simp⟩ (fun i d Γ hd hI => ?_) (fun Γ hI => ?_)
  · obtain ⟨hi, rfl⟩ := range_get hd
    obtain ⟨z2, z3, h2, h3, rfl, e⟩ := hI
    simp [h2, nI]
    rw [cutL_from _ _ (by omega), show ((i : Int)).toNat = i by omega]
    refine cuts_w 24 p.length _ (by omega) hp (by rw [List.length_drop]; omega) _ fun b => ?_
    simp [fzR]
    have hc : (cutsM p.length (w.drop i)).length ≤ 20736 := Nat.le_trans (cuts_len p.length _ 12 (by rw [List.length_drop]; omega)) (pow_small (by omega) (by omega))
    have hwy := ways_few p [] (w.drop i) 12 (by rw [List.length_drop]; omega)
    have hps : 12 ^ p.length ≤ 20736 := pow_small (by omega) (by omega)
    refine lc_pure (fun _ => true) (vlM p) rfl (by rw [List.length_map]; omega) (fun d hd => ?_) ?_
    · obtain ⟨r, hr, rfl⟩ := List.mem_map.mp hd
      rw [vlM_rT]
      simp [wipeG]
      refine values_w r p (cuts_row _ _ r hr) (by omega) hk ?_
      simp [fzR]
    · rw [filter_all, List.map_map, show (vlM p ∘ rT) = fun r => optD (extA p [] r) from funext (vlM_rT p)]
      have hm := rows_map p (w.drop i)
      have hl : ((cutsM p.length (w.drop i)).map fun r => optD (extA p [] r)).length ≤ 20736 := by rw [List.length_map]; exact hc
      generalize ((cutsM p.length (w.drop i)).map fun r => optD (extA p [] r)) = L at hm hl ⊢
      simp [wipeG, resG, isIo_of h3]
      refine lc_pure (fun d => !isN d) id rfl (by omega) (fun d hd => ?_) ?_
      · cases d <;> simp [isN]
      · rw [hm, List.map_id]
        have hM : (waysM p [] (w.drop i)).map cnk = [] → waysM p [] (w.drop i) = [] := List.map_eq_nil_iff.mp
        have hM2 : (waysM p [] (w.drop i)).map cnk ≠ [] → metD w p = .tup [nI i, mnD (((waysM p [] (w.drop i)).map cnk).map cT)] := fun h => by
          unfold metD
          rw [metAt_some e (fun z => h (by rw [z]; rfl)) hi, List.map_map]
          rfl
        generalize (waysM p [] (w.drop i)).map cnk = M at hM hM2 ⊢
        cases M with
        | nil =>
          have eq0 := oEq_cT []
          rw [List.map_nil] at eq0 ⊢
          simp [eq0]
          refine ⟨_, rfl, _, rfl, ⟨rfl, rfl⟩, fun j hj => ?_⟩
          rcases Nat.lt_succ_iff_lt_or_eq.mp hj with h | h
          · exact e j h
          · rw [h]
            exact hM rfl
        | cons x M =>
          have eq0 := oEq_cT (x :: M)
          have em := min_cT (L := x :: M) (by simp)
          rw [hM2 (by simp)] at q
          generalize (x :: M).map cT = Y at eq0 em q ⊢
          simp [eq0, em]
          exact q
  · obtain ⟨z2, z3, h2, h3, rfl, e⟩ := hI
    rw [List.length_map, List.length_range] at e
    have em : metD w p = .non := by unfold metD; rw [metAt_none e]
    rw [em] at q
    simp
    exact q
def isIn (L : List Nat) : D → Bool
  | .str s => s.all fun c => decide (c ∈ L)
  | _ => false
theorem is_ofL {L : List Nat} {d : D} {Q : Bool → D → List D → Prop} (hl : ∀ s, d = .str s → s.length ≤ 1000000) (q : Q false (.bl (isIn L d)) []) : wF f_is_of [d, .str L] Q := by
  unfold f_is_of
  refine wF_run rfl (by decide) ?_
  cases d with
  | str s =>
    simp [g_is_of, isTy, wipeG]
    refine lc_pure (fun _ => true) (fun d => match d with
      | .str [c] => .bl (decide (c ∈ L))
      | _ => .non) rfl (by simpa using hl s rfl) (fun d hd => ?_) ?_
    · obtain ⟨c, hc, rfl⟩ := List.mem_map.mp hd
      simp [isub_one]
    · rw [filter_all, List.map_map]
      rw [show ((fun d => match d with
      | D.str [c] => D.bl (decide (c ∈ L))
      | _ => D.non) ∘ fun c => D.str [c]) = D.bl ∘ (fun c => decide (c ∈ L)) from rfl, ← List.map_map, oAll_b]
      simp [resG]
      have : isIn L (.str s) = s.all fun c => decide (c ∈ L) := rfl
      rw [this] at q
      exact q
  | _ => simp [g_is_of, isTy]; exact q
def upL : List Nat := [65, 66, 67, 68, 69, 70, 71, 72, 73, 74, 75, 76, 77, 78, 79, 80, 81, 82, 83, 84, 85, 86, 87, 88, 89, 90]
def isPat (d : D) : Bool := isIn upL d && (match d with
  | .str [] => false
  | _ => true)
theorem is_pattern_of_w {d : D} {Q : Bool → D → List D → Prop} (hl : ∀ s, d = .str s → s.length ≤ 1000000) (q : Q false (.bl (isPat d)) []) : wF f_is_pattern_of [d] Q := by
  unfold f_is_pattern_of
  refine wF_run rfl (by decide) ?_
  simp [g_is_pattern_of]
  refine is_ofL hl ?_
  have e : isIn [65, 66, 67, 68, 69, 70, 71, 72, 73, 74, 75, 76, 77, 78, 79, 80, 81, 82, 83, 84, 85, 86, 87, 88, 89, 90] d = isIn upL d := rfl
  rw [e]
  unfold isPat at q
  cases d with
  | str s =>
    cases h : isIn upL (.str s) with
    | false =>
      rw [h] at q
      simp
      exact q
    | true =>
      rw [h] at q
      simp
      cases s with
      | nil => simpa using q
      | cons c s => simpa using q
  | _ => simp [isIn]; exact q
theorem is_pattern_w {d : D} {Q : Bool → D → List D → Prop} (hl : ∀ s, d = .str s → s.length ≤ 1000000) (q : Q false (.bl (isPat d)) []) : wF f_is_pattern [d] Q := by
  unfold f_is_pattern
  refine wF_run rfl (by decide) ?_
  simp [g_is_pattern]
  refine is_pattern_of_w hl ?_
  simp
  exact q
theorem isPat_of {p : List Nat} (hp0 : p ≠ []) (hpu : ∀ c ∈ p, 65 ≤ c ∧ c ≤ 90) : isPat (.str p) = true := by
  unfold isPat
  have : isIn upL (.str p) = true := by
    show p.all _ = true
    rw [List.all_eq_true]
    intro c hc
    have := hpu c hc
    rw [decide_eq_true_eq]
    unfold upL
    simp only [List.mem_cons]
    omega
  rw [this]
  cases p with
  | nil => exact absurd rfl hp0
  | cons => rfl
theorem check_pattern_w {p : List Nat} {Q : Bool → D → List D → Prop} (hl : p.length ≤ 1000000) (hp0 : p ≠ []) (hpu : ∀ c ∈ p, 65 ≤ c ∧ c ≤ 90) (q : Q false .non []) : wF f_check_pattern [.str p] Q := by
  unfold f_check_pattern
  refine wF_run rfl (by decide) ?_
  simp [g_check_pattern]
  refine is_pattern_of_w (fun s e => by cases e; exact hl) ?_
  rw [isPat_of hp0 hpu]
  simp
  exact q
/-- a dict of letters back -/
def unD : D → LA
  | .dic ks ds => (ks.zip ds).map fun p => ((match p.1 with
    | .inr s => s.cps.toList.headD 0
    | .inl _ => 0), strOf p.2)
  | _ => []
def shwD (d : D) : D := cT (cnk (unD d))
theorem shwD_aD (B : LA) : shwD (aD B) = cT (cnk B) := by
  unfold shwD
  have : unD (aD B) = B := by
    unfold aD dicL unD
    dsimp only
    rw [zip_dicL]
    unfold pD
    rw [List.map_map]
    conv => rhs; rw [← List.map_id B]
    apply List.map_congr_left
    intro a _
    obtain ⟨c, o⟩ := a
    show ((mkS [c]).cps.toList.headD 0, o) = (c, o)
    rw [mkS_cps]
    rfl
  rw [this]
theorem meets_w {w p : List Nat} (hp : p.length ≤ 4) (hp0 : p ≠ []) (hpu : ∀ c ∈ p, 65 ≤ c ∧ c ≤ 90) (hw : w.length ≤ 12) (hwl : ∀ c ∈ w, 97 ≤ c ∧ c ≤ 122) {Q : Bool → D → List D → Prop} (q : Q false (metD w p) []) : wF f_meets [.str w, .str p] Q := by
  unfold f_meets
  refine wF_run rfl (by decide) ?_
  simp [g_meets]
  refine check_word_w (by omega) hwl ?_
  simp
  refine check_pattern_w (by omega) hp0 hpu ?_
  simp
  rw [rng1_nat]
  refine ⟨by omega, ?_⟩
  have hk : ∀ c ∈ p, okSb [c] = true := fun c hc => by
    have := hpu c hc
    simp [okSb]
    omega
  refine for_inv (fun i Γ => ∃ z2 z3, isOwn (some z2) = false ∧ isOwn (some z3) = false ∧ Γ = [.val (.str w), .val (.str p), z2, z3, .un, .un] ∧ ∀ j < i, waysM p [] (w.drop j) = [])
    ⟨.un, .un, rfl, rfl, rfl, by simp⟩ (fun i d Γ hd hI => ?_) (fun Γ hI => ?_)
  · obtain ⟨hi, rfl⟩ := range_get hd
    obtain ⟨z2, z3, h2, h3, rfl, e⟩ := hI
    simp [h2, nI]
    rw [cutL_from _ _ (by omega), show ((i : Int)).toNat = i by omega]
    have e0 : dicL [] = aD [] := rfl
    rw [e0]
    refine ways_w 24 p [] _ (by omega) hp (by rw [List.length_nil]; omega) (by rw [List.length_drop]; omega) _ fun b => ?_
    have hwy := ways_few p [] (w.drop i) 12 (by rw [List.length_drop]; omega)
    have hps : 12 ^ p.length ≤ 20736 := pow_small (by omega) (by omega)
    have hM1 : ∀ B ∈ waysM p [] (w.drop i), B.length ≤ 4 ∧ ∀ a ∈ B, okSb [a.1] = true := fun B hB => by
      have h1 := ways_len p [] _ B hB
      rw [List.length_nil] at h1
      exact ⟨by omega, ways_keys p [] _ (fun x => okSb [x] = true) (by simp) hk B hB⟩
    have hM2 : waysM p [] (w.drop i) ≠ [] → metD w p = .tup [nI i, mnD ((waysM p [] (w.drop i)).map fun A => cT (cnk A))] := fun h => by
      unfold metD
      rw [metAt_some e h hi]
    have hM3 : waysM p [] (w.drop i) = [] → ∀ j < i + 1, waysM p [] (w.drop j) = [] := fun h j hj => by
      rcases Nat.lt_succ_iff_lt_or_eq.mp hj with h' | h'
      · exact e j h'
      · rw [h']
        exact h
    clear e
    generalize waysM p [] (w.drop i) = M at hwy hM1 hM2 hM3 ⊢
    simp [fzR, isIo_of h3]
    refine ⟨fun hne => ?_, fun he => ⟨_, rfl, _, rfl, ⟨rfl, rfl⟩, hM3 he⟩⟩
    have hz : (M.map aD).length ≤ 1000000 := by rw [List.length_map]; omega
    refine lc_pure (fun _ => true) shwD rfl hz (fun d hd => ?_) ?_
    · obtain ⟨B, hB, rfl⟩ := List.mem_map.mp hd
      obtain ⟨lB, kB⟩ := hM1 B hB
      simp [wipeG, sort_aD (by omega : B.length < 64) kB]
      have ls : (isort ltS (B.map fun a => [a.1])).length = B.length := by rw [(isort_perm ltS _).length_eq, List.length_map]
      refine lc_pure (fun _ => true) (shw B) rfl (by rw [List.length_map]; omega) (fun d hd => ?_) ?_
      · obtain ⟨c, o, rfl, ho⟩ := key_is hd
        have ex : oIxD (aD B) (.str [c]) = some (.imm (.str o)) := by
          unfold aD
          rw [oIxD_l]
          simp [look_pD, ho]
        simp [ex, shw, ho]
      · rw [filter_all, shw_all, ← shwD_aD]
        simp [resG]
    · rw [filter_all, List.map_map, show (shwD ∘ aD) = cT ∘ cnk from funext shwD_aD, ← List.map_map]
      have em := min_cT (L := M.map cnk) (by simpa using hne)
      have e2 : ((M.map cnk).map cT) = M.map fun A => cT (cnk A) := by rw [List.map_map]; rfl
      rw [hM2 hne, ← e2] at q
      generalize ((M.map cnk).map cT) = Y at em q ⊢
      simp [wipeG, resG, em]
      exact q
  · obtain ⟨z2, z3, h2, h3, rfl, e⟩ := hI
    rw [List.length_map, List.length_range] at e
    have em : metD w p = .non := by unfold metD; rw [metAt_none e]
    rw [em] at q
    simp
    exact q
end DL

namespace DL
open PySem PySem.Spec PyProof.Rows L2
theorem same_list (xs : List D) (hd : deps xs ≤ 6) (hf : fines xs = true) (hl : xs.length ≤ 100) {Q : Bool → D → List D → Prop} (q : Q false (.bl true) []) : wF (f_law_same 24) [.lst xs, .lst xs] Q :=
  same_w _ _ (by simp [dep]; omega) (by simp [fine, hf]; omega) _ q
def zimM (k : Nat) : List Nat := (upL.take k).foldl (fun f c => f ++ [c] ++ f) []
theorem zim_step : ∀ k < 5, zimM (k + 1) = zimM k ++ [65 + k] ++ zimM k := by decide
theorem zim_len : ∀ k < 7, (zimM k).length ≤ 100 := by decide
theorem zim_up : ∀ k < 7, ∀ c ∈ upL[k]?, zimM (k + 1) = zimM k ++ [c] ++ zimM k := by decide
theorem zimin_w {k : Nat} (hk : k ≤ 5) {Q : Bool → D → List D → Prop} (q : Q false (.str (zimM k)) []) : wF f_zimin [.int (k : Nat)] Q := by
  unfold f_zimin
  refine wF_run rfl (by decide) ?_
  simp [g_zimin]
  refine check_from_w (by omega) ?_
  simp
  unfold f_zimin_of
  refine wF_run rfl (by decide) ?_
  simp [g_zimin_of]
  rw [cutL_to _ _ (by omega), show ((k : Int)).toNat = k by omega]
  refine for_inv (fun i Γ => ∃ z2, isOwn (some z2) = false ∧ Γ = [.val (.int (k : Nat)), .val (.str (zimM i)), z2]) ⟨.un, rfl, rfl⟩ (fun i d Γ hd hI => ?_) (fun Γ hI => ?_)
  · obtain ⟨z2, h2, rfl⟩ := hI
    have hd' : ∃ c, upL[i]? = some c ∧ d = .str [c] ∧ i < k := by
      have hl := (List.getElem?_eq_some_iff.mp hd).1
      rw [List.length_map, List.length_take] at hl
      rw [List.getElem?_map, List.getElem?_take_of_lt (by omega)] at hd
      cases hc : upL[i]? with
      | none =>
        have : upL[i]? = none := hc
        unfold upL at this
        rw [this] at hd
        cases hd
      | some c =>
        have : upL[i]? = some c := hc
        unfold upL at this
        rw [this] at hd
        exact ⟨c, rfl, (Option.some.inj hd).symm, by omega⟩
    obtain ⟨c, hc, rfl, hik⟩ := hd'
    have e := zim_up i (by omega) c (by rw [hc]; rfl)
    have l := zim_len i (by omega)
    have l1 : (zimM i).length + 1 ≤ sizeLine := Nat.le_of_lt (sz63 (by omega))
    have l2 : (zimM i).length + 1 + (zimM i).length ≤ sizeLine := Nat.le_of_lt (sz63 (by omega))
    simp [h2, l1, l2, e]
  · obtain ⟨z2, h2, rfl⟩ := hI
    have : ((upL.take k).map fun c => D.str [c]).length = k := by
      rw [List.length_map, List.length_take]
      have : upL.length = 26 := rfl
      omega
    unfold upL at this
    rw [this]
    simp
    exact q
theorem not_pat : ∀ i < 6, ∀ d ∈ [D.str [], .str [97], .str [65, 32], .non, .tup [.str [65]], .int 7][i]?, isPat d = false ∧ (∀ s, d = .str s → s.length ≤ 1000000) := by
  intro i hi d hd
  match i, hi with
  | 0, _ => cases hd; exact ⟨by decide, fun s e => by cases e; simp⟩
  | 1, _ => cases hd; exact ⟨by decide, fun s e => by cases e; simp⟩
  | 2, _ => cases hd; exact ⟨by decide, fun s e => by cases e; simp⟩
  | 3, _ => cases hd; exact ⟨by decide, fun s e => by cases e⟩
  | 4, _ => cases hd; exact ⟨by decide, fun s e => by cases e⟩
  | 5, _ => cases hd; exact ⟨by decide, fun s e => by cases e⟩
/-- the odd pattern -/
theorem odd_w {A : D} {pt : List D} {z2 z4 z5 z6 z7 z8 z9 z10 z11 : Sl} {p : List Nat} {K : SRes → Prop} (hp : PotOk pt) (pl : p.length ≤ 4) (p0 : p ≠ []) (pu : ∀ c ∈ p, 65 ≤ c ∧ c ≤ 90) (h11 : isOwn (some z11) = false)
    (hK : ∀ pt' y11, PotOk pt' → isOwn (some y11) = false → K (.nx [.val A, .own false (.lst pt'), z2, .val (.str p), z4, z5, z6, z7, z8, z9, z10, y11, .un])) :
    wS t_2 [.val A, .own false (.lst pt), z2, .val (.str p), z4, z5, z6, z7, z8, z9, z10, z11, .un] K := by
  simp [t_2]
  refine take_w hp (by omega) (by omega) fun r p1 hp1 r0 r1 => ?_
  have hr : r.toNat < 6 := by omega
  obtain ⟨d, hd⟩ : ∃ d, [D.str [], .str [97], .str [65, 32], .non, .tup [.str [65]], .int 7][r.toNat]? = some d := ⟨_, List.getElem?_eq_getElem hr⟩
  obtain ⟨n1, n2⟩ := not_pat _ hr d (by rw [hd]; rfl)
  have ha : atI [D.str [], .str [97], .str [65, 32], .non, .tup [.str [65]], .int 7] r = some d := by rw [atI_n r0 (by simp; omega)]; exact hd
  simp [ha, isIo_of h11, t_1]
  have ip : ∀ Q : Bool → D → List D → Prop, Q false (.bl true) [] → wF f_is_pattern [.str p] Q := fun Q q => is_pattern_w (fun s e => by cases e; omega) (by rw [isPat_of p0 pu]; exact q)
  refine ip _ ?_
  simp [permL]
  refine ip _ ?_
  simp
  refine is_pattern_w n2 ?_
  rw [n1]
  simp
  refine same_list _ (by simp [deps, dep]) (by simp [fines, fine]) (by simp) ?_
  simp
  exact hK _ _ hp1 rfl
theorem zim_w {A : D} {pt : List D} {z2 z4 z5 z6 z7 z8 z9 z10 z11 : Sl} {p : List Nat} {K : SRes → Prop} (hp : PotOk pt) (pl : p.length ≤ 4) (p0 : p ≠ []) (pu : ∀ c ∈ p, 65 ≤ c ∧ c ≤ 90) (h9 : isOwn (some z9) = false) (h10 : isOwn (some z10) = false) (h11 : isOwn (some z11) = false)
    (hK : ∀ pt' y9 y10 y11, PotOk pt' → isOwn (some y9) = false → isOwn (some y10) = false → isOwn (some y11) = false → K (.nx [.val A, .own false (.lst pt'), z2, .val (.str p), z4, z5, z6, z7, z8, y9, y10, y11, .un])) :
    wS t_5 [.val A, .own false (.lst pt), z2, .val (.str p), z4, z5, z6, z7, z8, z9, z10, z11, .un] K := by
  simp [t_5]
  refine take_w hp (by omega) (by omega) fun r p1 hp1 r0 r1 => ?_
  obtain ⟨k, rfl⟩ : ∃ k : Nat, r = (k : Int) := ⟨r.toNat, by omega⟩
  have hk : k < 5 := by omega
  have ha : atI [65, 66, 67, 68, 69, 70, 71] (k : Int) = some (65 + k) := by
    rw [atI_nat' (by simp; omega)]
    match k, hk with
    | 0, _ => rfl
    | 1, _ => rfl
    | 2, _ => rfl
    | 3, _ => rfl
    | 4, _ => rfl
  simp [isIo_of h9, t_4, isIo_of h10, ha, t_3]
  have e1 : (k : Int) + 1 = ((k + 1 : Nat) : Int) := by omega
  have e0 : (0 : Int) = ((0 : Nat) : Int) := rfl
  have zk : ∀ Q : Bool → D → List D → Prop, Q false (.str (zimM k)) [] → wF f_zimin [.int (k : Nat)] Q := fun Q q => zimin_w (by omega) q
  have l := zim_len k (by omega)
  have l1 : (zimM k).length + 1 ≤ sizeLine := Nat.le_of_lt (sz63 (by omega))
  have l2 : (zimM k).length + 1 + (zimM k).length ≤ sizeLine := Nat.le_of_lt (sz63 (by omega))
  rw [e1]
  refine zimin_w (by omega) ?_
  simp [permL]
  refine zk _ ?_
  simp
  rw [e0]
  refine zimin_w (by omega) ?_
  simp
  refine zk _ ?_
  simp [l1]
  refine zk _ ?_
  simp [l2]
  refine zk _ ?_
  have ez := zim_step k hk
  simp
  rw [show zimM k ++ (65 + k) :: zimM k = zimM (k + 1) by rw [ez]; simp, show zimM 0 = [] from rfl]
  refine same_list _ (by simp [deps, dep]) (by simp [fines, fine]) (by simp) ?_
  simp
  exact odd_w hp1 pl p0 pu h11 fun pt' y11 q1 q2 => hK _ _ _ _ q1 rfl rfl q2
/-- what is made keeps the pattern -/
theorem made_met (V : Nat → List Nat) (p pre post : List Nat) (p0 : p ≠ []) (hV : ∀ c ∈ p, V c ≠ []) : metD (pre ++ ((p.map V).flatten ++ post)) p ≠ .non := by
  have hn := ways_ne V p post hV
  have hl : pre.length < (pre ++ ((p.map V).flatten ++ post)).length := by
    cases p with
    | nil => exact absurd rfl p0
    | cons c p =>
      have := List.length_pos_iff.mpr (hV c List.mem_cons_self)
      rw [List.map_cons, List.flatten_cons]
      simp only [List.length_append]
      omega
  unfold metD metAt
  cases h : (List.range (pre ++ ((p.map V).flatten ++ post)).length).find? fun k => !(waysM p [] ((pre ++ ((p.map V).flatten ++ post)).drop k)).isEmpty with
  | none =>
    rw [List.find?_range_eq_none] at h
    have := h _ hl
    rw [List.drop_left] at this
    simp at this
    exact absurd this hn
  | some k => simp
def tabL (vs : List (List Nat)) : List D := (List.range vs.length).map fun j => .tup [.str [65 + j], .str (vs.getD j [])]
theorem tabL_snoc (vs : List (List Nat)) (v : List Nat) : tabL (vs ++ [v]) = tabL vs ++ [.tup [.str [65 + vs.length], .str v]] := by
  unfold tabL
  rw [List.length_append, List.length_singleton, List.range_succ, List.map_append]
  congr 1
  · apply List.map_congr_left
    intro j hj
    have := List.mem_range.mp hj
    rw [List.getD_eq_getElem?_getD, List.getD_eq_getElem?_getD, List.getElem?_append_left this]
  · simp
/-- words made of the pattern -/
theorem made_w {A : D} {pt : List D} {z2 z4 z5 z6 z7 z8 z9 z10 z11 : Sl} {p : List Nat} {K : SRes → Prop} (hp : PotOk pt) (pl : p.length ≤ 4) (p0 : p ≠ []) (pu : ∀ c ∈ p, 65 ≤ c ∧ c ≤ 67)
    (h6 : isOwn (some z6) = false) (h7 : isOwn (some z7) = false) (h8 : isOwn (some z8) = false) (h9 : isOwn (some z9) = false) (h10 : isOwn (some z10) = false) (h11 : isOwn (some z11) = false)
    (hK : ∀ pt' y6 y7 y8 y9 y10 y11, PotOk pt' → isOwn (some y6) = false → isOwn (some y7) = false → isOwn (some y8) = false → isOwn (some y9) = false → isOwn (some y10) = false → isOwn (some y11) = false → K (.nx [.val A, .own false (.lst pt'), z2, .val (.str p), z4, z5, y6, y7, y8, y9, y10, y11, .un])) :
    wS t_10 [.val A, .own false (.lst pt), z2, .val (.str p), z4, z5, z6, z7, z8, z9, z10, z11, .un] K := by
  simp [t_10, wipeG]
  refine lc_inv (fun i acc Γ => ∃ p' vs, PotOk p' ∧ vs.length = i ∧ (∀ v ∈ vs, v ≠ [] ∧ v.length ≤ 2 ∧ ∀ c ∈ v, 97 ≤ c ∧ c ≤ 122) ∧ acc = tabL vs ∧ Γ = [.val A, .own false (.lst p'), z2, .val (.str p), z4, z5, z6, z7, z8, z9, z10, z11, .un])
    ⟨pt, [], hp, rfl, by simp, rfl, rfl⟩ (fun i d acc Γ hd hI => ?_) (fun acc Γ hI => ?_)
  · obtain ⟨p', vs, hp', rfl, hv, rfl, rfl⟩ := hI
    have hd' : vs.length < 3 ∧ d = .str [65 + vs.length] := by
      have hl := (List.getElem?_eq_some_iff.mp hd).1
      simp at hl
      refine ⟨hl, ?_⟩
      generalize vs.length = n at hd hl
      match n, hl with
      | 0, _ => cases hd; rfl
      | 1, _ => cases hd; rfl
      | 2, _ => cases hd; rfl
    obtain ⟨l3, rfl⟩ := hd'
    simp
    refine take_w hp' (by omega) (by omega) fun r p1 hp1 r0 r1 => ?_
    obtain ⟨a, ha, a1, a2⟩ : ∃ a, atI [97, 98] r = some a ∧ 97 ≤ a ∧ a ≤ 122 := by
      rw [atI_n r0 (by simp; omega)]
      rcases (by omega : r = 0 ∨ r = 1) with h | h <;> subst h
      · exact ⟨97, rfl, by omega, by omega⟩
      · exact ⟨98, rfl, by omega, by omega⟩
    simp [ha]
    refine take_w hp1 (by omega) (by omega) fun r' p2 hp2 s0 s1 => ?_
    obtain ⟨b, hb, b1, b2⟩ : ∃ b, atI [D.str [], .str [97], .str [99]] r' = some (.str b) ∧ b.length ≤ 1 ∧ ∀ c ∈ b, 97 ≤ c ∧ c ≤ 122 := by
      rw [atI_n s0 (by simp; omega)]
      rcases (by omega : r' = 0 ∨ r' = 1 ∨ r' = 2) with h | h | h <;> subst h
      · exact ⟨[], rfl, by simp, by simp⟩
      · exact ⟨[97], rfl, by simp, by simp⟩
      · exact ⟨[99], rfl, by simp, by simp⟩
    have l1 : 1 + b.length ≤ sizeLine := Nat.le_of_lt (sz63 (by omega))
    have l1' : b.length + 1 ≤ sizeLine := Nat.le_of_lt (sz63 (by omega))
    have l2 : (tabL vs).length < sizeLine := sz63 (by unfold tabL; rw [List.length_map, List.length_range]; omega)
    simp [hb, l1, l1', l2, wipeG]
    refine ⟨p2, hp2, vs ++ [a :: b], by simp, fun v hv' => ?_, by rw [tabL_snoc], rfl⟩
    rcases List.mem_append.mp hv' with h | h
    · exact hv v h
    · rw [List.mem_singleton.mp h]
      refine ⟨by simp, by rw [List.length_cons]; omega, fun c hc => ?_⟩
      rcases List.mem_cons.mp hc with h | h
      · omega
      · exact b2 c h
  · obtain ⟨p', vs, hp', lv, hv, rfl, rfl⟩ := hI
    simp at lv
    obtain ⟨v0, v1, v2, rfl⟩ : ∃ v0 v1 v2, vs = [v0, v1, v2] := by
      match vs, lv with
      | [a, b, c], _ => exact ⟨a, b, c, rfl⟩
    have et : tabL [v0, v1, v2] = [.tup [.str [65], .str v0], .tup [.str [66], .str v1], .tup [.str [67], .str v2]] := rfl
    simp [resG, isIo_of h6, t_9, wipeG]
    obtain ⟨V, hV65, hV66, hV67⟩ : ∃ V : Nat → List Nat, V 65 = v0 ∧ V 66 = v1 ∧ V 67 = v2 := ⟨fun c => [v0, v1, v2].getD (c - 65) [], rfl, rfl, rfl⟩
    have hVp : ∀ c ∈ p, V c ≠ [] ∧ (V c).length ≤ 2 ∧ ∀ x ∈ V c, 97 ≤ x ∧ x ≤ 122 := fun c hc => by
      have := pu c hc
      rcases (by omega : c = 65 ∨ c = 66 ∨ c = 67) with h | h | h <;> subst h
      · rw [hV65]; exact hv v0 (by simp)
      · rw [hV66]; exact hv v1 (by simp)
      · rw [hV67]; exact hv v2 (by simp)
    refine lc_pure (fun _ => true) (fun d => match d with
      | .str [c] => .str (V c)
      | _ => .non) rfl (by rw [List.length_map]; omega) (fun d hd => ?_) ?_
    · obtain ⟨c, hc, rfl⟩ := List.mem_map.mp hd
      have := pu c hc
      rcases (by omega : c = 65 ∨ c = 66 ∨ c = 67) with h | h | h <;> subst h
      · simp [oSIdx, idxL, et, hV65]
      · simp [oSIdx, idxL, et, hV66]
      · simp [oSIdx, idxL, et, hV67]
    · rw [filter_all, List.map_map]
      have ej : (List.map ((fun d => match d with
        | D.str [c] => D.str (V c)
        | _ => D.non) ∘ fun c => D.str [c]) p) = (p.map V).map D.str := by rw [List.map_map]; rfl
      rw [ej]
      have lf : (p.map V).flatten.length ≤ 2 * p.length := by
        have : ∀ q : List Nat, (∀ c ∈ q, (V c).length ≤ 2) → (q.map V).flatten.length ≤ 2 * q.length := by
          intro q
          induction q with
          | nil => simp
          | cons a q ih =>
            intro h
            have h1 := h a List.mem_cons_self
            have h2 := ih fun c hc => h c (List.mem_cons_of_mem _ hc)
            rw [List.map_cons, List.flatten_cons, List.length_append, List.length_cons]
            omega
        exact this p fun c hc => (hVp c hc).2.1
      have lx : ∀ x ∈ (p.map V).flatten, 97 ≤ x ∧ x ≤ 122 := fun x hx => by
        obtain ⟨l, hl, hx⟩ := List.mem_flatten.mp hx
        obtain ⟨c, hc, rfl⟩ := List.mem_map.mp hl
        exact (hVp c hc).2.2 x hx
      rw [oJoin_l0 _ (by omega)]
      have mm := fun pre post => made_met V p pre post p0 fun c hc => (hVp c hc).1
      generalize (p.map V).flatten = X at lf lx mm ⊢
      simp [isIo_of h7, t_8]
      refine take_w hp' (by omega) (by omega) fun r p1 hp1 r0 r1 => ?_
      obtain ⟨a, ha, a1, a2⟩ : ∃ a, atI [D.str [], .str [98]] r = some (.str a) ∧ a.length ≤ 1 ∧ ∀ x ∈ a, 97 ≤ x ∧ x ≤ 122 := by
        rw [atI_n r0 (by simp; omega)]
        rcases (by omega : r = 0 ∨ r = 1) with h | h <;> subst h
        · exact ⟨[], rfl, by simp, by simp⟩
        · exact ⟨[98], rfl, by simp, by simp⟩
      have l1 : a.length + X.length ≤ sizeLine := Nat.le_of_lt (sz63 (by omega))
      simp [ha, l1]
      refine take_w hp1 (by omega) (by omega) fun r' p2 hp2 s0 s1 => ?_
      obtain ⟨b, hb, b1, b2⟩ : ∃ b, atI [D.str [], .str [99]] r' = some (.str b) ∧ b.length ≤ 1 ∧ ∀ x ∈ b, 97 ≤ x ∧ x ≤ 122 := by
        rw [atI_n s0 (by simp; omega)]
        rcases (by omega : r' = 0 ∨ r' = 1) with h | h <;> subst h
        · exact ⟨[], rfl, by simp, by simp⟩
        · exact ⟨[99], rfl, by simp, by simp⟩
      have l2 : a.length + X.length + b.length ≤ sizeLine := Nat.le_of_lt (sz63 (by omega))
      have l2' : a.length + (X.length + b.length) ≤ sizeLine := by omega
      have mne := mm a b
      have ml : (a ++ (X ++ b)).length ≤ 12 := by simp only [List.length_append]; omega
      have mlet : ∀ x ∈ a ++ (X ++ b), 97 ≤ x ∧ x ≤ 122 := fun x hx => by
        rcases List.mem_append.mp hx with h | h
        · exact a2 x h
        · rcases List.mem_append.mp h with h | h
          · exact lx x h
          · exact b2 x h
      clear mm
      simp [hb, l2, l2', t_7, isIo_of h8]
      generalize a ++ (X ++ b) = M at mne ml mlet ⊢
      have pk : ∀ c ∈ p, okSb [c] = true := fun c hc => by
        have := pu c hc
        simp [okSb]
        omega
      refine meets_w pl p0 (fun c hc => by have := pu c hc; omega) ml mlet ?_
      obtain ⟨f1, f2⟩ := metD_fine M p (by omega)
      have iN : isN (metD M p) = false := by
        cases h : metD M p <;> first | rfl | exact absurd h mne
      have mw : ∀ Q : Bool → D → List D → Prop, Q false (metD M p) [] → wF f_law_met [.str M, .str p] Q := fun Q q => met_w pl ml pk q
      generalize metD M p = R at mne f1 f2 iN mw ⊢
      have fin : ∀ {y6 y7 y8 : Sl}, isOwn (some y6) = false → isOwn (some y7) = false → isOwn (some y8) = false → wS t_5 [.val A, .own false (.lst p2), z2, .val (.str p), z4, z5, y6, y7, y8, z9, z10, z11, .un] K := fun q6 q7 q8 =>
        zim_w hp2 pl p0 (fun c hc => by have := pu c hc; omega) h9 h10 h11 fun pt' y9 y10 y11 q1 q2 q3 q4 => hK _ _ _ _ _ _ _ q1 q6 q7 q8 q2 q3 q4
      simp [t_6, iN]
      refine ⟨isIo_of h8, fun _ => ?_, fun _ => fin rfl rfl rfl⟩
      refine mw _ ?_
      simp
      refine same_w 24 R (by omega) f1 _ ?_
      simp
      exact fin rfl rfl rfl
theorem draw_w {L : List Nat} (hL : L.length = 3) {A : D} {z2 z3 z4 z5 z6 z7 z8 z10 z11 z12 : Sl} {n : Nat} (hn : n ≤ 1000) {pt : List D} (hp : PotOk pt) {Q : List D → Gm → Prop}
    (hK : ∀ pt' (w : List Nat), PotOk pt' → w.length = n → (∀ c ∈ w, c ∈ L) → Q (w.map fun c => .str [c]) [.val A, .own false (.lst pt'), z2, z3, z4, z5, z6, z7, z8, .un, z10, z11, z12]) :
    wL (.nm 9) [9] none (eBin oIx (eC (.str L)) (eCallOk [true, false] f_law_take (aCons (eName 1) (aCons (eC (.int 3)) aNil)))) ((List.range n).map nI) [] [.val A, .own false (.lst pt), z2, z3, z4, z5, z6, z7, z8, .un, z10, z11, z12] Q := by
  refine lc_inv (fun i acc Γ => ∃ (pt' : List D) (w : List Nat), PotOk pt' ∧ w.length = i ∧ (∀ c ∈ w, c ∈ L) ∧ acc = w.map (fun c => .str [c]) ∧ Γ = [.val A, .own false (.lst pt'), z2, z3, z4, z5, z6, z7, z8, .un, z10, z11, z12])
    ⟨pt, [], hp, rfl, by simp, rfl, rfl⟩ (fun i d acc Γ hd hI => ?_) (fun acc Γ hI => ?_)
  · obtain ⟨hi, rfl⟩ := range_get hd
    obtain ⟨pt', w, hp', rfl, hw, rfl, rfl⟩ := hI
    simp [nI]
    refine take_w hp' (by omega) (by omega) fun r p1 hp1 r0 r1 => ?_
    have hr : r.toNat < L.length := by omega
    have ha : atI L r = some L[r.toNat] := by rw [atI_n r0 (by omega)]; simp [hr]
    have lz : w.length < sizeLine := sz63 (by omega)
    simp [ha, lz, wipeG]
    refine ⟨p1, hp1, w ++ [L[r.toNat]], by simp, fun c hc => ?_, by simp, rfl⟩
    rcases List.mem_append.mp hc with h | h
    · exact hw c h
    · rw [List.mem_singleton.mp h]
      exact List.getElem_mem hr
  · obtain ⟨pt', w, hp', lw, hw, rfl, rfl⟩ := hI
    rw [List.length_map, List.length_range] at lw
    exact hK pt' w hp' lw hw
theorem join_letters (w : List Nat) (h : w.length ≤ 1000) : oJoin (.str []) (.lst (w.map fun c => .str [c])) = some (.imm (.str w)) := by
  have e : (w.map fun c => D.str [c]) = (w.map fun c => [c]).map D.str := by rw [List.map_map]; rfl
  have f : (w.map fun c => [c]).flatten = w := by
    induction w with
    | nil => rfl
    | cons c w ih => rw [List.map_cons, List.flatten_cons, ih (by rw [List.length_cons] at h; omega) (by rw [List.map_map]; rfl)]; rfl
  rw [e, oJoin_l0 _ (by rw [f]; omega), f]
/-- one turn -/
theorem turn_w {A : D} {pt : List D} {z2 z3 z4 z5 z6 z7 z8 z9 z10 z11 : Sl} {K : SRes → Prop} (hp : PotOk pt)
    (h3 : isOwn (some z3) = false) (h4 : isOwn (some z4) = false) (h5 : isOwn (some z5) = false) (h6 : isOwn (some z6) = false) (h7 : isOwn (some z7) = false) (h8 : isOwn (some z8) = false) (h9 : isOwn (some z9) = false) (h10 : isOwn (some z10) = false) (h11 : isOwn (some z11) = false)
    (hK : ∀ pt' y3 y4 y5 y6 y7 y8 y9 y10 y11, PotOk pt' → isOwn (some y3) = false → isOwn (some y4) = false → isOwn (some y5) = false → isOwn (some y6) = false → isOwn (some y7) = false → isOwn (some y8) = false → isOwn (some y9) = false → isOwn (some y10) = false → isOwn (some y11) = false → K (.nx [.val A, .own false (.lst pt'), z2, y3, y4, y5, y6, y7, y8, y9, y10, y11, .un])) :
    wS t_14 [.val A, .own false (.lst pt), z2, z3, z4, z5, z6, z7, z8, z9, z10, z11, .un] K := by
  simp [t_14, wipeG]
  refine take_w hp (by omega) (by omega) fun r p1 hp1 r0 r1 => ?_
  obtain ⟨k, rfl⟩ : ∃ k : Nat, r = (k : Int) := ⟨r.toNat, by omega⟩
  simp [h9]
  refine ⟨by omega, ?_⟩
  rw [show rng1 (1 + (k : Int)) = (List.range (1 + k)).map nI by rw [← rng1_nat]; congr 1]
  refine draw_w rfl (by omega) hp1 fun p2 p hp2 lp mp => ?_
  have pu : ∀ c ∈ p, 65 ≤ c ∧ c ≤ 67 := fun c hc => by
    have := mp c hc
    simp at this
    omega
  have p0 : p ≠ [] := fun e => by rw [e] at lp; simp at lp; omega
  simp [resG, join_letters p (by omega), isIo_of h3, t_13, wipeG]
  refine take_w hp2 (by omega) (by omega) fun r p3 hp3 r0 r1 => ?_
  obtain ⟨m, rfl⟩ : ∃ m : Nat, r = (m : Int) := ⟨r.toNat, by omega⟩
  simp [h9]
  refine ⟨by omega, ?_⟩
  rw [rng1_nat]
  refine draw_w rfl (by omega) hp3 fun p4 w hp4 lw mw => ?_
  have wu : ∀ c ∈ w, 97 ≤ c ∧ c ≤ 122 := fun c hc => by
    have := mw c hc
    simp at this
    omega
  simp [resG, join_letters w (by omega), isIo_of h4, t_12]
  have pk : ∀ c ∈ p, okSb [c] = true := fun c hc => by
    have := pu c hc
    simp [okSb]
    omega
  refine met_w (by omega) (by omega) pk ?_
  have me : ∀ Q : Bool → D → List D → Prop, Q false (metD w p) [] → wF f_meets [.str w, .str p] Q := fun Q q => meets_w (by omega) p0 (fun c hc => by have := pu c hc; omega) (by omega) wu q
  obtain ⟨f1, f2⟩ := metD_fine w p (by omega)
  generalize metD w p = R at me f1 f2 ⊢
  simp [isIo_of h5, t_11]
  refine me _ ?_
  simp [permL]
  refine me _ ?_
  simp
  refine same_list [R, R] (by simp [deps]; omega) (by simp [fines, f1]) (by simp) ?_
  simp
  exact made_w hp4 (by omega) p0 pu h6 h7 h8 h9 h10 h11 fun pt' y6 y7 y8 y9 y10 y11 q1 q6 q7 q8 q9 q10 q11 => hK _ _ _ _ _ _ _ _ _ _ q1 rfl rfl rfl q6 q7 q8 q9 q10 q11
theorem law_true (ns : List Int) (h : ns.length ≤ 63) : ∃ ios, f_law [.frl (ns.map D.int)] = .ok false (.bl true) ios := by
  suffices H : wF f_law [.frl (ns.map D.int)] fun fr d ios => fr = false ∧ d = .bl true by
    obtain ⟨fr, d, ios, e, rfl, rfl⟩ := wF_get H
    exact ⟨ios, e⟩
  unfold f_law
  refine wF_run rfl (by decide) ?_
  simp [g_law, t_16]
  refine ⟨Nat.le_of_lt (sz63 (by omega)), ?_⟩
  simp [t_15]
  rw [show rng1 4 = (List.range 4).map nI from rng1_nat 4]
  refine for_k (fun i Γ => ∃ p z2 z3 z4 z5 z6 z7 z8 z9 z10 z11, PotOk p ∧ isOwn (some z2) = false ∧ isOwn (some z3) = false ∧ isOwn (some z4) = false ∧ isOwn (some z5) = false ∧ isOwn (some z6) = false ∧ isOwn (some z7) = false ∧ isOwn (some z8) = false ∧ isOwn (some z9) = false ∧ isOwn (some z10) = false ∧ isOwn (some z11) = false ∧
      Γ = [.val (.frl (ns.map D.int)), .own false (.lst p), z2, z3, z4, z5, z6, z7, z8, z9, z10, z11, .un])
    ⟨_, .un, .un, .un, .un, .un, .un, .un, .un, .un, .un, ⟨0, 7, 3, ns, rfl, by omega, by omega, by omega, by omega, by omega⟩, rfl, rfl, rfl, rfl, rfl, rfl, rfl, rfl, rfl, rfl, rfl⟩ (fun i d Γ K hd hI k1 k2 k3 k4 => ?_) (fun Γ hI => ?_)
  · obtain ⟨p, z2, z3, z4, z5, z6, z7, z8, z9, z10, z11, hp, h2, h3, h4, h5, h6, h7, h8, h9, h10, h11, rfl⟩ := hI
    simp [h2]
    exact turn_w hp h3 h4 h5 h6 h7 h8 h9 h10 h11 fun pt' y3 y4 y5 y6 y7 y8 y9 y10 y11 q1 q3 q4 q5 q6 q7 q8 q9 q10 q11 => k1 _ ⟨_, _, _, _, _, _, _, _, _, _, _, q1, rfl, q3, q4, q5, q6, q7, q8, q9, q10, q11, rfl⟩
  · obtain ⟨p, z2, z3, z4, z5, z6, z7, z8, z9, z10, z11, hp, h2, h3, h4, h5, h6, h7, h8, h9, h10, h11, rfl⟩ := hI
    simp
end DL

set_option maxHeartbeats 0
namespace DL
open PySem PySem.Spec PyProof.Rows L2
def topS (i : Nat) : Stmt := PySem.Challenge.pw_wholewords_k95_whole_patterns_met.main.body.getD i (.Pass ⟨0, 0, 0, 0⟩)
abbrev st_is_integer : Stmt := topS 7
theorem sc_is_integer : FnScope ["told"] ["told"] (defScope st_is_integer) := ⟨rfl, rfl, rfl, by decide +kernel, rfl, by decide +kernel, by decide +kernel⟩
theorem o_is_integer {P : Program} {w : World} {K : PySem.W.Frag} {mg : Str → Option Value} {base : Heap} {f : Addr} {fd : FuncData} (F : Fun K "is_integer" "is_integer" st_is_integer f fd) (hm : mg "is_integer" = some (.ref f)) (z_bool : mg "bool" = none) (z_int : mg "int" = none) (z_isinstance : mg "isinstance" = none) : Df P w K mg base 1 "is_integer" st_is_integer ["told"] [false] f_is_integer := by
  refine Df.of (N := ["told"]) F hm (F.binds (ps := ["told"]) fun _ _ _ _ _ _ us hl => match us, hl with | [_], _ => rfl) (dfun F sc_is_integer rfl fun cdv A outer s H E hr => ?_)
  have nd := sc_is_integer.nd
  have hu5 := hu65 hr
  exact (dss_one (ds_ret (de_and (de_isi .int z_isinstance z_int bt_int (de_name (i := 0))) (de_and1 (de_not (de_isi .bool z_isinstance z_bool bt_bool (de_name (i := 0))))))))

abbrev st_check_from : Stmt := topS 8
theorem sc_check_from : FnScope ["told", "least"] ["told", "least"] (defScope st_check_from) := ⟨rfl, rfl, rfl, by decide +kernel, rfl, by decide +kernel, by decide +kernel⟩
theorem o_check_from {P : Program} {w : World} {K : PySem.W.Frag} {mg : Str → Option Value} {base : Heap} {f : Addr} {fd : FuncData} (F : Fun K "check_from" "check_from" st_check_from f fd) (hm : mg "check_from" = some (.ref f)) (D_is_integer : Df P w K mg base 1 "is_integer" st_is_integer ["told"] [false] f_is_integer) : Df P w K mg base 2 "check_from" st_check_from ["told", "least"] [false, false] f_check_from := by
  refine Df.of (N := ["told", "least"]) F hm (F.binds (ps := ["told", "least"]) fun _ _ _ _ _ _ us hl => match us, hl with | [_, _], _ => rfl) (dfun F sc_check_from rfl fun cdv A outer s H E hr => ?_)
  have nd := sc_check_from.nd
  have hu5 := hu65 hr
  exact (dss_one (ds_if (DW.pt (dw_or (dt_not (dt_val (de_callD D_is_integer (hr.mono (by omega)) (da_cons (de_name (i := 0)) da_nil)))) (dw_or1 (dt_cmp op_ltA od_cmp (de_name (i := 0)) (de_name (i := 1)) (nomark _))))) (dss_one ds_never) dss_nil))

abbrev st_is_of : Stmt := topS 9
theorem sc_is_of : FnScope ["told", "letters", "letter"] ["told", "letters"] (defScope st_is_of) := ⟨rfl, rfl, rfl, by decide +kernel, rfl, by decide +kernel, by decide +kernel⟩
theorem o_is_of {P : Program} {w : World} {K : PySem.W.Frag} {mg : Str → Option Value} {base : Heap} {f : Addr} {fd : FuncData} (F : Fun K "is_of" "is_of" st_is_of f fd) (hm : mg "is_of" = some (.ref f)) (z_all : mg "all" = none) (z_isinstance : mg "isinstance" = none) (z_str : mg "str" = none) : Df P w K mg base 1 "is_of" st_is_of ["told", "letters"] [false, false] f_is_of := by
  refine Df.of (N := ["told", "letters", "letter"]) F hm (F.binds (ps := ["told", "letters"]) fun _ _ _ _ _ _ us hl => match us, hl with | [_, _], _ => rfl) (dfun F sc_is_of rfl fun cdv A outer s H E hr => ?_)
  have nd := sc_is_of.nd
  have hu5 := hu65 hr
  exact (dss_one (ds_ret (de_and (de_isi .str z_isinstance z_str bt_str (de_name (i := 0))) (de_and1 (de_callB (cr_all rfl) cd_all z_all bt_all (da_cons (de_lc (own := [("letter", 2)]) rfl nd (blkOk_by (own := [("letter", 2)]) (by first | decide +kernel | rfl)) (di_any (de_name (i := 0))) (fun _ _ _ _ _ => (dg_nm (i := 2) nd)) (fun _ _ _ _ _ => dts_nil) (fun _ _ _ _ _ => (de_cmp (op_inA hu5) (od_in false) (de_name (i := 2)) (de_name (i := 1))))) da_nil))))))

abbrev st_is_word_of : Stmt := topS 10
theorem sc_is_word_of : FnScope ["told"] ["told"] (defScope st_is_word_of) := ⟨rfl, rfl, rfl, by decide +kernel, rfl, by decide +kernel, by decide +kernel⟩
theorem o_is_word_of {P : Program} {w : World} {K : PySem.W.Frag} {mg : Str → Option Value} {base : Heap} {f : Addr} {fd : FuncData} {t_ALPHABET : Tok} (F : Fun K "is_word_of" "is_word_of" st_is_word_of f fd) (hm : mg "is_word_of" = some (.ref f)) (z_ALPHABET : mg "ALPHABET" = some (.str (mkS [97, 98, 99, 100, 101, 102, 103, 104, 105, 106, 107, 108, 109, 110, 111, 112, 113, 114, 115, 116, 117, 118, 119, 120, 121, 122]) t_ALPHABET)) (D_is_of : Df P w K mg base 1 "is_of" st_is_of ["told", "letters"] [false, false] f_is_of) : Df P w K mg base 2 "is_word_of" st_is_word_of ["told"] [false] f_is_word_of := by
  refine Df.of (N := ["told"]) F hm (F.binds (ps := ["told"]) fun _ _ _ _ _ _ us hl => match us, hl with | [_], _ => rfl) (dfun F sc_is_word_of rfl fun cdv A outer s H E hr => ?_)
  have nd := sc_is_word_of.nd
  have hu5 := hu65 hr
  exact (dss_one (ds_ret (de_callD D_is_of (hr.mono (by omega)) (da_cons (de_name (i := 0)) (da_cons (de_gstr (z := mkS [97, 98, 99, 100, 101, 102, 103, 104, 105, 106, 107, 108, 109, 110, 111, 112, 113, 114, 115, 116, 117, 118, 119, 120, 121, 122]) [97, 98, 99, 100, 101, 102, 103, 104, 105, 106, 107, 108, 109, 110, 111, 112, 113, 114, 115, 116, 117, 118, 119, 120, 121, 122] rfl z_ALPHABET rfl) da_nil)))))

abbrev st_check_word : Stmt := topS 11
theorem sc_check_word : FnScope ["told"] ["told"] (defScope st_check_word) := ⟨rfl, rfl, rfl, by decide +kernel, rfl, by decide +kernel, by decide +kernel⟩
theorem o_check_word {P : Program} {w : World} {K : PySem.W.Frag} {mg : Str → Option Value} {base : Heap} {f : Addr} {fd : FuncData} (F : Fun K "check_word" "check_word" st_check_word f fd) (hm : mg "check_word" = some (.ref f)) (D_is_word_of : Df P w K mg base 2 "is_word_of" st_is_word_of ["told"] [false] f_is_word_of) : Df P w K mg base 3 "check_word" st_check_word ["told"] [false] f_check_word := by
  refine Df.of (N := ["told"]) F hm (F.binds (ps := ["told"]) fun _ _ _ _ _ _ us hl => match us, hl with | [_], _ => rfl) (dfun F sc_check_word rfl fun cdv A outer s H E hr => ?_)
  have nd := sc_check_word.nd
  have hu5 := hu65 hr
  exact (dss_one (ds_if (dt_not (dt_val (de_callD D_is_word_of (hr.mono (by omega)) (da_cons (de_name (i := 0)) da_nil)))) (dss_one ds_never) dss_nil))

abbrev st_is_pattern_of : Stmt := topS 14
theorem sc_is_pattern_of : FnScope ["told"] ["told"] (defScope st_is_pattern_of) := ⟨rfl, rfl, rfl, by decide +kernel, rfl, by decide +kernel, by decide +kernel⟩
theorem o_is_pattern_of {P : Program} {w : World} {K : PySem.W.Frag} {mg : Str → Option Value} {base : Heap} {f : Addr} {fd : FuncData} {t_UPPER : Tok} (F : Fun K "is_pattern_of" "is_pattern_of" st_is_pattern_of f fd) (hm : mg "is_pattern_of" = some (.ref f)) (z_UPPER : mg "UPPER" = some (.str (mkS [65, 66, 67, 68, 69, 70, 71, 72, 73, 74, 75, 76, 77, 78, 79, 80, 81, 82, 83, 84, 85, 86, 87, 88, 89, 90]) t_UPPER)) (D_is_of : Df P w K mg base 1 "is_of" st_is_of ["told", "letters"] [false, false] f_is_of) : Df P w K mg base 2 "is_pattern_of" st_is_pattern_of ["told"] [false] f_is_pattern_of := by
  refine Df.of (N := ["told"]) F hm (F.binds (ps := ["told"]) fun _ _ _ _ _ _ us hl => match us, hl with | [_], _ => rfl) (dfun F sc_is_pattern_of rfl fun cdv A outer s H E hr => ?_)
  have nd := sc_is_pattern_of.nd
  have hu5 := hu65 hr
  exact (dss_one (ds_ret (de_and (de_callD D_is_of (hr.mono (by omega)) (da_cons (de_name (i := 0)) (da_cons (de_gstr (z := mkS [65, 66, 67, 68, 69, 70, 71, 72, 73, 74, 75, 76, 77, 78, 79, 80, 81, 82, 83, 84, 85, 86, 87, 88, 89, 90]) [65, 66, 67, 68, 69, 70, 71, 72, 73, 74, 75, 76, 77, 78, 79, 80, 81, 82, 83, 84, 85, 86, 87, 88, 89, 90] rfl z_UPPER rfl) da_nil))) (de_and1 (de_cmp (op_neM hr.units) (od_eq true) (de_name (i := 0)) (de_str []) (nomark _))))))

abbrev st_is_pattern : Stmt := topS 15
theorem sc_is_pattern : FnScope ["told"] ["told"] (defScope st_is_pattern) := ⟨rfl, rfl, rfl, by decide +kernel, rfl, by decide +kernel, by decide +kernel⟩
theorem o_is_pattern {P : Program} {w : World} {K : PySem.W.Frag} {mg : Str → Option Value} {base : Heap} {f : Addr} {fd : FuncData} (F : Fun K "is_pattern" "is_pattern" st_is_pattern f fd) (hm : mg "is_pattern" = some (.ref f)) (D_is_pattern_of : Df P w K mg base 2 "is_pattern_of" st_is_pattern_of ["told"] [false] f_is_pattern_of) : Df P w K mg base 3 "is_pattern" st_is_pattern ["told"] [false] f_is_pattern := by
  refine Df.of (N := ["told"]) F hm (F.binds (ps := ["told"]) fun _ _ _ _ _ _ us hl => match us, hl with | [_], _ => rfl) (dfun F sc_is_pattern rfl fun cdv A outer s H E hr => ?_)
  have nd := sc_is_pattern.nd
  have hu5 := hu65 hr
  exact (dss_one (ds_ret (de_callD D_is_pattern_of (hr.mono (by omega)) (da_cons (de_name (i := 0)) da_nil))))

abbrev st_check_pattern : Stmt := topS 16
theorem sc_check_pattern : FnScope ["pattern"] ["pattern"] (defScope st_check_pattern) := ⟨rfl, rfl, rfl, by decide +kernel, rfl, by decide +kernel, by decide +kernel⟩
theorem o_check_pattern {P : Program} {w : World} {K : PySem.W.Frag} {mg : Str → Option Value} {base : Heap} {f : Addr} {fd : FuncData} (F : Fun K "check_pattern" "check_pattern" st_check_pattern f fd) (hm : mg "check_pattern" = some (.ref f)) (D_is_pattern_of : Df P w K mg base 2 "is_pattern_of" st_is_pattern_of ["told"] [false] f_is_pattern_of) : Df P w K mg base 3 "check_pattern" st_check_pattern ["pattern"] [false] f_check_pattern := by
  refine Df.of (N := ["pattern"]) F hm (F.binds (ps := ["pattern"]) fun _ _ _ _ _ _ us hl => match us, hl with | [_], _ => rfl) (dfun F sc_check_pattern rfl fun cdv A outer s H E hr => ?_)
  have nd := sc_check_pattern.nd
  have hu5 := hu65 hr
  exact (dss_one (ds_if (dt_not (dt_val (de_callD D_is_pattern_of (hr.mono (by omega)) (da_cons (de_name (i := 0)) da_nil)))) (dss_one ds_never) dss_nil))

abbrev st_ways_at : Stmt := topS 17
theorem sc_ways_at : FnScope ["word", "pattern", "values", "found", "size", "letter", "rest", "own"] ["word", "pattern", "values"] (defScope st_ways_at) := ⟨rfl, rfl, rfl, by decide +kernel, rfl, by decide +kernel, by decide +kernel⟩
theorem o_ways_at {P : Program} {w : World} {K : PySem.W.Frag} {mg : Str → Option Value} {base : Heap} {f : Addr} {fd : FuncData} (F : Fun K "ways_at" "ways_at" st_ways_at f fd) (hm : mg "ways_at" = some (.ref f)) (z_len : mg "len" = none) (z_range : mg "range" = none) : ∀ n : Nat, Df P w K mg base (n + 1) "ways_at" st_ways_at ["word", "pattern", "values"] [false, false, false] (f_ways_at n)
  | 0 => Df.of (N := ["word", "pattern", "values", "found", "size", "letter", "rest", "own"]) F hm (F.binds (ps := ["word", "pattern", "values"]) fun _ _ _ _ _ _ us hl => match us, hl with | [_, _, _], _ => rfl) (dfun (k := 0 + 0) F sc_ways_at rfl fun cdv A outer s H E hr => dss_never)
  | n + 1 => by
    have D_ways_at := o_ways_at (P := P) (w := w) (base := base) F hm z_len z_range n
    have e : n + 1 + 1 = (n + 1) + 1 := by omega
    rw [e]
    refine Df.of (N := ["word", "pattern", "values", "found", "size", "letter", "rest", "own"]) F hm (F.binds (ps := ["word", "pattern", "values"]) fun _ _ _ _ _ _ us hl => match us, hl with | [_, _, _], _ => rfl) (dfun F sc_ways_at rfl fun cdv A outer s H E hr => ?_)
    have nd := sc_ways_at.nd
    have hu5 := hu65 hr
    exact (dss_cons (ds_if (dt_cmp (op_eqM hr.units) (od_eq false) (de_name (i := 1)) (de_str []) (nomark _)) (dss_one (ds_ret (de_lst (da_cons (de_name (i := 2)) da_nil)))) dss_nil)
  (dss_cons (ds_par (i := 5) (j := 6) (oi := false) (oj := false) rfl nd (de_ix ix_seq od_ix (de_name (i := 1)) de_int) (de_sl10 (de_name (i := 1)) de_int) rfl rfl (by decide) rfl)
  (dss_cons (ds_own (i := 3) nd (de_lst da_nil))
  (dss_cons (ds_for PassesOwn.never rfl (di_range2 z_range de_int (de_bin op_addA od_add (de_bin op_sub od_sub (de_callB cr_len cd_len z_len bt_len (da_cons (de_name (i := 0)) da_nil)) (de_callB cr_len cd_len z_len bt_len (da_cons (de_name (i := 6)) da_nil))) de_int)) (dg_nm (i := 4) nd) (dss_cons (ds_set (i := 7) nd (de_sl01 (de_name (i := 0)) (de_name (i := 4))))
    (dss_one (ds_if (dt_cmp (op_eqM hr.units) (od_eq false) (de_get2 (hu1 hu5) (de_name (i := 2)) (de_name (i := 5)) (de_name (i := 7))) (de_name (i := 7)) (nomark _)) (dss_one (ds_expr (de_extend (de_name (i := 3)) (de_callD D_ways_at (hr.mono (by omega)) (da_cons (de_sl10 (de_name (i := 0)) (de_name (i := 4))) (da_cons (de_name (i := 6)) (da_cons (de_dup (de_name (i := 2)) (de_name (i := 5)) (de_name (i := 7))) da_nil))))))) dss_nil))))
  (dss_one (ds_ret (de_name (i := 3))))))))

abbrev st_meets : Stmt := topS 18
theorem sc_meets : FnScope ["word", "pattern", "at", "told", "values", "letter"] ["word", "pattern"] (defScope st_meets) := ⟨rfl, rfl, rfl, by decide +kernel, rfl, by decide +kernel, by decide +kernel⟩
theorem o_meets {P : Program} {w : World} {K : PySem.W.Frag} {mg : Str → Option Value} {base : Heap} {f : Addr} {fd : FuncData} (F : Fun K "meets" "meets" st_meets f fd) (hm : mg "meets" = some (.ref f)) (z_len : mg "len" = none) (z_min : mg "min" = none) (z_range : mg "range" = none) (z_sorted : mg "sorted" = none) (z_tuple : mg "tuple" = none) (D_check_word : Df P w K mg base 3 "check_word" st_check_word ["told"] [false] f_check_word) (D_check_pattern : Df P w K mg base 3 "check_pattern" st_check_pattern ["pattern"] [false] f_check_pattern) (D_ways_at : Df P w K mg base 25 "ways_at" st_ways_at ["word", "pattern", "values"] [false, false, false] (f_ways_at 24)) : Df P w K mg base 26 "meets" st_meets ["word", "pattern"] [false, false] f_meets := by
  refine Df.of (N := ["word", "pattern", "at", "told", "values", "letter"]) F hm (F.binds (ps := ["word", "pattern"]) fun _ _ _ _ _ _ us hl => match us, hl with | [_, _], _ => rfl) (dfun F sc_meets rfl fun cdv A outer s H E hr => ?_)
  have nd := sc_meets.nd
  have hu5 := hu65 hr
  exact (dss_cons (ds_expr (de_callD D_check_word (hr.mono (by omega)) (da_cons (de_name (i := 0)) da_nil)))
  (dss_cons (ds_expr (de_callD D_check_pattern (hr.mono (by omega)) (da_cons (de_name (i := 1)) da_nil)))
  (dss_cons (ds_for PassesOwn.never rfl (di_range1 z_range (de_callB cr_len cd_len z_len bt_len (da_cons (de_name (i := 0)) da_nil))) (dg_nm (i := 2) nd) (dss_cons (ds_set (i := 3) nd (de_callD D_ways_at (hr.mono (by omega)) (da_cons (de_sl10 (de_name (i := 0)) (de_name (i := 2))) (da_cons (de_name (i := 1)) (da_cons de_dnew da_nil)))))
    (dss_one (ds_if (dt_cmp (op_neE hr.units) od_neE (de_name (i := 3)) (de_lst da_nil) (nomark _)) (dss_one (ds_ret (de_tup (da_cons (de_name (i := 2)) (da_cons (de_callB (cr_minU rfl hr.units) cd_minU z_min bt_min (da_cons (de_lc (own := [("values", 4)]) rfl nd (blkOk_by (own := [("values", 4)]) (by first | decide +kernel | rfl)) (di_any (de_name (i := 3))) (fun _ _ _ _ _ => (dg_nm (i := 4) nd)) (fun _ _ _ _ _ => dts_nil) (fun _ _ _ _ _ => (de_callTy call_tuple_of cd_tuple z_tuple bt_tuple (da_cons (de_lc (own := [("letter", 5)]) rfl nd (blkOk_by (own := [("letter", 5)]) (by first | decide +kernel | rfl)) (di_any (de_callB (cr_sortKD rfl) cd_sortKD z_sorted bt_sorted (da_cons (de_name (i := 4)) da_nil))) (fun _ _ _ _ _ => (dg_nm (i := 5) nd)) (fun _ _ _ _ _ => dts_nil) (fun _ _ _ _ _ => (de_tup (da_cons (de_name (i := 5)) (da_cons (de_ixD (hu1 hu5) (de_name (i := 4)) (de_name (i := 5))) da_nil))))) da_nil)))) da_nil)) da_nil))))) dss_nil))))
  (dss_one (ds_ret de_non)))))

abbrev st_zimin_of : Stmt := topS 19
theorem sc_zimin_of : FnScope ["n", "found", "letter"] ["n"] (defScope st_zimin_of) := ⟨rfl, rfl, rfl, by decide +kernel, rfl, by decide +kernel, by decide +kernel⟩
theorem o_zimin_of {P : Program} {w : World} {K : PySem.W.Frag} {mg : Str → Option Value} {base : Heap} {f : Addr} {fd : FuncData} {t_UPPER : Tok} (F : Fun K "zimin_of" "zimin_of" st_zimin_of f fd) (hm : mg "zimin_of" = some (.ref f)) (z_UPPER : mg "UPPER" = some (.str (mkS [65, 66, 67, 68, 69, 70, 71, 72, 73, 74, 75, 76, 77, 78, 79, 80, 81, 82, 83, 84, 85, 86, 87, 88, 89, 90]) t_UPPER)) : Df P w K mg base 1 "zimin_of" st_zimin_of ["n"] [false] f_zimin_of := by
  refine Df.of (N := ["n", "found", "letter"]) F hm (F.binds (ps := ["n"]) fun _ _ _ _ _ _ us hl => match us, hl with | [_], _ => rfl) (dfun F sc_zimin_of rfl fun cdv A outer s H E hr => ?_)
  have nd := sc_zimin_of.nd
  have hu5 := hu65 hr
  exact (dss_cons (ds_set (i := 1) nd (de_str []))
  (dss_cons (ds_for PassesOwn.never rfl (di_any (de_sl01 (de_gstr (z := mkS [65, 66, 67, 68, 69, 70, 71, 72, 73, 74, 75, 76, 77, 78, 79, 80, 81, 82, 83, 84, 85, 86, 87, 88, 89, 90]) [65, 66, 67, 68, 69, 70, 71, 72, 73, 74, 75, 76, 77, 78, 79, 80, 81, 82, 83, 84, 85, 86, 87, 88, 89, 90] rfl z_UPPER rfl) (de_name (i := 0)))) (dg_nm (i := 2) nd) (dss_one (ds_set (i := 1) nd (de_bin op_addA od_add (de_bin op_addA od_add (de_name (i := 1)) (de_name (i := 2))) (de_name (i := 1))))))
  (dss_one (ds_ret (de_name (i := 1))))))

abbrev st_zimin : Stmt := topS 20
theorem sc_zimin : FnScope ["n"] ["n"] (defScope st_zimin) := ⟨rfl, rfl, rfl, by decide +kernel, rfl, by decide +kernel, by decide +kernel⟩
theorem o_zimin {P : Program} {w : World} {K : PySem.W.Frag} {mg : Str → Option Value} {base : Heap} {f : Addr} {fd : FuncData} (F : Fun K "zimin" "zimin" st_zimin f fd) (hm : mg "zimin" = some (.ref f)) (D_check_from : Df P w K mg base 2 "check_from" st_check_from ["told", "least"] [false, false] f_check_from) (D_zimin_of : Df P w K mg base 1 "zimin_of" st_zimin_of ["n"] [false] f_zimin_of) : Df P w K mg base 3 "zimin" st_zimin ["n"] [false] f_zimin := by
  refine Df.of (N := ["n"]) F hm (F.binds (ps := ["n"]) fun _ _ _ _ _ _ us hl => match us, hl with | [_], _ => rfl) (dfun F sc_zimin rfl fun cdv A outer s H E hr => ?_)
  have nd := sc_zimin.nd
  have hu5 := hu65 hr
  exact (dss_cons (ds_expr (de_callD D_check_from (hr.mono (by omega)) (da_cons (de_name (i := 0)) (da_cons de_int da_nil))))
  (dss_one (ds_ret (de_callD D_zimin_of (hr.mono (by omega)) (da_cons (de_name (i := 0)) da_nil)))))

abbrev st_law_take : Stmt := topS 22
theorem sc_law_take : FnScope ["pot", "many", "cell", "drawn_now", "mixed"] ["pot", "many"] (defScope st_law_take) := ⟨rfl, rfl, rfl, by decide +kernel, rfl, by decide +kernel, by decide +kernel⟩
theorem o_law_take {P : Program} {w : World} {K : PySem.W.Frag} {mg : Str → Option Value} {base : Heap} {f : Addr} {fd : FuncData} (F : Fun K "_law_take" "_law_take" st_law_take f fd) (hm : mg "_law_take" = some (.ref f)) (z_int : mg "int" = none) (z_len : mg "len" = none) : Df P w K mg base 1 "_law_take" st_law_take ["pot", "many"] [true, false] f_law_take := by
  refine Df.of (N := ["pot", "many", "cell", "drawn_now", "mixed"]) F hm (F.binds (ps := ["pot", "many"]) fun _ _ _ _ _ _ us hl => match us, hl with | [_, _], _ => rfl) (dfun F sc_law_take rfl fun cdv A outer s H E hr => ?_)
  have nd := sc_law_take.nd
  have hu5 := hu65 hr
  exact (dss_cons (ds_if (DW.pt (dw_and (dt_cmp (op_eqM hr.units) (od_eq false) (de_ix ix_seq od_ix (de_name (i := 0)) de_int) de_int (nomark _)) (dw_and1 (dt_cmp op_ltA od_cmp (de_ix ix_seq od_ix (de_name (i := 0)) de_int) (de_callB cr_len cd_len z_len bt_len (da_cons (de_name (i := 0)) da_nil)) (nomark _))))) (dss_cons (ds_set (i := 2) nd (de_ix ix_seq od_ix (de_name (i := 0)) (de_ix ix_seq od_ix (de_name (i := 0)) de_int)))
    (dss_cons (ds_augIx (F0 := (· + ·)) iop_add (de_name (i := 0)) de_int de_int)
    (dss_one (ds_if (dt_cmp op_geA od_cmp (de_name (i := 2)) (de_bin op_pow od_pow de_int de_int) (nomark _)) (dss_one (ds_ix (de_bin op_sub od_sub (de_name (i := 2)) (de_bin op_pow od_pow de_int de_int)) (de_name (i := 0)) de_int)) (dss_cons (ds_set (i := 4) nd (de_bin op_mod od_mod (de_callTy call_int1 cd_int z_int bt_int (da_cons (de_name (i := 2)) da_nil)) de_int))
      (dss_cons (ds_set (i := 4) nd (de_bin op_mod od_mod (de_callTy call_int1 cd_int z_int bt_int (da_cons (de_bin op_addA od_add (de_bin op_addA od_add (de_bin op_mulA od_mul (de_name (i := 4)) (de_name (i := 4))) (de_bin op_mulA od_mul de_int (de_name (i := 4)))) (de_bin op_mulA od_mul de_int (de_ix ix_seq od_ix (de_name (i := 0)) de_int))) da_nil)) de_int))
      (dss_one (ds_ix (de_bin op_mod od_mod (de_callTy call_int1 cd_int z_int bt_int (da_cons (de_bin op_addA od_add (de_ix ix_seq od_ix (de_name (i := 0)) de_int) (de_name (i := 4))) da_nil)) de_int) (de_name (i := 0)) de_int)))))))) dss_nil)
  (dss_cons (ds_if (dt_cmp op_gtA od_cmp (de_ix ix_seq od_ix (de_name (i := 0)) de_int) de_int (nomark _)) (dss_cons (ds_set (i := 3) nd (de_bin op_mod od_mod (de_callTy call_int1 cd_int z_int bt_int (da_cons (de_ix ix_seq od_ix (de_name (i := 0)) de_int) da_nil)) (de_name (i := 1))))
    (dss_cons (ds_ix (de_bin op_fdiv od_div (de_ix ix_seq od_ix (de_name (i := 0)) de_int) (de_name (i := 1))) (de_name (i := 0)) de_int)
    (dss_one (ds_ret (de_name (i := 3)))))) dss_nil)
  (dss_cons (ds_ix (de_bin op_mod od_mod (de_callTy call_int1 cd_int z_int bt_int (da_cons (de_bin op_addA od_add (de_bin op_addA od_add (de_bin op_mulA od_mul (de_ix ix_seq od_ix (de_name (i := 0)) de_int) de_int) (de_bin op_mulA od_mul de_int (de_ix ix_seq od_ix (de_name (i := 0)) de_int))) de_int) da_nil)) de_int) (de_name (i := 0)) de_int)
  (dss_cons (ds_ix (de_bin op_mod od_mod (de_callTy call_int1 cd_int z_int bt_int (da_cons (de_bin op_addA od_add (de_bin op_mulA od_mul (de_ix ix_seq od_ix (de_name (i := 0)) de_int) (de_ix ix_seq od_ix (de_name (i := 0)) de_int)) de_int) da_nil)) de_int) (de_name (i := 0)) de_int)
  (dss_one (ds_ret (de_bin op_mod od_mod (de_callTy call_int1 cd_int z_int bt_int (da_cons (de_bin op_fdiv od_div (de_ix ix_seq od_ix (de_name (i := 0)) de_int) de_int) da_nil)) (de_name (i := 1)))))))))

abbrev st_law_same : Stmt := topS 23
theorem sc_law_same : FnScope ["got", "due", "k"] ["got", "due"] (defScope st_law_same) := ⟨rfl, rfl, rfl, by decide +kernel, rfl, by decide +kernel, by decide +kernel⟩
theorem o_law_same {P : Program} {w : World} {K : PySem.W.Frag} {mg : Str → Option Value} {base : Heap} {f : Addr} {fd : FuncData} (F : Fun K "_law_same" "_law_same" st_law_same f fd) (hm : mg "_law_same" = some (.ref f)) (z_all : mg "all" = none) (z_bool : mg "bool" = none) (z_int : mg "int" = none) (z_isinstance : mg "isinstance" = none) (z_len : mg "len" = none) (z_list : mg "list" = none) (z_range : mg "range" = none) (z_str : mg "str" = none) (z_tuple : mg "tuple" = none) : ∀ n : Nat, Df P w K mg base (n + 1) "_law_same" st_law_same ["got", "due"] [false, false] (f_law_same n)
  | 0 => Df.of (N := ["got", "due", "k"]) F hm (F.binds (ps := ["got", "due"]) fun _ _ _ _ _ _ us hl => match us, hl with | [_, _], _ => rfl) (dfun (k := 0 + 0) F sc_law_same rfl fun cdv A outer s H E hr => dss_never)
  | n + 1 => by
    have D_law_same := o_law_same (P := P) (w := w) (base := base) F hm z_all z_bool z_int z_isinstance z_len z_list z_range z_str z_tuple n
    have e : n + 1 + 1 = (n + 1) + 1 := by omega
    rw [e]
    refine Df.of (N := ["got", "due", "k"]) F hm (F.binds (ps := ["got", "due"]) fun _ _ _ _ _ _ us hl => match us, hl with | [_, _], _ => rfl) (dfun F sc_law_same rfl fun cdv A outer s H E hr => ?_)
    have nd := sc_law_same.nd
    have hu5 := hu65 hr
    exact (dss_cons (ds_if (dt_cmp op_isN od_is (de_name (i := 1)) de_non (nomark _)) (dss_one (ds_ret (de_cmp op_isN od_is (de_name (i := 0)) de_non (nomark _)))) dss_nil)
  (dss_cons (ds_if (dt_val (de_isi2 .bool .str z_isinstance z_bool bt_bool z_str bt_str (de_name (i := 1)))) (dss_one (ds_ret (de_and (de_cmp (op_eqM hr.units) (od_eq false) (de_isi .bool z_isinstance z_bool bt_bool (de_name (i := 0))) (de_isi .bool z_isinstance z_bool bt_bool (de_name (i := 1))) (nomark _)) (de_and (de_isi2 .bool .str z_isinstance z_bool bt_bool z_str bt_str (de_name (i := 0))) (de_and1 (de_cmp (op_eqM hr.units) (od_eq false) (de_name (i := 0)) (de_name (i := 1)) (nomark _))))))) dss_nil)
  (dss_cons (ds_if (dt_val (de_isi .int z_isinstance z_int bt_int (de_name (i := 1)))) (dss_one (ds_ret (de_and (de_isi .int z_isinstance z_int bt_int (de_name (i := 0))) (de_and (de_not (de_isi .bool z_isinstance z_bool bt_bool (de_name (i := 0)))) (de_and1 (de_cmp (op_eqM hr.units) (od_eq false) (de_name (i := 0)) (de_name (i := 1)) (nomark _))))))) dss_nil)
  (dss_cons (ds_if (DW.pt (dw_or (dt_cmp (op_neM hr.units) (od_eq true) (de_isi .list z_isinstance z_list bt_list (de_name (i := 1))) (de_isi .list z_isinstance z_list bt_list (de_name (i := 0))) (nomark _)) (dw_or1 (dt_cmp (op_neM hr.units) (od_eq true) (de_isi .tuple z_isinstance z_tuple bt_tuple (de_name (i := 1))) (de_isi .tuple z_isinstance z_tuple bt_tuple (de_name (i := 0))) (nomark _))))) (dss_one (ds_ret de_bl)) dss_nil)
  (dss_one (ds_ret (de_and (de_cmp (op_eqM hr.units) (od_eq false) (de_callB cr_len cd_len z_len bt_len (da_cons (de_name (i := 0)) da_nil)) (de_callB cr_len cd_len z_len bt_len (da_cons (de_name (i := 1)) da_nil)) (nomark _)) (de_and1 (de_callB (cr_all rfl) cd_all z_all bt_all (da_cons (de_lc (own := [("k", 2)]) rfl nd (blkOk_by (own := [("k", 2)]) (by first | decide +kernel | rfl)) (di_range1 z_range (de_callB cr_len cd_len z_len bt_len (da_cons (de_name (i := 1)) da_nil))) (fun _ _ _ _ _ => (dg_nm (i := 2) nd)) (fun _ _ _ _ _ => dts_nil) (fun _ _ _ _ _ => (de_callD D_law_same (hr.mono (by omega)) (da_cons (de_ix ix_seq od_ix (de_name (i := 0)) (de_name (i := 2))) (da_cons (de_ix ix_seq od_ix (de_name (i := 1)) (de_name (i := 2))) da_nil))))) da_nil))))))))))

abbrev st_law_cuts : Stmt := topS 24
theorem sc_law_cuts : FnScope ["word", "many", "found", "size", "row"] ["word", "many"] (defScope st_law_cuts) := ⟨rfl, rfl, rfl, by decide +kernel, rfl, by decide +kernel, by decide +kernel⟩
theorem o_law_cuts {P : Program} {w : World} {K : PySem.W.Frag} {mg : Str → Option Value} {base : Heap} {f : Addr} {fd : FuncData} (F : Fun K "_law_cuts" "_law_cuts" st_law_cuts f fd) (hm : mg "_law_cuts" = some (.ref f)) (z_len : mg "len" = none) (z_range : mg "range" = none) : ∀ n : Nat, Df P w K mg base (n + 1) "_law_cuts" st_law_cuts ["word", "many"] [false, false] (f_law_cuts n)
  | 0 => Df.of (N := ["word", "many", "found", "size", "row"]) F hm (F.binds (ps := ["word", "many"]) fun _ _ _ _ _ _ us hl => match us, hl with | [_, _], _ => rfl) (dfun (k := 0 + 0) F sc_law_cuts rfl fun cdv A outer s H E hr => dss_never)
  | n + 1 => by
    have D_law_cuts := o_law_cuts (P := P) (w := w) (base := base) F hm z_len z_range n
    have e : n + 1 + 1 = (n + 1) + 1 := by omega
    rw [e]
    refine Df.of (N := ["word", "many", "found", "size", "row"]) F hm (F.binds (ps := ["word", "many"]) fun _ _ _ _ _ _ us hl => match us, hl with | [_, _], _ => rfl) (dfun F sc_law_cuts rfl fun cdv A outer s H E hr => ?_)
    have nd := sc_law_cuts.nd
    have hu5 := hu65 hr
    exact (dss_cons (ds_if (dt_cmp (op_eqM hr.units) (od_eq false) (de_name (i := 1)) de_int (nomark _)) (dss_one (ds_ret (de_lst (da_cons (de_tup da_nil) da_nil)))) dss_nil)
  (dss_cons (ds_set (i := 2) nd (de_lst da_nil))
  (dss_cons (ds_for PassesOwn.never rfl (di_range2 z_range de_int (de_bin op_addA od_add (de_bin op_sub od_sub (de_callB cr_len cd_len z_len bt_len (da_cons (de_name (i := 0)) da_nil)) (de_name (i := 1))) de_int)) (dg_nm (i := 3) nd) (dss_one (ds_set (i := 2) nd (de_bin op_addA od_add (de_name (i := 2)) (de_lc (own := [("row", 4)]) rfl nd (blkOk_by (own := [("row", 4)]) (by first | decide +kernel | rfl)) (di_any (de_callD D_law_cuts (hr.mono (by omega)) (da_cons (de_sl10 (de_name (i := 0)) (de_name (i := 3))) (da_cons (de_bin op_sub od_sub (de_name (i := 1)) de_int) da_nil)))) (fun _ _ _ _ _ => (dg_nm (i := 4) nd)) (fun _ _ _ _ _ => dts_nil) (fun _ _ _ _ _ => (de_bin op_addA od_add (de_tup (da_cons (de_sl01 (de_name (i := 0)) (de_name (i := 3))) da_nil)) (de_name (i := 4)))))))))
  (dss_one (ds_ret (de_name (i := 2)))))))

abbrev st_law_values : Stmt := topS 25
theorem sc_law_values : FnScope ["row", "pattern", "found", "own", "letter"] ["row", "pattern"] (defScope st_law_values) := ⟨rfl, rfl, rfl, by decide +kernel, rfl, by decide +kernel, by decide +kernel⟩
theorem o_law_values {P : Program} {w : World} {K : PySem.W.Frag} {mg : Str → Option Value} {base : Heap} {f : Addr} {fd : FuncData} (F : Fun K "_law_values" "_law_values" st_law_values f fd) (hm : mg "_law_values" = some (.ref f)) (z_sorted : mg "sorted" = none) (z_tuple : mg "tuple" = none) (z_zip : mg "zip" = none) : Df P w K mg base 1 "_law_values" st_law_values ["row", "pattern"] [false, false] f_law_values := by
  refine Df.of (N := ["row", "pattern", "found", "own", "letter"]) F hm (F.binds (ps := ["row", "pattern"]) fun _ _ _ _ _ _ us hl => match us, hl with | [_, _], _ => rfl) (dfun F sc_law_values rfl fun cdv A outer s H E hr => ?_)
  have nd := sc_law_values.nd
  have hu5 := hu65 hr
  exact (dss_cons (ds_own (i := 2) nd de_dnew)
  (dss_cons (ds_for PassesOwn.never rfl (di_zip z_zip (da_cons (de_name (i := 0)) (da_cons (de_name (i := 1)) da_nil))) (dg_tp rfl (dgs_cons (dg_nm (i := 3) nd) (dgs_cons (dg_nm (i := 4) nd) dgs_nil))) (dss_cons (ds_if (dt_cmp (op_neM hr.units) (od_eq true) (de_get2 (hu1 hu5) (de_name (i := 2)) (de_name (i := 4)) (de_name (i := 3))) (de_name (i := 3)) (nomark _)) (dss_one (ds_ret de_non)) dss_nil)
    (dss_one (ds_putD (hu1 hu5) (de_name (i := 3)) (de_name (i := 2)) (de_name (i := 4))))))
  (dss_one (ds_ret (de_callTy call_tuple_of cd_tuple z_tuple bt_tuple (da_cons (de_lc (own := [("letter", 4)]) rfl nd (blkOk_by (own := [("letter", 4)]) (by first | decide +kernel | rfl)) (di_any (de_callB (cr_sortKD rfl) cd_sortKD z_sorted bt_sorted (da_cons (de_name (i := 2)) da_nil))) (fun _ _ _ _ _ => (dg_nm (i := 4) nd)) (fun _ _ _ _ _ => dts_nil) (fun _ _ _ _ _ => (de_tup (da_cons (de_name (i := 4)) (da_cons (de_ixD (hu1 hu5) (de_name (i := 2)) (de_name (i := 4))) da_nil))))) da_nil))))))

abbrev st_law_met : Stmt := topS 26
theorem sc_law_met : FnScope ["word", "pattern", "k", "some", "row", "values"] ["word", "pattern"] (defScope st_law_met) := ⟨rfl, rfl, rfl, by decide +kernel, rfl, by decide +kernel, by decide +kernel⟩
theorem o_law_met {P : Program} {w : World} {K : PySem.W.Frag} {mg : Str → Option Value} {base : Heap} {f : Addr} {fd : FuncData} (F : Fun K "_law_met" "_law_met" st_law_met f fd) (hm : mg "_law_met" = some (.ref f)) (z_len : mg "len" = none) (z_min : mg "min" = none) (z_range : mg "range" = none) (D_law_cuts : Df P w K mg base 25 "_law_cuts" st_law_cuts ["word", "many"] [false, false] (f_law_cuts 24)) (D_law_values : Df P w K mg base 1 "_law_values" st_law_values ["row", "pattern"] [false, false] f_law_values) : Df P w K mg base 26 "_law_met" st_law_met ["word", "pattern"] [false, false] f_law_met := by
  refine Df.of (N := ["word", "pattern", "k", "some", "row", "values"]) F hm (F.binds (ps := ["word", "pattern"]) fun _ _ _ _ _ _ us hl => match us, hl with | [_, _], _ => rfl) (dfun F sc_law_met rfl fun cdv A outer s H E hr => ?_)
  have nd := sc_law_met.nd
  have hu5 := hu65 hr
  exact (dss_cons (ds_for PassesOwn.never rfl (di_range1 z_range (de_callB cr_len cd_len z_len bt_len (da_cons (de_name (i := 0)) da_nil))) (dg_nm (i := 2) nd) (dss_cons (ds_setLc (i := 3) (own := [("row", 4)]) rfl nd (blkOk_by (own := [("row", 4)]) (by first | decide +kernel | rfl)) (di_any (de_callD D_law_cuts (hr.mono (by omega)) (da_cons (de_sl10 (de_name (i := 0)) (de_name (i := 2))) (da_cons (de_callB cr_len cd_len z_len bt_len (da_cons (de_name (i := 1)) da_nil)) da_nil)))) (fun _ _ _ _ _ => (dg_nm (i := 4) nd)) (fun _ _ _ _ _ => dts_nil) (fun _ _ _ _ _ => (de_callD D_law_values (hr.mono (by omega)) (da_cons (de_name (i := 4)) (da_cons (de_name (i := 1)) da_nil)))) (by decide +kernel))
    (dss_cons (ds_setLc (i := 3) (own := [("values", 5)]) rfl nd (blkOk_by (own := [("values", 5)]) (by first | decide +kernel | rfl)) (di_any (de_name (i := 3))) (fun _ _ _ _ _ => (dg_nm (i := 5) nd)) (fun _ _ _ _ _ => (dts_one (dt_cmp op_notN od_isNot (de_name (i := 5)) de_non (nomark _)))) (fun _ _ _ _ _ => (de_name (i := 5))) (by decide +kernel))
    (dss_one (ds_if (dt_cmp (op_neM hr.units) (od_eq true) (de_name (i := 3)) (de_lst da_nil) (nomark _)) (dss_one (ds_ret (de_tup (da_cons (de_name (i := 2)) (da_cons (de_callB (cr_minU rfl hr.units) cd_minU z_min bt_min (da_cons (de_name (i := 3)) da_nil)) da_nil))))) dss_nil)))))
  (dss_one (ds_ret de_non)))

abbrev st_law : Stmt := topS 27
theorem sc_law : FnScope ["script", "pot", "turn", "pattern", "word", "due", "values", "made", "told", "k", "own", "odd", "letter"] ["script"] (defScope st_law) := ⟨rfl, rfl, rfl, by decide +kernel, rfl, by decide +kernel, by decide +kernel⟩
theorem o_law {P : Program} {w : World} {K : PySem.W.Frag} {mg : Str → Option Value} {base : Heap} {f : Addr} {fd : FuncData} (F : Fun K "law" "law" st_law f fd) (z_len : mg "len" = none) (z_list : mg "list" = none) (z_range : mg "range" = none) (D_is_pattern : Df P w K mg base 3 "is_pattern" st_is_pattern ["told"] [false] f_is_pattern) (D_meets : Df P w K mg base 26 "meets" st_meets ["word", "pattern"] [false, false] f_meets) (D_zimin : Df P w K mg base 3 "zimin" st_zimin ["n"] [false] f_zimin) (D_law_take : Df P w K mg base 1 "_law_take" st_law_take ["pot", "many"] [true, false] f_law_take) (D_law_same : Df P w K mg base 25 "_law_same" st_law_same ["got", "due"] [false, false] (f_law_same 24)) (D_law_met : Df P w K mg base 26 "_law_met" st_law_met ["word", "pattern"] [false, false] f_law_met) : FnOk P w K mg base CX0 27 f fd ["script"] (spD K [false] f_law) := by
  unfold f_law
  refine dfun F sc_law rfl fun cdv A outer s H E hr => ?_
  have nd := sc_law.nd
  have hu5 := hu65 hr
  exact (dss_cons (ds_own (i := 1) nd (de_bin op_addA od_add (de_lst (da_cons de_int (da_cons de_int (da_cons de_int da_nil)))) (de_callTy call_list_of cd_list z_list bt_list (da_cons (de_name (i := 0)) da_nil))))
  (dss_cons (ds_for PassesOwn.never rfl (di_range1 z_range de_int) (dg_nm (i := 2) nd) (dss_cons (ds_set (i := 3) nd (de_join (de_str []) (de_lc (own := [("k", 9)]) rfl nd (blkOk_by (own := [("k", 9)]) (by first | decide +kernel | rfl)) (di_range1 z_range (de_bin op_addA od_add de_int (de_callD D_law_take (hr.mono (by omega)) (da_cons (de_name (i := 1)) (da_cons de_int da_nil))))) (fun _ _ _ _ _ => (dg_nm (i := 9) nd)) (fun _ _ _ _ _ => dts_nil) (fun _ _ _ _ _ => (de_ix ix_seq od_ix (de_str [65, 66, 67]) (de_callD D_law_take (hr.mono (by omega)) (da_cons (de_name (i := 1)) (da_cons de_int da_nil))))))))
    (dss_cons (ds_set (i := 4) nd (de_join (de_str []) (de_lc (own := [("k", 9)]) rfl nd (blkOk_by (own := [("k", 9)]) (by first | decide +kernel | rfl)) (di_range1 z_range (de_callD D_law_take (hr.mono (by omega)) (da_cons (de_name (i := 1)) (da_cons de_int da_nil)))) (fun _ _ _ _ _ => (dg_nm (i := 9) nd)) (fun _ _ _ _ _ => dts_nil) (fun _ _ _ _ _ => (de_ix ix_seq od_ix (de_str [97, 98, 99]) (de_callD D_law_take (hr.mono (by omega)) (da_cons (de_name (i := 1)) (da_cons de_int da_nil))))))))
    (dss_cons (ds_set (i := 5) nd (de_callD D_law_met (hr.mono (by omega)) (da_cons (de_name (i := 4)) (da_cons (de_name (i := 3)) da_nil))))
    (dss_cons (ds_if (dt_not (dt_val (de_callD D_law_same (hr.mono (by omega)) (da_cons (de_lst (da_cons (de_callD D_meets (hr.mono (by omega)) (da_cons (de_name (i := 4)) (da_cons (de_name (i := 3)) da_nil))) (da_cons (de_callDK0 (ks := ["pattern", "word"]) (π := [1, 0]) (m := 2) D_meets (hr.mono (by omega)) (by decide) (fun _ _ _ _ _ _ us ws h1 h2 => match us, ws, h1, h2 with | [], [_, _], _, _ => rfl) (dk_cons (de_name (i := 3)) (dk_cons (de_name (i := 4)) dk_nil))) da_nil))) (da_cons (de_lst (da_cons (de_name (i := 5)) (da_cons (de_name (i := 5)) da_nil))) da_nil))))) (dss_one (ds_ret de_bl)) dss_nil)
    (dss_cons (ds_set (i := 6) nd (de_lc (own := [("letter", 12)]) rfl nd (blkOk_by (own := [("letter", 12)]) (by first | decide +kernel | rfl)) (di_any (de_str [65, 66, 67])) (fun _ _ _ _ _ => (dg_nm (i := 12) nd)) (fun _ _ _ _ _ => dts_nil) (fun _ _ _ _ _ => (de_tup (da_cons (de_name (i := 12)) (da_cons (de_bin op_addA od_add (de_ix ix_seq od_ix (de_str [97, 98]) (de_callD D_law_take (hr.mono (by omega)) (da_cons (de_name (i := 1)) (da_cons de_int da_nil)))) (de_ix ix_seq od_ix (de_lst (da_cons (de_str []) (da_cons (de_str [97]) (da_cons (de_str [99]) da_nil)))) (de_callD D_law_take (hr.mono (by omega)) (da_cons (de_name (i := 1)) (da_cons de_int da_nil))))) da_nil))))))
    (dss_cons (ds_set (i := 7) nd (de_join (de_str []) (de_lc (own := [("letter", 12)]) rfl nd (blkOk_by (own := [("letter", 12)]) (by first | decide +kernel | rfl)) (di_any (de_name (i := 3))) (fun _ _ _ _ _ => (dg_nm (i := 12) nd)) (fun _ _ _ _ _ => dts_nil) (fun _ _ _ _ _ => (de_ix ix_seq od_ix (de_ix ix_seq od_ix (de_name (i := 6)) (de_sidx (de_str [65, 66, 67]) (de_name (i := 12)))) de_int)))))
    (dss_cons (ds_set (i := 7) nd (de_bin op_addA od_add (de_bin op_addA od_add (de_ix ix_seq od_ix (de_lst (da_cons (de_str []) (da_cons (de_str [98]) da_nil))) (de_callD D_law_take (hr.mono (by omega)) (da_cons (de_name (i := 1)) (da_cons de_int da_nil)))) (de_name (i := 7))) (de_ix ix_seq od_ix (de_lst (da_cons (de_str []) (da_cons (de_str [99]) da_nil))) (de_callD D_law_take (hr.mono (by omega)) (da_cons (de_name (i := 1)) (da_cons de_int da_nil))))))
    (dss_cons (ds_set (i := 8) nd (de_callD D_meets (hr.mono (by omega)) (da_cons (de_name (i := 7)) (da_cons (de_name (i := 3)) da_nil))))
    (dss_cons (ds_if (DW.pt (dw_or (dt_cmp op_isN od_is (de_name (i := 8)) de_non (nomark _)) (dw_or1 (DW.pt (dw_and (dt_cmp op_ltA od_cmp (de_callB cr_len cd_len z_len bt_len (da_cons (de_name (i := 7)) da_nil)) de_int (nomark _)) (dw_and1 (dt_not (dt_val (de_callD D_law_same (hr.mono (by omega)) (da_cons (de_name (i := 8)) (da_cons (de_callD D_law_met (hr.mono (by omega)) (da_cons (de_name (i := 7)) (da_cons (de_name (i := 3)) da_nil))) da_nil))))))))))) (dss_one (ds_ret de_bl)) dss_nil)
    (dss_cons (ds_set (i := 9) nd (de_callD D_law_take (hr.mono (by omega)) (da_cons (de_name (i := 1)) (da_cons de_int da_nil))))
    (dss_cons (ds_set (i := 10) nd (de_ix ix_seq od_ix (de_str [65, 66, 67, 68, 69, 70, 71]) (de_name (i := 9))))
    (dss_cons (ds_if (dt_not (dt_val (de_callD D_law_same (hr.mono (by omega)) (da_cons (de_lst (da_cons (de_callD D_zimin (hr.mono (by omega)) (da_cons (de_bin op_addA od_add (de_name (i := 9)) de_int) da_nil)) (da_cons (de_callDK0 (ks := ["n"]) (π := [0]) (m := 1) D_zimin (hr.mono (by omega)) (by decide) (fun _ _ _ _ _ _ us ws h1 h2 => match us, ws, h1, h2 with | [], [_], _, _ => rfl) (dk_cons (de_name (i := 9)) dk_nil)) (da_cons (de_callD D_zimin (hr.mono (by omega)) (da_cons de_int da_nil)) da_nil)))) (da_cons (de_lst (da_cons (de_bin op_addA od_add (de_bin op_addA od_add (de_callD D_zimin (hr.mono (by omega)) (da_cons (de_name (i := 9)) da_nil)) (de_name (i := 10))) (de_callD D_zimin (hr.mono (by omega)) (da_cons (de_name (i := 9)) da_nil))) (da_cons (de_callD D_zimin (hr.mono (by omega)) (da_cons (de_name (i := 9)) da_nil)) (da_cons (de_str []) da_nil)))) da_nil))))) (dss_one (ds_ret de_bl)) dss_nil)
    (dss_cons (ds_set (i := 11) nd (de_ix ix_seq od_ix (de_lst (da_cons (de_str []) (da_cons (de_str [97]) (da_cons (de_str [65, 32]) (da_cons de_non (da_cons (de_tup (da_cons (de_str [65]) da_nil)) (da_cons de_int da_nil))))))) (de_callD D_law_take (hr.mono (by omega)) (da_cons (de_name (i := 1)) (da_cons de_int da_nil)))))
    (dss_one (ds_if (dt_not (dt_val (de_callD D_law_same (hr.mono (by omega)) (da_cons (de_lst (da_cons (de_callD D_is_pattern (hr.mono (by omega)) (da_cons (de_name (i := 3)) da_nil)) (da_cons (de_callDK0 (ks := ["told"]) (π := [0]) (m := 1) D_is_pattern (hr.mono (by omega)) (by decide) (fun _ _ _ _ _ _ us ws h1 h2 => match us, ws, h1, h2 with | [], [_], _, _ => rfl) (dk_cons (de_name (i := 3)) dk_nil)) (da_cons (de_callD D_is_pattern (hr.mono (by omega)) (da_cons (de_name (i := 11)) da_nil)) da_nil)))) (da_cons (de_lst (da_cons de_bl (da_cons de_bl (da_cons de_bl da_nil)))) da_nil))))) (dss_one (ds_ret de_bl)) dss_nil))))))))))))))))
  (dss_one (ds_ret de_bl))))
end DL

namespace DL
open PySem PySem.Spec PyProof.Rows L2
theorem all_mk {l : PySem.W.OpenLaw} {w : World} {K : PySem.W.Frag} {h : Heap} {mg : Str → Option Value} {fa : Addr} (X : K.In h) (G : h.Ns mainGlobals mg) (hfa : mg "law" = some (.ref fa))
    {f0 : Addr} {oc0 kV0 dc0 pm0 cd0 ct0 : Value} {od0 an0 : Option Addr} {sl0 : Array (Option Value)}
    {f1 : Addr} {oc1 kV1 dc1 pm1 cd1 ct1 : Value} {od1 an1 : Option Addr} {sl1 : Array (Option Value)}
    {f2 : Addr} {oc2 kV2 dc2 pm2 cd2 ct2 : Value} {od2 an2 : Option Addr} {sl2 : Array (Option Value)}
    {f3 : Addr} {oc3 kV3 dc3 pm3 cd3 ct3 : Value} {od3 an3 : Option Addr} {sl3 : Array (Option Value)}
    {f4 : Addr} {oc4 kV4 dc4 pm4 cd4 ct4 : Value} {od4 an4 : Option Addr} {sl4 : Array (Option Value)}
    {f5 : Addr} {oc5 kV5 dc5 pm5 cd5 ct5 : Value} {od5 an5 : Option Addr} {sl5 : Array (Option Value)}
    {f6 : Addr} {oc6 kV6 dc6 pm6 cd6 ct6 : Value} {od6 an6 : Option Addr} {sl6 : Array (Option Value)}
    {f7 : Addr} {oc7 kV7 dc7 pm7 cd7 ct7 : Value} {od7 an7 : Option Addr} {sl7 : Array (Option Value)}
    {f8 : Addr} {oc8 kV8 dc8 pm8 cd8 ct8 : Value} {od8 an8 : Option Addr} {sl8 : Array (Option Value)}
    {f9 : Addr} {oc9 kV9 dc9 pm9 cd9 ct9 : Value} {od9 an9 : Option Addr} {sl9 : Array (Option Value)}
    {f10 : Addr} {oc10 kV10 dc10 pm10 cd10 ct10 : Value} {od10 an10 : Option Addr} {sl10 : Array (Option Value)}
    {f11 : Addr} {oc11 kV11 dc11 pm11 cd11 ct11 : Value} {od11 an11 : Option Addr} {sl11 : Array (Option Value)}
    {f12 : Addr} {oc12 kV12 dc12 pm12 cd12 ct12 : Value} {od12 an12 : Option Addr} {sl12 : Array (Option Value)}
    {f13 : Addr} {oc13 kV13 dc13 pm13 cd13 ct13 : Value} {od13 an13 : Option Addr} {sl13 : Array (Option Value)}
    {f14 : Addr} {oc14 kV14 dc14 pm14 cd14 ct14 : Value} {od14 an14 : Option Addr} {sl14 : Array (Option Value)}
    {f15 : Addr} {oc15 kV15 dc15 pm15 cd15 ct15 : Value} {od15 an15 : Option Addr} {sl15 : Array (Option Value)}
    {f16 : Addr} {oc16 kV16 dc16 pm16 cd16 ct16 : Value} {od16 an16 : Option Addr} {sl16 : Array (Option Value)}
    {f17 : Addr} {oc17 kV17 dc17 pm17 cd17 ct17 : Value} {od17 an17 : Option Addr} {sl17 : Array (Option Value)}
    {t_ALPHABET : Tok}
    {t_UPPER : Tok}
    (a0 : PySem.W.nsIn K mainGlobals "is_integer" = some (some (.ref f0))) (l0 : K.lookup f0 = some ⟨oc0, od0, .func (PySem.W.fnOf "is_integer" "is_integer" (defArgs st_is_integer) (defBody st_is_integer) (defScope st_is_integer) .none kV0 dc0 pm0 an0 cd0 ct0), sl0⟩) (c0 : PySem.W.codeIn K cd0 "is_integer" = true) (k0 : PySem.W.keepIn K (.ref f0) = true)
    (a1 : PySem.W.nsIn K mainGlobals "check_from" = some (some (.ref f1))) (l1 : K.lookup f1 = some ⟨oc1, od1, .func (PySem.W.fnOf "check_from" "check_from" (defArgs st_check_from) (defBody st_check_from) (defScope st_check_from) .none kV1 dc1 pm1 an1 cd1 ct1), sl1⟩) (c1 : PySem.W.codeIn K cd1 "check_from" = true) (k1 : PySem.W.keepIn K (.ref f1) = true)
    (a2 : PySem.W.nsIn K mainGlobals "is_of" = some (some (.ref f2))) (l2 : K.lookup f2 = some ⟨oc2, od2, .func (PySem.W.fnOf "is_of" "is_of" (defArgs st_is_of) (defBody st_is_of) (defScope st_is_of) .none kV2 dc2 pm2 an2 cd2 ct2), sl2⟩) (c2 : PySem.W.codeIn K cd2 "is_of" = true) (k2 : PySem.W.keepIn K (.ref f2) = true)
    (a3 : PySem.W.nsIn K mainGlobals "is_word_of" = some (some (.ref f3))) (l3 : K.lookup f3 = some ⟨oc3, od3, .func (PySem.W.fnOf "is_word_of" "is_word_of" (defArgs st_is_word_of) (defBody st_is_word_of) (defScope st_is_word_of) .none kV3 dc3 pm3 an3 cd3 ct3), sl3⟩) (c3 : PySem.W.codeIn K cd3 "is_word_of" = true) (k3 : PySem.W.keepIn K (.ref f3) = true)
    (a4 : PySem.W.nsIn K mainGlobals "check_word" = some (some (.ref f4))) (l4 : K.lookup f4 = some ⟨oc4, od4, .func (PySem.W.fnOf "check_word" "check_word" (defArgs st_check_word) (defBody st_check_word) (defScope st_check_word) .none kV4 dc4 pm4 an4 cd4 ct4), sl4⟩) (c4 : PySem.W.codeIn K cd4 "check_word" = true) (k4 : PySem.W.keepIn K (.ref f4) = true)
    (a5 : PySem.W.nsIn K mainGlobals "is_pattern_of" = some (some (.ref f5))) (l5 : K.lookup f5 = some ⟨oc5, od5, .func (PySem.W.fnOf "is_pattern_of" "is_pattern_of" (defArgs st_is_pattern_of) (defBody st_is_pattern_of) (defScope st_is_pattern_of) .none kV5 dc5 pm5 an5 cd5 ct5), sl5⟩) (c5 : PySem.W.codeIn K cd5 "is_pattern_of" = true) (k5 : PySem.W.keepIn K (.ref f5) = true)
    (a6 : PySem.W.nsIn K mainGlobals "is_pattern" = some (some (.ref f6))) (l6 : K.lookup f6 = some ⟨oc6, od6, .func (PySem.W.fnOf "is_pattern" "is_pattern" (defArgs st_is_pattern) (defBody st_is_pattern) (defScope st_is_pattern) .none kV6 dc6 pm6 an6 cd6 ct6), sl6⟩) (c6 : PySem.W.codeIn K cd6 "is_pattern" = true) (k6 : PySem.W.keepIn K (.ref f6) = true)
    (a7 : PySem.W.nsIn K mainGlobals "check_pattern" = some (some (.ref f7))) (l7 : K.lookup f7 = some ⟨oc7, od7, .func (PySem.W.fnOf "check_pattern" "check_pattern" (defArgs st_check_pattern) (defBody st_check_pattern) (defScope st_check_pattern) .none kV7 dc7 pm7 an7 cd7 ct7), sl7⟩) (c7 : PySem.W.codeIn K cd7 "check_pattern" = true) (k7 : PySem.W.keepIn K (.ref f7) = true)
    (a8 : PySem.W.nsIn K mainGlobals "ways_at" = some (some (.ref f8))) (l8 : K.lookup f8 = some ⟨oc8, od8, .func (PySem.W.fnOf "ways_at" "ways_at" (defArgs st_ways_at) (defBody st_ways_at) (defScope st_ways_at) .none kV8 dc8 pm8 an8 cd8 ct8), sl8⟩) (c8 : PySem.W.codeIn K cd8 "ways_at" = true) (k8 : PySem.W.keepIn K (.ref f8) = true)
    (a9 : PySem.W.nsIn K mainGlobals "meets" = some (some (.ref f9))) (l9 : K.lookup f9 = some ⟨oc9, od9, .func (PySem.W.fnOf "meets" "meets" (defArgs st_meets) (defBody st_meets) (defScope st_meets) .none kV9 dc9 pm9 an9 cd9 ct9), sl9⟩) (c9 : PySem.W.codeIn K cd9 "meets" = true) (k9 : PySem.W.keepIn K (.ref f9) = true)
    (a10 : PySem.W.nsIn K mainGlobals "zimin_of" = some (some (.ref f10))) (l10 : K.lookup f10 = some ⟨oc10, od10, .func (PySem.W.fnOf "zimin_of" "zimin_of" (defArgs st_zimin_of) (defBody st_zimin_of) (defScope st_zimin_of) .none kV10 dc10 pm10 an10 cd10 ct10), sl10⟩) (c10 : PySem.W.codeIn K cd10 "zimin_of" = true) (k10 : PySem.W.keepIn K (.ref f10) = true)
    (a11 : PySem.W.nsIn K mainGlobals "zimin" = some (some (.ref f11))) (l11 : K.lookup f11 = some ⟨oc11, od11, .func (PySem.W.fnOf "zimin" "zimin" (defArgs st_zimin) (defBody st_zimin) (defScope st_zimin) .none kV11 dc11 pm11 an11 cd11 ct11), sl11⟩) (c11 : PySem.W.codeIn K cd11 "zimin" = true) (k11 : PySem.W.keepIn K (.ref f11) = true)
    (a12 : PySem.W.nsIn K mainGlobals "_law_take" = some (some (.ref f12))) (l12 : K.lookup f12 = some ⟨oc12, od12, .func (PySem.W.fnOf "_law_take" "_law_take" (defArgs st_law_take) (defBody st_law_take) (defScope st_law_take) .none kV12 dc12 pm12 an12 cd12 ct12), sl12⟩) (c12 : PySem.W.codeIn K cd12 "_law_take" = true) (k12 : PySem.W.keepIn K (.ref f12) = true)
    (a13 : PySem.W.nsIn K mainGlobals "_law_same" = some (some (.ref f13))) (l13 : K.lookup f13 = some ⟨oc13, od13, .func (PySem.W.fnOf "_law_same" "_law_same" (defArgs st_law_same) (defBody st_law_same) (defScope st_law_same) .none kV13 dc13 pm13 an13 cd13 ct13), sl13⟩) (c13 : PySem.W.codeIn K cd13 "_law_same" = true) (k13 : PySem.W.keepIn K (.ref f13) = true)
    (a14 : PySem.W.nsIn K mainGlobals "_law_cuts" = some (some (.ref f14))) (l14 : K.lookup f14 = some ⟨oc14, od14, .func (PySem.W.fnOf "_law_cuts" "_law_cuts" (defArgs st_law_cuts) (defBody st_law_cuts) (defScope st_law_cuts) .none kV14 dc14 pm14 an14 cd14 ct14), sl14⟩) (c14 : PySem.W.codeIn K cd14 "_law_cuts" = true) (k14 : PySem.W.keepIn K (.ref f14) = true)
    (a15 : PySem.W.nsIn K mainGlobals "_law_values" = some (some (.ref f15))) (l15 : K.lookup f15 = some ⟨oc15, od15, .func (PySem.W.fnOf "_law_values" "_law_values" (defArgs st_law_values) (defBody st_law_values) (defScope st_law_values) .none kV15 dc15 pm15 an15 cd15 ct15), sl15⟩) (c15 : PySem.W.codeIn K cd15 "_law_values" = true) (k15 : PySem.W.keepIn K (.ref f15) = true)
    (a16 : PySem.W.nsIn K mainGlobals "_law_met" = some (some (.ref f16))) (l16 : K.lookup f16 = some ⟨oc16, od16, .func (PySem.W.fnOf "_law_met" "_law_met" (defArgs st_law_met) (defBody st_law_met) (defScope st_law_met) .none kV16 dc16 pm16 an16 cd16 ct16), sl16⟩) (c16 : PySem.W.codeIn K cd16 "_law_met" = true) (k16 : PySem.W.keepIn K (.ref f16) = true)
    (a17 : PySem.W.nsIn K mainGlobals "law" = some (some (.ref f17))) (l17 : K.lookup f17 = some ⟨oc17, od17, .func (PySem.W.fnOf "law" "law" (defArgs st_law) (defBody st_law) (defScope st_law) .none kV17 dc17 pm17 an17 cd17 ct17), sl17⟩) (c17 : PySem.W.codeIn K cd17 "law" = true) (k17 : PySem.W.keepIn K (.ref f17) = true)
    (z_all : PySem.W.nsIn K mainGlobals "all" = some none)
    (z_bool : PySem.W.nsIn K mainGlobals "bool" = some none)
    (z_int : PySem.W.nsIn K mainGlobals "int" = some none)
    (z_isinstance : PySem.W.nsIn K mainGlobals "isinstance" = some none)
    (z_len : PySem.W.nsIn K mainGlobals "len" = some none)
    (z_list : PySem.W.nsIn K mainGlobals "list" = some none)
    (z_min : PySem.W.nsIn K mainGlobals "min" = some none)
    (z_range : PySem.W.nsIn K mainGlobals "range" = some none)
    (z_sorted : PySem.W.nsIn K mainGlobals "sorted" = some none)
    (z_str : PySem.W.nsIn K mainGlobals "str" = some none)
    (z_tuple : PySem.W.nsIn K mainGlobals "tuple" = some none)
    (z_zip : PySem.W.nsIn K mainGlobals "zip" = some none)
    (z_ALPHABET : PySem.W.nsIn K mainGlobals "ALPHABET" = some (some (.str (mkS [97, 98, 99, 100, 101, 102, 103, 104, 105, 106, 107, 108, 109, 110, 111, 112, 113, 114, 115, 116, 117, 118, 119, 120, 121, 122]) t_ALPHABET)))
    (z_UPPER : PySem.W.nsIn K mainGlobals "UPPER" = some (some (.str (mkS [65, 66, 67, 68, 69, 70, 71, 72, 73, 74, 75, 76, 77, 78, 79, 80, 81, 82, 83, 84, 85, 86, 87, 88, 89, 90]) t_UPPER)))
    (hlaw : ∀ ns : List Int, ns.length ≤ 63 → ∃ ios, f_law [.frl (ns.map D.int)] = .ok false (.bl true) ios) :
    ∃ fd : FuncData, (∀ (s : Shared) (v : Value), BindsTo s fd ⟨[v], []⟩ [("script", v)]) ∧ ∀ base : Heap, K.In base → base.Ns mainGlobals mg → FnOk l.prog w K mg base CX0 27 fa fd ["script"] (spTop K) := by
  have e := hfa.symm.trans (PySem.W.mg_of X G a17)
  cases e
  refine ⟨PySem.W.fnOf "law" "law" (defArgs st_law) (defBody st_law) (defScope st_law) .none kV17 dc17 pm17 an17 cd17 ct17, fun s v => .of_eq rfl, fun base _ _ => ?_⟩
  have y_all := PySem.W.mg_none_of X G z_all
  have y_bool := PySem.W.mg_none_of X G z_bool
  have y_int := PySem.W.mg_none_of X G z_int
  have y_isinstance := PySem.W.mg_none_of X G z_isinstance
  have y_len := PySem.W.mg_none_of X G z_len
  have y_list := PySem.W.mg_none_of X G z_list
  have y_min := PySem.W.mg_none_of X G z_min
  have y_range := PySem.W.mg_none_of X G z_range
  have y_sorted := PySem.W.mg_none_of X G z_sorted
  have y_str := PySem.W.mg_none_of X G z_str
  have y_tuple := PySem.W.mg_none_of X G z_tuple
  have y_zip := PySem.W.mg_none_of X G z_zip
  have y_ALPHABET := PySem.W.mg_of X G z_ALPHABET
  have y_UPPER := PySem.W.mg_of X G z_UPPER
  have F0 := fun_mk (st := st_is_integer) l0 c0 k0
  have D_is_integer := o_is_integer (P := l.prog) (w := w) (base := base) F0 (PySem.W.mg_of X G a0) y_bool y_int y_isinstance 
  have F1 := fun_mk (st := st_check_from) l1 c1 k1
  have D_check_from := o_check_from (P := l.prog) (w := w) (base := base) F1 (PySem.W.mg_of X G a1)  D_is_integer
  have F2 := fun_mk (st := st_is_of) l2 c2 k2
  have D_is_of := o_is_of (P := l.prog) (w := w) (base := base) F2 (PySem.W.mg_of X G a2) y_all y_isinstance y_str 
  have F3 := fun_mk (st := st_is_word_of) l3 c3 k3
  have D_is_word_of := o_is_word_of (P := l.prog) (w := w) (base := base) F3 (PySem.W.mg_of X G a3) y_ALPHABET D_is_of
  have F4 := fun_mk (st := st_check_word) l4 c4 k4
  have D_check_word := o_check_word (P := l.prog) (w := w) (base := base) F4 (PySem.W.mg_of X G a4)  D_is_word_of
  have F5 := fun_mk (st := st_is_pattern_of) l5 c5 k5
  have D_is_pattern_of := o_is_pattern_of (P := l.prog) (w := w) (base := base) F5 (PySem.W.mg_of X G a5) y_UPPER D_is_of
  have F6 := fun_mk (st := st_is_pattern) l6 c6 k6
  have D_is_pattern := o_is_pattern (P := l.prog) (w := w) (base := base) F6 (PySem.W.mg_of X G a6)  D_is_pattern_of
  have F7 := fun_mk (st := st_check_pattern) l7 c7 k7
  have D_check_pattern := o_check_pattern (P := l.prog) (w := w) (base := base) F7 (PySem.W.mg_of X G a7)  D_is_pattern_of
  have F8 := fun_mk (st := st_ways_at) l8 c8 k8
  have D_ways_at := o_ways_at (P := l.prog) (w := w) (base := base) F8 (PySem.W.mg_of X G a8) y_len y_range  24
  have F9 := fun_mk (st := st_meets) l9 c9 k9
  have D_meets := o_meets (P := l.prog) (w := w) (base := base) F9 (PySem.W.mg_of X G a9) y_len y_min y_range y_sorted y_tuple D_check_word D_check_pattern D_ways_at
  have F10 := fun_mk (st := st_zimin_of) l10 c10 k10
  have D_zimin_of := o_zimin_of (P := l.prog) (w := w) (base := base) F10 (PySem.W.mg_of X G a10) y_UPPER 
  have F11 := fun_mk (st := st_zimin) l11 c11 k11
  have D_zimin := o_zimin (P := l.prog) (w := w) (base := base) F11 (PySem.W.mg_of X G a11)  D_check_from D_zimin_of
  have F12 := fun_mk (st := st_law_take) l12 c12 k12
  have D_law_take := o_law_take (P := l.prog) (w := w) (base := base) F12 (PySem.W.mg_of X G a12) y_int y_len 
  have F13 := fun_mk (st := st_law_same) l13 c13 k13
  have D_law_same := o_law_same (P := l.prog) (w := w) (base := base) F13 (PySem.W.mg_of X G a13) y_all y_bool y_int y_isinstance y_len y_list y_range y_str y_tuple  24
  have F14 := fun_mk (st := st_law_cuts) l14 c14 k14
  have D_law_cuts := o_law_cuts (P := l.prog) (w := w) (base := base) F14 (PySem.W.mg_of X G a14) y_len y_range  24
  have F15 := fun_mk (st := st_law_values) l15 c15 k15
  have D_law_values := o_law_values (P := l.prog) (w := w) (base := base) F15 (PySem.W.mg_of X G a15) y_sorted y_tuple y_zip 
  have F16 := fun_mk (st := st_law_met) l16 c16 k16
  have D_law_met := o_law_met (P := l.prog) (w := w) (base := base) F16 (PySem.W.mg_of X G a16) y_len y_min y_range D_law_cuts D_law_values
  have F17 := fun_mk (st := st_law) l17 c17 k17
  exact top_ok (o_law (P := l.prog) (w := w) (base := base) F17 y_len y_list y_range D_is_pattern D_meets D_zimin D_law_take D_law_same D_law_met) hlaw
end DL
open PySem PySem.W PyProof.Rows
set_option maxHeartbeats 0 in
theorem PySem.Challenge.cw_wholewords_k95_whole_patterns_met_holds : PySem.Challenge.rw_wholewords_k95_whole_patterns_met.Holds := by
  w_on; o_law; k_head; (case hw => w_witness2)
  k_fill
  refine L2.walk_of (l := PySem.Challenge.rw_wholewords_k95_whole_patterns_met) (n := 63) (k := 27) (x := "script") (CX := fun _ => L2.CX0) (sp := fun w => DL.spTop _) rfl (by decide) rfl ⟨rfl, by decide, by decide⟩ (fun w h Y => PySem.W.kIn_of Y) ?F (fun _ _ a ns hl _ hS => ⟨a, ns, rfl, hS, hl, fun _ => rfl⟩) (fun _ _ _ _ _ h => h)
  case F =>
    intro w mg fa h KX G hmg
    exact DL.all_mk (l := PySem.Challenge.rw_wholewords_k95_whole_patterns_met) KX G hmg (by k_is) (by k_is) (by k_is) (by k_is) (by k_is) (by k_is) (by k_is) (by k_is) (by k_is) (by k_is) (by k_is) (by k_is) (by k_is) (by k_is) (by k_is) (by k_is) (by k_is) (by k_is) (by k_is) (by k_is) (by k_is) (by k_is) (by k_is) (by k_is) (by k_is) (by k_is) (by k_is) (by k_is) (by k_is) (by k_is) (by k_is) (by k_is) (by k_is) (by k_is) (by k_is) (by k_is) (by k_is) (by k_is) (by k_is) (by k_is) (by k_is) (by k_is) (by k_is) (by k_is) (by k_is) (by k_is) (by k_is) (by k_is) (by k_is) (by k_is) (by k_is) (by k_is) (by k_is) (by k_is) (by k_is) (by k_is) (by k_is) (by k_is) (by k_is) (by k_is) (by k_is) (by k_is) (by k_is) (by k_is) (by k_is) (by k_is) (by k_is) (by k_is) (by k_is) (by k_is) (by k_is) (by k_is) (by k_is) (by k_is) (by k_is) (by k_is) (by k_is) (by k_is) (by k_is) (by k_is) (by k_is) (by k_is) (by k_is) (by k_is) (by k_is) (by k_is) DL.law_true
