import PyProof.Rows.All
import Wide.All
import OpenK.AllK
import Wide.FinOn
import HandS.ForMost
import HandS.Walk
import HandS.Wide
import HandS.WideBits
import HandS.Defaults
import HandS.TupAny
import HandS.TupLe
import HandS.Deep
import HandS.IsInst
import HandS.Iter
import HandS.DictTup
import KE.KDictWalk
import PyProof.ReprReads
import HandS.Ends
import HandS.HeadEnd
import KE.SortData
import HandS.Words
import HandS.Comp
import PyProof.ReprLen
import KE.KStateDown
import HandS.More
import HandS.WordsExc
import HandS.Head0
import HandS.Head1
import HandS.Head2
import HandS.HeadHook1
import HandS.HeadHook2
import PySem.Challenge.RW_endways_k81_ways_worth
set_option Elab.async false
set_option linter.all false
set_option maxRecDepth 100000
set_option maxHeartbeats 0
/-! TW0: trees of data, how a value stands for a tree, stores. -/
namespace TW
open PySem PySem.Spec PyProof.Rows L2

/-- a dict's keys: ints and texts, or tuples of them -/
abbrev Kx := Sum (List Key) (List (List Key))
/-- a tree: what a value stands for; o: the object is nobody else's -/
inductive D where
  | non | bl (b : Bool) | int (i : Int) | str (x : Str)
  | tup (xs : List D) | lst (o : Bool) (xs : List D) | dct (o : Bool) (ks : Kx) (vs : List D)
  /-- the script itself -/
  | scr (ns : List Int)

mutual
/-- all objects shared -/
def frz : D → D
  | .non => .non
  | .bl b => .bl b
  | .int i => .int i
  | .str x => .str x
  | .tup xs => .tup (frzs xs)
  | .lst _ xs => .lst false (frzs xs)
  | .dct _ ks vs => .dct false ks (frzs vs)
  | .scr ns => .scr ns
def frzs : List D → List D
  | [] => []
  | x :: xs => frz x :: frzs xs
end
mutual
/-- no shared object that can change -/
def noF : D → Bool
  | .non => true
  | .bl _ => true
  | .int _ => true
  | .str _ => true
  | .tup xs => noFs xs
  | .lst o xs => o && noFs xs
  | .dct o _ vs => o && noFs vs
  | .scr _ => false
def noFs : List D → Bool
  | [] => true
  | x :: xs => noF x && noFs xs
end

/-- what stands at a dict's address -/
def DRd (H : Hp) (a : Addr) (ks : Kx) (vs : List V) : Prop := match ks with
  | .inl kk => kk.length = vs.length ∧ Rd H a (.dK (kk.zip vs))
  | .inr kk => kk.length = vs.length ∧ Rd H a (.dT (kk.zip vs))

/-- the script: a list that stays, or one of the module's own -/
def ScrAt (K : PySem.W.Frag) (Fz : Addr → Prop) (H : Hp) (a : Addr) (xs : List V) : Prop := (Fz a ∧ Rd H a (.lst xs)) ∨
  ∃ (o : Obj) (its : Array Value) (n : Nat), K.lookup a = some o ∧ o.cls = .type "list" ∧ o.dict = none ∧ o.data = .seq its n ∧ its.size ≤ sizeLine ∧ Vals xs its.toList
theorem ScrAt.sq {K : PySem.W.Frag} {Fz : Addr → Prop} {H : Hp} {a : Addr} {xs : List V} (h : ScrAt K Fz H a xs) : SqL K H a xs := h.imp And.right id
mutual
/-- the value v stands for the tree d; fp: the objects that are its own; Fz: those that stay -/
def Rp (K : PySem.W.Frag) (Fz : Addr → Prop) (H : Hp) : D → V → List Addr → Prop
  | .non, v, fp => v = .non ∧ fp = []
  | .bl b, v, fp => v = .bl b ∧ fp = []
  | .int i, v, fp => v = .int i ∧ fp = []
  | .str x, v, fp => v = .str x ∧ fp = []
  | .tup ds, v, fp => ∃ a vs, v = .ref a ∧ H a = some (.tup vs) ∧ Rps K Fz H ds vs fp
  | .lst true ds, v, fp => ∃ a vs fp', v = .ref a ∧ H a = some (.lst vs) ∧ fp = a :: fp' ∧ Rps K Fz H ds vs fp'
  | .lst false ds, v, fp => ∃ a vs, v = .ref a ∧ Fz a ∧ H a = some (.lst vs) ∧ fp = [] ∧ Rps K Fz H ds vs []
  | .dct true ks ds, v, fp => ∃ a vs fp', v = .ref a ∧ DRd H a ks vs ∧ fp = a :: fp' ∧ Rps K Fz H ds vs fp'
  | .dct false ks ds, v, fp => ∃ a vs, v = .ref a ∧ Fz a ∧ DRd H a ks vs ∧ fp = [] ∧ Rps K Fz H ds vs []
  | .scr ns, v, fp => ∃ a, v = .ref a ∧ ScrAt K Fz H a (ns.map V.int) ∧ fp = []
def Rps (K : PySem.W.Frag) (Fz : Addr → Prop) (H : Hp) : List D → List V → List Addr → Prop
  | [], vs, fp => vs = [] ∧ fp = []
  | d :: ds, vs, fp => ∃ v ws f g, vs = v :: ws ∧ fp = f ++ g ∧ Rp K Fz H d v f ∧ Rps K Fz H ds ws g
end

section
variable {K : PySem.W.Frag} {Fz Fz' : Addr → Prop} {H H' : Hp}
theorem DRd.mono {a : Addr} {ks : Kx} {vs : List V} (h : DRd H a ks vs) (hr : ∀ u, Rd H a u → Rd H' a u) : DRd H' a ks vs := by
  cases ks with
  | inl kk => exact ⟨h.1, hr _ h.2⟩
  | inr kk => exact ⟨h.1, hr _ h.2⟩
mutual
theorem Rp.mono : ∀ {d : D} {v : V} {fp : List Addr}, Rp K Fz H d v fp → (∀ a, Fz a → Fz' a) → (∀ a xs, H a = some (.tup xs) → H' a = some (.tup xs)) → (∀ a xs, Fz a ∨ a ∈ fp → H a = some (.lst xs) → H' a = some (.lst xs)) → (∀ a u, Fz a ∨ a ∈ fp → Rd H a u → Rd H' a u) → Rp K Fz' H' d v fp
  | .non, _, _, h, _, _, _, _ => by unfold Rp at h ⊢; exact h
  | .bl _, _, _, h, _, _, _, _ => by unfold Rp at h ⊢; exact h
  | .int _, _, _, h, _, _, _, _ => by unfold Rp at h ⊢; exact h
  | .str _, _, _, h, _, _, _, _ => by unfold Rp at h ⊢; exact h
  | .tup ds, _, _, h, hz, ht, hx, hr => by
    unfold Rp at h ⊢
    obtain ⟨a, vs, e, ha, r⟩ := h
    exact ⟨a, vs, e, ht _ _ ha, Rps.mono r hz ht hx hr⟩
  | .lst true ds, _, _, h, hz, ht, hx, hr => by
    unfold Rp at h ⊢
    obtain ⟨a, vs, fp', e, ha, rfl, r⟩ := h
    exact ⟨a, vs, fp', e, hx _ _ (.inr List.mem_cons_self) ha, rfl, Rps.mono r hz ht (fun b u hb => hx b u (hb.imp id (List.mem_cons_of_mem _))) fun b u hb => hr b u (hb.imp id (List.mem_cons_of_mem _))⟩
  | .lst false ds, _, _, h, hz, ht, hx, hr => by
    unfold Rp at h ⊢
    obtain ⟨a, vs, e, hf, ha, rfl, r⟩ := h
    exact ⟨a, vs, e, hz _ hf, hx _ _ (.inl hf) ha, rfl, Rps.mono r hz ht hx hr⟩
  | .dct true ks ds, _, _, h, hz, ht, hx, hr => by
    unfold Rp at h ⊢
    obtain ⟨a, vs, fp', e, ha, rfl, r⟩ := h
    exact ⟨a, vs, fp', e, ha.mono fun u => hr a u (.inr List.mem_cons_self), rfl, Rps.mono r hz ht (fun b u hb => hx b u (hb.imp id (List.mem_cons_of_mem _))) fun b u hb => hr b u (hb.imp id (List.mem_cons_of_mem _))⟩
  | .dct false ks ds, _, _, h, hz, ht, hx, hr => by
    unfold Rp at h ⊢
    obtain ⟨a, vs, e, hf, ha, rfl, r⟩ := h
    exact ⟨a, vs, e, hz _ hf, ha.mono fun u => hr a u (.inl hf), rfl, Rps.mono r hz ht hx hr⟩
  | .scr ns, _, _, h, hz, ht, hx, hr => by
    unfold Rp at h ⊢
    obtain ⟨a, e, ha, rfl⟩ := h
    exact ⟨a, e, ha.imp (fun z => ⟨hz _ z.1, hr a _ (.inl z.1) z.2⟩) id, rfl⟩
theorem Rps.mono : ∀ {ds : List D} {vs : List V} {fp : List Addr}, Rps K Fz H ds vs fp → (∀ a, Fz a → Fz' a) → (∀ a xs, H a = some (.tup xs) → H' a = some (.tup xs)) → (∀ a xs, Fz a ∨ a ∈ fp → H a = some (.lst xs) → H' a = some (.lst xs)) → (∀ a u, Fz a ∨ a ∈ fp → Rd H a u → Rd H' a u) → Rps K Fz' H' ds vs fp
  | [], _, _, h, _, _, _, _ => by unfold Rps at h ⊢; exact h
  | d :: ds, _, _, h, hz, ht, hx, hr => by
    unfold Rps at h ⊢
    obtain ⟨v, ws, f, g, e, rfl, r, q⟩ := h
    exact ⟨v, ws, f, g, e, rfl, Rp.mono r hz ht (fun a u ha => hx a u (ha.imp id (List.mem_append_left _))) (fun a u ha => hr a u (ha.imp id (List.mem_append_left _))), Rps.mono q hz ht (fun a u ha => hx a u (ha.imp id (List.mem_append_right _))) fun a u ha => hr a u (ha.imp id (List.mem_append_right _))⟩
end
mutual
/-- a tree without shared objects leans on no Fz -/
theorem Rp.noF : ∀ {d : D} {v : V} {fp : List Addr}, Rp K Fz H d v fp → noF d = true → Rp K Fz' H d v fp
  | .non, _, _, h, _ => by unfold Rp at h ⊢; exact h
  | .bl _, _, _, h, _ => by unfold Rp at h ⊢; exact h
  | .int _, _, _, h, _ => by unfold Rp at h ⊢; exact h
  | .str _, _, _, h, _ => by unfold Rp at h ⊢; exact h
  | .tup ds, _, _, h, n => by
    unfold Rp at h ⊢
    unfold TW.noF at n
    obtain ⟨a, vs, e, ha, r⟩ := h
    exact ⟨a, vs, e, ha, Rps.noF r n⟩
  | .lst true ds, _, _, h, n => by
    unfold Rp at h ⊢
    unfold TW.noF at n
    obtain ⟨a, vs, fp', e, ha, rfl, r⟩ := h
    exact ⟨a, vs, fp', e, ha, rfl, Rps.noF r n⟩
  | .lst false ds, _, _, h, n => by
    unfold TW.noF at n
    cases n
  | .dct true ks ds, _, _, h, n => by
    unfold Rp at h ⊢
    unfold TW.noF at n
    obtain ⟨a, vs, fp', e, ha, rfl, r⟩ := h
    exact ⟨a, vs, fp', e, ha, rfl, Rps.noF r n⟩
  | .dct false ks ds, _, _, h, n => by
    unfold TW.noF at n
    cases n
  | .scr ns, _, _, h, n => by
    unfold TW.noF at n
    cases n
theorem Rps.noF : ∀ {ds : List D} {vs : List V} {fp : List Addr}, Rps K Fz H ds vs fp → noFs ds = true → Rps K Fz' H ds vs fp
  | [], _, _, h, _ => by unfold Rps at h ⊢; exact h
  | d :: ds, _, _, h, n => by
    unfold Rps at h ⊢
    unfold noFs at n
    obtain ⟨n1, n2⟩ := Bool.and_eq_true_iff.mp n
    obtain ⟨v, ws, f, g, e, rfl, r, q⟩ := h
    exact ⟨v, ws, f, g, e, rfl, Rp.noF r n1, Rps.noF q n2⟩
end
theorem Rp.weak {d : D} {v : V} {fp : List Addr} (h : Rp K Fz H d v fp) (hz : ∀ a, Fz a → Fz' a) : Rp K Fz' H d v fp := h.mono hz (fun _ _ e => e) (fun _ _ _ e => e) fun _ _ _ e => e
theorem Rps.weak {d : List D} {v : List V} {fp : List Addr} (h : Rps K Fz H d v fp) (hz : ∀ a, Fz a → Fz' a) : Rps K Fz' H d v fp := h.mono hz (fun _ _ e => e) (fun _ _ _ e => e) fun _ _ _ e => e
mutual
/-- what is its own is given over to all -/
theorem Rp.frz : ∀ {d : D} {v : V} {fp : List Addr}, Rp K Fz H d v fp → (∀ a, Fz a → Fz' a) → (∀ a ∈ fp, Fz' a) → Rp K Fz' H (frz d) v []
  | .non, _, _, h, _, _ => by unfold Rp at h; obtain ⟨rfl, _⟩ := h; unfold TW.frz Rp; exact ⟨rfl, rfl⟩
  | .bl _, _, _, h, _, _ => by unfold Rp at h; obtain ⟨rfl, _⟩ := h; unfold TW.frz Rp; exact ⟨rfl, rfl⟩
  | .int _, _, _, h, _, _ => by unfold Rp at h; obtain ⟨rfl, _⟩ := h; unfold TW.frz Rp; exact ⟨rfl, rfl⟩
  | .str _, _, _, h, _, _ => by unfold Rp at h; obtain ⟨rfl, _⟩ := h; unfold TW.frz Rp; exact ⟨rfl, rfl⟩
  | .tup ds, _, _, h, hz, hf => by
    unfold Rp at h
    unfold TW.frz Rp
    obtain ⟨a, vs, e, ha, r⟩ := h
    exact ⟨a, vs, e, ha, Rps.frz r hz hf⟩
  | .lst true ds, _, _, h, hz, hf => by
    unfold Rp at h
    unfold TW.frz Rp
    obtain ⟨a, vs, fp', e, ha, rfl, r⟩ := h
    exact ⟨a, vs, e, hf a List.mem_cons_self, ha, rfl, Rps.frz r hz fun b hb => hf b (List.mem_cons_of_mem _ hb)⟩
  | .lst false ds, _, _, h, hz, hf => by
    unfold Rp at h
    unfold TW.frz Rp
    obtain ⟨a, vs, e, hz', ha, rfl, r⟩ := h
    exact ⟨a, vs, e, hz _ hz', ha, rfl, Rps.frz r hz fun b hb => nomatch hb⟩
  | .dct true ks ds, _, _, h, hz, hf => by
    unfold Rp at h
    unfold TW.frz Rp
    obtain ⟨a, vs, fp', e, ha, rfl, r⟩ := h
    exact ⟨a, vs, e, hf a List.mem_cons_self, ha, rfl, Rps.frz r hz fun b hb => hf b (List.mem_cons_of_mem _ hb)⟩
  | .dct false ks ds, _, _, h, hz, hf => by
    unfold Rp at h
    unfold TW.frz Rp
    obtain ⟨a, vs, e, hz', ha, rfl, r⟩ := h
    exact ⟨a, vs, e, hz _ hz', ha, rfl, Rps.frz r hz fun b hb => nomatch hb⟩
  | .scr ns, _, _, h, hz, hf => by
    unfold Rp at h
    unfold TW.frz Rp
    obtain ⟨a, e, ha, rfl⟩ := h
    exact ⟨a, e, ha.imp (fun z => ⟨hz _ z.1, z.2⟩) id, rfl⟩
theorem Rps.frz : ∀ {ds : List D} {vs : List V} {fp : List Addr}, Rps K Fz H ds vs fp → (∀ a, Fz a → Fz' a) → (∀ a ∈ fp, Fz' a) → Rps K Fz' H (frzs ds) vs []
  | [], _, _, h, _, _ => by
    unfold Rps at h
    unfold TW.frzs Rps
    exact ⟨h.1, rfl⟩
  | d :: ds, _, _, h, hz, hf => by
    unfold Rps at h
    unfold TW.frzs Rps
    obtain ⟨v, ws, f, g, e, rfl, r, q⟩ := h
    exact ⟨v, ws, [], [], e, rfl, Rp.frz r hz fun a ha => hf a (List.mem_append_left _ ha), Rps.frz q hz fun a ha => hf a (List.mem_append_right _ ha)⟩
end
end
end TW

/-! TW1: stores; what an expression does to a store. -/
namespace TW
open PySem PySem.Spec PyProof.Rows L2

abbrev Stt := List (Option D)

section
variable {K : PySem.W.Frag} {Fz Fz' : Addr → Prop} {H H' : Hp}
theorem rd_live {a : Addr} {u : HO} (h : Rd H a u) : ∃ o, H a = some o := by
  rcases h with h | ⟨o, h⟩
  · exact ⟨_, h⟩
  · exact ⟨_, h⟩
theorem rd_ntup {a : Addr} {u : HO} (h : Rd H a u) (hu : ∀ xs, u ≠ .tup xs) : ∀ xs, H a ≠ some (.tup xs) := by
  intro xs e
  rcases h with h | ⟨o, h⟩
  · rw [h] at e; exact hu xs (Option.some.inj e)
  · rw [h] at e; cases e
theorem rd_keep {a : Addr} {u : HO} (h : Rd H a u) (k : ∀ o, H a = some o → H' a = some o) : Rd H' a u := by
  rcases h with h | ⟨o, h⟩
  · exact .inl (k _ h)
  · exact .inr ⟨o, k _ h⟩
theorem rd_exact {a : Addr} {u : HO} (h : Rd H a u) (n : ∀ o u, H a ≠ some (.frz o u)) : H a = some u := by
  rcases h with h | ⟨o, h⟩
  · exact h
  · exact (n _ _ h).elim
theorem DRd.live {a : Addr} {ks : Kx} {vs : List V} (h : DRd H a ks vs) : (∃ o, H a = some o) ∧ ∀ xs, H a ≠ some (.tup xs) := by
  cases ks with
  | inl kk => exact ⟨rd_live h.2, rd_ntup h.2 fun xs e => by cases e⟩
  | inr kk => exact ⟨rd_live h.2, rd_ntup h.2 fun xs e => by cases e⟩
mutual
theorem Rp.live : ∀ {d : D} {v : V} {fp : List Addr}, Rp K Fz H d v fp → ∀ a ∈ fp, (∃ o, H a = some o) ∧ ∀ xs, H a ≠ some (.tup xs)
  | .non, _, _, h, a, ha => by unfold Rp at h; rw [h.2] at ha; cases ha
  | .bl _, _, _, h, a, ha => by unfold Rp at h; rw [h.2] at ha; cases ha
  | .int _, _, _, h, a, ha => by unfold Rp at h; rw [h.2] at ha; cases ha
  | .str _, _, _, h, a, ha => by unfold Rp at h; rw [h.2] at ha; cases ha
  | .tup ds, _, _, h, a, ha => by
    unfold Rp at h
    obtain ⟨b, vs, e, hb, r⟩ := h
    exact Rps.live r a ha
  | .lst true ds, _, _, h, a, ha => by
    unfold Rp at h
    obtain ⟨b, vs, fp', e, hb, rfl, r⟩ := h
    rcases List.mem_cons.mp ha with rfl | ha
    · exact ⟨⟨_, hb⟩, fun xs e => by rw [hb] at e; cases e⟩
    · exact Rps.live r a ha
  | .lst false ds, _, _, h, a, ha => by
    unfold Rp at h
    obtain ⟨b, vs, e, hf, hb, rfl, r⟩ := h
    cases ha
  | .dct true ks ds, _, _, h, a, ha => by
    unfold Rp at h
    obtain ⟨b, vs, fp', e, hb, rfl, r⟩ := h
    rcases List.mem_cons.mp ha with rfl | ha
    · exact hb.live
    · exact Rps.live r a ha
  | .dct false ks ds, _, _, h, a, ha => by
    unfold Rp at h
    obtain ⟨b, vs, e, hf, hb, rfl, r⟩ := h
    cases ha
  | .scr ns, _, _, h, a, ha => by
    unfold Rp at h
    obtain ⟨b, e, hb, rfl⟩ := h
    cases ha
theorem Rps.live : ∀ {ds : List D} {vs : List V} {fp : List Addr}, Rps K Fz H ds vs fp → ∀ a ∈ fp, (∃ o, H a = some o) ∧ ∀ xs, H a ≠ some (.tup xs)
  | [], _, _, h, a, ha => by unfold Rps at h; rw [h.2] at ha; cases ha
  | d :: ds, _, _, h, a, ha => by
    unfold Rps at h
    obtain ⟨v, ws, f, g, e, rfl, r, q⟩ := h
    rcases List.mem_append.mp ha with ha | ha
    · exact Rp.live r a ha
    · exact Rps.live q a ha
end
end

/-- the slots stand for the store S; fps: what each owns; Fz: what stays as it is; lk: slots that are walked -/
structure SR (K : PySem.W.Frag) (Fz : Addr → Prop) (lk : Nat → Prop) (H : Hp) (σ : L2.St) (S : Stt) (fps : Nat → List Addr) : Prop where
  len : σ.length = S.length
  rep : ∀ i d, S[i]? = some (some d) → ∃ v, σ[i]? = some (some v) ∧ Rp K Fz H d v (fps i)
  emp : ∀ i, (∀ d, S[i]? ≠ some (some d)) → fps i = []
  dis : ∀ i j a, a ∈ fps i → a ∈ fps j → i = j
  nd : ∀ i, (fps i).Nodup
  nf : ∀ i a, a ∈ fps i → ¬ Fz a
  za : ∀ a, Fz a → ∃ o, H a = some o
  nl : ∀ i, ¬ lk i → ∀ a ∈ fps i, ∀ o u, H a ≠ some (.frz o u)
theorem SR.live {K Fz lk H σ S fps} (r : SR K Fz lk H σ S fps) (i : Nat) (a : Addr) (ha : a ∈ fps i) : (∃ o, H a = some o) ∧ ∀ xs, H a ≠ some (.tup xs) := by
  by_cases h : ∃ d, S[i]? = some (some d)
  · obtain ⟨d, h⟩ := h
    obtain ⟨v, _, q⟩ := r.rep i d h
    exact q.live a ha
  · rw [r.emp i fun d e => h ⟨d, e⟩] at ha
    cases ha

/-- what an expression (a list of them, a test) leaves behind -/
structure Pst (K : PySem.W.Frag) (RP : (Addr → Prop) → Hp → List Addr → Prop) (vw mt : List Nat) (Fz : Addr → Prop) (lk : Nat → Prop) (H : Hp) (σ : L2.St) (S : Stt) (fps : Nat → List Addr) (S' : Stt) (H' : Hp) (Fz' : Addr → Prop) (fps' : Nat → List Addr) (fp : List Addr) : Prop where
  sr : SR K Fz lk H' σ S' fps'
  rp : RP Fz' H' fp
  zz : ∀ a, Fz a → Fz' a
  zo : ∀ a, Fz' a → Fz a ∨ ((H a = none ∨ ∃ i ∈ mt, a ∈ fps i) ∧ ∀ j, a ∉ fps' j) ∨ ∃ i ∈ vw, a ∈ fps' i
  za : ∀ a, Fz' a → ∃ o, H' a = some o
  nd : fp.Nodup
  nz : ∀ a ∈ fp, ¬ Fz' a
  fv : ∀ a ∈ fp, ∃ o, H' a = some o
  fd : ∀ a ∈ fp, ∀ j, a ∉ fps' j
  fo : ∀ a ∈ fp, H a = none ∨ ∃ i ∈ mt, a ∈ fps i
  fl : ∀ a ∈ fp, ∀ o u, H' a ≠ some (.frz o u)
  kp : ∀ a o, H a = some o → (∀ i ∈ mt, a ∉ fps i) → H' a = some o
  dm : ∀ a, H' a = none → H a = none
  fs : ∀ i, i ∉ mt → fps' i = fps i ∧ S'[i]? = S[i]?
  fm : ∀ i a, a ∈ fps' i → a ∈ fps i ∨ (∃ l ∈ mt, a ∈ fps l) ∨ H a = none

/-- RP stays where Fz grows and what it leans on is kept -/
def Mono (RP : (Addr → Prop) → Hp → List Addr → Prop) : Prop := ∀ (Fz Fz' : Addr → Prop) (H H' : Hp) (fp : List Addr), RP Fz H fp → (∀ a, Fz a → Fz' a) → (∀ a xs, H a = some (.tup xs) → H' a = some (.tup xs)) → (∀ a xs, Fz a ∨ a ∈ fp → H a = some (.lst xs) → H' a = some (.lst xs)) → (∀ a u, Fz a ∨ a ∈ fp → Rd H a u → Rd H' a u) → RP Fz' H' fp
theorem mono_rp {K : PySem.W.Frag} {d : D} {v : V} : Mono fun Fz H fp => Rp K Fz H d v fp := fun _ _ _ _ _ h a b c e => h.mono a b c e
theorem mono_rps {K : PySem.W.Frag} {d : List D} {v : List V} : Mono fun Fz H fp => Rps K Fz H d v fp := fun _ _ _ _ _ h a b c e => h.mono a b c e
theorem mono_tt : Mono fun _ _ fp => fp = [] := fun _ _ _ _ _ h _ _ _ _ => h

/-- nothing has happened -/
theorem Pst.start {K Fz lk H σ S fps} {RP : (Addr → Prop) → Hp → List Addr → Prop} {vw mt : List Nat} (r : SR K Fz lk H σ S fps) (h : RP Fz H []) : Pst K RP vw mt Fz lk H σ S fps S H Fz fps [] :=
  ⟨r, h, fun _ z => z, fun _ z => .inl z, r.za, List.nodup_nil, (fun _ z => nomatch z), (fun _ z => nomatch z), (fun _ z => nomatch z), (fun _ z => nomatch z), (fun _ z => nomatch z), fun _ _ e _ => e, fun _ e => e, fun _ _ => ⟨rfl, rfl⟩, fun _ _ z => .inl z⟩

/-- one behind another -/
theorem Pst.seq {RP1 RP2 : (Addr → Prop) → Hp → List Addr → Prop} {vw1 mt1 vw2 mt2 : List Nat} {K Fz lk H σ S fps S1 H1 Fz1 fps1 fp1 S2 H2 Fz2 fps2 fp2} (m1 : Mono RP1) (m2 : Mono RP2)
    (p : Pst K RP1 vw1 mt1 Fz lk H σ S fps S1 H1 Fz1 fps1 fp1) (q : Pst K RP2 vw2 mt2 Fz lk H1 σ S1 fps1 S2 H2 Fz2 fps2 fp2) (dj : ∀ i ∈ vw1, i ∉ mt2) :
    Pst K (fun Fz H fp => ∃ f g, fp = f ++ g ∧ RP1 Fz H f ∧ RP2 Fz H g) (vw1 ++ vw2) (mt1 ++ mt2) Fz lk H σ S fps S2 H2 (fun a => Fz1 a ∨ Fz2 a) fps2 (fp1 ++ fp2) := by
  have keepz : ∀ a, Fz1 a → ∀ i ∈ mt2, a ∉ fps1 i := fun a ha i hi hm => by
    rcases p.zo a ha with z | z | ⟨j, hj, z⟩
    · exact p.sr.nf i a hm z
    · exact z.2 i hm
    · exact dj j hj (p.sr.dis j i a z hm ▸ hi)
  have keepf : ∀ a, a ∈ fp1 → ∀ i ∈ mt2, a ∉ fps1 i := fun a ha i _ => p.fd a ha i
  have kt : ∀ a xs, H1 a = some (.tup xs) → H2 a = some (.tup xs) := fun a xs e => q.kp a _ e fun i _ hm => (p.sr.live i a hm).2 xs e
  have kr : ∀ a u, (∀ i ∈ mt2, a ∉ fps1 i) → Rd H1 a u → Rd H2 a u := fun a u h r => rd_keep r fun o e => q.kp a o e h
  have z21 : ∀ a ∈ fp2, ¬ Fz1 a := fun a ha hz => by
    rcases q.fo a ha with z | ⟨i, hi, z⟩
    · obtain ⟨o, e⟩ := p.za a hz
      rw [z] at e; cases e
    · exact keepz a hz i hi z
  have z12 : ∀ a ∈ fp1, ¬ Fz2 a := fun a ha hz => by
    obtain ⟨o, e⟩ := p.fv a ha
    rcases q.zo a hz with z | z | ⟨j, hj, z⟩
    · exact p.nz a ha (p.zz a z)
    · rcases z.1 with z | ⟨i, hi, z⟩
      · rw [z] at e; cases e
      · exact p.fd a ha i z
    · rcases q.fm j a z with z | ⟨l, _, z⟩ | z
      · exact p.fd a ha j z
      · exact p.fd a ha l z
      · rw [z] at e; cases e
  refine ⟨q.sr, ⟨fp1, fp2, rfl, ?_, ?_⟩, fun a h => .inl (p.zz a h), ?_, ?_, ?_, ?_, ?_, ?_, ?_, ?_, ?_, ?_, ?_, ?_⟩
  · exact m1 _ _ _ _ _ p.rp (fun _ z => .inl z) kt (fun a xs h e => q.kp a _ e fun i hi => h.elim (fun z => keepz a z i hi) fun z => keepf a z i hi) fun a u h r => kr a u (fun i hi => h.elim (fun z => keepz a z i hi) fun z => keepf a z i hi) r
  · exact m2 _ _ _ _ _ q.rp (fun _ z => .inr z) (fun _ _ e => e) (fun _ _ _ r => r) fun _ _ _ r => r
  · rintro a (hz | hz)
    · rcases p.zo a hz with z | z | ⟨j, hj, z⟩
      · exact .inl z
      · refine .inr (.inl ⟨z.1.imp id fun ⟨i, hi, w⟩ => ⟨i, List.mem_append_left _ hi, w⟩, fun j hm => ?_⟩)
        rcases q.fm j a hm with w | ⟨l, _, w⟩ | w
        · exact z.2 j w
        · exact z.2 l w
        · obtain ⟨o, e⟩ := p.za a hz
          rw [w] at e; cases e
      · refine .inr (.inr ⟨j, List.mem_append_left _ hj, ?_⟩)
        rw [(q.fs j (dj j hj)).1]
        exact z
    · rcases q.zo a hz with z | z | ⟨j, hj, z⟩
      · exact .inl z
      · refine .inr (.inl ⟨?_, z.2⟩)
        rcases z.1 with w | ⟨i, hi, w⟩
        · exact .inl (p.dm a w)
        · rcases p.fm i a w with w | ⟨l, hl, w⟩ | w
          · exact .inr ⟨i, List.mem_append_right _ hi, w⟩
          · exact .inr ⟨l, List.mem_append_left _ hl, w⟩
          · exact .inl w
      · exact .inr (.inr ⟨j, List.mem_append_right _ hj, z⟩)
  · rintro a (hz | hz)
    · obtain ⟨o, e⟩ := p.za a hz
      exact ⟨o, q.kp a o e (keepz a hz)⟩
    · exact q.za a hz
  · refine List.nodup_append.mpr ⟨p.nd, q.nd, fun a ha b hb e => ?_⟩
    subst e
    obtain ⟨o, e⟩ := p.fv a ha
    rcases q.fo a hb with z | ⟨i, hi, z⟩
    · rw [z] at e; cases e
    · exact p.fd a ha i z
  · intro a ha
    rcases List.mem_append.mp ha with ha | ha
    · exact fun z => z.elim (p.nz a ha) (z12 a ha)
    · exact fun z => z.elim (z21 a ha) (q.nz a ha)
  · intro a ha
    rcases List.mem_append.mp ha with ha | ha
    · obtain ⟨o, e⟩ := p.fv a ha
      exact ⟨o, q.kp a o e (keepf a ha)⟩
    · exact q.fv a ha
  · intro a ha j hm
    rcases List.mem_append.mp ha with ha | ha
    · rcases q.fm j a hm with z | ⟨l, _, z⟩ | z
      · exact p.fd a ha j z
      · exact p.fd a ha l z
      · obtain ⟨o, e⟩ := p.fv a ha
        rw [z] at e; cases e
    · exact q.fd a ha j hm
  · intro a ha
    rcases List.mem_append.mp ha with ha | ha
    · exact (p.fo a ha).imp id fun ⟨i, hi, w⟩ => ⟨i, List.mem_append_left _ hi, w⟩
    · rcases q.fo a ha with w | ⟨i, hi, w⟩
      · exact .inl (p.dm a w)
      · rcases p.fm i a w with w | ⟨l, hl, w⟩ | w
        · exact .inr ⟨i, List.mem_append_right _ hi, w⟩
        · exact .inr ⟨l, List.mem_append_left _ hl, w⟩
        · exact .inl w
  · intro a ha o u
    rcases List.mem_append.mp ha with ha | ha
    · obtain ⟨o', e⟩ := p.fv a ha
      rw [q.kp a o' e (keepf a ha)]
      intro z
      rw [Option.some.inj z] at e
      exact p.fl a ha _ _ e
    · exact q.fl a ha o u
  · intro a o e h
    refine q.kp a o (p.kp a o e fun i hi => h i (List.mem_append_left _ hi)) fun i hi hm => ?_
    rcases p.fm i a hm with z | ⟨l, hl, z⟩ | z
    · exact h i (List.mem_append_right _ hi) z
    · exact h l (List.mem_append_left _ hl) z
    · rw [z] at e; cases e
  · exact fun a e => p.dm a (q.dm a e)
  · intro i hi
    have h1 := p.fs i fun z => hi (List.mem_append_left _ z)
    have h2 := q.fs i fun z => hi (List.mem_append_right _ z)
    exact ⟨h2.1.trans h1.1, h2.2.trans h1.2⟩
  · intro i a hm
    have up : ∀ i, a ∈ fps1 i → a ∈ fps i ∨ (∃ l ∈ mt1 ++ mt2, a ∈ fps l) ∨ H a = none := fun i z => (p.fm i a z).imp id (Or.imp (fun ⟨l, hl, w⟩ => ⟨l, List.mem_append_left _ hl, w⟩) id)
    rcases q.fm i a hm with z | ⟨l, hl, z⟩ | z
    · exact up i z
    · rcases p.fm l a z with w | ⟨k, hk, w⟩ | w
      · exact .inr (.inl ⟨l, List.mem_append_right _ hl, w⟩)
      · exact .inr (.inl ⟨k, List.mem_append_left _ hk, w⟩)
      · exact .inr (.inr w)
    · exact .inr (.inr (p.dm a z))
theorem Pst.imp {RP RP' : (Addr → Prop) → Hp → List Addr → Prop} {vw mt : List Nat} {K Fz lk H σ S fps S' H' Fz' fps' fp} (p : Pst K RP vw mt Fz lk H σ S fps S' H' Fz' fps' fp) (h : RP Fz' H' fp → RP' Fz' H' fp) : Pst K RP' vw mt Fz lk H σ S fps S' H' Fz' fps' fp :=
  ⟨p.sr, h p.rp, p.zz, p.zo, p.za, p.nd, p.nz, p.fv, p.fd, p.fo, p.fl, p.kp, p.dm, p.fs, p.fm⟩

/-! ### expressions, tests, argument lists as functions of a store -/
structure Nd (α : Type) where
  vw : List Nat
  mt : List Nat
  run : Stt → Option (α × Stt)
abbrev En := Nd D
abbrev Tn := Nd Bool
abbrev An := Nd (List D)
/-- what holds ahead of n -/
structure Pre (K : PySem.W.Frag) {α : Type} (n : Nd α) (σ : L2.St) (H : Hp) (Fz : Addr → Prop) (lk : Nat → Prop) (S : Stt) (fps : Nat → List Addr) (d : α) (S' : Stt) : Prop where
  sr : SR K Fz lk H σ S fps
  ml : ∀ i ∈ n.mt, ¬ lk i
  rn : n.run S = some (d, S')
def tD (K : PySem.W.Frag) (n : En) : TE := fun σ H Q => ∃ Fz lk S fps d S', Pre K n σ H Fz lk S fps d S' ∧ ∀ v H' Fz' fps' fp, Pst K (fun Fz H fp => Rp K Fz H d v fp) n.vw n.mt Fz lk H σ S fps S' H' Fz' fps' fp → Q v H'
def tT (K : PySem.W.Frag) (n : Tn) : TT := fun σ H Q => ∃ Fz lk S fps d S', Pre K n σ H Fz lk S fps d S' ∧ ∀ H' Fz' fps', Pst K (fun _ _ fp => fp = []) n.vw n.mt Fz lk H σ S fps S' H' Fz' fps' [] → Q d H'
def tA (K : PySem.W.Frag) (n : An) : TA := fun σ H Q => ∃ Fz lk S fps d S', Pre K n σ H Fz lk S fps d S' ∧ ∀ v H' Fz' fps' fp, Pst K (fun Fz H fp => Rps K Fz H d v fp) n.vw n.mt Fz lk H σ S fps S' H' Fz' fps' fp → Q v H'
abbrev SE (X : Cx) (e : Expr) (n : En) : Prop := PE X e (tD X.K n)
abbrev ST (X : Cx) (e : Expr) (n : Tn) : Prop := PT X e (tT X.K n)
abbrev SA (X : Cx) (es : List Expr) (n : An) : Prop := PA X es (tA X.K n)
theorem PE.imp {X : Cx} {e : Expr} {t t' : TE} (h : PE X e t) (k : ∀ σ H Q, t' σ H Q → t σ H Q) : PE X e t' := ⟨fun pins s σ H Q I q => h.run pins s σ H Q I (k σ H Q q)⟩
theorem PT.imp {X : Cx} {e : Expr} {t t' : TT} (h : PT X e t) (k : ∀ σ H Q, t' σ H Q → t σ H Q) : PT X e t' := ⟨fun pins s σ H Q I q => h.run pins s σ H Q I (k σ H Q q)⟩
theorem PW.imp {X : Cx} {e : Expr} {t t' : TT} (h : PW X e t) (k : ∀ σ H Q, t' σ H Q → t σ H Q) : PW X e t' := ⟨fun whole pins s σ H Q I q => h.run whole pins s σ H Q I (k σ H Q q)⟩
theorem PA.imp {X : Cx} {e : List Expr} {t t' : TA} (h : PA X e t) (k : ∀ σ H Q, t' σ H Q → t σ H Q) : PA X e t' := ⟨fun pos pins s σ H Q I q => h.run pos pins s σ H Q I (k σ H Q q)⟩
theorem PE.or {X : Cx} {e : Expr} {t t' : TE} (h : PE X e t) (h' : PE X e t') : PE X e (fun σ H Q => t σ H Q ∨ t' σ H Q) := ⟨fun pins s σ H Q I q => q.elim (h.run pins s σ H Q I) (h'.run pins s σ H Q I)⟩
theorem PI.or {X : Cx} {tg e : Expr} {t t' : TI} (h : PI X tg e t) (h' : PI X tg e t') : PI X tg e (fun σ H Q => t σ H Q ∨ t' σ H Q) := ⟨fun pins s σ H Q I q => q.elim (h.run pins s σ H Q I) (h'.run pins s σ H Q I)⟩

/-! ### names, constants -/
def eVar (i : Nat) : En := ⟨[i], [], fun S => match S[i]? with
  | some (some d) => some (frz d, S)
  | _ => none⟩
theorem mem1 {a b : Nat} (h : a ∈ [b]) : a = b := by simpa using h
theorem view {K Fz lk H σ S fps} (r : SR K Fz lk H σ S fps) {i : Nat} {d : D} {v : V} (q : Rp K Fz H d v (fps i)) :
    Pst K (fun Fz H fp => Rp K Fz H (frz d) v fp) [i] [] Fz lk H σ S fps S H (fun a => Fz a ∨ a ∈ fps i) fps [] :=
  ⟨r, q.frz (fun _ z => .inl z) fun _ z => .inr z, fun _ z => .inl z, fun a z => z.elim .inl fun z => .inr (.inr ⟨i, by simp, z⟩), fun a z => z.elim (r.za a) fun z => (r.live i a z).1,
    List.nodup_nil, (fun _ z => nomatch z), (fun _ z => nomatch z), (fun _ z => nomatch z), (fun _ z => nomatch z), (fun _ z => nomatch z), fun _ _ e _ => e, fun _ e => e, fun _ _ => ⟨rfl, rfl⟩, fun _ _ z => .inl z⟩
theorem ev_var {K : PySem.W.Frag} {i : Nat} {σ : L2.St} {H : Hp} {Q : VK} (h : tD K (eVar i) σ H Q) : tVar i σ H Q := by
  obtain ⟨Fz, lk, S, fps, d, S', p, k⟩ := h
  have rn : (match S[i]? with
    | some (some d) => some (frz d, S)
    | _ => none) = some (d, S') := p.rn
  split at rn
  · rename_i d0 e
    cases rn
    obtain ⟨v, e1, q⟩ := p.sr.rep i d0 e
    exact ⟨v, e1, k v H _ fps [] (view p.sr q)⟩
  · cases rn
theorem se_var {X : Cx} (i : Nat) {x : Str} {pos : Pos} (h : PE X (.Name x pos) (tVar i)) : SE X (.Name x pos) (eVar i) := PE.imp h fun _ _ _ q => ev_var q
/-- a plain value -/
def scV : V → Option D
  | .non => some .non
  | .bl b => some (.bl b)
  | .int i => some (.int i)
  | .str x => some (.str x)
  | _ => none
theorem scV_rp {v : V} {d : D} (h : scV v = some d) (K : PySem.W.Frag) (Fz : Addr → Prop) (H : Hp) : Rp K Fz H d v [] := by
  cases v <;> cases h <;> (unfold Rp; exact ⟨rfl, rfl⟩)
def eC (d : D) : En := ⟨[], [], fun S => some (d, S)⟩
theorem se_c {X : Cx} {e : Expr} {v : V} {d : D} (h : PE X e (tC v)) (hs : scV v = some d) : SE X e (eC d) := PE.imp h fun σ H Q q => by
  obtain ⟨Fz, lk, S, fps, d', S', p, k⟩ := q
  cases p.rn
  exact k v H Fz fps [] (Pst.start p.sr (scV_rp hs _ _ _))

/-! ### argument lists -/
def aNil : An := ⟨[], [], fun S => some ([], S)⟩
def aCons (a : En) (b : An) : An := ⟨a.vw ++ b.vw, a.mt ++ b.mt, fun S => (a.run S).bind fun p => (b.run p.2).bind fun q => some (p.1 :: q.1, q.2)⟩
def dj (a b : List Nat) : Bool := a.all fun i => decide (i ∉ b)
theorem dj_ok {a b : List Nat} (h : dj a b = true) : ∀ i ∈ a, i ∉ b := fun i hi => of_decide_eq_true (List.all_eq_true.mp h i hi)
theorem sa_nil {X : Cx} : SA X [] aNil := PA.imp pa_nil fun σ H Q q => by
  obtain ⟨Fz, lk, S, fps, d', S', p, k⟩ := q
  cases p.rn
  exact k [] H Fz fps [] (Pst.start p.sr (by unfold Rps; exact ⟨rfl, rfl⟩))
theorem bind2 {α β γ : Type} {x : Option (α × Stt)} {f : α → Stt → Option (β × Stt)} {g : α → β → γ} {r : γ × Stt} (h : (x.bind fun p => (f p.1 p.2).bind fun q => some (g p.1 q.1, q.2)) = some r) :
    ∃ a S1 b S2, x = some (a, S1) ∧ f a S1 = some (b, S2) ∧ r = (g a b, S2) := by
  cases x with
  | none => cases h
  | some p =>
    obtain ⟨a, S1⟩ := p
    have h1 : ((f a S1).bind fun q => some (g a q.1, q.2)) = some r := h
    cases e : f a S1 with
    | none => rw [e] at h1; cases h1
    | some q =>
      obtain ⟨b, S2⟩ := q
      rw [e] at h1
      cases h1
      exact ⟨a, S1, b, S2, rfl, e, rfl⟩
theorem ev_cons {K : PySem.W.Frag} {a : En} {b : An} {ta : TE} {tb : TA} (ha : ∀ σ H Q, tD K a σ H Q → ta σ H Q) (hb : ∀ σ H Q, tA K b σ H Q → tb σ H Q) (hd : dj a.vw b.mt = true) {σ : L2.St} {H : Hp} {Q : List V → Hp → Prop} (h : tA K (aCons a b) σ H Q) : tCons ta tb σ H Q := by
  obtain ⟨Fz, lk, S, fps, d, S', p, k⟩ := h
  obtain ⟨x, S1, xs, S2, e1, e2, e3⟩ := bind2 (f := fun _ S => b.run S) (g := fun x xs => x :: xs) p.rn
  obtain ⟨rfl, rfl⟩ := Prod.mk.inj e3
  refine ha σ H _ ⟨Fz, lk, S, fps, x, S1, ⟨p.sr, fun i hi => p.ml i (List.mem_append_left _ hi), e1⟩, fun v H1 Fz1 fps1 fp1 p1 => ?_⟩
  refine hb σ H1 _ ⟨Fz, lk, S1, fps1, xs, _, ⟨p1.sr, fun i hi => p.ml i (List.mem_append_right _ hi), e2⟩, fun vs H2 Fz2 fps2 fp2 p2 => ?_⟩
  exact k (v :: vs) H2 _ fps2 (fp1 ++ fp2) ((Pst.seq mono_rp mono_rps p1 p2 (dj_ok hd)).imp fun ⟨f, g, e, r, q⟩ => by unfold Rps; exact ⟨v, vs, f, g, rfl, e, r, q⟩)
theorem sa_cons {X : Cx} {e : Expr} {es : List Expr} {a : En} {b : An} (ha : SE X e a) (hb : SA X es b) (hd : dj a.vw b.mt = true := by rfl) (hs : starEach (e :: es) X.env = (false, eval e X.env) :: starEach es X.env := by rfl) : SA X (e :: es) (aCons a b) :=
  PA.imp (pa_cons ha hb hs) fun _ _ _ q => ev_cons (fun _ _ _ z => z) (fun _ _ _ z => z) hd q
end TW

/-! TW2: operations on values; tests; and, or, not; calls of built-ins. -/
namespace TW
open PySem PySem.Spec PyProof.Rows L2

/-- a new value, all that stood stands -/
structure VPst (K : PySem.W.Frag) (Fz : Addr → Prop) (H : Hp) (d : D) (v : V) (H' : Hp) (Fz' : Addr → Prop) (fp : List Addr) : Prop where
  rp : Rp K Fz' H' d v fp
  zz : ∀ a, Fz a → Fz' a
  zo : ∀ a, Fz' a → Fz a ∨ H a = none
  za : ∀ a, Fz' a → ∃ o, H' a = some o
  nd : fp.Nodup
  nz : ∀ a ∈ fp, ¬ Fz' a
  fo : ∀ a ∈ fp, H a = none
  fl : ∀ a ∈ fp, ∀ o u, H' a ≠ some (.frz o u)
  kp : ∀ a o, H a = some o → H' a = some o
theorem sqL_keep {K : PySem.W.Frag} {H H' : Hp} {a : Addr} {xs : List V} (h : SqL K H a xs) (k : ∀ o, H a = some o → H' a = some o) : SqL K H' a xs := h.imp (fun r => rd_keep r k) id
theorem Rp.keep {K Fz H H'} {d : D} {v : V} {fp : List Addr} (h : Rp K Fz H d v fp) (k : ∀ a o, H a = some o → H' a = some o) : Rp K Fz H' d v fp :=
  h.mono (fun _ z => z) (fun a xs e => k a _ e) (fun a xs _ e => k a _ e) fun a u _ r => rd_keep r (k a)
theorem Rps.keep {K Fz H H'} {d : List D} {v : List V} {fp : List Addr} (h : Rps K Fz H d v fp) (k : ∀ a o, H a = some o → H' a = some o) : Rps K Fz H' d v fp :=
  h.mono (fun _ z => z) (fun a xs e => k a _ e) (fun a xs _ e => k a _ e) fun a u _ r => rd_keep r (k a)
theorem SR.keep {K Fz lk H H' σ S fps} (r : SR K Fz lk H σ S fps) (k : ∀ a o, H a = some o → H' a = some o) : SR K Fz lk H' σ S fps where
  len := r.len
  rep := fun i d e => let ⟨v, e1, q⟩ := r.rep i d e; ⟨v, e1, q.keep k⟩
  emp := r.emp
  dis := r.dis
  nd := r.nd
  nf := r.nf
  za := fun a z => let ⟨o, e⟩ := r.za a z; ⟨o, k a o e⟩
  nl := fun i hi a ha o u e => by
    obtain ⟨⟨o', e'⟩, _⟩ := r.live i a ha
    rw [k a o' e'] at e
    rw [Option.some.inj e] at e'
    exact r.nl i hi a ha _ _ e'
/-- an operation whose reading is r does f of trees that are all shared -/
def VOp (K : PySem.W.Frag) (r : List V → Hp → VK → Prop) (f : List D → Option D) : Prop := ∀ (Fz : Addr → Prop) (H : Hp) (ds : List D) (vs : List V) (d : D) (Q : VK), (∀ a, Fz a → ∃ o, H a = some o) → Rps K Fz H ds vs [] → f ds = some d →
  (∀ v H' Fz' fp, VPst K Fz H d v H' Fz' fp → Q v H') → r vs H Q
/-- nothing new: a plain value, or one that stood -/
theorem VPst.old {K Fz H} {d : D} {v : V} (za : ∀ a, Fz a → ∃ o, H a = some o) (h : Rp K Fz H d v []) : VPst K Fz H d v H Fz [] :=
  ⟨h, fun _ z => z, fun _ z => .inl z, za, List.nodup_nil, (fun _ z => nomatch z), (fun _ z => nomatch z), (fun _ z => nomatch z), fun _ _ e => e⟩
theorem upd_keep {H : Hp} {p : Addr} {o : HO} (hp : H p = none) : ∀ a u, H a = some u → upd H p o a = some u := fun a u e => by rw [upd_ne (ne_of_none e hp)]; exact e
/-- a new tuple of things that stood -/
theorem VPst.tup {K Fz H} {ds : List D} {vs : List V} {p : Addr} (za : ∀ a, Fz a → ∃ o, H a = some o) (hp : H p = none) (h : Rps K Fz H ds vs []) : VPst K Fz H (.tup ds) (.ref p) (upd H p (.tup vs)) Fz [] :=
  ⟨by unfold Rp; exact ⟨p, vs, rfl, upd_same, h.keep (upd_keep hp)⟩, fun _ z => z, fun _ z => .inl z, fun a z => let ⟨o, e⟩ := za a z; ⟨o, upd_keep hp a o e⟩, List.nodup_nil, (fun _ z => nomatch z), (fun _ z => nomatch z), (fun _ z => nomatch z), upd_keep hp⟩
theorem VPst.lst {K Fz H} {ds : List D} {vs : List V} {p : Addr} (za : ∀ a, Fz a → ∃ o, H a = some o) (hp : H p = none) (h : Rps K Fz H ds vs []) : VPst K Fz H (.lst true ds) (.ref p) (upd H p (.lst vs)) Fz [p] :=
  ⟨by unfold Rp; exact ⟨p, vs, [], rfl, upd_same, rfl, h.keep (upd_keep hp)⟩, fun _ z => z, fun _ z => .inl z, fun a z => let ⟨o, e⟩ := za a z; ⟨o, upd_keep hp a o e⟩, by simp, (fun a z q => by
    obtain ⟨o, e⟩ := za a q
    have e2 : a = p := by simpa using z
    rw [e2, hp] at e; cases e), (fun a z => by
    have e2 : a = p := by simpa using z
    rw [e2]; exact hp), (fun a z o u e => by
    have e2 : a = p := by simpa using z
    rw [e2, upd_same] at e; cases e), upd_keep hp⟩
def eApp (f : List D → Option D) (n : An) : En := ⟨n.vw, n.mt, fun S => (n.run S).bind fun p => (f (frzs p.1)).bind fun d => some (d, p.2)⟩
theorem bind1 {α β : Type} {x : Option (α × Stt)} {f : α → Option β} {r : β × Stt} (h : (x.bind fun p => (f p.1).bind fun d => some (d, p.2)) = some r) : ∃ a S1 b, x = some (a, S1) ∧ f a = some b ∧ r = (b, S1) := by
  cases x with
  | none => cases h
  | some p =>
    obtain ⟨a, S1⟩ := p
    have h1 : ((f a).bind fun d => some (d, S1)) = some r := h
    cases e : f a with
    | none => rw [e] at h1; cases h1
    | some q =>
      rw [e] at h1
      cases h1
      exact ⟨a, S1, q, rfl, e, rfl⟩
/-- the values are handed over to an operation -/
theorem Pst.app {K} {vw mt : List Nat} {Fz lk H σ S fps S1 H1 Fz1 fps1 fp1 d v H2 Fz2 fp2} {RP : (Addr → Prop) → Hp → List Addr → Prop} (p : Pst K RP vw mt Fz lk H σ S fps S1 H1 Fz1 fps1 fp1)
    (q : VPst K (fun a => Fz1 a ∨ a ∈ fp1) H1 d v H2 Fz2 fp2) : Pst K (fun Fz H fp => Rp K Fz H d v fp) vw mt Fz lk H σ S fps S1 H2 Fz2 fps1 fp2 := by
  have live : ∀ j a, a ∈ fps1 j → ¬ H1 a = none := fun j a ha e => by
    obtain ⟨⟨o, e'⟩, _⟩ := p.sr.live j a ha
    rw [e] at e'; cases e'
  refine ⟨p.sr.keep q.kp, q.rp, fun a z => q.zz a (.inl (p.zz a z)), fun a z => ?_, q.za, q.nd, q.nz, fun a ha => (q.rp.live a ha).1, fun a ha j hj => live j a hj (q.fo a ha), fun a ha => .inl (p.dm a (q.fo a ha)), q.fl,
    fun a o e h => q.kp a o (p.kp a o e h), fun a e => ?_, p.fs, p.fm⟩
  · rcases q.zo a z with (z | z) | z
    · exact p.zo a z
    · exact .inr (.inl ⟨p.fo a z, p.fd a z⟩)
    · exact .inr (.inl ⟨.inl (p.dm a z), fun j hj => live j a hj z⟩)
  · refine p.dm a ?_
    cases e' : H1 a with
    | none => rfl
    | some o => rw [q.kp a o e'] at e; cases e
theorem ev_app {K : PySem.W.Frag} {r : List V → Hp → VK → Prop} {f : List D → Option D} {n : An} {t : TA} (ho : VOp K r f) (ht : ∀ σ H Q, tA K n σ H Q → t σ H Q) {σ : L2.St} {H : Hp} {Q : VK} (h : tD K (eApp f n) σ H Q) : tCB r t σ H Q := by
  obtain ⟨Fz, lk, S, fps, d, S', p, k⟩ := h
  obtain ⟨ds, S1, d', e1, e2, e3⟩ := bind1 (f := fun ds => f (frzs ds)) p.rn
  obtain ⟨rfl, rfl⟩ := Prod.mk.inj e3
  refine ht σ H _ ⟨Fz, lk, S, fps, ds, _, ⟨p.sr, p.ml, e1⟩, fun vs H1 Fz1 fps1 fp1 p1 => ?_⟩
  refine ho (fun a => Fz1 a ∨ a ∈ fp1) H1 (frzs ds) vs d Q (fun a z => z.elim (p1.za a) (p1.fv a)) (p1.rp.frz (fun _ z => .inl z) fun _ z => .inr z) e2 fun v H2 Fz2 fp2 q => ?_
  exact k v H2 Fz2 fps1 fp2 (p1.app q)
theorem tD_mono {K : PySem.W.Frag} {n : En} {σ : L2.St} {H : Hp} {Q Q' : VK} (h : tD K n σ H Q) (k : ∀ v H, Q v H → Q' v H) : tD K n σ H Q' := by
  obtain ⟨Fz, lk, S, fps, d, S', p, q⟩ := h
  exact ⟨Fz, lk, S, fps, d, S', p, fun v H' Fz' fps' fp z => k _ _ (q v H' Fz' fps' fp z)⟩
theorem tT_mono {K : PySem.W.Frag} {n : Tn} {σ : L2.St} {H : Hp} {Q Q' : Bool → Hp → Prop} (h : tT K n σ H Q) (k : ∀ v H, Q v H → Q' v H) : tT K n σ H Q' := by
  obtain ⟨Fz, lk, S, fps, d, S', p, q⟩ := h
  exact ⟨Fz, lk, S, fps, d, S', p, fun H' Fz' fps' z => k _ _ (q H' Fz' fps' z)⟩
abbrev r2 (r : R2) : List V → Hp → VK → Prop := fun vs H Q => ∃ x y, vs = [x, y] ∧ r x y H Q
abbrev r1 (r : V → Hp → VK → Prop) : List V → Hp → VK → Prop := fun vs H Q => ∃ x, vs = [x] ∧ r x H Q
abbrev a1 (a : En) : An := aCons a aNil
abbrev a2 (a b : En) : An := aCons a (aCons b aNil)
theorem ev_nil {K : PySem.W.Frag} {σ : L2.St} {H : Hp} {Q : List V → Hp → Prop} (h : tA K aNil σ H Q) : tNil σ H Q := by
  obtain ⟨Fz, lk, S, fps, d', S', p, k⟩ := h
  cases p.rn
  exact k [] H Fz fps [] (Pst.start p.sr (by unfold Rps; exact ⟨rfl, rfl⟩))
theorem dj_nil (a : List Nat) : dj a [] = true := List.all_eq_true.mpr fun i _ => decide_eq_true (by simp)
theorem ev_op2 {K : PySem.W.Frag} {r : R2} {f : List D → Option D} {a b : En} (ho : VOp K (r2 r) f) (hd : dj a.vw b.mt = true) {σ : L2.St} {H : Hp} {Q : VK} (h : tD K (eApp f (a2 a b)) σ H Q) : tOp r (tD K a) (tD K b) σ H Q := by
  have h1 := ev_app (t := tCons (tD K a) (tCons (tD K b) tNil)) ho (fun σ H Q q => ev_cons (fun _ _ _ z => z) (fun _ _ _ z => ev_cons (fun _ _ _ z => z) (fun _ _ _ z => ev_nil z) (dj_nil _) z) (by simpa [aCons, aNil] using hd) q) h
  refine tD_mono h1 fun x H1 h2 => tD_mono h2 fun y H2 h3 => ?_
  obtain ⟨x', y', e, q⟩ := h3
  cases e
  exact q
theorem ev_op1 {K : PySem.W.Frag} {r : V → Hp → VK → Prop} {f : List D → Option D} {a : En} (ho : VOp K (r1 r) f) {σ : L2.St} {H : Hp} {Q : VK} (h : tD K (eApp f (a1 a)) σ H Q) : tUn r (tD K a) σ H Q := by
  have h1 := ev_app (t := tCons (tD K a) tNil) ho (fun σ H Q q => ev_cons (fun _ _ _ z => z) (fun _ _ _ z => ev_nil z) (dj_nil _) q) h
  refine tD_mono h1 fun x H1 h3 => ?_
  obtain ⟨x', e, q⟩ := h3
  cases e
  exact q
section
variable {X : Cx} {a b : Expr} {na nb : En} {pos : Pos} {f : List D → Option D}
theorem se_bin {op : Operator} {r : R2} (ho : OpR X (binaryOp op) r) (hv : VOp X.K (r2 r) f) (ha : SE X a na) (hb : SE X b nb) (hd : dj na.vw nb.mt = true := by rfl) : SE X (.BinOp a op b pos) (eApp f (a2 na nb)) :=
  PE.imp (pe_op ho ha hb) fun _ _ _ q => ev_op2 hv hd q
theorem se_un {op : UnaryOp} {r : V → Hp → VK → Prop} (ho : UnR X (unaryOp op) r) (hv : VOp X.K (r1 r) f) (ha : SE X a na) : SE X (.UnaryOp op a pos) (eApp f (a1 na)) :=
  PE.imp (pe_un ho ha) fun _ _ _ q => ev_op1 hv q
theorem se_cmp {op : CmpOp} {r : R2} (ho : OpR X (compareOp op) r) (hv : VOp X.K (r2 r) f) (ha : SE X a na) (hb : SE X b nb) (hm : behindInMarks op b = false) (hd : dj na.vw nb.mt = true := by rfl) : SE X (.Compare a [op] [b] pos) (eApp f (a2 na nb)) :=
  PE.imp (pe_cmpR ho ha hb hm) fun _ _ _ q => ev_op2 hv hd q
theorem se_ix {r : R2} (hr : IxR X r) (hv : VOp X.K (r2 r) f) (ha : SE X a na) (hb : SE X b nb) (hs : PlainIx b) (hd : dj na.vw nb.mt = true := by rfl) : SE X (.Subscript a b pos) (eApp f (a2 na nb)) :=
  PE.imp (pe_ix hr ha hb hs) fun _ _ _ q => ev_op2 hv hd q
end
/-! ### tests -/
def toB : D → Option Bool
  | .bl b => some b
  | _ => none
/-- an expression that gives a truth, as a test -/
def nVal (n : En) : Tn := ⟨[], n.mt, fun S => (n.run S).bind fun p => (toB p.1).bind fun d => some (d, p.2)⟩
theorem toB_eq {d : D} {b : Bool} (h : toB d = some b) : d = .bl b := by
  cases d <;> cases h
  rfl
theorem Pst.drop {K} {RP : (Addr → Prop) → Hp → List Addr → Prop} {vw vw' mt : List Nat} {Fz lk H σ S fps S1 H1 Fz1 fps1 fp1} (p : Pst K RP vw mt Fz lk H σ S fps S1 H1 Fz1 fps1 fp1) : Pst K (fun _ _ fp => fp = []) vw' mt Fz lk H σ S fps S1 H1 Fz fps1 [] :=
  ⟨p.sr, rfl, fun _ z => z, fun _ z => .inl z, p.sr.za, List.nodup_nil, (fun _ z => nomatch z), (fun _ z => nomatch z), (fun _ z => nomatch z), (fun _ z => nomatch z), (fun _ z => nomatch z), p.kp, p.dm, p.fs, p.fm⟩
theorem ev_val {K : PySem.W.Frag} {n : En} {σ : L2.St} {H : Hp} {Q : Bool → Hp → Prop} (h : tT K (nVal n) σ H Q) : tD K n σ H (fun x H' => ∃ k, x = .bl k ∧ Q k H') := by
  obtain ⟨Fz, lk, S, fps, d, S', p, k⟩ := h
  obtain ⟨x, S1, d', e1, e2, e3⟩ := bind1 (f := toB) p.rn
  obtain ⟨rfl, rfl⟩ := Prod.mk.inj e3
  refine ⟨Fz, lk, S, fps, x, _, ⟨p.sr, p.ml, e1⟩, fun v H1 Fz1 fps1 fp1 p1 => ⟨d, ?_, k H1 Fz fps1 p1.drop⟩⟩
  have r := p1.rp
  rw [toB_eq e2] at r
  unfold Rp at r
  exact r.1
section
variable {X : Cx} {a b : Expr} {na nb : En} {ta tb : Tn} {pos : Pos} {f : List D → Option D}
/-- a test by a comparison -/
theorem st_cmp {op : CmpOp} {r : R2} (ho : OpR X (compareOp op) r) (hv : VOp X.K (r2 r) f) (ha : SE X a na) (hb : SE X b nb) (hm : behindInMarks op b = false) (hd : dj na.vw nb.mt = true := by rfl) : ST X (.Compare a [op] [b] pos) (nVal (eApp f (a2 na nb))) :=
  PT.imp (pt_cmpR ho ha hb hm) fun σ H Q q => by
    have h1 := ev_op2 hv hd (ev_val q)
    exact h1
theorem st_val (h : SE X a na) (he : ∀ whole, isTrue a X.env whole = (do let v ← whole; standAt a.pos; holding [v] (truthy v)) := by intro _; rfl) : ST X a (nVal na) :=
  PT.imp (pt_val h he) fun σ H Q q => ev_val q
def nNot (n : Tn) : Tn := ⟨n.vw, n.mt, fun S => (n.run S).bind fun p => some (!p.1, p.2)⟩
theorem st_not (h : ST X a ta) : ST X (.UnaryOp .Not a pos) (nNot ta) := PT.imp (pt_not h) fun σ H Q q => by
  obtain ⟨Fz, lk, S, fps, d, S', p, k⟩ := q
  obtain ⟨x, S1, d', e1, e2, e3⟩ := bind1 (f := fun x => some (!x)) p.rn
  obtain ⟨rfl, rfl⟩ := Prod.mk.inj e3
  cases e2
  exact ⟨Fz, lk, S, fps, x, _, ⟨p.sr, p.ml, e1⟩, fun H1 Fz1 fps1 p1 => k H1 Fz1 fps1 p1⟩
def nAnd (n m : Tn) : Tn := ⟨n.vw ++ m.vw, n.mt ++ m.mt, fun S => (n.run S).bind fun p => if p.1 then m.run p.2 else some (false, p.2)⟩
def nOr (n m : Tn) : Tn := ⟨n.vw ++ m.vw, n.mt ++ m.mt, fun S => (n.run S).bind fun p => if p.1 then some (true, p.2) else m.run p.2⟩
/-- fewer may be seen, more may change -/
theorem Pst.widen {K} {RP : (Addr → Prop) → Hp → List Addr → Prop} {vw mt vw' mt' : List Nat} {Fz lk H σ S fps S1 H1 Fz1 fps1 fp1} (p : Pst K RP vw mt Fz lk H σ S fps S1 H1 Fz1 fps1 fp1) (hv : ∀ i ∈ vw, i ∈ vw') (hm : ∀ i ∈ mt, i ∈ mt') : Pst K RP vw' mt' Fz lk H σ S fps S1 H1 Fz1 fps1 fp1 :=
  ⟨p.sr, p.rp, p.zz, fun a z => (p.zo a z).imp id (Or.imp (And.imp (Or.imp id fun ⟨i, hi, w⟩ => ⟨i, hm i hi, w⟩) id) fun ⟨i, hi, w⟩ => ⟨i, hv i hi, w⟩), p.za, p.nd, p.nz, p.fv, p.fd, fun a ha => (p.fo a ha).imp id fun ⟨i, hi, w⟩ => ⟨i, hm i hi, w⟩, p.fl, fun a o e h => p.kp a o e fun i hi => h i (hm i hi), p.dm, fun i hi => p.fs i fun z => hi (hm i z), fun i a ha => (p.fm i a ha).imp id (Or.imp (fun ⟨l, hl, w⟩ => ⟨l, hm l hl, w⟩) id)⟩
theorem Pst.drop2 {K} {RP RP' : (Addr → Prop) → Hp → List Addr → Prop} {vw mt vw' mt' : List Nat} {Fz lk H σ S fps S1 H1 Fz1 fps1 fp1 S2 H2 Fz2 fps2 fp2} (p : Pst K RP vw mt Fz lk H σ S fps S1 H1 Fz1 fps1 fp1) (q : Pst K RP' vw' mt' Fz lk H1 σ S1 fps1 S2 H2 Fz2 fps2 fp2) :
    Pst K (fun _ _ fp => fp = []) (vw ++ vw') (mt ++ mt') Fz lk H σ S fps S2 H2 Fz fps2 [] := by
  have p' : Pst K (fun _ _ fp => fp = []) [] mt Fz lk H σ S fps S1 H1 Fz fps1 [] := p.drop
  exact (Pst.seq mono_tt mono_tt p' (q.drop (vw' := [])) (fun _ z => nomatch z)).drop
/-- a test, then a value -/
theorem Pst.then {K} {RP RP' : (Addr → Prop) → Hp → List Addr → Prop} {vw mt vw' mt' : List Nat} {Fz lk H σ S fps S1 H1 Fz1 fps1 fp1 S2 H2 Fz2 fps2 fp2} (m : Mono RP') (p : Pst K RP vw mt Fz lk H σ S fps S1 H1 Fz1 fps1 fp1) (q : Pst K RP' vw' mt' Fz lk H1 σ S1 fps1 S2 H2 Fz2 fps2 fp2) :
    Pst K RP' (vw ++ vw') (mt ++ mt') Fz lk H σ S fps S2 H2 (fun a => Fz a ∨ Fz2 a) fps2 fp2 := by
  have p' : Pst K (fun _ _ fp => fp = []) [] mt Fz lk H σ S fps S1 H1 Fz fps1 [] := p.drop
  refine Pst.imp ((Pst.seq mono_tt m p' q (fun _ z => nomatch z)).widen (fun i hi => List.mem_append_right _ (by simpa using hi)) fun i hi => hi) ?_
  rintro ⟨f, g, e, rfl, r⟩
  rw [e]
  exact r
theorem and_sound {K : PySem.W.Frag} {n m : Tn} {σ : L2.St} {H : Hp} {Q : Bool → Hp → Prop} (q : tT K (nAnd n m) σ H Q) : tAnd (tT K n) (tT K m) σ H Q := by
  obtain ⟨Fz, lk, S, fps, d, S', p, k⟩ := q
  have rn : ((n.run S).bind fun p => if p.1 then m.run p.2 else some (false, p.2)) = some (d, S') := p.rn
  cases e : n.run S with
  | none => rw [e] at rn; cases rn
  | some z =>
    obtain ⟨b, S1⟩ := z
    rw [e] at rn
    refine ⟨Fz, lk, S, fps, b, S1, ⟨p.sr, fun i hi => p.ml i (List.mem_append_left _ hi), e⟩, fun H1 Fz1 fps1 p1 => ?_⟩
    cases b with
    | true =>
      have rn2 : m.run S1 = some (d, S') := rn
      refine iteT ⟨Fz, lk, S1, fps1, d, S', ⟨p1.sr, fun i hi => p.ml i (List.mem_append_right _ hi), rn2⟩, fun H2 Fz2 fps2 p2 => ?_⟩
      exact k H2 Fz fps2 (p1.drop2 p2)
    | false =>
      cases rn
      exact iteF (k H1 Fz1 fps1 (p1.widen (fun i hi => List.mem_append_left _ hi) fun i hi => List.mem_append_left _ hi))
theorem or_sound {K : PySem.W.Frag} {n m : Tn} {σ : L2.St} {H : Hp} {Q : Bool → Hp → Prop} (q : tT K (nOr n m) σ H Q) : tOr (tT K n) (tT K m) σ H Q := by
  obtain ⟨Fz, lk, S, fps, d, S', p, k⟩ := q
  have rn : ((n.run S).bind fun p => if p.1 then some (true, p.2) else m.run p.2) = some (d, S') := p.rn
  cases e : n.run S with
  | none => rw [e] at rn; cases rn
  | some z =>
    obtain ⟨b, S1⟩ := z
    rw [e] at rn
    refine ⟨Fz, lk, S, fps, b, S1, ⟨p.sr, fun i hi => p.ml i (List.mem_append_left _ hi), e⟩, fun H1 Fz1 fps1 p1 => ?_⟩
    cases b with
    | false =>
      have rn2 : m.run S1 = some (d, S') := rn
      refine iteF ⟨Fz, lk, S1, fps1, d, S', ⟨p1.sr, fun i hi => p.ml i (List.mem_append_right _ hi), rn2⟩, fun H2 Fz2 fps2 p2 => ?_⟩
      exact k H2 Fz fps2 (p1.drop2 p2)
    | true =>
      cases rn
      exact iteT (k H1 Fz1 fps1 (p1.widen (fun i hi => List.mem_append_left _ hi) fun i hi => List.mem_append_left _ hi))
abbrev SW (X : Cx) (e : Expr) (n : Tn) : Prop := PW X e (tT X.K n)
theorem sw_and1 (h : ST X a ta) : SW X (.BoolOp .And [a] pos) ta := pw_and1 h
theorem sw_or1 (h : ST X a ta) : SW X (.BoolOp .Or [a] pos) ta := pw_or1 h
theorem sw_and {rest : List Expr} (h : ST X a ta) (hb : SW X (.BoolOp .And (b :: rest) pos) tb) : SW X (.BoolOp .And (a :: b :: rest) pos) (nAnd ta tb) := PW.imp (pw_and h hb) fun _ _ _ q => and_sound q
theorem sw_or {rest : List Expr} (h : ST X a ta) (hb : SW X (.BoolOp .Or (b :: rest) pos) tb) : SW X (.BoolOp .Or (a :: b :: rest) pos) (nOr ta tb) := PW.imp (pw_or h hb) fun _ _ _ q => or_sound q
theorem st_bool (h : SW X a ta) : ST X a ta := h.pt
/-! the same as values -/
def eAnd (n m : En) : En := ⟨n.vw ++ m.vw, n.mt ++ m.mt, fun S => (n.run S).bind fun p => (toB p.1).bind fun b => if b then m.run p.2 else some (.bl false, p.2)⟩
def eOr (n m : En) : En := ⟨n.vw ++ m.vw, n.mt ++ m.mt, fun S => (n.run S).bind fun p => (toB p.1).bind fun b => if b then some (.bl true, p.2) else m.run p.2⟩
def eNot (n : En) : En := ⟨n.vw, n.mt, fun S => (n.run S).bind fun p => (toB p.1).bind fun b => some (.bl (!b), p.2)⟩
def eIf (c : Tn) (n m : En) : En := ⟨c.vw ++ (n.vw ++ m.vw), c.mt ++ (n.mt ++ m.mt), fun S => (c.run S).bind fun p => if p.1 then n.run p.2 else m.run p.2⟩
theorem bindB {x : Option (D × Stt)} {g : Bool → Stt → Option (D × Stt)} {r : D × Stt} (h : (x.bind fun p => (toB p.1).bind fun b => g b p.2) = some r) : ∃ b S1, x = some (.bl b, S1) ∧ g b S1 = some r := by
  cases x with
  | none => cases h
  | some p =>
    obtain ⟨a, S1⟩ := p
    have h1 : ((toB a).bind fun b => g b S1) = some r := h
    cases e : toB a with
    | none => rw [e] at h1; cases h1
    | some b =>
      rw [e] at h1
      exact ⟨b, S1, by rw [toB_eq e], h1⟩
theorem rp_bl {K Fz H} {b : Bool} {v : V} {fp : List Addr} (h : Rp K Fz H (.bl b) v fp) : v = .bl b := by
  unfold Rp at h
  exact h.1
theorem rp_bl' {K Fz H} {b : Bool} : Rp K Fz H (.bl b) (.bl b) [] := by
  unfold Rp
  exact ⟨rfl, rfl⟩
/-- a plain value in place of what there was -/
theorem Pst.plain {K} {RP : (Addr → Prop) → Hp → List Addr → Prop} {vw mt : List Nat} {Fz lk H σ S fps S1 H1 Fz1 fps1 fp1} {d : D} {v : V} (p : Pst K RP vw mt Fz lk H σ S fps S1 H1 Fz1 fps1 fp1) (h : Rp K Fz H1 d v []) : Pst K (fun Fz H fp => Rp K Fz H d v fp) vw mt Fz lk H σ S fps S1 H1 Fz fps1 [] :=
  ⟨p.sr, h, fun _ z => z, fun _ z => .inl z, p.sr.za, List.nodup_nil, (fun _ z => nomatch z), (fun _ z => nomatch z), (fun _ z => nomatch z), (fun _ z => nomatch z), (fun _ z => nomatch z), p.kp, p.dm, p.fs, p.fm⟩
theorem se_and {rest : List Expr} (h : SE X a na) (hb : SE X (.BoolOp .And (b :: rest) pos) nb) : SE X (.BoolOp .And (a :: b :: rest) pos) (eAnd na nb) := PE.imp (pe_and h hb) fun σ H Q q => by
  obtain ⟨Fz, lk, S, fps, d, S', p, k⟩ := q
  obtain ⟨b, S1, e1, e2⟩ := bindB (g := fun b S => if b then nb.run S else some (.bl false, S)) p.rn
  refine ⟨Fz, lk, S, fps, _, S1, ⟨p.sr, fun i hi => p.ml i (List.mem_append_left _ hi), e1⟩, fun v H1 Fz1 fps1 fp1 p1 => ⟨b, rp_bl p1.rp, ?_⟩⟩
  cases b with
  | true => exact iteT ⟨Fz, lk, S1, fps1, d, S', ⟨p1.sr, fun i hi => p.ml i (List.mem_append_right _ hi), e2⟩, fun w H2 Fz2 fps2 fp2 p2 => k w H2 _ fps2 fp2 (Pst.then mono_rp p1 p2)⟩
  | false =>
    cases e2
    exact iteF (k _ H1 Fz fps1 [] ((p1.plain rp_bl').widen (fun i hi => List.mem_append_left _ hi) fun i hi => List.mem_append_left _ hi))
theorem se_or {rest : List Expr} (h : SE X a na) (hb : SE X (.BoolOp .Or (b :: rest) pos) nb) : SE X (.BoolOp .Or (a :: b :: rest) pos) (eOr na nb) := PE.imp (pe_or h hb) fun σ H Q q => by
  obtain ⟨Fz, lk, S, fps, d, S', p, k⟩ := q
  obtain ⟨b, S1, e1, e2⟩ := bindB (g := fun b S => if b then some (.bl true, S) else nb.run S) p.rn
  refine ⟨Fz, lk, S, fps, _, S1, ⟨p.sr, fun i hi => p.ml i (List.mem_append_left _ hi), e1⟩, fun v H1 Fz1 fps1 fp1 p1 => ⟨b, rp_bl p1.rp, ?_⟩⟩
  cases b with
  | false => exact iteF ⟨Fz, lk, S1, fps1, d, S', ⟨p1.sr, fun i hi => p.ml i (List.mem_append_right _ hi), e2⟩, fun w H2 Fz2 fps2 fp2 p2 => k w H2 _ fps2 fp2 (Pst.then mono_rp p1 p2)⟩
  | true =>
    cases e2
    exact iteT (k _ H1 Fz fps1 [] ((p1.plain rp_bl').widen (fun i hi => List.mem_append_left _ hi) fun i hi => List.mem_append_left _ hi))
theorem se_one {op} (h : SE X a na) : SE X (.BoolOp op [a] pos) na := pe_one h
theorem se_not (h : SE X a na) : SE X (.UnaryOp .Not a pos) (eNot na) := PE.imp (pe_not h) fun σ H Q q => by
  obtain ⟨Fz, lk, S, fps, d, S', p, k⟩ := q
  obtain ⟨b, S1, e1, e2⟩ := bindB (g := fun b S => some (.bl (!b), S)) p.rn
  refine ⟨Fz, lk, S, fps, _, S1, ⟨p.sr, p.ml, e1⟩, fun v H1 Fz1 fps1 fp1 p1 => ⟨b, rp_bl p1.rp, ?_⟩⟩
  cases e2
  exact k _ H1 Fz fps1 [] (p1.plain rp_bl')
theorem se_if {c : Expr} {nc : Tn} (hc : ST X c nc) (ha : SE X a na) (hb : SE X b nb) : SE X (.IfExp c a b pos) (eIf nc na nb) := PE.imp (pe_ifExp hc ha hb) fun σ H Q q => by
  obtain ⟨Fz, lk, S, fps, d, S', p, k⟩ := q
  have rn : ((nc.run S).bind fun p => if p.1 then na.run p.2 else nb.run p.2) = some (d, S') := p.rn
  cases e : nc.run S with
  | none => rw [e] at rn; cases rn
  | some z =>
    obtain ⟨t, S1⟩ := z
    rw [e] at rn
    refine ⟨Fz, lk, S, fps, t, S1, ⟨p.sr, fun i hi => p.ml i (List.mem_append_left _ hi), e⟩, fun H1 Fz1 fps1 p1 => ?_⟩
    cases t with
    | true => exact iteT ⟨Fz, lk, S1, fps1, d, S', ⟨p1.sr, fun i hi => p.ml i (List.mem_append_right _ (List.mem_append_left _ hi)), rn⟩, fun w H2 Fz2 fps2 fp2 p2 => k w H2 _ fps2 fp2 ((Pst.then mono_rp p1 p2).widen
        (fun i hi => (List.mem_append.mp hi).elim (List.mem_append_left _) fun z => List.mem_append_right _ (List.mem_append_left _ z)) (fun i hi => (List.mem_append.mp hi).elim (List.mem_append_left _) fun z => List.mem_append_right _ (List.mem_append_left _ z)))⟩
    | false => exact iteF ⟨Fz, lk, S1, fps1, d, S', ⟨p1.sr, fun i hi => p.ml i (List.mem_append_right _ (List.mem_append_right _ hi)), rn⟩, fun w H2 Fz2 fps2 fp2 p2 => k w H2 _ fps2 fp2 ((Pst.then mono_rp p1 p2).widen
        (fun i hi => (List.mem_append.mp hi).elim (List.mem_append_left _) fun z => List.mem_append_right _ (List.mem_append_right _ z)) (fun i hi => (List.mem_append.mp hi).elim (List.mem_append_left _) fun z => List.mem_append_right _ (List.mem_append_right _ z)))⟩
end
/-! ### calls of built-ins by name, displays -/
section
variable {X : Cx} {e : Expr} {es : List Expr} {n : An} {pos p : Pos} {f : List D → Option D} {r : List V → Hp → VK → Prop} {x : Str}
theorem se_callB {id : String} (hc : CallR X (.builtin id) r) (hv : VOp X.K r f) (hg : Gl X x) (hm : X.mg x = none) (hb : bootBuiltins x = some (.builtin id)) (ha : SA X (e :: es) n) (hn : x ≠ "__name__" := by decide) (hdb : (x == ("__debug__" : Str)) = false := by decide)
    (h : ∀ t, PA X (e :: es) t → PE X (.Call (.Name x p) (e :: es) [] pos) (tCB r t)) : SE X (.Call (.Name x p) (e :: es) [] pos) (eApp f n) :=
  PE.imp (h _ ha) fun _ _ _ q => ev_app hv (fun _ _ _ z => z) q
/-- a tuple, a list as they are written: what they hold stays its own -/
def eTup (n : An) : En := ⟨n.vw, n.mt, fun S => (n.run S).bind fun p => (if p.1.length ≤ 1000 then some (D.tup p.1) else none).bind fun d => some (d, p.2)⟩
def eLst (n : An) : En := ⟨n.vw, n.mt, fun S => (n.run S).bind fun p => (if p.1.length ≤ 1000 then some (D.lst true p.1) else none).bind fun d => some (d, p.2)⟩
theorem Rps.length {K Fz H} : ∀ {ds : List D} {vs : List V} {fp : List Addr}, Rps K Fz H ds vs fp → vs.length = ds.length
  | [], _, _, h => by unfold Rps at h; rw [h.1]; rfl
  | d :: ds, _, _, h => by
    unfold Rps at h
    obtain ⟨v, ws, f, g, rfl, rfl, r, q⟩ := h
    rw [List.length_cons, List.length_cons, Rps.length q]
theorem if_some {c : Prop} [Decidable c] {α : Type} {x y : α} (h : (if c then some x else none) = some y) : c ∧ x = y := by
  split at h
  · rename_i hc
    exact ⟨hc, Option.some.inj h⟩
  · cases h
theorem Pst.grow {K} {RP RP' : (Addr → Prop) → Hp → List Addr → Prop} {vw mt : List Nat} {Fz lk H σ S fps S1 H1 Fz1 fps1 fp1} {q : Addr} {o : HO} (m : Mono RP) (p : Pst K RP vw mt Fz lk H σ S fps S1 H1 Fz1 fps1 fp1) (hq : H1 q = none)
    (h : RP Fz1 (upd H1 q o) fp1 → RP' Fz1 (upd H1 q o) fp1) : Pst K RP' vw mt Fz lk H σ S fps S1 (upd H1 q o) Fz1 fps1 fp1 := by
  have k := upd_keep (o := o) hq
  have z : ∀ a, upd H1 q o a = none → H1 a = none := fun a e => by
    cases e' : H1 a with
    | none => rfl
    | some u => rw [k a u e'] at e; cases e
  refine ⟨p.sr.keep k, h (m _ _ _ _ _ p.rp (fun _ z => z) (fun a xs e => k a _ e) (fun a xs _ e => k a _ e) fun a u _ r => rd_keep r (k a)), p.zz, p.zo, fun a z => let ⟨o, e⟩ := p.za a z; ⟨o, k a o e⟩, p.nd, p.nz, fun a z => let ⟨o, e⟩ := p.fv a z; ⟨o, k a o e⟩, p.fd, p.fo, fun a ha o' u e => ?_, fun a o e h => k a o (p.kp a o e h), fun a e => p.dm a (z a e), p.fs, p.fm⟩
  obtain ⟨o2, e2⟩ := p.fv a ha
  rw [k a o2 e2] at e
  rw [Option.some.inj e] at e2
  exact p.fl a ha _ _ e2
theorem Pst.grow1 {K} {RP RP' : (Addr → Prop) → Hp → List Addr → Prop} {vw mt : List Nat} {Fz lk H σ S fps S1 H1 Fz1 fps1 fp1} {q : Addr} {o : HO} (m : Mono RP) (p : Pst K RP vw mt Fz lk H σ S fps S1 H1 Fz1 fps1 fp1) (hq : H1 q = none) (ho : ∀ ob u, o ≠ .frz ob u)
    (h : RP Fz1 (upd H1 q o) fp1 → RP' Fz1 (upd H1 q o) (q :: fp1)) : Pst K RP' vw mt Fz lk H σ S fps S1 (upd H1 q o) Fz1 fps1 (q :: fp1) := by
  have g := p.grow (o := o) m hq id
  refine ⟨g.sr, h g.rp, g.zz, g.zo, g.za, ?_, ?_, ?_, ?_, ?_, ?_, g.kp, g.dm, g.fs, g.fm⟩
  · refine List.nodup_cons.mpr ⟨fun z => ?_, g.nd⟩
    obtain ⟨u, e⟩ := p.fv q z
    rw [hq] at e; cases e
  · intro a ha
    rcases List.mem_cons.mp ha with rfl | ha
    · intro z
      obtain ⟨u, e⟩ := p.za a z
      rw [hq] at e; cases e
    · exact g.nz a ha
  · intro a ha
    rcases List.mem_cons.mp ha with rfl | ha
    · exact ⟨o, upd_same⟩
    · exact g.fv a ha
  · intro a ha j hj
    rcases List.mem_cons.mp ha with rfl | ha
    · obtain ⟨⟨u, e⟩, _⟩ := p.sr.live j a hj
      rw [hq] at e; cases e
    · exact g.fd a ha j hj
  · intro a ha
    rcases List.mem_cons.mp ha with rfl | ha
    · exact .inl (p.dm a hq)
    · exact g.fo a ha
  · intro a ha ob u
    rcases List.mem_cons.mp ha with rfl | ha
    · rw [upd_same]
      exact fun z => ho ob u (Option.some.inj z)
    · exact g.fl a ha ob u
theorem le1000 {n : Nat} (h : n ≤ 1000) : n ≤ sizeLine := Nat.le_trans h (by decide)
theorem se_tup {x1} (ha : SA X es n) : SE X (.Tuple es x1 pos) (eTup n) := PE.imp (pe_tup ha) fun σ H Q q => by
  obtain ⟨Fz, lk, S, fps, d, S', p, k⟩ := q
  obtain ⟨ds, S1, d', e1, e2, e3⟩ := bind1 (f := fun ds : List D => if ds.length ≤ 1000 then some (D.tup ds) else none) p.rn
  obtain ⟨rfl, rfl⟩ := Prod.mk.inj e3
  obtain ⟨hl, rfl⟩ := if_some e2
  refine ⟨Fz, lk, S, fps, ds, _, ⟨p.sr, p.ml, e1⟩, fun vs H1 Fz1 fps1 fp1 p1 => ⟨le1000 (by rw [Rps.length p1.rp]; exact hl), fun q hq => k _ _ Fz1 fps1 fp1 (p1.grow mono_rps hq fun r => ?_)⟩⟩
  unfold Rp
  exact ⟨q, vs, rfl, upd_same, r⟩
theorem se_lst (ha : SA X es n) : SE X (.List es pos) (eLst n) := PE.imp (pe_lst ha) fun σ H Q q => by
  obtain ⟨Fz, lk, S, fps, d, S', p, k⟩ := q
  obtain ⟨ds, S1, d', e1, e2, e3⟩ := bind1 (f := fun ds : List D => if ds.length ≤ 1000 then some (D.lst true ds) else none) p.rn
  obtain ⟨rfl, rfl⟩ := Prod.mk.inj e3
  obtain ⟨hl, rfl⟩ := if_some e2
  refine ⟨Fz, lk, S, fps, ds, _, ⟨p.sr, p.ml, e1⟩, fun vs H1 Fz1 fps1 fp1 p1 => ⟨le1000 (by rw [Rps.length p1.rp]; exact hl), fun q hq => ?_⟩⟩
  exact k _ _ Fz1 fps1 (q :: fp1) (p1.grow1 mono_rps hq (fun _ _ z => by cases z) fun r => by
    unfold Rp
    exact ⟨q, vs, fp1, rfl, upd_same, rfl, r⟩)
end
end TW

/-! TW3: statements. -/
namespace TW
open PySem PySem.Spec PyProof.Rows L2

inductive Out where
  | nx (S : Stt) | rt (d : D) (S : Stt)
structure Sn where
  mt : List Nat
  wr : List Nat
  run : Stt → Option Out
/-- what a statement leaves behind -/
structure SPst (K : PySem.W.Frag) (mt wr : List Nat) (Fz : Addr → Prop) (lk : Nat → Prop) (H : Hp) (σ : L2.St) (fps : Nat → List Addr) (S' : Stt) (σ' : L2.St) (H' : Hp) (Fz' : Addr → Prop) (fps' : Nat → List Addr) : Prop where
  sr : SR K Fz' lk H' σ' S' fps'
  zz : ∀ a, Fz a → Fz' a
  zo : ∀ a, Fz' a → Fz a ∨ H a = none ∨ ∃ i, a ∈ fps i
  kp : ∀ a o, H a = some o → (∀ i ∈ mt, a ∉ fps i) → H' a = some o
  dm : ∀ a, H' a = none → H a = none
  fs : ∀ i, i ∉ mt → ∀ a ∈ fps' i, a ∈ fps i
  fm : ∀ i a, a ∈ fps' i → a ∈ fps i ∨ (∃ j ∈ mt, a ∈ fps j) ∨ H a = none
  sg : ∀ i, i ∉ wr → σ'[i]? = σ[i]?
/-- a value beside the store -/
structure VO (K : PySem.W.Frag) (mt : List Nat) (H : Hp) (fps : Nat → List Addr) (H' : Hp) (Fz' : Addr → Prop) (fps' : Nat → List Addr) (d : D) (v : V) (fp : List Addr) : Prop where
  rp : Rp K Fz' H' d v fp
  nd : fp.Nodup
  nz : ∀ a ∈ fp, ¬ Fz' a
  fd : ∀ a ∈ fp, ∀ j, a ∉ fps' j
  fo : ∀ a ∈ fp, H a = none ∨ ∃ i ∈ mt, a ∈ fps i
  fl : ∀ a ∈ fp, ∀ o u, H' a ≠ some (.frz o u)
/-- what is wanted of the ends -/
def Wnt (K : PySem.W.Frag) (n : Sn) (D : Ends) (Fz : Addr → Prop) (lk : Nat → Prop) (H : Hp) (σ : L2.St) (fps : Nat → List Addr) : Out → Prop
  | .nx S' => ∀ σ' H' Fz' fps', SPst K n.mt n.wr Fz lk H σ fps S' σ' H' Fz' fps' → D.nx σ' H'
  | .rt d S' => ∀ v σ' H' Fz' fps' fp, SPst K n.mt n.wr Fz lk H σ fps S' σ' H' Fz' fps' → VO K n.mt H fps H' Fz' fps' d v fp → D.rt v H'
def tS (K : PySem.W.Frag) (n : Sn) : TS := fun D σ H => ∃ Fz lk S fps o, SR K Fz lk H σ S fps ∧ (∀ i ∈ n.mt, ¬ lk i) ∧ n.run S = some o ∧ Wnt K n D Fz lk H σ fps o
abbrev SS (X : Cx) (st : Stmt) (n : Sn) : Prop := PS X st (tS X.K n)
abbrev SB (X : Cx) (st : List Stmt) (n : Sn) : Prop := PSs X st (tS X.K n)
theorem PS.imp {X : Cx} {e : Stmt} {t t' : TS} (h : PS X e t) (k : ∀ D σ H, t' D σ H → t D σ H) : PS X e t' := ⟨fun pins s σ H D I q => h.run pins s σ H D I (k D σ H q)⟩
theorem PSs.imp {X : Cx} {e : List Stmt} {t t' : TS} (h : PSs X e t) (k : ∀ D σ H, t' D σ H → t D σ H) : PSs X e t' := ⟨fun pins s σ H D I q => h.run pins s σ H D I (k D σ H q)⟩

theorem SPst.start {K Fz lk H σ S fps} (mt wr : List Nat) (r : SR K Fz lk H σ S fps) : SPst K mt wr Fz lk H σ fps S σ H Fz fps :=
  ⟨r, fun _ z => z, fun _ z => .inl z, fun _ _ e _ => e, fun _ e => e, fun _ _ _ z => z, fun _ _ z => .inl z, fun _ _ => rfl⟩
theorem SPst.trans {K} {mt1 mt2 wr1 wr2 : List Nat} {Fz lk H σ fps S1 σ1 H1 Fz1 fps1 S2 σ2 H2 Fz2 fps2} (p : SPst K mt1 wr1 Fz lk H σ fps S1 σ1 H1 Fz1 fps1) (q : SPst K mt2 wr2 Fz1 lk H1 σ1 fps1 S2 σ2 H2 Fz2 fps2) : SPst K (mt1 ++ mt2) (wr1 ++ wr2) Fz lk H σ fps S2 σ2 H2 Fz2 fps2 := by
  have fmi : ∀ i a, a ∈ fps1 i → a ∈ fps i ∨ (∃ j ∈ mt1 ++ mt2, a ∈ fps j) ∨ H a = none := fun i a h => (p.fm i a h).imp id (Or.imp (fun ⟨j, hj, w⟩ => ⟨j, List.mem_append_left _ hj, w⟩) id)
  refine ⟨q.sr, fun a z => q.zz a (p.zz a z), fun a z => ?_, fun a o e h => ?_, fun a e => p.dm a (q.dm a e), fun i hi a ha => ?_, fun i a ha => ?_, fun i hi => (q.sg i fun z => hi (List.mem_append_right _ z)).trans (p.sg i fun z => hi (List.mem_append_left _ z))⟩
  · rcases q.zo a z with z | z | ⟨i, z⟩
    · exact p.zo a z
    · exact .inr (.inl (p.dm a z))
    · rcases p.fm i a z with z | ⟨j, _, z⟩ | z
      · exact .inr (.inr ⟨i, z⟩)
      · exact .inr (.inr ⟨j, z⟩)
      · exact .inr (.inl z)
  · refine q.kp a o (p.kp a o e fun i hi => h i (List.mem_append_left _ hi)) fun i hi z => ?_
    rcases p.fm i a z with z | ⟨j, hj, z⟩ | z
    · exact h i (List.mem_append_right _ hi) z
    · exact h j (List.mem_append_left _ hj) z
    · rw [e] at z; cases z
  · exact p.fs i (fun z => hi (List.mem_append_left _ z)) a (q.fs i (fun z => hi (List.mem_append_right _ z)) a ha)
  · rcases q.fm i a ha with z | ⟨j, hj, z⟩ | z
    · exact fmi i a z
    · rcases p.fm j a z with w | ⟨l, hl, w⟩ | w
      · exact .inr (.inl ⟨j, List.mem_append_right _ hj, w⟩)
      · exact .inr (.inl ⟨l, List.mem_append_left _ hl, w⟩)
      · exact .inr (.inr w)
    · exact .inr (.inr (p.dm a z))
theorem SPst.wide {K} {mt mt' wr wr' : List Nat} {Fz lk H σ fps S1 σ1 H1 Fz1 fps1} (p : SPst K mt wr Fz lk H σ fps S1 σ1 H1 Fz1 fps1) (h : ∀ i ∈ mt, i ∈ mt') (hw : ∀ i ∈ wr, i ∈ wr') : SPst K mt' wr' Fz lk H σ fps S1 σ1 H1 Fz1 fps1 :=
  ⟨p.sr, p.zz, p.zo, fun a o e z => p.kp a o e fun i hi => z i (h i hi), p.dm, fun i hi => p.fs i fun z => hi (h i z), fun i a ha => (p.fm i a ha).imp id (Or.imp (fun ⟨j, hj, w⟩ => ⟨j, h j hj, w⟩) id), fun i hi => p.sg i fun z => hi (hw i z)⟩
theorem VO.trans {K} {mt1 mt2 wr : List Nat} {Fz lk H σ fps S1 σ1 H1 Fz1 fps1 H2 Fz2 fps2 d v fp} (p : SPst K mt1 wr Fz lk H σ fps S1 σ1 H1 Fz1 fps1) (q : VO K mt2 H1 fps1 H2 Fz2 fps2 d v fp) : VO K (mt1 ++ mt2) H fps H2 Fz2 fps2 d v fp :=
  ⟨q.rp, q.nd, q.nz, q.fd, fun a ha => by
    rcases q.fo a ha with z | ⟨i, hi, z⟩
    · exact .inl (p.dm a z)
    · rcases p.fm i a z with w | ⟨l, hl, w⟩ | w
      · exact .inr ⟨i, List.mem_append_right _ hi, w⟩
      · exact .inr ⟨l, List.mem_append_left _ hl, w⟩
      · exact .inl w, q.fl⟩
theorem VO.wide {K} {mt mt' : List Nat} {H fps H2 Fz2 fps2 d v fp} (q : VO K mt H fps H2 Fz2 fps2 d v fp) (h : ∀ i ∈ mt, i ∈ mt') : VO K mt' H fps H2 Fz2 fps2 d v fp :=
  ⟨q.rp, q.nd, q.nz, q.fd, fun a ha => (q.fo a ha).imp id fun ⟨i, hi, w⟩ => ⟨i, h i hi, w⟩, q.fl⟩
/-- from an expression's end -/
theorem Pst.spst {K} {RP : (Addr → Prop) → Hp → List Addr → Prop} {vw mt : List Nat} {Fz lk H σ S fps S1 H1 Fz1 fps1 fp1} (p : Pst K RP vw mt Fz lk H σ S fps S1 H1 Fz1 fps1 fp1) : SPst K mt [] Fz lk H σ fps S1 σ H1 Fz fps1 :=
  ⟨p.sr, fun _ z => z, fun _ z => .inl z, p.kp, p.dm, fun i hi a ha => by rw [(p.fs i hi).1] at ha; exact ha, p.fm, fun _ _ => rfl⟩

/-! ### sequences -/
def sSeq (a b : Sn) : Sn := ⟨a.mt ++ b.mt, a.wr ++ b.wr, fun S => (a.run S).bind fun o => match o with
  | .nx S1 => b.run S1
  | .rt d S1 => some (.rt d S1)⟩
def sNil : Sn := ⟨[], [], fun S => some (.nx S)⟩
theorem seq_sound {K : PySem.W.Frag} {a b : Sn} {D : Ends} {σ : L2.St} {H : Hp} (h : tS K (sSeq a b) D σ H) : tSeq (tS K a) (tS K b) D σ H := by
  obtain ⟨Fz, lk, S, fps, o, r, ml, rn, w⟩ := h
  have rn : ((a.run S).bind fun o => match o with
    | .nx S1 => b.run S1
    | .rt d S1 => some (.rt d S1)) = some o := rn
  cases e : a.run S with
  | none => rw [e] at rn; cases rn
  | some o1 =>
    rw [e] at rn
    refine ⟨Fz, lk, S, fps, o1, r, fun i hi => ml i (List.mem_append_left _ hi), e, ?_⟩
    cases o1 with
    | nx S1 =>
      have rn2 : b.run S1 = some o := rn
      intro σ1 H1 Fz1 fps1 p
      refine ⟨Fz1, lk, S1, fps1, o, p.sr, fun i hi => ml i (List.mem_append_right _ hi), rn2, ?_⟩
      cases o with
      | nx S2 => exact fun σ2 H2 Fz2 fps2 q => w σ2 H2 Fz2 fps2 (p.trans q)
      | rt d S2 => exact fun v σ2 H2 Fz2 fps2 fp q z => w v σ2 H2 Fz2 fps2 fp (p.trans q) (VO.trans p z)
    | rt d S1 =>
      cases rn
      exact fun v σ2 H2 Fz2 fps2 fp q z => w v σ2 H2 Fz2 fps2 fp (q.wide (fun i hi => List.mem_append_left _ hi) fun i hi => List.mem_append_left _ hi) (z.wide fun i hi => List.mem_append_left _ hi)
section
variable {X : Cx} {st : Stmt} {rest : List Stmt} {a b : Sn}
theorem sb_nil : SB X [] sNil := PSs.imp pss_nil fun D σ H h => by
  obtain ⟨Fz, lk, S, fps, o, r, ml, rn, w⟩ := h
  cases rn
  exact w σ H Fz fps (SPst.start _ _ r)
theorem sb_one (h : SS X st a) : SB X [st] a := pss_one h
theorem sb_cons (h : SS X st a) (hr : SB X rest b) : SB X (st :: rest) (sSeq a b) := PSs.imp (pss_cons h hr) fun D σ H q => seq_sound q
theorem ss_pass {pos : Pos} : SS X (.Pass pos) sNil := PS.imp ps_pass fun D σ H h => by
  obtain ⟨Fz, lk, S, fps, o, r, ml, rn, w⟩ := h
  cases rn
  exact w σ H Fz fps (SPst.start _ _ r)
/-- a statement that is not reached -/
def sNo : Sn := ⟨[], [], fun _ => none⟩
theorem ss_no : SS X st sNo := PS.imp ps_never fun D σ H h => by
  obtain ⟨Fz, lk, S, fps, o, r, ml, rn, w⟩ := h
  cases rn
end
/-! ### a value is kept -/
def frzAt (vw : List Nat) (S : Stt) : Stt := S.mapIdx fun i o => if i ∈ vw then o.map frz else o
def bindS (vw : List Nat) (d : D) (S : Stt) : Stt := if noF d then S else frzAt vw S
theorem frzAt_get (vw : List Nat) (S : Stt) (i : Nat) : (frzAt vw S)[i]? = S[i]?.map fun o => if i ∈ vw then o.map frz else o := by
  unfold frzAt
  rw [List.getElem?_mapIdx]
theorem frzAt_length (vw : List Nat) (S : Stt) : (frzAt vw S).length = S.length := by
  unfold frzAt
  rw [List.length_mapIdx]
theorem bindS_length (vw : List Nat) (d : D) (S : Stt) : (bindS vw d S).length = S.length := by
  unfold bindS
  split
  · rfl
  · exact frzAt_length _ _
/-- the slots in vw are given over -/
theorem SR.give {K Fz lk H σ S fps} {Fz1 : Addr → Prop} {vw : List Nat} (r : SR K Fz lk H σ S fps) (zz : ∀ a, Fz a → Fz1 a) (za : ∀ a, Fz1 a → ∃ o, H a = some o) (hv : ∀ i ∈ vw, ∀ a ∈ fps i, Fz1 a ∨ True)
    (zo : ∀ a, Fz1 a → Fz a ∨ (∀ j, a ∉ fps j) ∨ ∃ i ∈ vw, a ∈ fps i) : SR K (fun a => Fz1 a ∨ ∃ i ∈ vw, a ∈ fps i) lk H σ (frzAt vw S) (fun j => if j ∈ vw then [] else fps j) := by
  refine ⟨r.len.trans (frzAt_length _ _).symm, fun i d e => ?_, fun i h => ?_, fun i j a hi hj => ?_, fun i => ?_, fun i a hi => ?_, fun a z => ?_, fun i hi a ha => ?_⟩
  · rw [frzAt_get] at e
    cases e1 : S[i]? with
    | none => rw [e1] at e; cases e
    | some o =>
      rw [e1] at e
      by_cases hm : i ∈ vw
      · simp only [hm, if_true, Option.map_some] at e ⊢
        cases o with
        | none => cases e
        | some d0 =>
          cases e
          obtain ⟨v, e2, q⟩ := r.rep i d0 e1
          exact ⟨v, e2, q.frz (fun a z => .inl (zz a z)) fun a ha => .inr ⟨i, hm, ha⟩⟩
      · simp only [hm, if_false, Option.map_some] at e ⊢
        cases e
        obtain ⟨v, e2, q⟩ := r.rep i d e1
        exact ⟨v, e2, q.weak fun a z => .inl (zz a z)⟩
  · by_cases hm : i ∈ vw
    · simp only [hm, if_true]
    · simp only [hm, if_false]
      refine r.emp i fun d e => ?_
      refine h d ?_
      rw [frzAt_get, e]
      simp only [hm, if_false, Option.map_some]
  · by_cases hm : i ∈ vw
    · simp only [hm, if_true] at hi; cases hi
    · by_cases hn : j ∈ vw
      · simp only [hn, if_true] at hj; cases hj
      · simp only [hm, if_false] at hi
        simp only [hn, if_false] at hj
        exact r.dis i j a hi hj
  · by_cases hm : i ∈ vw
    · simp only [hm, if_true]; exact List.nodup_nil
    · simp only [hm, if_false]; exact r.nd i
  · by_cases hm : i ∈ vw
    · simp only [hm, if_true] at hi; cases hi
    · simp only [hm, if_false] at hi
      rintro (z | ⟨j, hj, z⟩)
      · rcases zo a z with z | z | ⟨j, hj, z⟩
        · exact r.nf i a hi z
        · exact z i hi
        · exact hm (r.dis i j a hi z ▸ hj)
      · exact hm (r.dis i j a hi z ▸ hj)
  · rcases z with z | ⟨j, _, z⟩
    · exact za a z
    · exact (r.live j a z).1
  · by_cases hm : i ∈ vw
    · simp only [hm, if_true] at ha; cases ha
    · simp only [hm, if_false] at ha
      exact r.nl i hi a ha
theorem Pst.bind {K} {vw mt : List Nat} {Fz lk H σ S fps S1 H1 Fz1 fps1 fp d v} (p : Pst K (fun Fz H fp => Rp K Fz H d v fp) vw mt Fz lk H σ S fps S1 H1 Fz1 fps1 fp) :
    ∃ Fz2 fps2, SPst K mt [] Fz lk H σ fps (bindS vw d S1) σ H1 Fz2 fps2 ∧ VO K mt H fps H1 Fz2 fps2 d v fp := by
  unfold bindS
  by_cases hn : noF d = true
  · rw [if_pos hn]
    refine ⟨Fz, fps1, p.spst, p.rp.noF hn, p.nd, fun a ha z => p.nz a ha (p.zz a z), p.fd, p.fo, p.fl⟩
  · rw [if_neg hn]
    have g := p.sr.give (vw := vw) p.zz (fun a z => p.za a z) (fun _ _ _ _ => .inr trivial) fun a z => (p.zo a z).imp id (Or.imp And.right id)
    refine ⟨_, _, ⟨g, fun a z => .inl (p.zz a z), ?_, p.kp, p.dm, ?_, ?_, fun _ _ => rfl⟩, p.rp.weak fun a z => .inl z, p.nd, ?_, ?_, p.fo, p.fl⟩
    · rintro a (z | ⟨i, _, z⟩)
      · rcases p.zo a z with z | ⟨z | ⟨i, _, z⟩, _⟩ | ⟨i, _, z⟩
        · exact .inl z
        · exact .inr (.inl z)
        · exact .inr (.inr ⟨i, z⟩)
        · rcases p.fm i a z with z | ⟨l, _, z⟩ | z
          · exact .inr (.inr ⟨i, z⟩)
          · exact .inr (.inr ⟨l, z⟩)
          · exact .inr (.inl z)
      · rcases p.fm i a z with z | ⟨l, _, z⟩ | z
        · exact .inr (.inr ⟨i, z⟩)
        · exact .inr (.inr ⟨l, z⟩)
        · exact .inr (.inl z)
    · intro i hi a ha
      by_cases hm : i ∈ vw
      · simp only [hm, if_true] at ha; cases ha
      · simp only [hm, if_false] at ha
        rw [(p.fs i hi).1] at ha
        exact ha
    · intro i a ha
      by_cases hm : i ∈ vw
      · simp only [hm, if_true] at ha; cases ha
      · simp only [hm, if_false] at ha
        exact p.fm i a ha
    · rintro a ha (z | ⟨i, _, z⟩)
      · exact p.nz a ha z
      · exact p.fd a ha i z
    · intro a ha j hj
      by_cases hm : j ∈ vw
      · simp only [hm, if_true] at hj; cases hj
      · simp only [hm, if_false] at hj
        exact p.fd a ha j hj
/-- .. at a slot -/
theorem SPst.set {K} {mt wr : List Nat} {Fz lk H σ0 fps S1 σ H1 Fz1 fps1 d v fp} (p : SPst K mt wr Fz lk H σ0 fps S1 σ H1 Fz1 fps1) (q : VO K mt H fps H1 Fz1 fps1 d v fp) {i : Nat} (hi : i < S1.length) :
    SPst K (i :: mt) (i :: wr) Fz lk H σ0 fps (S1.set i (some d)) (σ.set i (some v)) H1 Fz1 (fun j => if j = i then fp else fps1 j) := by
  have hσ : i < σ.length := by rw [p.sr.len]; exact hi
  refine ⟨⟨by rw [List.length_set, List.length_set, p.sr.len], fun j e h => ?_, fun j h => ?_, fun j k a hj hk => ?_, fun j => ?_, fun j a hj => ?_, p.sr.za, fun j hj a ha => ?_⟩, p.zz, p.zo, fun a o e h => p.kp a o e fun i hi => h i (List.mem_cons_of_mem _ hi), p.dm, fun j hj a ha => ?_, fun j a ha => ?_, fun j hj => ?_⟩
  · by_cases hj : j = i
    · subst hj
      rw [List.getElem?_set_self hi] at h
      cases h
      exact ⟨v, List.getElem?_set_self hσ, by simp only [if_true]; exact q.rp⟩
    · rw [List.getElem?_set_ne (Ne.symm hj)] at h
      obtain ⟨w, e1, r⟩ := p.sr.rep j e h
      exact ⟨w, by rw [List.getElem?_set_ne (Ne.symm hj)]; exact e1, by simp only [hj, if_false]; exact r⟩
  · by_cases hj : j = i
    · subst hj
      exact (h d (List.getElem?_set_self hi)).elim
    · simp only [hj, if_false]
      exact p.sr.emp j fun e he => h e (by rw [List.getElem?_set_ne (Ne.symm hj)]; exact he)
  · by_cases hji : j = i
    · by_cases hki : k = i
      · rw [hji, hki]
      · simp only [hji, if_true] at hj
        simp only [hki, if_false] at hk
        exact (q.fd a hj k hk).elim
    · by_cases hki : k = i
      · simp only [hki, if_true] at hk
        simp only [hji, if_false] at hj
        exact (q.fd a hk j hj).elim
      · simp only [hki, if_false] at hk
        simp only [hji, if_false] at hj
        exact p.sr.dis j k a hj hk
  · by_cases hj : j = i
    · simp only [hj, if_true]; exact q.nd
    · simp only [hj, if_false]; exact p.sr.nd j
  · by_cases hji : j = i
    · simp only [hji, if_true] at hj; exact q.nz a hj
    · simp only [hji, if_false] at hj; exact p.sr.nf j a hj
  · by_cases hji : j = i
    · simp only [hji, if_true] at ha; exact q.fl a ha
    · simp only [hji, if_false] at ha; exact p.sr.nl j hj a ha
  · have hji : ¬ j = i := fun e => hj (by rw [e]; exact List.mem_cons_self)
    simp only [hji, if_false] at ha
    exact p.fs j (fun z => hj (List.mem_cons_of_mem _ z)) a ha
  · by_cases hji : j = i
    · simp only [hji, if_true] at ha
      rcases q.fo a ha with z | ⟨l, hl, z⟩
      · exact .inr (.inr z)
      · exact .inr (.inl ⟨l, List.mem_cons_of_mem _ hl, z⟩)
    · simp only [hji, if_false] at ha
      exact (p.fm j a ha).imp id (Or.imp (fun ⟨l, hl, w⟩ => ⟨l, List.mem_cons_of_mem _ hl, w⟩) id)
  · rw [List.getElem?_set_ne fun e => hj (by rw [e]; exact List.mem_cons_self)]
    exact p.sg j fun z => hj (List.mem_cons_of_mem _ z)
def sAsg (i : Nat) (n : En) : Sn := ⟨i :: n.mt, [i], fun S => (n.run S).bind fun p => if i < p.2.length then some (.nx ((bindS n.vw p.1 p.2).set i (some p.1))) else none⟩
theorem bindO {α : Type} {x : Option (α × Stt)} {g : α → Stt → Option Out} {r : Out} (h : (x.bind fun p => g p.1 p.2) = some r) : ∃ a S1, x = some (a, S1) ∧ g a S1 = some r := by
  cases x with
  | none => cases h
  | some p => exact ⟨p.1, p.2, rfl, h⟩
theorem asg_sound {K : PySem.W.Frag} {i : Nat} {n : En} {D : Ends} {σ : L2.St} {H : Hp} (h : tS K (sAsg i n) D σ H) : tAsg (tD K n) (gName i) D σ H := by
  obtain ⟨Fz, lk, S, fps, o, r, ml, rn, w⟩ := h
  obtain ⟨d, S1, e1, e2⟩ := bindO (g := fun d S1 => if i < S1.length then some (.nx ((bindS n.vw d S1).set i (some d))) else none) rn
  obtain ⟨hi, rfl⟩ := if_some e2
  refine ⟨Fz, lk, S, fps, d, S1, ⟨r, fun j hj => ml j (List.mem_cons_of_mem _ hj), e1⟩, fun v H1 Fz1 fps1 fp p => ?_⟩
  obtain ⟨Fz2, fps2, p2, q2⟩ := p.bind
  exact w _ H1 Fz2 _ (p2.set q2 (by rw [bindS_length]; exact hi))
def sRet (n : En) : Sn := ⟨n.mt, [], fun S => (n.run S).bind fun p => some (.rt p.1 (bindS n.vw p.1 p.2))⟩
theorem ret_sound {K : PySem.W.Frag} {n : En} {D : Ends} {σ : L2.St} {H : Hp} (h : tS K (sRet n) D σ H) : tRet (tD K n) D σ H := by
  obtain ⟨Fz, lk, S, fps, o, r, ml, rn, w⟩ := h
  obtain ⟨d, S1, e1, e2⟩ := bindO (g := fun d S1 => some (.rt d (bindS n.vw d S1))) rn
  cases e2
  refine ⟨Fz, lk, S, fps, d, S1, ⟨r, ml, e1⟩, fun v H1 Fz1 fps1 fp p => ?_⟩
  obtain ⟨Fz2, fps2, p2, q2⟩ := p.bind
  exact w v σ H1 Fz2 fps2 fp p2 q2
def sExp (n : En) : Sn := ⟨n.mt, [], fun S => (n.run S).bind fun p => some (.nx p.2)⟩
theorem exp_sound {K : PySem.W.Frag} {n : En} {D : Ends} {σ : L2.St} {H : Hp} (h : tS K (sExp n) D σ H) : tDrop (tD K n) D σ H := by
  obtain ⟨Fz, lk, S, fps, o, r, ml, rn, w⟩ := h
  obtain ⟨d, S1, e1, e2⟩ := bindO (g := fun d S1 => some (.nx S1)) rn
  cases e2
  exact ⟨Fz, lk, S, fps, d, S1, ⟨r, ml, e1⟩, fun v H1 Fz1 fps1 fp p => w σ H1 Fz fps1 p.spst⟩
def sIf (c : Tn) (a b : Sn) : Sn := ⟨c.mt ++ (a.mt ++ b.mt), a.wr ++ b.wr, fun S => (c.run S).bind fun p => if p.1 then a.run p.2 else b.run p.2⟩
theorem Wnt.of {K : PySem.W.Frag} {n m : Sn} {D : Ends} {Fz lk H σ fps S1 σ1 H1 Fz1 fps1 o} {mt wr : List Nat} (p : SPst K mt wr Fz lk H σ fps S1 σ1 H1 Fz1 fps1) (h : ∀ i ∈ mt ++ m.mt, i ∈ n.mt) (hw : ∀ i ∈ wr ++ m.wr, i ∈ n.wr) (w : Wnt K n D Fz lk H σ fps o) : Wnt K m D Fz1 lk H1 σ1 fps1 o := by
  cases o with
  | nx S2 => exact fun σ2 H2 Fz2 fps2 q => w σ2 H2 Fz2 fps2 ((p.trans q).wide h hw)
  | rt d S2 => exact fun v σ2 H2 Fz2 fps2 fp q z => w v σ2 H2 Fz2 fps2 fp ((p.trans q).wide h hw) ((VO.trans p z).wide h)
theorem if_sound {K : PySem.W.Frag} {c : Tn} {a b : Sn} {D : Ends} {σ : L2.St} {H : Hp} (h : tS K (sIf c a b) D σ H) : tIfS (tT K c) (tS K a) (tS K b) D σ H := by
  obtain ⟨Fz, lk, S, fps, o, r, ml, rn, w⟩ := h
  obtain ⟨t, S1, e1, e2⟩ := bindO (g := fun (t : Bool) S1 => if t then a.run S1 else b.run S1) rn
  refine ⟨Fz, lk, S, fps, t, S1, ⟨r, fun i hi => ml i (List.mem_append_left _ hi), e1⟩, fun H1 Fz1 fps1 p => ?_⟩
  cases t with
  | true => exact iteT ⟨Fz, lk, S1, fps1, o, p.sr, fun i hi => ml i (List.mem_append_right _ (List.mem_append_left _ hi)), e2, w.of p.spst (fun i hi => (List.mem_append.mp hi).elim (List.mem_append_left _) fun z => List.mem_append_right _ (List.mem_append_left _ z)) fun i hi => List.mem_append_left _ hi⟩
  | false => exact iteF ⟨Fz, lk, S1, fps1, o, p.sr, fun i hi => ml i (List.mem_append_right _ (List.mem_append_right _ hi)), e2, w.of p.spst (fun i hi => (List.mem_append.mp hi).elim (List.mem_append_left _) fun z => List.mem_append_right _ (List.mem_append_right _ z)) fun i hi => List.mem_append_right _ hi⟩
/-- while, by fuel -/
def whl (c : Tn) (b : Sn) : Nat → Stt → Option Out
  | 0, _ => none
  | n + 1, S => (c.run S).bind fun p => if p.1 then (b.run p.2).bind fun o => match o with
    | .nx S2 => whl c b n S2
    | .rt d S2 => some (.rt d S2) else some (.nx p.2)
def sWhile (fuel : Nat) (c : Tn) (b : Sn) : Sn := ⟨c.mt ++ b.mt, b.wr, whl c b fuel⟩
theorem while_sound {K : PySem.W.Frag} {fuel : Nat} {c : Tn} {b : Sn} {D : Ends} {σ : L2.St} {H : Hp} (h : tS K (sWhile fuel c b) D σ H) : tWhile (tT K c) (tS K b) D σ H := by
  obtain ⟨Fz, lk, S, fps, o, r, ml, rn, w⟩ := h
  refine ⟨fun m σ' H' => ∃ S' Fz' fps', SPst K (c.mt ++ b.mt) b.wr Fz lk H σ fps S' σ' H' Fz' fps' ∧ whl c b m S' = some o, ⟨fuel, S, Fz, fps, SPst.start _ _ r, rn⟩, ?_⟩
  rintro m σ' H' ⟨S', Fz', fps', p, rn⟩
  cases m with
  | zero => cases rn
  | succ m =>
    obtain ⟨t, S1, e1, e2⟩ := bindO (g := fun (t : Bool) S1 => if t then (b.run S1).bind fun o => match o with
      | .nx S2 => whl c b m S2
      | .rt d S2 => some (.rt d S2) else some (.nx S1)) rn
    refine ⟨Fz', lk, S', fps', t, S1, ⟨p.sr, fun i hi => ml i (List.mem_append_left _ hi), e1⟩, fun H1 Fz1 fps1 p1 => ?_⟩
    have p2 : SPst K (c.mt ++ b.mt) b.wr Fz lk H σ fps S1 σ' H1 Fz' fps1 := (p.trans p1.spst).wide (fun i hi => (List.mem_append.mp hi).elim id (List.mem_append_left _)) fun i hi => by simpa using hi
    have sub : ∀ i ∈ (c.mt ++ b.mt) ++ b.mt, i ∈ c.mt ++ b.mt := fun i hi => (List.mem_append.mp hi).elim id (List.mem_append_right _)
    have subw : ∀ i ∈ b.wr ++ b.wr, i ∈ b.wr := fun i hi => (List.mem_append.mp hi).elim id id
    cases t with
    | false =>
      cases e2
      exact iteF (w σ' H1 Fz' fps1 p2)
    | true =>
      refine iteT ⟨fun σ2 H2 => ∃ S2 Fz2 fps2, SPst K (c.mt ++ b.mt) b.wr Fz lk H σ fps S2 σ2 H2 Fz2 fps2 ∧ whl c b m S2 = some o, fun σ2 H2 z => ⟨m, Nat.lt_succ_self m, z⟩, ?_⟩
      have e3 : ((b.run S1).bind fun o => match o with
        | .nx S2 => whl c b m S2
        | .rt d S2 => some (.rt d S2)) = some o := e2
      cases e4 : b.run S1 with
      | none => rw [e4] at e3; cases e3
      | some o2 =>
        rw [e4] at e3
        refine ⟨Fz', lk, S1, fps1, o2, p2.sr, fun i hi => ml i (List.mem_append_right _ hi), e4, ?_⟩
        cases o2 with
        | nx S2 => exact fun σ2 H2 Fz2 fps2 q => ⟨S2, Fz2, fps2, (p2.trans q).wide sub subw, e3⟩
        | rt d S2 =>
          cases e3
          exact fun v σ2 H2 Fz2 fps2 fp q z => w v σ2 H2 Fz2 fps2 fp ((p2.trans q).wide sub subw) ((VO.trans p2 z).wide sub)
section
variable {X : Cx} {e : Expr} {n : En} {pos : Pos}
theorem ss_ret (h : SE X e n) : SS X (.Return (some e) pos) (sRet n) := PS.imp (ps_ret h) fun _ _ _ q => ret_sound q
def sRetN : Sn := ⟨[], [], fun S => some (.rt .non S)⟩
theorem ss_retN : SS X (.Return none pos) sRetN := PS.imp ps_retN fun D σ H h => by
  obtain ⟨Fz, lk, S, fps, o, r, ml, rn, w⟩ := h
  cases rn
  exact w .non σ H Fz fps [] (SPst.start _ _ r) ⟨by unfold Rp; exact ⟨rfl, rfl⟩, List.nodup_nil, (fun _ z => nomatch z), (fun _ z => nomatch z), (fun _ z => nomatch z), (fun _ z => nomatch z)⟩
theorem ss_exp (h : SE X e n) (hs : swapsWith e none pos.line X.env = pure false := by rfl) : SS X (.Expr e pos) (sExp n) := PS.imp (ps_expr h hs) fun _ _ _ q => exp_sound q
theorem ss_if {c : Expr} {a b : List Stmt} {nc : Tn} {na nb : Sn} (hc : ST X c nc) (ha : SB X a na) (hb : SB X b nb) : SS X (.If c a b pos) (sIf nc na nb) := PS.imp (ps_if hc ha hb) fun _ _ _ q => if_sound q
theorem ss_while {c : Expr} {b : List Stmt} {nc : Tn} {nb : Sn} (fuel : Nat) (hp : PassesOwn (model X.prog X.w) X.A X.env X.xe) (hc : ST X c nc) (hb : SB X b nb) : SS X (.While c b [] pos) (sWhile fuel nc nb) := PS.imp (ps_while hp hc hb) fun _ _ _ q => while_sound q
theorem ss_set {i : Nat} {x : Str} {pos' : Pos} (hN : X.N.Nodup) (hi : X.N[i]? = some x) (hx : Loc X.env.scope x) (he : SE X e n) (hs : swapsWith e (some (.Name x pos')) pos.line X.env = pure false := by rfl) (hf : X.fn x = true ∨ X.env.scope.names.lookup x = some .local := by first | exact .inl rfl | exact .inr rfl | assumption) :
    SS X (.Assign [.Name x pos'] e pos) (sAsg i n) := PS.imp (ps_set hN hi hx he hs hf) fun _ _ _ q => asg_sound q
end
end TW

/-! TW4: defs over trees, their calls. -/
namespace TW
open PySem PySem.Spec PyProof.Rows L2

abbrev Fn := List D → Option (D × Stt)
def noLk : Nat → Prop := fun _ => False
/-- io: which parameters it changes -/
def ioIx (io : List Bool) : List Nat := (List.range io.length).filter fun i => decide (io[i]? = some true)
theorem mem_ioIx {io : List Bool} {i : Nat} : i ∈ ioIx io ↔ io[i]? = some true := by
  unfold ioIx
  rw [List.mem_filter, List.mem_range]
  constructor
  · exact fun h => of_decide_eq_true h.2
  · exact fun h => ⟨(List.getElem?_eq_some_iff.mp h).1, decide_eq_true h⟩
def spOf (K : PySem.W.Frag) (io : List Bool) (F : Fn) : Sp := fun vs H Q _ => ∃ Fz ds fps d outs, vs.length = io.length ∧ ds.length = io.length ∧ SR K Fz noLk H (vs.map some) (ds.map some) fps ∧ (∀ i, io[i]? ≠ some true → fps i = []) ∧ F ds = some (d, outs) ∧
  ∀ v H' Fz' fps' fp, SPst K (ioIx io) [] Fz noLk H (vs.map some) fps outs (vs.map some) H' Fz' fps' → VO K (ioIx io) H fps H' Fz' fps' d v fp → Q v H'
def mask (io : List Bool) (S : Stt) : Stt := (List.range io.length).map fun i => if io[i]? = some true then (S[i]?).getD none else none
theorem mask_get {io : List Bool} {S : Stt} {i : Nat} (h : i < io.length) : (mask io S)[i]? = some (if io[i]? = some true then (S[i]?).getD none else none) := by
  unfold mask
  rw [List.getElem?_map, List.getElem?_range h]
  rfl
theorem mask_len {io : List Bool} {S : Stt} : (mask io S).length = io.length := by
  unfold mask
  rw [List.length_map, List.length_range]
def fnOf (io : List Bool) (m : Nat) (b : Sn) : Fn := fun ds => if ds.length = io.length then (b.run (ds.map some ++ List.replicate (m - ds.length) none)).bind fun o => match o with
  | .rt d S => some (d, mask io S)
  | .nx S => some (.non, mask io S) else none
theorem start_sr {K Fz H fps} {vs : List V} {ds : List D} (r : SR K Fz noLk H (vs.map some) (ds.map some) fps) (m : Nat) : SR K Fz noLk H (vs.map some ++ List.replicate (m - vs.length) none) (ds.map some ++ List.replicate (m - ds.length) none) fps := by
  have hl : vs.length = ds.length := by simpa using r.len
  refine ⟨by simp [hl], fun i d e => ?_, fun i h => ?_, r.dis, r.nd, r.nf, r.za, r.nl⟩
  · by_cases hi : i < ds.length
    · rw [List.getElem?_append_left (by simpa using hi)] at e
      obtain ⟨v, e1, q⟩ := r.rep i d e
      exact ⟨v, by rw [List.getElem?_append_left (by simpa [hl] using hi)]; exact e1, q⟩
    · rw [List.getElem?_append_right (by simpa using hi), List.getElem?_replicate] at e
      split at e
      · cases e
      · cases e
  · refine r.emp i fun d e => h d ?_
    have hi : i < ds.length := by simpa using (List.getElem?_eq_some_iff.mp e).1
    rw [List.getElem?_append_left (by simpa using hi)]
    exact e
theorem body_sound {K : PySem.W.Frag} {io : List Bool} {N : List Str} {b : Sn} {vs : List V} {H : Hp} {Q : VK} {E : XK} (hw : ∀ i ∈ b.wr, io[i]? ≠ some true) (h : spOf K io (fnOf io N.length b) vs H Q E) :
    tS K b { nx := fun _ H' => Q .non H', rt := Q } (L2.start N vs) H := by
  obtain ⟨Fz, ds, fps, d, outs, hv, hd, r, fe, e, k⟩ := h
  unfold fnOf at e
  rw [if_pos hd] at e
  cases e1 : b.run (ds.map some ++ List.replicate (N.length - ds.length) none) with
  | none => rw [e1] at e; cases e
  | some o =>
    rw [e1] at e
    have r0 := start_sr r N.length
    refine ⟨Fz, noLk, _, fps, o, r0, fun _ _ z => z, e1, ?_⟩
    have back : ∀ {S' σ' H' Fz' fps'}, SPst K b.mt b.wr Fz noLk H (L2.start N vs) fps S' σ' H' Fz' fps' → SPst K (ioIx io) [] Fz noLk H (vs.map some) fps (mask io S') (vs.map some) H' Fz' (fun i => if io[i]? = some true then fps' i else []) := by
      intro S' σ' H' Fz' fps' p
      have mtio : ∀ i a, a ∈ fps i → i ∈ ioIx io := fun i a ha => by
        rw [mem_ioIx]
        apply Classical.byContradiction
        intro z
        rw [fe i z] at ha; cases ha
      refine ⟨⟨by rw [mask_len, List.length_map, hv], fun i d e => ?_, fun i h => ?_, fun i j a hi hj => ?_, fun i => ?_, fun i a hi => ?_, p.sr.za, fun i hi a ha => ?_⟩, p.zz, p.zo, fun a o e h => p.kp a o e fun i _ z => h i (mtio i a z) z, p.dm, fun i hi a ha => ?_, fun i a ha => ?_, fun _ _ => rfl⟩
      · have hi : i < io.length := by rw [← mask_len (S := S')]; exact (List.getElem?_eq_some_iff.mp e).1
        rw [mask_get hi] at e
        by_cases ht : io[i]? = some true
        · rw [if_pos ht] at e
          have e2 : S'[i]? = some (some d) := by
            cases q : S'[i]? with
            | none => rw [q] at e; cases e
            | some z => rw [q] at e; exact e
          obtain ⟨v, e3, q⟩ := p.sr.rep i d e2
          rw [p.sg i fun z => hw i z ht] at e3
          refine ⟨v, ?_, by simp only [ht, if_true]; exact q⟩
          unfold L2.start at e3
          rw [List.getElem?_append_left (by simp [hv, hi])] at e3
          exact e3
        · rw [if_neg ht] at e; cases e
      · by_cases ht : io[i]? = some true
        · simp only [ht, if_true]
          refine p.sr.emp i fun d e => h d ?_
          rw [mask_get (List.getElem?_eq_some_iff.mp ht).1, if_pos ht, e]
          rfl
        · simp only [ht, if_false]
      · by_cases ht : io[i]? = some true
        · by_cases hu : io[j]? = some true
          · simp only [ht, if_true] at hi
            simp only [hu, if_true] at hj
            exact p.sr.dis i j a hi hj
          · simp only [hu, if_false] at hj; cases hj
        · simp only [ht, if_false] at hi; cases hi
      · by_cases ht : io[i]? = some true
        · simp only [ht, if_true]; exact p.sr.nd i
        · simp only [ht, if_false]; exact List.nodup_nil
      · by_cases ht : io[i]? = some true
        · simp only [ht, if_true] at hi; exact p.sr.nf i a hi
        · simp only [ht, if_false] at hi; cases hi
      · by_cases ht : io[i]? = some true
        · simp only [ht, if_true] at ha; exact p.sr.nl i hi a ha
        · simp only [ht, if_false] at ha; cases ha
      · have ht : ¬ io[i]? = some true := fun z => hi (mem_ioIx.mpr z)
        simp only [ht, if_false] at ha; cases ha
      · by_cases ht : io[i]? = some true
        · simp only [ht, if_true] at ha
          rcases p.fm i a ha with z | ⟨j, _, z⟩ | z
          · exact .inl z
          · exact .inr (.inl ⟨j, mtio j a z, z⟩)
          · exact .inr (.inr z)
        · simp only [ht, if_false] at ha; cases ha
    have mtio : ∀ i a, a ∈ fps i → i ∈ ioIx io := fun i a ha => by
      rw [mem_ioIx]
      apply Classical.byContradiction
      intro z
      rw [fe i z] at ha; cases ha
    have val : ∀ {H' Fz' fps' d v fp}, VO K b.mt H fps H' Fz' fps' d v fp → VO K (ioIx io) H fps H' Fz' (fun i => if io[i]? = some true then fps' i else []) d v fp := fun q =>
      ⟨q.rp, q.nd, q.nz, (fun a ha j hj => by
        by_cases ht : io[j]? = some true
        · simp only [ht, if_true] at hj; exact q.fd a ha j hj
        · simp only [ht, if_false] at hj; cases hj), fun a ha => (q.fo a ha).imp id fun ⟨i, _, z⟩ => ⟨i, mtio i a z, z⟩, q.fl⟩
    cases o with
    | nx S' =>
      cases e
      exact fun σ' H' Fz' fps' p => k .non H' Fz' _ [] (back p) ⟨by unfold Rp; exact ⟨rfl, rfl⟩, List.nodup_nil, (fun _ z => nomatch z), (fun _ z => nomatch z), (fun _ z => nomatch z), (fun _ z => nomatch z)⟩
    | rt d' S' =>
      cases e
      exact fun v σ' H' Fz' fps' fp p q => k v H' Fz' _ fp (back p) (val q)
/-- a def keeps its promise -/
theorem fn_ok {P : Program} {w : World} {K : PySem.W.Frag} {mg : Str → Option Value} {base : Heap} {x qual : Str} {params : Arguments} {body : List Stmt} {scope : Scope} {f : Addr} {fd : FuncData} {N ps : List Str} {k : Nat} {io : List Bool} {b : Sn}
    (F : FunD K x qual params body scope [] [] f fd) (S : FnScope N ps scope) (hl : io.length = ps.length) (hw : ∀ i ∈ b.wr, io[i]? ≠ some true)
    (hb : ∀ (cdv : Value) (A : Around) (outer : List Env) (s : Shared) (H : Hp) (E : XK), Room k (A.deeper (envOfC qual scope s.heap.objs.size f cdv)) → SB (cxOf CX0 P w K mg base N qual scope f cdv A outer s H E).nox body b) :
    FnOk P w K mg base CX0 (k + 1) f fd ps (spOf K io (fnOf io N.length b)) := by
  refine F.ok S (fun vs H Q E h => ?_) (fun cdv A outer s H vs Q E hr h => ⟨_, PSs.nox (hb cdv A outer s H E hr), body_sound hw h⟩)
  obtain ⟨Fz, ds, fps, d, outs, hv, hd, _⟩ := h
  rw [hv, hl]

/-! ### arguments, some of them names that the def changes -/
def Mix (K : PySem.W.Frag) (Fz : Addr → Prop) (H : Hp) (σ : L2.St) : List (Option Nat) → List D → List V → List Addr → Prop
  | [], ds, vs, fp => ds = [] ∧ vs = [] ∧ fp = []
  | some j :: rf, ds, vs, fp => ∃ ds' v ws, ds = .non :: ds' ∧ vs = v :: ws ∧ σ[j]? = some (some v) ∧ Mix K Fz H σ rf ds' ws fp
  | none :: rf, ds, vs, fp => ∃ d ds' v ws f g, ds = d :: ds' ∧ vs = v :: ws ∧ fp = f ++ g ∧ Rp K Fz H d v f ∧ Mix K Fz H σ rf ds' ws g
theorem mono_mix {K : PySem.W.Frag} {σ : L2.St} : ∀ (rf : List (Option Nat)) (ds : List D) (vs : List V), Mono fun Fz H fp => Mix K Fz H σ rf ds vs fp
  | [], ds, vs => fun _ _ _ _ _ h _ _ _ _ => h
  | some j :: rf, ds, vs => fun Fz Fz' H H' fp h a b c e => by
    obtain ⟨ds', v, ws, e1, e2, e3, q⟩ := h
    exact ⟨ds', v, ws, e1, e2, e3, mono_mix rf ds' ws Fz Fz' H H' fp q a b c e⟩
  | none :: rf, ds, vs => fun Fz Fz' H H' fp h a b c e => by
    obtain ⟨d, ds', v, ws, f, g, e1, e2, rfl, r, q⟩ := h
    exact ⟨d, ds', v, ws, f, g, e1, e2, rfl, r.mono a b (fun x u h => c x u (h.imp id (List.mem_append_left _))) (fun x u h => e x u (h.imp id (List.mem_append_left _))), mono_mix rf ds' ws Fz Fz' H H' g q a b (fun x u h => c x u (h.imp id (List.mem_append_right _))) (fun x u h => e x u (h.imp id (List.mem_append_right _)))⟩
theorem Mix.ref {K Fz H σ} : ∀ {rf : List (Option Nat)} {ds : List D} {vs : List V} {fp : List Addr}, Mix K Fz H σ rf ds vs fp → ∀ (k j : Nat), rf[k]? = some (some j) → ∃ v, vs[k]? = some v ∧ σ[j]? = some (some v)
  | [], _, _, _, _, k, j, e => by cases e
  | some i :: rf, _, _, _, h, k, j, e => by
    obtain ⟨ds', v, ws, rfl, rfl, e3, q⟩ := h
    cases k with
    | zero => cases e; exact ⟨v, rfl, e3⟩
    | succ k => exact Mix.ref q k j e
  | none :: rf, _, _, _, h, k, j, e => by
    obtain ⟨d, ds', v, ws, f, g, rfl, rfl, rfl, r, q⟩ := h
    cases k with
    | zero => cases e
    | succ k => exact Mix.ref q k j e
theorem Mix.val {K Fz H σ} : ∀ {rf : List (Option Nat)} {ds : List D} {vs : List V} {fp : List Addr}, Mix K Fz H σ rf ds vs fp → ∀ (k : Nat), rf[k]? = some none → ∃ d v f, ds[k]? = some d ∧ vs[k]? = some v ∧ Rp K Fz H d v f ∧ ∀ a ∈ f, a ∈ fp
  | [], _, _, _, _, k, e => by cases e
  | some i :: rf, _, _, _, h, k, e => by
    obtain ⟨ds', v, ws, rfl, rfl, e3, q⟩ := h
    cases k with
    | zero => cases e
    | succ k => exact Mix.val q k e
  | none :: rf, _, _, _, h, k, e => by
    obtain ⟨d, ds', v, ws, f, g, rfl, rfl, rfl, r, q⟩ := h
    cases k with
    | zero => exact ⟨d, v, f, rfl, rfl, r, fun a ha => List.mem_append_left _ ha⟩
    | succ k =>
      obtain ⟨d', v', f', e1, e2, r', hs⟩ := Mix.val q k e
      exact ⟨d', v', f', e1, e2, r', fun a ha => List.mem_append_right _ (hs a ha)⟩
theorem Mix.len {K Fz H σ} : ∀ {rf : List (Option Nat)} {ds : List D} {vs : List V} {fp : List Addr}, Mix K Fz H σ rf ds vs fp → vs.length = rf.length
  | [], _, _, _, h => by rw [h.2.1]; rfl
  | some i :: rf, _, _, _, h => by
    obtain ⟨ds', v, ws, rfl, rfl, e3, q⟩ := h
    rw [List.length_cons, List.length_cons, Mix.len q]
  | none :: rf, _, _, _, h => by
    obtain ⟨d, ds', v, ws, f, g, rfl, rfl, rfl, r, q⟩ := h
    rw [List.length_cons, List.length_cons, Mix.len q]
structure Mn where
  rf : List (Option Nat)
  nd : An
def mNil : Mn := ⟨[], aNil⟩
def mRef (j : Nat) (m : Mn) : Mn := ⟨some j :: m.rf, ⟨m.nd.vw, m.nd.mt, fun S => match S[j]? with
  | some (some _) => (m.nd.run S).bind fun q => some (.non :: q.1, q.2)
  | _ => none⟩⟩
def mVal (n : En) (m : Mn) : Mn := ⟨none :: m.rf, aCons n m.nd⟩
def tM (K : PySem.W.Frag) (m : Mn) : TA := fun σ H Q => ∃ Fz lk S fps d S', Pre K m.nd σ H Fz lk S fps d S' ∧ ∀ v H' Fz' fps' fp, Pst K (fun Fz H fp => Mix K Fz H σ m.rf d v fp) m.nd.vw m.nd.mt Fz lk H σ S fps S' H' Fz' fps' fp → Q v H'
abbrev SM (X : Cx) (es : List Expr) (m : Mn) : Prop := PA X es (tM X.K m)
theorem sm_nil {X : Cx} : SM X [] mNil := PA.imp pa_nil fun σ H Q q => by
  obtain ⟨Fz, lk, S, fps, d', S', p, k⟩ := q
  cases p.rn
  exact k [] H Fz fps [] (Pst.start p.sr ⟨rfl, rfl, rfl⟩)
theorem sm_val {X : Cx} {e : Expr} {es : List Expr} {n : En} {m : Mn} (ha : SE X e n) (hb : SM X es m) (hd : dj n.vw m.nd.mt = true := by rfl) (hs : starEach (e :: es) X.env = (false, eval e X.env) :: starEach es X.env := by rfl) : SM X (e :: es) (mVal n m) :=
  PA.imp (pa_cons ha hb hs) fun σ H Q h => by
    obtain ⟨Fz, lk, S, fps, d, S', p, k⟩ := h
    obtain ⟨x, S1, xs, S2, e1, e2, e3⟩ := bind2 (f := fun _ S => m.nd.run S) (g := fun x xs => x :: xs) p.rn
    obtain ⟨rfl, rfl⟩ := Prod.mk.inj e3
    refine ⟨Fz, lk, S, fps, x, S1, ⟨p.sr, fun i hi => p.ml i (List.mem_append_left _ hi), e1⟩, fun v H1 Fz1 fps1 fp1 p1 => ?_⟩
    refine ⟨Fz, lk, S1, fps1, xs, _, ⟨p1.sr, fun i hi => p.ml i (List.mem_append_right _ hi), e2⟩, fun vs H2 Fz2 fps2 fp2 p2 => ?_⟩
    exact k (v :: vs) H2 _ fps2 (fp1 ++ fp2) ((Pst.seq mono_rp (mono_mix _ _ _) p1 p2 (dj_ok hd)).imp fun ⟨f, g, e, r, q⟩ => ⟨x, xs, v, vs, f, g, rfl, rfl, e, r, q⟩)
theorem sm_ref {X : Cx} {e : Expr} {es : List Expr} {j : Nat} {m : Mn} (ha : PE X e (tVar j)) (hb : SM X es m) (hs : starEach (e :: es) X.env = (false, eval e X.env) :: starEach es X.env := by rfl) : SM X (e :: es) (mRef j m) :=
  PA.imp (pa_cons ha hb hs) fun σ H Q h => by
    obtain ⟨Fz, lk, S, fps, d, S', p, k⟩ := h
    have rn : (match S[j]? with
      | some (some _) => (m.nd.run S).bind fun q => some (.non :: q.1, q.2)
      | _ => none) = some (d, S') := p.rn
    split at rn
    · rename_i t et
      obtain ⟨v, ev, _⟩ := p.sr.rep j t et
      cases e2 : m.nd.run S with
      | none => rw [e2] at rn; cases rn
      | some q =>
        obtain ⟨xs, S2⟩ := q
        rw [e2] at rn
        cases rn
        exact ⟨v, ev, Fz, lk, S, fps, xs, _, ⟨p.sr, p.ml, e2⟩, fun vs H2 Fz2 fps2 fp2 p2 => k (v :: vs) H2 Fz2 fps2 fp2 (p2.imp fun r => ⟨xs, v, vs, rfl, rfl, ev, r⟩)⟩
    · cases rn
def fill : List (Option Nat) → List D → Stt → Option (List D)
  | [], [], _ => some []
  | some j :: rf, _ :: ds, S => match S[j]? with
    | some (some t) => (fill rf ds S).map (t :: ·)
    | _ => none
  | none :: rf, d :: ds, S => (fill rf ds S).map (frz d :: ·)
  | _, _, _ => none
def back : List (Option Nat) → Stt → Stt → Option Stt
  | [], _, S => some S
  | some j :: rf, some t :: outs, S => if noF t then back rf outs (S.set j (some t)) else none
  | none :: rf, _ :: outs, S => back rf outs S
  | _, _, _ => none
def refs (rf : List (Option Nat)) : List Nat := rf.filterMap id
theorem mem_refs {rf : List (Option Nat)} {j : Nat} : j ∈ refs rf ↔ some j ∈ rf := by
  unfold refs
  rw [List.mem_filterMap]
  constructor
  · rintro ⟨a, h, e⟩
    have e2 : a = some j := e
    rw [← e2]; exact h
  · exact fun h => ⟨some j, h, rfl⟩
theorem fill_ok : ∀ {rf : List (Option Nat)} {ds : List D} {S : Stt} {xs : List D}, fill rf ds S = some xs → xs.length = rf.length ∧ (∀ (k j : Nat), rf[k]? = some (some j) → ∃ t, S[j]? = some (some t) ∧ xs[k]? = some t) ∧ (∀ (k : Nat) d, rf[k]? = some none → ds[k]? = some d → xs[k]? = some (frz d))
  | [], [], _, xs, h => by
    cases h
    exact ⟨rfl, (fun k j e => by cases e), (fun k d e => by cases e)⟩
  | [], _ :: _, _, _, h => by cases h
  | some j :: rf, [], _, _, h => by cases h
  | none :: rf, [], _, _, h => by cases h
  | some j :: rf, d :: ds, S, xs, h => by
    have h : (match S[j]? with
      | some (some t) => (fill rf ds S).map (t :: ·)
      | _ => none) = some xs := h
    split at h
    · rename_i t et
      cases e : fill rf ds S with
      | none => rw [e] at h; cases h
      | some ys =>
        rw [e] at h
        cases h
        obtain ⟨h1, h2, h3⟩ := fill_ok e
        refine ⟨by rw [List.length_cons, List.length_cons, h1], fun k i q => ?_, fun k d' q q2 => ?_⟩
        · cases k with
          | zero => cases q; exact ⟨t, et, rfl⟩
          | succ k => exact h2 k i q
        · cases k with
          | zero => cases q
          | succ k => exact h3 k d' q q2
    · cases h
  | none :: rf, d :: ds, S, xs, h => by
    have h : (fill rf ds S).map (frz d :: ·) = some xs := h
    cases e : fill rf ds S with
    | none => rw [e] at h; cases h
    | some ys =>
      rw [e] at h
      cases h
      obtain ⟨h1, h2, h3⟩ := fill_ok e
      refine ⟨by rw [List.length_cons, List.length_cons, h1], fun k i q => ?_, fun k d' q q2 => ?_⟩
      · cases k with
        | zero => cases q
        | succ k => exact h2 k i q
      · cases k with
        | zero => cases q2; rfl
        | succ k => exact h3 k d' q q2
theorem back_ok : ∀ {rf : List (Option Nat)} {outs S S2 : Stt}, back rf outs S = some S2 → (refs rf).Nodup → S2.length = S.length ∧ (∀ (j : Nat), some j ∉ rf → S2[j]? = S[j]?) ∧ ∀ (k j : Nat), rf[k]? = some (some j) → ∃ t, outs[k]? = some (some t) ∧ noF t = true ∧ (j < S.length → S2[j]? = some (some t))
  | [], _, S, S2, h, _ => by
    cases h
    exact ⟨rfl, fun _ _ => rfl, fun k j e => by cases e⟩
  | some j :: rf, [], _, _, h, _ => by cases h
  | some j :: rf, none :: _, _, _, h, _ => by cases h
  | none :: rf, [], _, _, h, _ => by cases h
  | some j :: rf, some t :: outs, S, S2, h, nd => by
    have h : (if noF t then back rf outs (S.set j (some t)) else none) = some S2 := h
    have nd2 : (j :: refs rf).Nodup := nd
    obtain ⟨nj, nr⟩ := List.nodup_cons.mp nd2
    split at h
    · rename_i hn
      obtain ⟨h1, h2, h3⟩ := back_ok h nr
      have hj : S2[j]? = (S.set j (some t))[j]? := h2 j fun z => nj (mem_refs.mpr z)
      refine ⟨by rw [h1, List.length_set], fun i hi => ?_, fun k i q => ?_⟩
      · have hne : i ≠ j := fun e => hi (by rw [e]; exact List.mem_cons_self)
        rw [h2 i fun z => hi (List.mem_cons_of_mem _ z), List.getElem?_set_ne (Ne.symm hne)]
      · cases k with
        | zero =>
          cases q
          exact ⟨t, rfl, hn, fun hl => by rw [hj]; exact List.getElem?_set_self hl⟩
        | succ k =>
          obtain ⟨t', e1, e2, e3⟩ := h3 k i q
          exact ⟨t', e1, e2, fun hl => e3 (by rw [List.length_set]; exact hl)⟩
    · cases h
  | none :: rf, o :: outs, S, S2, h, nd => by
    have h : back rf outs S = some S2 := by
      cases o <;> exact h
    obtain ⟨h1, h2, h3⟩ := back_ok h nd
    refine ⟨h1, fun i hi => h2 i fun z => hi (List.mem_cons_of_mem _ z), fun k i q => ?_⟩
    cases k with
    | zero => cases q
    | succ k => exact h3 k i q
def eCall (F : Fn) (m : Mn) : En := ⟨m.nd.vw, refs m.rf ++ m.nd.mt, fun S => (m.nd.run S).bind fun q => (fill m.rf q.1 q.2).bind fun ds => (F ds).bind fun r => (back m.rf r.2 q.2).bind fun S2 => some (r.1, S2)⟩
theorem bindC {F : Fn} {m : Mn} {S : Stt} {r : D × Stt} (h : ((m.nd.run S).bind fun q => (fill m.rf q.1 q.2).bind fun ds => (F ds).bind fun r => (back m.rf r.2 q.2).bind fun S2 => some (r.1, S2)) = some r) :
    ∃ xs S1 ds d outs S2, m.nd.run S = some (xs, S1) ∧ fill m.rf xs S1 = some ds ∧ F ds = some (d, outs) ∧ back m.rf outs S1 = some S2 ∧ r = (d, S2) := by
  cases e1 : m.nd.run S with
  | none => rw [e1] at h; cases h
  | some q =>
    rw [e1] at h
    obtain ⟨xs, S1⟩ := q
    have h : ((fill m.rf xs S1).bind fun ds => (F ds).bind fun r => (back m.rf r.2 S1).bind fun S2 => some (r.1, S2)) = some r := h
    cases e2 : fill m.rf xs S1 with
    | none => rw [e2] at h; cases h
    | some ds =>
      rw [e2] at h
      have h : ((F ds).bind fun r => (back m.rf r.2 S1).bind fun S2 => some (r.1, S2)) = some r := h
      cases e3 : F ds with
      | none => rw [e3] at h; cases h
      | some z =>
        obtain ⟨d, outs⟩ := z
        rw [e3] at h
        have h : ((back m.rf outs S1).bind fun S2 => some (d, S2)) = some r := h
        cases e4 : back m.rf outs S1 with
        | none => rw [e4] at h; cases h
        | some S2 =>
          rw [e4] at h
          cases h
          exact ⟨xs, S1, ds, d, outs, S2, rfl, e2, e3, e4, rfl⟩
theorem call_sound {K : PySem.W.Frag} {F : Fn} {m : Mn} {E : XK} (hd : dj (refs m.rf) m.nd.vw = true) (hn : (refs m.rf).Nodup) {σ : L2.St} {H : Hp} {Q : VK} (h : tD K (eCall F m) σ H Q) : tCall (spOf K (m.rf.map Option.isSome) F) [] E (tM K m) σ H Q := by
  obtain ⟨Fz, lk, S, fps, d', S', p, k⟩ := h
  obtain ⟨xs, S1, ds, d, outs, S2, e1, e2, e3, e4, e5⟩ := bindC p.rn
  obtain ⟨rfl, rfl⟩ := Prod.mk.inj e5
  refine ⟨Fz, lk, S, fps, xs, S1, ⟨p.sr, fun i hi => p.ml i (List.mem_append_right _ hi), e1⟩, fun vs H1 Fz1 fps1 fp1 p1 => ?_⟩
  show spOf K (m.rf.map Option.isSome) F (vs ++ []) H1 Q E
  rw [List.append_nil]
  obtain ⟨f1, f2, f3⟩ := fill_ok e2
  obtain ⟨b1, b2, b3⟩ := back_ok e4 hn
  have mx := p1.rp
  have hvl := mx.len
  -- places
  have ioT : ∀ k : Nat, (m.rf.map Option.isSome)[k]? = some true ↔ ∃ j, m.rf[k]? = some (some j) := fun k => by
    rw [List.getElem?_map]
    cases e : m.rf[k]? with
    | none => simp
    | some z => cases z <;> simp
  have uniq : ∀ k l j : Nat, m.rf[k]? = some (some j) → m.rf[l]? = some (some j) → k = l := by
    have gen : ∀ (rf : List (Option Nat)), (refs rf).Nodup → ∀ k l j : Nat, rf[k]? = some (some j) → rf[l]? = some (some j) → k = l := by
      intro rf
      induction rf with
      | nil => intro _ k l j e; cases e
      | cons o rf ih =>
        intro nd k l j hk hl
        cases k with
        | zero =>
          cases l with
          | zero => rfl
          | succ l =>
            cases hk
            have nd2 : (j :: refs rf).Nodup := nd
            exact ((List.nodup_cons.mp nd2).1 (mem_refs.mpr (List.mem_of_getElem? hl))).elim
        | succ k =>
          cases l with
          | zero =>
            cases hl
            have nd2 : (j :: refs rf).Nodup := nd
            exact ((List.nodup_cons.mp nd2).1 (mem_refs.mpr (List.mem_of_getElem? hk))).elim
          | succ l =>
            have nr : (refs rf).Nodup := by
              cases o with
              | none => exact nd
              | some i => exact (List.nodup_cons.mp (show (i :: refs rf).Nodup from nd)).2
            exact congrArg Nat.succ (ih nr k l j hk hl)
    exact gen m.rf hn
  let fpsA : Nat → List Addr := fun k => match m.rf[k]? with
    | some (some j) => fps1 j
    | _ => []
  have fA : ∀ k j : Nat, m.rf[k]? = some (some j) → fpsA k = fps1 j := fun k j e => by simp only [fpsA, e]
  have fA0 : ∀ k : Nat, (∀ j, m.rf[k]? ≠ some (some j)) → fpsA k = [] := fun k h => by
    cases e : m.rf[k]? with
    | none => simp only [fpsA, e]
    | some z =>
      cases z with
      | none => simp only [fpsA, e]
      | some j => exact (h j e).elim
  have fAm : ∀ k a, a ∈ fpsA k → ∃ j, m.rf[k]? = some (some j) ∧ a ∈ fps1 j := fun k a ha => by
    by_cases h : ∃ j, m.rf[k]? = some (some j)
    · obtain ⟨j, e⟩ := h
      exact ⟨j, e, by rw [fA k j e] at ha; exact ha⟩
    · rw [fA0 k fun j e => h ⟨j, e⟩] at ha; cases ha
  have refmt : ∀ k j : Nat, m.rf[k]? = some (some j) → j ∈ refs m.rf := fun k j e => mem_refs.mpr (List.mem_of_getElem? e)
  -- the arguments
  have sra : SR K (fun a => Fz1 a ∨ a ∈ fp1) noLk H1 (vs.map some) (ds.map some) fpsA := by
    refine ⟨by simp [hvl, f1], fun i t e => ?_, fun i h => ?_, fun i j a hi hj => ?_, fun i => ?_, fun i a hi => ?_, fun a z => z.elim (p1.za a) (p1.fv a), fun i _ a ha o u => ?_⟩
    · rw [List.getElem?_map] at e
      cases e0 : ds[i]? with
      | none => rw [e0] at e; cases e
      | some t0 =>
        rw [e0] at e
        cases e
        have hi : i < m.rf.length := by rw [← f1]; exact (List.getElem?_eq_some_iff.mp e0).1
        cases er : m.rf[i]? with
        | none => rw [List.getElem?_eq_none_iff] at er; omega
        | some o =>
          cases o with
          | some j =>
            obtain ⟨t', s1, s2⟩ := f2 i j er
            rw [e0] at s2
            cases s2
            obtain ⟨v, ev, es⟩ := mx.ref i j er
            obtain ⟨v', ev', q⟩ := p1.sr.rep j _ s1
            rw [es] at ev'
            cases ev'
            refine ⟨v, by rw [List.getElem?_map, ev]; rfl, ?_⟩
            rw [fA i j er]
            exact q.weak fun a z => .inl (p1.zz a z)
          | none =>
            obtain ⟨d0, v, f, s1, s2, q, hs⟩ := mx.val i er
            have s3 := f3 i d0 er s1
            rw [e0] at s3
            cases s3
            refine ⟨v, by rw [List.getElem?_map, s2]; rfl, ?_⟩
            rw [fA0 i fun j e => by rw [er] at e; cases e]
            exact q.frz (fun a z => .inl z) fun a ha => .inr (hs a ha)
    · refine fA0 i fun j e => ?_
      obtain ⟨t, s1, s2⟩ := f2 i j e
      exact h t (by rw [List.getElem?_map, s2]; rfl)
    · obtain ⟨i', ei, hi'⟩ := fAm i a hi
      obtain ⟨j', ej, hj'⟩ := fAm j a hj
      have e := p1.sr.dis i' j' a hi' hj'
      subst e
      exact uniq i j i' ei ej
    · by_cases h : ∃ j, m.rf[i]? = some (some j)
      · obtain ⟨j, e⟩ := h
        rw [fA i j e]; exact p1.sr.nd j
      · rw [fA0 i fun j e => h ⟨j, e⟩]; exact List.nodup_nil
    · obtain ⟨j, ej, hj⟩ := fAm i a hi
      rintro (z | z)
      · rcases p1.zo a z with z | z | ⟨l, hl, z⟩
        · exact p1.sr.nf j a hj z
        · exact z.2 j hj
        · have e := p1.sr.dis l j a z hj
          subst e
          exact dj_ok hd l (refmt i l ej) hl
      · exact p1.fd a z j hj
    · obtain ⟨j, ej, hj⟩ := fAm i a ha
      exact p1.sr.nl j (p.ml j (List.mem_append_left _ (refmt i j ej))) a hj o u
  refine ⟨_, ds, fpsA, d', outs, by rw [List.length_map, hvl], by rw [List.length_map, f1], sra, fun i hi => fA0 i fun j e => hi ((ioT i).mpr ⟨j, e⟩), e3, fun v H2 Fz2 fpsB fp q o => ?_⟩
  -- behind the call
  have live1 : ∀ j a, a ∈ fps1 j → ¬ H1 a = none := fun j a ha e => by
    obtain ⟨⟨u, e'⟩, _⟩ := p1.sr.live j a ha
    rw [e] at e'; cases e'
  have inB : ∀ k a, a ∈ fpsB k → (∃ j, j ∈ refs m.rf ∧ a ∈ fps1 j) ∨ H1 a = none := fun k a ha => by
    rcases q.fm k a ha with z | ⟨l, _, z⟩ | z
    · obtain ⟨j, ej, hj⟩ := fAm k a z
      exact .inl ⟨j, refmt k j ej, hj⟩
    · obtain ⟨j, ej, hj⟩ := fAm l a z
      exact .inl ⟨j, refmt l j ej, hj⟩
    · exact .inr z
  have kp2 : ∀ a u, H1 a = some u → (∀ j ∈ refs m.rf, a ∉ fps1 j) → H2 a = some u := fun a u e h => q.kp a u e fun i _ z => by
    obtain ⟨j, ej, hj⟩ := fAm i a z
    exact h j (refmt i j ej) hj
  let at_ : Nat → Nat := fun j => m.rf.idxOf (some j)
  have atk : ∀ k j : Nat, m.rf[k]? = some (some j) → at_ j = k := fun k j e => by
    have hm : some j ∈ m.rf := List.mem_of_getElem? e
    refine uniq (at_ j) k j ?_ e
    have hl : m.rf.idxOf (some j) < m.rf.length := List.idxOf_lt_length_iff.mpr hm
    rw [List.getElem?_eq_getElem hl, List.getElem_idxOf hl]
  have atr : ∀ j, some j ∈ m.rf → m.rf[at_ j]? = some (some j) := fun j hm => by
    have hl : m.rf.idxOf (some j) < m.rf.length := List.idxOf_lt_length_iff.mpr hm
    show m.rf[m.rf.idxOf (some j)]? = _
    rw [List.getElem?_eq_getElem hl, List.getElem_idxOf hl]
  let fps2 : Nat → List Addr := fun j => if some j ∈ m.rf then fpsB (at_ j) else fps1 j
  have f2r : ∀ j, some j ∈ m.rf → fps2 j = fpsB (at_ j) := fun j h => if_pos h
  have f2n : ∀ j, some j ∉ m.rf → fps2 j = fps1 j := fun j h => if_neg h
  have in2 : ∀ j a, a ∈ fps2 j → a ∈ fps1 j ∧ some j ∉ m.rf ∨ some j ∈ m.rf ∧ a ∈ fpsB (at_ j) := fun j a ha => by
    by_cases hm : some j ∈ m.rf
    · rw [f2r j hm] at ha; exact .inr ⟨hm, ha⟩
    · rw [f2n j hm] at ha; exact .inl ⟨ha, hm⟩
  have keepn : ∀ a u, H1 a = some u → (Fz a ∨ ∃ j, some j ∉ m.rf ∧ a ∈ fps1 j) → H2 a = some u := fun a u e h => kp2 a u e fun j hj z => by
    rcases h with h | ⟨l, hl, h⟩
    · exact p1.sr.nf j a z h
    · exact hl (p1.sr.dis j l a z h ▸ mem_refs.mp hj)
  have tupk : ∀ a xs, H1 a = some (.tup xs) → H2 a = some (.tup xs) := fun a xs e => kp2 a _ e fun j _ z => (p1.sr.live j a z).2 xs e
  have sr2 : SR K Fz lk H2 σ S' fps2 := by
    refine ⟨p1.sr.len.trans b1.symm, fun j t e => ?_, fun j h => ?_, fun i j a hi hj => ?_, fun j => ?_, fun j a hj z => ?_, fun a z => ?_, fun j hj a ha o' u => ?_⟩
    · by_cases hm : some j ∈ m.rf
      · rw [f2r j hm]
        have er := atr j hm
        obtain ⟨t', s1, s2, s3⟩ := b3 (at_ j) j er
        have hl : j < S1.length := by rw [← b1]; exact (List.getElem?_eq_some_iff.mp e).1
        rw [s3 hl] at e
        cases e
        obtain ⟨v', ev', rr⟩ := q.sr.rep (at_ j) t s1
        obtain ⟨w, ew, es⟩ := mx.ref (at_ j) j er
        rw [List.getElem?_map, ew] at ev'
        cases ev'
        exact ⟨_, es, rr.noF s2⟩
      · rw [f2n j hm]
        rw [b2 j hm] at e
        obtain ⟨w, ew, rr⟩ := p1.sr.rep j t e
        exact ⟨w, ew, rr.mono (fun _ z => z) tupk (fun a xs z e => keepn a _ e (z.imp id fun z => ⟨j, hm, z⟩)) fun a u z r => rd_keep r fun o e => keepn a o e (z.imp id fun z => ⟨j, hm, z⟩)⟩
    · by_cases hm : some j ∈ m.rf
      · rw [f2r j hm]
        have er := atr j hm
        obtain ⟨t', s1, s2, s3⟩ := b3 (at_ j) j er
        obtain ⟨t0, st, _⟩ := f2 (at_ j) j er
        exact (h t' (s3 (List.getElem?_eq_some_iff.mp st).1)).elim
      · rw [f2n j hm]
        exact p1.sr.emp j fun t e => h t (by rw [b2 j hm]; exact e)
    · rcases in2 i a hi with ⟨hi, ni⟩ | ⟨mi, hi⟩
      · rcases in2 j a hj with ⟨hj, nj⟩ | ⟨mj, hj⟩
        · exact p1.sr.dis i j a hi hj
        · rcases inB _ a hj with ⟨l, hl, z⟩ | z
          · exact (ni (p1.sr.dis l i a z hi ▸ mem_refs.mp hl)).elim
          · exact (live1 i a hi z).elim
      · rcases in2 j a hj with ⟨hj, nj⟩ | ⟨mj, hj⟩
        · rcases inB _ a hi with ⟨l, hl, z⟩ | z
          · exact (nj (p1.sr.dis l j a z hj ▸ mem_refs.mp hl)).elim
          · exact (live1 j a hj z).elim
        · have e := q.sr.dis _ _ a hi hj
          have e1 := atr i mi
          have e2 := atr j mj
          rw [e] at e1
          rw [e1] at e2
          exact Option.some.inj (Option.some.inj e2)
    · by_cases hm : some j ∈ m.rf
      · rw [f2r j hm]; exact q.sr.nd _
      · rw [f2n j hm]; exact p1.sr.nd j
    · rcases in2 j a hj with ⟨hj, nj⟩ | ⟨mj, hj⟩
      · exact p1.sr.nf j a hj z
      · exact q.sr.nf _ a hj (q.zz a (.inl (p1.zz a z)))
    · obtain ⟨u, e⟩ := p1.sr.za a z
      exact ⟨u, keepn a u e (.inl z)⟩
    · rcases in2 j a ha with ⟨ha, nj⟩ | ⟨mj, ha⟩
      · obtain ⟨⟨u', e'⟩, _⟩ := p1.sr.live j a ha
        rw [keepn a u' e' (.inr ⟨j, nj, ha⟩)]
        intro z
        rw [Option.some.inj z] at e'
        exact p1.sr.nl j hj a ha _ _ e'
      · exact q.sr.nl _ (fun z => z) a ha o' u
  have dm1 : ∀ a, H2 a = none → H1 a = none := q.dm
  refine k v H2 Fz2 fps2 fp ⟨sr2, o.rp, fun a z => q.zz a (.inl (p1.zz a z)), fun a z => ?_, q.sr.za, o.nd, o.nz, fun a ha => (o.rp.live a ha).1, fun a ha j hj => ?_, fun a ha => ?_, o.fl, fun a u e h => ?_, fun a e => p1.dm a (dm1 a e), fun j hj => ?_, fun j a ha => ?_⟩
  · have nin : ∀ j, a ∈ fps2 j → a ∈ fps1 j ∧ some j ∉ m.rf := fun j hj => by
      rcases in2 j a hj with w | ⟨mj, w⟩
      · exact w
      · exact (q.sr.nf _ a w z).elim
    rcases q.zo a z with (z1 | z1) | z1 | ⟨kk, z1⟩
    · rcases p1.zo a z1 with w | w | ⟨i, hi, w⟩
      · exact .inl w
      · exact .inr (.inl ⟨w.1.imp id fun ⟨i, hi, y⟩ => ⟨i, List.mem_append_right _ hi, y⟩, fun j hj => w.2 j (nin j hj).1⟩)
      · refine .inr (.inr ⟨i, hi, ?_⟩)
        have ni : some i ∉ m.rf := fun y => dj_ok hd i (mem_refs.mpr y) hi
        rw [f2n i ni]; exact w
    · exact .inr (.inl ⟨(p1.fo a z1).imp id fun ⟨i, hi, y⟩ => ⟨i, List.mem_append_right _ hi, y⟩, fun j hj => p1.fd a z1 j (nin j hj).1⟩)
    · exact .inr (.inl ⟨.inl (p1.dm a z1), fun j hj => live1 j a (nin j hj).1 z1⟩)
    · obtain ⟨j, ej, hj⟩ := fAm kk a z1
      refine .inr (.inl ⟨?_, fun l hl => ?_⟩)
      · rcases p1.fm j a hj with w | ⟨l, hl, w⟩ | w
        · exact .inr ⟨j, List.mem_append_left _ (refmt kk j ej), w⟩
        · exact .inr ⟨l, List.mem_append_right _ hl, w⟩
        · exact .inl w
      · obtain ⟨w1, w2⟩ := nin l hl
        exact w2 (p1.sr.dis j l a hj w1 ▸ List.mem_of_getElem? ej)
  · rcases in2 j a hj with ⟨w, nj⟩ | ⟨mj, w⟩
    · rcases o.fo a ha with z | ⟨i, _, z⟩
      · exact live1 j a w z
      · obtain ⟨l, el, hl⟩ := fAm i a z
        exact nj (p1.sr.dis l j a hl w ▸ List.mem_of_getElem? el)
    · exact o.fd a ha _ w
  · rcases o.fo a ha with z | ⟨i, _, z⟩
    · exact .inl (p1.dm a z)
    · obtain ⟨l, el, hl⟩ := fAm i a z
      rcases p1.fm l a hl with w | ⟨y, hy, w⟩ | w
      · exact .inr ⟨l, List.mem_append_left _ (refmt i l el), w⟩
      · exact .inr ⟨y, List.mem_append_right _ hy, w⟩
      · exact .inl w
  · refine kp2 a u (p1.kp a u e fun i hi => h i (List.mem_append_right _ hi)) fun j hj z => ?_
    rcases p1.fm j a z with w | ⟨y, hy, w⟩ | w
    · exact h j (List.mem_append_left _ hj) w
    · exact h y (List.mem_append_right _ hy) w
    · rw [w] at e; cases e
  · have nj : some j ∉ m.rf := fun z => hj (List.mem_append_left _ (mem_refs.mpr z))
    have h1 := p1.fs j fun z => hj (List.mem_append_right _ z)
    exact ⟨(f2n j nj).trans h1.1, (b2 j nj).trans h1.2⟩
  · have up : ∀ i ∈ refs m.rf, a ∈ fps1 i → a ∈ fps j ∨ (∃ l ∈ refs m.rf ++ m.nd.mt, a ∈ fps l) ∨ H a = none := fun i hi z => by
      rcases p1.fm i a z with w | ⟨y, hy, w⟩ | w
      · exact .inr (.inl ⟨i, List.mem_append_left _ hi, w⟩)
      · exact .inr (.inl ⟨y, List.mem_append_right _ hy, w⟩)
      · exact .inr (.inr w)
    rcases in2 j a ha with ⟨w, nj⟩ | ⟨mj, w⟩
    · exact (p1.fm j a w).imp id (Or.imp (fun ⟨l, hl, y⟩ => ⟨l, List.mem_append_right _ hl, y⟩) id)
    · rcases inB _ a w with ⟨l, hl, z⟩ | z
      · exact up l hl z
      · exact .inr (.inr (p1.dm a z))
end TW
namespace TW
open PySem PySem.Spec PyProof.Rows L2
section
variable {X : Cx} {k : Nat} {f : Addr} {fd : FuncData} {ps : List Str} {F : Fn} {m : Mn} {x : Str} {p pos : Pos} {e : Expr} {es : List Expr}
/-- f(e, ..) -/
theorem se_call {io : List Bool} (G : FnOk X.prog X.w X.K X.mg X.base CX0 k f fd ps (spOf X.K io F)) (hr : Room k X.A) (hg : Gl X x) (hm : X.mg x = some (.ref f)) (hk : PySem.W.keepIn X.K (.ref f) = true) (hb : Binds X.K fd ps [])
    (ha : SM X (e :: es) m) (hio : m.rf.map Option.isSome = io := by rfl) (hd : dj (refs m.rf) m.nd.vw = true := by rfl) (hn : (refs m.rf).Nodup := by decide) (hdb : (x == ("__debug__" : Str)) = false := by decide)
    (he : starEach (e :: es) X.env = (false, eval e X.env) :: starEach es X.env := by rfl) (hpl : (backTo pos (starEach es X.env)).any (·.1) = false := by rfl) :
    SE X (.Call (.Name x p) (e :: es) [] pos) (eCall F m) := by
  subst hio
  exact PE.imp (pe_call G hr hg hm hk hb .nil (pass0 (X := X)) ha hdb he hpl) fun σ H Q q => call_sound hd hn q
end
end TW

/-! TW5: targets, what is walked, for. -/
namespace TW
open PySem PySem.Spec PyProof.Rows L2

/-! ### targets -/
inductive Tg where
  | nm (i : Nat) | tp (is : List Nat)
def Tg.slots : Tg → List Nat
  | .nm i => [i]
  | .tp is => is
def setAll : List Nat → List D → Stt → Option Stt
  | [], [], S => some S
  | i :: is, d :: ds, S => if i < S.length then setAll is ds (S.set i (some d)) else none
  | _, _, _ => none
def tgSet : Tg → D → Stt → Option Stt
  | .nm i, d, S => if i < S.length then some (S.set i (some d)) else none
  | .tp is, .tup ds, S => setAll is ds S
  | .tp _, _, _ => none
def gsOf : List Nat → TGs
  | [] => gNil
  | i :: is => gCons (gName i) (gsOf is)
def gOf (K : PySem.W.Frag) : Tg → TG
  | .nm i => gName i
  | .tp is => gTup K is.length (gsOf is)
abbrev SG (X : Cx) (e : Expr) (tg : Tg) : Prop := PG X e (gOf X.K tg)
theorem vo_old {K mt H fps Fz' fps'} {d : D} {v : V} (h : Rp K Fz' H d v []) : VO K mt H fps H Fz' fps' d v [] :=
  ⟨h, List.nodup_nil, (fun _ z => nomatch z), (fun _ z => nomatch z), (fun _ z => nomatch z), (fun _ z => nomatch z)⟩
theorem SPst.set0 {K} {mt wr : List Nat} {Fz lk H σ0 fps S1 σ H1 Fz1 fps1 d v} (p : SPst K mt wr Fz lk H σ0 fps S1 σ H1 Fz1 fps1) (r : Rp K Fz1 H1 d v []) {i : Nat} (hi : i < S1.length) :
    SPst K (i :: mt) (i :: wr) Fz lk H σ0 fps (S1.set i (some d)) (σ.set i (some v)) H1 Fz1 (fun j => if j = i then [] else fps1 j) :=
  p.set ⟨r, List.nodup_nil, (fun _ z => nomatch z), (fun _ z => nomatch z), (fun _ z => nomatch z), (fun _ z => nomatch z)⟩ hi
theorem rps_cons {K Fz H} {d : D} {ds : List D} {vs : List V} (h : Rps K Fz H (d :: ds) vs []) : ∃ v ws, vs = v :: ws ∧ Rp K Fz H d v [] ∧ Rps K Fz H ds ws [] := by
  unfold Rps at h
  obtain ⟨v, ws, f, g, e, e2, r, q⟩ := h
  have h1 : f = [] ∧ g = [] := by
    have := e2.symm
    simpa using this
  rw [h1.1] at r
  rw [h1.2] at q
  exact ⟨v, ws, e, r, q⟩
/-- the target takes the value; fps' is less than fps -/
theorem gs_sound {K : PySem.W.Frag} {mt0 wr0 : List Nat} {Fz lk H σ0 H0 fps0} : ∀ (is : List Nat) {ds : List D} {vs : List V} {S S' : Stt} {σ : L2.St} {Fz0 : Addr → Prop} {fps : Nat → List Addr}, SPst K mt0 wr0 Fz0 lk H0 σ0 fps0 S σ H Fz fps → Rps K Fz H ds vs [] → setAll is ds S = some S' →
    ∀ {Q : L2.St → Hp → Prop}, (∀ σ' fps', SPst K (mt0 ++ is) (wr0 ++ is) Fz0 lk H0 σ0 fps0 S' σ' H Fz fps' → (∀ j, fps' j = if j ∈ is then [] else fps j) → Q σ' H) → gsOf is vs σ H Q
  | [], ds, vs, S, S', σ, Fz0, fps, p, r, e, Q, k => by
    cases ds with
    | nil =>
      cases e
      unfold Rps at r
      refine ⟨r.1, k σ fps (p.wide (fun i hi => by simpa using hi) fun i hi => by simpa using hi) fun _ => rfl⟩
    | cons d ds => cases e
  | i :: is, ds, vs, S, S', σ, Fz0, fps, p, r, e, Q, k => by
    cases ds with
    | nil => cases e
    | cons d ds =>
      have e : (if i < S.length then setAll is ds (S.set i (some d)) else none) = some S' := e
      split at e
      · rename_i hi
        obtain ⟨v, ws, rfl, r1, r2⟩ := rps_cons r
        refine ⟨v, ws, rfl, ?_⟩
        refine gs_sound is (p.set0 r1 hi) r2 e fun σ' fps' q hq => k σ' fps' (q.wide (fun j hj => ?_) fun j hj => ?_) fun j => ?_
        · rcases List.mem_append.mp hj with z | z
          · rcases List.mem_cons.mp z with z | z
            · exact List.mem_append_right _ (by rw [z]; exact List.mem_cons_self)
            · exact List.mem_append_left _ z
          · exact List.mem_append_right _ (List.mem_cons_of_mem _ z)
        · rcases List.mem_append.mp hj with z | z
          · rcases List.mem_cons.mp z with z | z
            · exact List.mem_append_right _ (by rw [z]; exact List.mem_cons_self)
            · exact List.mem_append_left _ z
          · exact List.mem_append_right _ (List.mem_cons_of_mem _ z)
        · rw [hq j]
          by_cases h : j = i
          · subst h
            by_cases h2 : j ∈ is <;> simp [h2]
          · by_cases h2 : j ∈ is <;> simp [h2, h]
      · cases e
theorem tg_sound {K : PySem.W.Frag} {mt0 wr0 : List Nat} {Fz Fz0 : Addr → Prop} {lk H σ0 H0 fps0 S σ fps} (tg : Tg) {d : D} {v : V} {S' : Stt} (p : SPst K mt0 wr0 Fz0 lk H0 σ0 fps0 S σ H Fz fps) (r : Rp K Fz H d v []) (e : tgSet tg d S = some S') {Q : L2.St → Hp → Prop}
    (k : ∀ σ' fps', SPst K (mt0 ++ tg.slots) (wr0 ++ tg.slots) Fz0 lk H0 σ0 fps0 S' σ' H Fz fps' → (∀ j, fps' j = if j ∈ tg.slots then [] else fps j) → Q σ' H) : gOf K tg v σ H Q := by
  cases tg with
  | nm i =>
    have e : (if i < S.length then some (S.set i (some d)) else none) = some S' := e
    obtain ⟨hi, rfl⟩ := if_some e
    refine k _ _ ((p.set0 r hi).wide (fun j hj => ?_) fun j hj => ?_) fun j => ?_
    · rcases List.mem_cons.mp hj with z | z
      · exact List.mem_append_right _ (by rw [z]; exact List.mem_cons_self)
      · exact List.mem_append_left _ z
    · rcases List.mem_cons.mp hj with z | z
      · exact List.mem_append_right _ (by rw [z]; exact List.mem_cons_self)
      · exact List.mem_append_left _ z
    · by_cases h : j = i <;> simp [Tg.slots, h]
  | tp is =>
    cases d with
    | tup ds =>
      unfold Rp at r
      obtain ⟨a, vs, rfl, ha, r⟩ := r
      have hl : ∀ (is : List Nat) (ds : List D) (S S' : Stt), setAll is ds S = some S' → ds.length = is.length := by
        intro is
        induction is with
        | nil =>
          intro ds S S' e
          cases ds with
          | nil => rfl
          | cons _ _ => cases e
        | cons i is ih =>
          intro ds S S' e
          cases ds with
          | nil => cases e
          | cons d ds =>
            have e : (if i < S.length then setAll is ds (S.set i (some d)) else none) = some S' := e
            split at e
            · rw [List.length_cons, List.length_cons, ih ds _ _ e]
            · cases e
      exact ⟨a, vs, rfl, SqT.of ha, by rw [Rps.length r]; exact hl is ds S S' e, gs_sound is p r e k⟩
    | _ => cases e
section
variable {X : Cx}
theorem sg_name {i : Nat} {x : Str} {pos : Pos} (h : PG X (.Name x pos) (gName i)) : SG X (.Name x pos) (.nm i) := h
abbrev SGs (X : Cx) (es : List Expr) (is : List Nat) : Prop := PGs X es (gsOf is)
end
/-! ### what is walked -/
def KeepZ (Fz : Addr → Prop) (H1 H2 : Hp) : Prop := (∀ a o, Fz a → H1 a = some o → H2 a = some o) ∧ ∀ a xs, H1 a = some (.tup xs) → H2 a = some (.tup xs)
def Grow (H H' : Hp) : Prop := H' = H ∨ ∃ T xs, H T = none ∧ H' = upd H T (.tup xs)
theorem Grow.kp {H H' : Hp} (g : Grow H H') : ∀ a o, H a = some o → H' a = some o := by
  rcases g with rfl | ⟨T, xs, h, rfl⟩
  · exact fun _ _ e => e
  · exact upd_keep h
theorem Grow.dm {H H' : Hp} (g : Grow H H') : ∀ a, H' a = none → H a = none := fun a e => by
  cases e' : H a with
  | none => rfl
  | some o => rw [g.kp a o e'] at e; cases e
def ItOk (K : PySem.W.Frag) (Fz : Addr → Prop) (J : It) (ds : List D) (H1 : Hp) : Prop := Walk J ds.length (fun H2 => KeepZ Fz H1 H2) (fun i H x H' => ∃ d, ds[i]? = some d ∧ Rp K Fz H' d x [] ∧ Grow H H')
def tI (K : PySem.W.Frag) (n : An) : TI := fun σ H R => ∃ Fz lk S fps ds S', Pre K n σ H Fz lk S fps ds S' ∧ ∀ J H1 Fz1 fps1, Pst K (fun _ _ fp => fp = []) n.vw n.mt Fz lk H σ S fps S' H1 Fz1 fps1 [] → ItOk K Fz1 J ds H1 → R J H1
abbrev SI (X : Cx) (tg iter : Expr) (n : An) : Prop := PI X tg iter (tI X.K n)
theorem PI.imp {X : Cx} {tg e : Expr} {t t' : TI} (h : PI X tg e t) (k : ∀ σ H Q, t' σ H Q → t σ H Q) : PI X tg e t' := ⟨fun pins s σ H Q I q => h.run pins s σ H Q I (k σ H Q q)⟩
/-- what of its own is given over -/
theorem Pst.over {K} {RP : (Addr → Prop) → Hp → List Addr → Prop} {vw mt : List Nat} {Fz lk H σ S fps S1 H1 Fz1 fps1 fp1} (p : Pst K RP vw mt Fz lk H σ S fps S1 H1 Fz1 fps1 fp1) : Pst K (fun _ _ fp => fp = []) vw mt Fz lk H σ S fps S1 H1 (fun a => Fz1 a ∨ a ∈ fp1) fps1 [] :=
  ⟨p.sr, rfl, fun a z => .inl (p.zz a z), fun a z => z.elim (p.zo a) fun z => .inr (.inl ⟨p.fo a z, p.fd a z⟩), fun a z => z.elim (p.za a) (p.fv a), List.nodup_nil, (fun _ z => nomatch z), (fun _ z => nomatch z), (fun _ z => nomatch z), (fun _ z => nomatch z), (fun _ z => nomatch z), p.kp, p.dm, p.fs, p.fm⟩
theorem Rps.keepZ {K Fz H1 H2} {ds : List D} {vs : List V} (h : Rps K Fz H1 ds vs []) (k : KeepZ Fz H1 H2) : Rps K Fz H2 ds vs [] :=
  h.mono (fun _ z => z) k.2 (fun a xs z e => z.elim (fun z => k.1 a _ z e) (fun z => nomatch z)) fun a u z r => rd_keep r fun o e => z.elim (fun z => k.1 a o z e) (fun z => nomatch z)
theorem Rps.at {K Fz H} : ∀ {ds : List D} {vs : List V} {i : Nat} {x : V}, Rps K Fz H ds vs [] → vs[i]? = some x → ∃ d, ds[i]? = some d ∧ Rp K Fz H d x []
  | [], vs, i, x, h, e => by
    unfold Rps at h
    rw [h.1] at e
    cases e
  | d :: ds, vs, i, x, h, e => by
    obtain ⟨v, ws, rfl, r1, r2⟩ := rps_cons h
    cases i with
    | zero => cases e; exact ⟨d, rfl, r1⟩
    | succ i => exact Rps.at (ds := ds) (vs := ws) (i := i) r2 e
def chrs (x : Str) : List D := x.cps.toList.map fun c => .str ⟨#[c]⟩
def itemsD : D → Option (List D)
  | .lst _ xs => some xs
  | .tup xs => some xs
  | .str x => some (chrs x)
  | _ => none
def nIter (n : En) : An := ⟨n.vw, n.mt, fun S => (n.run S).bind fun p => (itemsD (frz p.1)).bind fun d => some (d, p.2)⟩
theorem rps_ints {K Fz H} : ∀ ns : List Int, Rps K Fz H (ns.map .int) (ns.map V.int) []
  | [] => by unfold Rps; exact ⟨rfl, rfl⟩
  | n :: ns => by
    show Rps K Fz H (.int n :: ns.map .int) _ _
    unfold Rps
    exact ⟨.int n, ns.map V.int, [], [], rfl, rfl, by unfold Rp; exact ⟨rfl, rfl⟩, rps_ints ns⟩
theorem it_list {K Fz} {a : Addr} {ds : List D} {vs : List V} {H1 : Hp} (ha : SqL K H1 a vs) (hz : Fz a) (r : Rps K Fz H1 ds vs []) : ItOk K Fz (Itl K a) ds H1 := by
  have w : Walk (Itl K a) vs.length (fun H => SqL K H a vs) (YAt vs) := walk_list
  unfold ItOk
  rw [← Rps.length r]
  refine w.mono (fun H2 k => sqL_keep ha fun o e => k.1 a o hz e) fun i H x H' hi k y => ?_
  obtain ⟨rfl, y⟩ := y
  obtain ⟨d, e, q⟩ := (r.keepZ k).at y
  exact ⟨d, e, q, .inl rfl⟩
theorem it_tup {K Fz} {a : Addr} {ds : List D} {vs : List V} {H1 : Hp} (ha : H1 a = some (.tup vs)) (r : Rps K Fz H1 ds vs []) : ItOk K Fz (Itt K a) ds H1 := by
  have w : Walk (Itt K a) vs.length (fun H => SqT K H a vs) (YAt vs) := walk_tup
  unfold ItOk
  rw [← Rps.length r]
  refine w.mono (fun H2 k => SqT.of (k.2 a _ ha)) fun i H x H' hi k y => ?_
  obtain ⟨rfl, y⟩ := y
  obtain ⟨d, e, q⟩ := (r.keepZ k).at y
  exact ⟨d, e, q, .inl rfl⟩
theorem chrs_len (x : Str) : (chrs x).length = x.cps.size := by
  unfold chrs
  rw [List.length_map, Array.length_toList]
theorem it_str {K Fz} {x : Str} {H1 : Hp} : ItOk K Fz (Its x) (chrs x) H1 := by
  have w : Walk (Its x) x.cps.size (fun _ => True) (fun i H v H' => H' = H ∧ ∃ c, x.cps[i]? = some c ∧ v = .str ⟨#[c]⟩) := walk_str
  unfold ItOk
  rw [chrs_len]
  refine w.mono (fun _ _ => trivial) fun i H v H' hi k y => ?_
  obtain ⟨rfl, c, e, rfl⟩ := y
  refine ⟨.str ⟨#[c]⟩, ?_, by unfold Rp; exact ⟨rfl, rfl⟩, .inl rfl⟩
  unfold chrs
  rw [List.getElem?_map, Array.getElem?_toList, e]
  rfl
theorem iter_sound {K : PySem.W.Frag} {n : En} {σ : L2.St} {H : Hp} {R : It → Hp → Prop} (h : tI K (nIter n) σ H R) : iList K (tD K n) σ H R ∨ iTup K (tD K n) σ H R ∨ iStr (tD K n) σ H R := by
  obtain ⟨Fz, lk, S, fps, ds, S', p, k⟩ := h
  obtain ⟨d, S1, ds', e1, e2, e3⟩ := bind1 (f := fun d => itemsD (frz d)) p.rn
  obtain ⟨rfl, rfl⟩ := Prod.mk.inj e3
  have pre : Pre K n σ H Fz lk S fps d S' := ⟨p.sr, p.ml, e1⟩
  cases d with
  | lst o xs =>
    left
    have e2 : some (frzs xs) = some ds := by rw [← e2]; unfold frz; rfl
    cases e2
    refine ⟨Fz, lk, S, fps, _, _, pre, fun v H1 Fz1 fps1 fp1 p1 => ?_⟩
    have r := p1.rp.frz (Fz' := fun a => Fz1 a ∨ a ∈ fp1) (fun _ z => .inl z) fun _ z => .inr z
    unfold frz Rp at r
    obtain ⟨a, vs, rfl, hz, ha, _, r⟩ := r
    exact ⟨a, rfl, ⟨vs, SqL.of ha⟩, k _ H1 _ fps1 p1.over (it_list (SqL.of ha) hz r)⟩
  | tup xs =>
    right; left
    have e2 : some (frzs xs) = some ds := by rw [← e2]; unfold frz; rfl
    cases e2
    refine ⟨Fz, lk, S, fps, _, _, pre, fun v H1 Fz1 fps1 fp1 p1 => ?_⟩
    have r := p1.rp.frz (Fz' := fun a => Fz1 a ∨ a ∈ fp1) (fun _ z => .inl z) fun _ z => .inr z
    unfold frz Rp at r
    obtain ⟨a, vs, rfl, ha, r⟩ := r
    exact ⟨a, rfl, ⟨vs, SqT.of ha⟩, k _ H1 _ fps1 p1.over (it_tup ha r)⟩
  | str x =>
    right; right
    have e2 : some (chrs x) = some ds := by rw [← e2]; unfold frz; rfl
    cases e2
    refine ⟨Fz, lk, S, fps, _, _, pre, fun v H1 Fz1 fps1 fp1 p1 => ?_⟩
    have r := p1.rp
    unfold Rp at r
    exact ⟨x, r.1, k _ H1 _ fps1 p1.over it_str⟩
  | scr ns => unfold frz at e2; cases e2
  | non => unfold frz at e2; cases e2
  | bl b => unfold frz at e2; cases e2
  | int i => unfold frz at e2; cases e2
  | dct o ks vs => unfold frz at e2; cases e2
theorem si_iter {X : Cx} {tg e : Expr} {n : En} (h : SE X e n) : SI X tg e (nIter n) := PI.imp (PI.or (pi_list h) (PI.or (pi_tup h) (pi_str h))) fun _ _ _ q => iter_sound q
/-- range(n) -/
def rngD (n : Nat) : List D := (List.range n).map fun (i : Nat) => .int (i : Int)
def nRange (n : En) : An := ⟨n.vw, n.mt, fun S => (n.run S).bind fun p => (match p.1 with
  | .int j => if -1000000000 ≤ j ∧ j < 1000000000 then some (rngD j.toNat) else none
  | _ => none).bind fun d => some (d, p.2)⟩
theorem it_range {K Fz} {n : Nat} {H1 : Hp} : ItOk K Fz (Itr 0 n) (rngD n) H1 := by
  have w : Walk (Itr 0 n) n (fun _ => True) (YFn fun i => .int (0 + i)) := walk_range
  unfold ItOk rngD
  rw [List.length_map, List.length_range]
  refine w.mono (fun _ _ => trivial) fun i H v H' hi k y => ?_
  obtain ⟨rfl, rfl⟩ := y
  refine ⟨.int (i : Int), ?_, ?_, .inl rfl⟩
  · rw [List.getElem?_map, List.getElem?_range hi]
    rfl
  · show Rp K Fz H' (.int (i : Int)) (.int (0 + (i : Int))) []
    rw [Int.zero_add]
    unfold Rp
    exact ⟨rfl, rfl⟩
theorem si_range {X : Cx} {tg a : Expr} {n : En} {p pos : Pos} (hg : Gl X "range") (hm : X.mg "range" = none) (h : SE X a n) (hs : starEach [a] X.env = [(false, eval a X.env)] := by rfl) : SI X tg (.Call (.Name "range" p) [a] [] pos) (nRange n) :=
  PI.imp (pi_range1 hg hm (pa_cons h pa_nil (by rw [hs]; rfl)) hs) fun σ H R q => by
    obtain ⟨Fz, lk, S, fps, ds, S', p, k⟩ := q
    obtain ⟨d, S1, ds', e1, e2, e3⟩ := bind1 (f := fun d : D => (match d with
      | .int j => if -1000000000 ≤ j ∧ j < 1000000000 then some (rngD j.toNat) else none
      | _ => none)) p.rn
    obtain ⟨rfl, rfl⟩ := Prod.mk.inj e3
    cases d with
    | int j =>
      obtain ⟨hj, rfl⟩ := if_some e2
      refine ⟨Fz, lk, S, fps, _, _, ⟨p.sr, p.ml, e1⟩, fun v H1 Fz1 fps1 fp1 p1 => ?_⟩
      have r := p1.rp
      unfold Rp at r
      exact ⟨j, by rw [r.1], by omega, by omega, k _ H1 _ fps1 p1.over it_range⟩
    | _ => cases e2
/-! ### for -/
def loop (tg : Tg) (b : Sn) : List D → Stt → Option Out
  | [], S => some (.nx S)
  | d :: ds, S => (tgSet tg d S).bind fun S1 => (b.run S1).bind fun o => match o with
    | .nx S2 => loop tg b ds S2
    | .rt d S2 => some (.rt d S2)
def sFor (tg : Tg) (n : An) (b : Sn) : Sn := ⟨n.mt ++ (tg.slots ++ b.mt), tg.slots ++ b.wr, fun S => (n.run S).bind fun p => loop tg b p.1 (if noFs p.1 then p.2 else frzAt n.vw p.2)⟩
theorem Pst.bindL {K} {RP : (Addr → Prop) → Hp → List Addr → Prop} {vw mt : List Nat} {Fz lk H σ S fps S1 H1 Fz1 fps1 fp} (c : Bool) (p : Pst K RP vw mt Fz lk H σ S fps S1 H1 Fz1 fps1 fp) :
    ∃ Fz2 fps2, SPst K mt [] Fz lk H σ fps (if c then S1 else frzAt vw S1) σ H1 Fz2 fps2 ∧ (c = false → ∀ a, Fz1 a → Fz2 a) ∧ ∀ j a, a ∈ fps2 j → a ∈ fps1 j := by
  cases c with
  | true => exact ⟨Fz, fps1, p.spst, (fun z => nomatch z), fun _ _ z => z⟩
  | false =>
    have g := p.sr.give (vw := vw) p.zz (fun a z => p.za a z) (fun _ _ _ _ => .inr trivial) fun a z => (p.zo a z).imp id (Or.imp And.right id)
    have sub : ∀ j a, a ∈ (if j ∈ vw then [] else fps1 j) → a ∈ fps1 j := fun j a ha => by
      by_cases hm : j ∈ vw
      · simp only [hm, if_true] at ha; cases ha
      · simp only [hm, if_false] at ha; exact ha
    refine ⟨_, _, ⟨g, fun a z => .inl (p.zz a z), ?_, p.kp, p.dm, ?_, ?_, fun _ _ => rfl⟩, fun _ a z => .inl z, sub⟩
    · rintro a (z | ⟨i, _, z⟩)
      · rcases p.zo a z with z | ⟨z | ⟨i, _, z⟩, _⟩ | ⟨i, _, z⟩
        · exact .inl z
        · exact .inr (.inl z)
        · exact .inr (.inr ⟨i, z⟩)
        · rcases p.fm i a z with z | ⟨l, _, z⟩ | z
          · exact .inr (.inr ⟨i, z⟩)
          · exact .inr (.inr ⟨l, z⟩)
          · exact .inr (.inl z)
      · rcases p.fm i a z with z | ⟨l, _, z⟩ | z
        · exact .inr (.inr ⟨i, z⟩)
        · exact .inr (.inr ⟨l, z⟩)
        · exact .inr (.inl z)
    · intro i hi a ha
      have z := sub i a ha
      rw [(p.fs i hi).1] at z
      exact z
    · exact fun i a ha => p.fm i a (sub i a ha)
theorem SPst.grow {K} {mt wr : List Nat} {Fz lk H σ0 fps S1 σ H1 Fz1 fps1 H2} (p : SPst K mt wr Fz lk H σ0 fps S1 σ H1 Fz1 fps1) (g : Grow H1 H2) : SPst K mt wr Fz lk H σ0 fps S1 σ H2 Fz1 fps1 :=
  ⟨p.sr.keep g.kp, p.zz, p.zo, fun a o e h => g.kp a o (p.kp a o e h), fun a e => p.dm a (g.dm a e), p.fs, p.fm, p.sg⟩
theorem noFs_at : ∀ {ds : List D} {i : Nat} {d : D}, noFs ds = true → ds[i]? = some d → noF d = true
  | [], _, _, _, e => by cases e
  | x :: xs, i, d, h, e => by
    unfold noFs at h
    obtain ⟨h1, h2⟩ := Bool.and_eq_true_iff.mp h
    cases i with
    | zero => cases e; exact h1
    | succ i => exact noFs_at h2 e
theorem for_sound {K : PySem.W.Frag} {tg : Tg} {n : An} {b : Sn} (hd : dj n.vw (tg.slots ++ b.mt) = true) {D : Ends} {σ : L2.St} {H : Hp} (h : tS K (sFor tg n b) D σ H) : tFor (tI K n) (gOf K tg) (tS K b) D σ H := by
  obtain ⟨Fz, lk, S, fps, o, r, ml, rn, w⟩ := h
  obtain ⟨ds, S1, e1, e2⟩ := bindO (g := fun (ds : List TW.D) S1 => loop tg b ds (if noFs ds then S1 else frzAt n.vw S1)) rn
  refine ⟨Fz, lk, S, fps, ds, S1, ⟨r, fun i hi => ml i (List.mem_append_left _ hi), e1⟩, fun J H1 Fz1 fps1 p it => ?_⟩
  obtain ⟨Fz2, fps2, p2, zz2, sub2⟩ := p.bindL (noFs ds)
  have mw : ∀ i ∈ tg.slots ++ b.mt, ¬ lk i := fun i hi => ml i (List.mem_append_right _ hi)
  refine for_it it (fun i σ' H' => ∃ S' Fz' fps', SPst K (n.mt ++ (tg.slots ++ b.mt)) (tg.slots ++ b.wr) Fz lk H σ fps S' σ' H' Fz' fps' ∧ KeepZ Fz1 H1 H' ∧ (noFs ds = false → ∀ a, Fz1 a → Fz' a) ∧ (∀ a, Fz1 a → ∀ j ∈ tg.slots ++ b.mt, a ∉ fps' j) ∧ loop tg b (ds.drop i) S' = some o) ?_ ?_ ?_ ?_
  · refine ⟨_, Fz2, fps2, p2.wide (fun i hi => List.mem_append_left _ hi) (fun i hi => nomatch hi), ⟨fun _ _ _ e => e, fun _ _ e => e⟩, zz2, fun a za j hj hm => ?_, e2⟩
    have z1 := sub2 j a hm
    rcases p.zo a za with z | z | ⟨i, hi, z⟩
    · exact p.sr.nf j a z1 z
    · exact z.2 j z1
    · exact dj_ok hd i hi (p.sr.dis i j a z z1 ▸ hj)
  · rintro i σ' H' hi ⟨S', Fz', fps', q, kz, _⟩
    exact kz
  · rintro i x σ' H' H'' hi ⟨S', Fz', fps', q, kz, zz, pr, rn2⟩ ⟨d, ed, rd, gr⟩
    have e3 : ds.drop i = d :: ds.drop (i + 1) := by
      rw [List.drop_eq_getElem_cons hi]
      have e4 : ds[i]? = some ds[i] := List.getElem?_eq_getElem hi
      rw [e4] at ed
      rw [Option.some.inj ed]
    rw [e3] at rn2
    have rn2 : ((tgSet tg d S').bind fun S1 => (b.run S1).bind fun o => match o with
      | .nx S2 => loop tg b (ds.drop (i + 1)) S2
      | .rt d S2 => some (.rt d S2)) = some o := rn2
    cases et : tgSet tg d S' with
    | none => rw [et] at rn2; cases rn2
    | some S3 =>
      rw [et] at rn2
      have rn3 : ((b.run S3).bind fun o => match o with
        | .nx S2 => loop tg b (ds.drop (i + 1)) S2
        | .rt d S2 => some (.rt d S2)) = some o := rn2
      have rd' : Rp K Fz' H'' d x [] := by
        cases hn : noFs ds with
        | true => exact rd.noF (noFs_at hn ed)
        | false => exact rd.weak (zz hn)
      have gq := q.grow gr
      have gz : KeepZ Fz1 H1 H'' := ⟨fun a o z e => gr.kp a o (kz.1 a o z e), fun a xs e => gr.kp a _ (kz.2 a xs e)⟩
      refine tg_sound (K := K) tg (SPst.start [] [] gq.sr) rd' et fun σ2 fps2' q2 sub0 => ?_
      have sub : ∀ j a, a ∈ fps2' j → a ∈ fps' j := fun j a ha => by
        rw [sub0 j] at ha
        split at ha
        · cases ha
        · exact ha
      cases eb : b.run S3 with
      | none => rw [eb] at rn3; cases rn3
      | some o2 =>
        rw [eb] at rn3
        have q3 := gq.trans q2
        have pr2 : ∀ a, Fz1 a → ∀ j ∈ tg.slots ++ b.mt, a ∉ fps2' j := fun a za j hj hm => pr a za j hj (sub j a hm)
        refine ⟨Fz', lk, S3, fps2', o2, q2.sr, fun j hj => mw j (List.mem_append_right _ hj), eb, ?_⟩
        have sm : ∀ j ∈ ((n.mt ++ (tg.slots ++ b.mt)) ++ ([] ++ tg.slots)) ++ b.mt, j ∈ n.mt ++ (tg.slots ++ b.mt) := fun j hj => by
          simp only [List.mem_append, List.nil_append] at hj ⊢
          rcases hj with (hj | hj) | hj
          · exact hj
          · exact .inr (.inl hj)
          · exact .inr (.inr hj)
        have sw : ∀ j ∈ ((tg.slots ++ b.wr) ++ ([] ++ tg.slots)) ++ b.wr, j ∈ tg.slots ++ b.wr := fun j hj => by
          simp only [List.mem_append, List.nil_append] at hj ⊢
          rcases hj with (hj | hj) | hj
          · exact hj
          · exact .inl hj
          · exact .inr hj
        cases o2 with
        | nx S4 =>
          intro σ3 H3 Fz3 fps3 q4
          refine ⟨S4, Fz3, fps3, (q3.trans q4).wide sm sw, ⟨fun a o z e => q4.kp a o (gz.1 a o z e) fun j hj => pr2 a z j (List.mem_append_right _ hj), fun a xs e => q4.kp a _ (gz.2 a xs e) fun j hj hm => (q2.sr.live j a hm).2 xs (gz.2 a xs e)⟩, fun hn a z => q4.zz a (zz hn a z), fun a za j hj hm => ?_, rn3⟩
          rcases q4.fm j a hm with z | ⟨l, hl, z⟩ | z
          · exact pr2 a za j hj z
          · exact pr2 a za l (List.mem_append_right _ hl) z
          · obtain ⟨o', e'⟩ := p.za a za
            rw [gz.1 a o' za e'] at z
            cases z
        | rt d' S4 =>
          cases rn3
          exact fun v σ3 H3 Fz3 fps3 fp q4 z => w v σ3 H3 Fz3 fps3 fp ((q3.trans q4).wide sm sw) ((VO.trans q3 z).wide sm)
  · rintro σ' H' ⟨S', Fz', fps', q, kz, zz, pr, rn2⟩
    rw [List.drop_eq_nil_of_le (Nat.le_refl _)] at rn2
    cases rn2
    exact w σ' H' Fz' fps' q
theorem ss_for {X : Cx} {tg iter : Expr} {body : List Stmt} {t : Tg} {n : An} {b : Sn} {pos : Pos} (hp : PassesOwn (model X.prog X.w) X.A X.env X.xe) (hc : X.calm = true) (hi : SI X tg iter n) (hg : SG X tg t) (hb : SB X body b) (hd : dj n.vw (t.slots ++ b.mt) = true)
    (h : ∀ wi g tb, PI X tg iter wi → PG X tg g → PSs X body tb → PS X (.For tg iter body [] pos) (tFor wi g tb)) : SS X (.For tg iter body [] pos) (sFor t n b) :=
  PS.imp (h _ _ _ hi hg hb) fun _ _ _ q => for_sound hd q
end TW

/-! TW6: comprehensions; operations with plain answers. -/
namespace TW
open PySem PySem.Spec PyProof.Rows L2

def wipeS (vs : List Nat) (S : Stt) : Stt := S.mapIdx fun i o => if i ∈ vs then none else o
theorem wipeS_get (vs : List Nat) (S : Stt) (i : Nat) : (wipeS vs S)[i]? = S[i]?.map fun o => if i ∈ vs then none else o := by
  unfold wipeS
  rw [List.getElem?_mapIdx]
theorem wipeS_length (vs : List Nat) (S : Stt) : (wipeS vs S).length = S.length := by
  unfold wipeS
  rw [List.length_mapIdx]
theorem wipe_get (σ : L2.St) : ∀ (vs : List Nat) (i : Nat), (wipe σ vs)[i]? = if i ∈ vs then σ[i]?.map fun _ => none else σ[i]?
  | [], i => by simp [wipe]
  | v :: vs, i => by
    unfold wipe
    by_cases h : v = i
    · subst h
      rw [if_pos List.mem_cons_self]
      by_cases hl : v < σ.length
      · rw [List.getElem?_set_self (by rw [wipe_length]; exact hl), List.getElem?_eq_getElem hl]
        rfl
      · rw [List.getElem?_eq_none (by rw [List.length_set, wipe_length]; omega), List.getElem?_eq_none (by omega)]
        rfl
    · rw [List.getElem?_set_ne h, wipe_get σ vs i]
      have e : (i ∈ v :: vs) ↔ i ∈ vs := by
        rw [List.mem_cons]
        exact ⟨fun z => z.elim (fun z => (h z.symm).elim) id, .inr⟩
      by_cases h2 : i ∈ vs
      · rw [if_pos h2, if_pos (e.mpr h2)]
      · rw [if_neg h2, if_neg fun z => h2 (e.mp z)]
theorem wipe_ext {σ σ2 : L2.St} {vs : List Nat} (hl : σ2.length = σ.length) (h : ∀ i, i ∉ vs → σ2[i]? = σ[i]?) : wipe σ2 vs = wipe σ vs := by
  apply List.ext_getElem?
  intro i
  rw [wipe_get, wipe_get]
  by_cases hi : i ∈ vs
  · rw [if_pos hi, if_pos hi]
    by_cases hl2 : i < σ.length
    · rw [List.getElem?_eq_getElem hl2, List.getElem?_eq_getElem (by omega)]
      rfl
    · rw [List.getElem?_eq_none (by omega), List.getElem?_eq_none (by omega)]
  · rw [if_neg hi, if_neg hi, h i hi]
theorem SR.wipe {K Fz lk H σ S fps} (r : SR K Fz lk H σ S fps) (vs : List Nat) : SR K Fz lk H (L2.wipe σ vs) (wipeS vs S) (fun j => if j ∈ vs then [] else fps j) := by
  refine ⟨by rw [wipe_length, wipeS_length, r.len], fun i d e => ?_, fun i h => ?_, fun i j a hi hj => ?_, fun i => ?_, fun i a hi => ?_, r.za, fun i hi a ha => ?_⟩
  · rw [wipeS_get] at e
    by_cases hm : i ∈ vs
    · simp only [hm, if_true] at e
      cases e1 : S[i]? with
      | none => rw [e1] at e; cases e
      | some o => rw [e1] at e; cases e
    · simp only [hm, if_false] at e ⊢
      have e1 : S[i]? = some (some d) := by
        cases e1 : S[i]? with
        | none => rw [e1] at e; cases e
        | some o => rw [e1] at e; exact e
      obtain ⟨v, e2, q⟩ := r.rep i d e1
      exact ⟨v, by rw [wipe_get, if_neg hm]; exact e2, q⟩
  · by_cases hm : i ∈ vs
    · simp only [hm, if_true]
    · simp only [hm, if_false]
      refine r.emp i fun d e => h d ?_
      rw [wipeS_get, e]
      simp only [hm, if_false, Option.map_some]
  · by_cases hm : i ∈ vs
    · simp only [hm, if_true] at hi; cases hi
    · by_cases hn : j ∈ vs
      · simp only [hn, if_true] at hj; cases hj
      · simp only [hm, if_false] at hi
        simp only [hn, if_false] at hj
        exact r.dis i j a hi hj
  · by_cases hm : i ∈ vs
    · simp only [hm, if_true]; exact List.nodup_nil
    · simp only [hm, if_false]; exact r.nd i
  · by_cases hm : i ∈ vs
    · simp only [hm, if_true] at hi; cases hi
    · simp only [hm, if_false] at hi; exact r.nf i a hi
  · by_cases hm : i ∈ vs
    · simp only [hm, if_true] at ha; cases ha
    · simp only [hm, if_false] at ha; exact r.nl i hi a ha
theorem setAll_get : ∀ {is : List Nat} {ds : List D} {S S' : Stt}, setAll is ds S = some S' → S'.length = S.length ∧ ∀ j, j ∉ is → S'[j]? = S[j]?
  | [], [], S, S', h => by cases h; exact ⟨rfl, fun _ _ => rfl⟩
  | [], _ :: _, _, _, h => by cases h
  | _ :: _, [], _, _, h => by cases h
  | i :: is, d :: ds, S, S', h => by
    have h : (if i < S.length then setAll is ds (S.set i (some d)) else none) = some S' := h
    split at h
    · obtain ⟨h1, h2⟩ := setAll_get h
      refine ⟨by rw [h1, List.length_set], fun j hj => ?_⟩
      rw [h2 j fun z => hj (List.mem_cons_of_mem _ z), List.getElem?_set_ne fun e => hj (by rw [e]; exact List.mem_cons_self)]
    · cases h
theorem tgSet_get {tg : Tg} {d : D} {S S' : Stt} (h : tgSet tg d S = some S') : S'.length = S.length ∧ ∀ j, j ∉ tg.slots → S'[j]? = S[j]? := by
  cases tg with
  | nm i =>
    have h : (if i < S.length then some (S.set i (some d)) else none) = some S' := h
    obtain ⟨hi, rfl⟩ := if_some h
    exact ⟨List.length_set, fun j hj => List.getElem?_set_ne fun e => hj (by rw [e]; exact List.mem_cons_self)⟩
  | tp is =>
    cases d with
    | tup ds => exact setAll_get h
    | _ => cases h
def compL (tg : Tg) (c : Tn) (e : En) : List D → Stt → Option (List D × Stt)
  | [], S => some ([], S)
  | d :: ds, S => (tgSet tg d S).bind fun S1 => (c.run S1).bind fun p => if p.1 then (e.run p.2).bind fun q => (compL tg c e ds (wipeS tg.slots q.2)).bind fun r => some (frz q.1 :: r.1, r.2) else compL tg c e ds (wipeS tg.slots p.2)
def mergeS (mt vs : List Nat) (S1 S' : Stt) : Option Stt := if mt.all fun i => match S'[i]? with
    | some (some t) => noF t
    | _ => true then some (S1.mapIdx fun i o => if i ∈ vs then none else if i ∈ mt then (S'[i]?).getD none else o) else none
def less (a b : List Nat) : List Nat := a.filter fun i => decide (i ∉ b)
theorem mem_less {a b : List Nat} {i : Nat} : i ∈ less a b ↔ i ∈ a ∧ i ∉ b := by
  unfold less
  rw [List.mem_filter, decide_eq_true_iff]
def eComp (tg : Tg) (n : An) (c : Tn) (e : En) : En := ⟨n.vw ++ less e.vw tg.slots, n.mt ++ (tg.slots ++ (c.mt ++ e.mt)), fun S => (n.run S).bind fun p => if p.1.length ≤ 100000 then (compL tg c e p.1 (frzAt n.vw (wipeS tg.slots p.2))).bind fun q => (mergeS (c.mt ++ e.mt) tg.slots p.2 q.2).bind fun S2 => some (.lst true q.1, S2) else none⟩
theorem Pst.growG {K} {RP : (Addr → Prop) → Hp → List Addr → Prop} {vw mt : List Nat} {Fz lk H σ S fps S1 H1 Fz1 fps1 fp1 H2} (m : Mono RP) (p : Pst K RP vw mt Fz lk H σ S fps S1 H1 Fz1 fps1 fp1) (g : Grow H1 H2) : Pst K RP vw mt Fz lk H σ S fps S1 H2 Fz1 fps1 fp1 := by
  rcases g with rfl | ⟨T, xs, h, rfl⟩
  · exact p
  · exact p.grow m h id
theorem Pst.unbind {K} {RP : (Addr → Prop) → Hp → List Addr → Prop} {vw mt vs : List Nat} {Fz lk H σw σ2 S' S3 fps S5 H5 Fz5 fps5 fp} (p : Pst K RP vw mt Fz lk H σ2 S3 fps S5 H5 Fz5 fps5 fp) (hv : ∀ j ∈ vs, fps j = []) (hm : ∀ j ∈ vs, j ∉ mt)
    (hσ : σ2.length = σw.length) (hs : ∀ i, i ∉ vs → σ2[i]? = σw[i]?) (hS : ∀ i, i ∉ vs → S3[i]? = S'[i]?) : Pst K RP (less vw vs) (vs ++ mt) Fz lk H σw S' fps (wipeS vs S5) H5 Fz5 fps5 fp := by
  have f5 : ∀ j ∈ vs, fps5 j = [] := fun j hj => by rw [(p.fs j (hm j hj)).1]; exact hv j hj
  refine ⟨⟨?_, fun i d e => ?_, fun i h => ?_, p.sr.dis, p.sr.nd, p.sr.nf, p.sr.za, p.sr.nl⟩, p.rp, p.zz, fun a z => ?_, p.za, p.nd, p.nz, p.fv, p.fd, fun a ha => (p.fo a ha).imp id fun ⟨i, hi, w⟩ => ⟨i, List.mem_append_right _ hi, w⟩, p.fl, fun a o e h => p.kp a o e fun i hi => h i (List.mem_append_right _ hi), p.dm, fun i hi => ?_, fun i a ha => (p.fm i a ha).imp id (Or.imp (fun ⟨l, hl, w⟩ => ⟨l, List.mem_append_right _ hl, w⟩) id)⟩
  · rw [wipeS_length, ← p.sr.len, hσ]
  · rw [wipeS_get] at e
    by_cases hi : i ∈ vs
    · simp only [hi, if_true] at e
      cases e1 : S5[i]? with
      | none => rw [e1] at e; cases e
      | some o => rw [e1] at e; cases e
    · simp only [hi, if_false] at e
      have e1 : S5[i]? = some (some d) := by
        cases e1 : S5[i]? with
        | none => rw [e1] at e; cases e
        | some o => rw [e1] at e; exact e
      obtain ⟨v, e2, q⟩ := p.sr.rep i d e1
      exact ⟨v, by rw [← hs i hi]; exact e2, q⟩
  · by_cases hi : i ∈ vs
    · exact f5 i hi
    · refine p.sr.emp i fun d e => h d ?_
      rw [wipeS_get, e]
      simp only [hi, if_false, Option.map_some]
  · rcases p.zo a z with z | z | ⟨i, hi, z⟩
    · exact .inl z
    · exact .inr (.inl ⟨z.1.imp id fun ⟨i, hi, w⟩ => ⟨i, List.mem_append_right _ hi, w⟩, z.2⟩)
    · refine .inr (.inr ⟨i, mem_less.mpr ⟨hi, fun w => ?_⟩, z⟩)
      rw [f5 i w] at z; cases z
  · have h1 : i ∉ vs := fun z => hi (List.mem_append_left _ z)
    have h2 := p.fs i fun z => hi (List.mem_append_right _ z)
    refine ⟨h2.1, ?_⟩
    rw [wipeS_get, h2.2, hS i h1]
    cases S'[i]? with
    | none => rfl
    | some o => simp only [h1, if_false, Option.map_some]
/-- a value goes onto the list that grows -/
theorem Pst.push {K} {vw mt : List Nat} {Fz lk H σ S fps S1 H1 Fz1 fps1 fp} {L : Addr} {ds : List D} {y : D} {v : V} (p : Pst K (fun Fz H fp => ∃ f g, fp = f ++ g ∧ (Rp K Fz H (.lst true ds) (.ref L) f ∧ f = [L]) ∧ Rp K Fz H y v g) vw mt Fz lk H σ S fps S1 H1 Fz1 fps1 fp) :
    ∃ acc, H1 L = some (.lst acc) ∧ acc.length = ds.length ∧ Pst K (fun Fz H fp => Rp K Fz H (.lst true (ds ++ [frz y])) (.ref L) fp ∧ fp = [L]) vw mt Fz lk H σ S fps S1 (upd H1 L (.lst (acc ++ [v]))) (fun a => Fz1 a ∨ (a ∈ fp ∧ a ≠ L)) fps1 [L] := by
  obtain ⟨f, g, rfl, ⟨r, rfl⟩, q⟩ := p.rp
  unfold Rp at r
  obtain ⟨a, acc, fp', e1, hL, e2, rs⟩ := r
  cases e1
  have e3 : fp' = [] := by
    have := e2
    simp only [List.cons.injEq] at this
    exact this.2.symm
  subst e3
  have hLm : L ∈ [L] ++ g := List.mem_append_left _ List.mem_cons_self
  have hLz : ¬ Fz1 L := p.nz L hLm
  have hLg : L ∉ g := fun z => (List.nodup_append.mp p.nd).2.2 L List.mem_cons_self L z rfl
  have keep : ∀ b o, b ≠ L → H1 b = some o → upd H1 L (.lst (acc ++ [v])) b = some o := fun b o hb e => by rw [upd_ne hb]; exact e
  have notL : ∀ j, L ∉ fps1 j := p.fd L hLm
  refine ⟨acc, hL, Rps.length rs, ?_⟩
  have tk : ∀ b xs, H1 b = some (.tup xs) → upd H1 L (.lst (acc ++ [v])) b = some (.tup xs) := fun b xs e => keep b _ (fun z => by rw [z, hL] at e; cases e) e
  have append : ∀ (ds : List D) (vs : List V) (y : D) (v : V) (Fz : Addr → Prop) (H : Hp), Rps K Fz H ds vs [] → Rp K Fz H y v [] → Rps K Fz H (ds ++ [y]) (vs ++ [v]) [] := by
    intro ds
    induction ds with
    | nil =>
      intro vs y v Fz H h1 h2
      unfold Rps at h1
      rw [h1.1]
      show Rps K Fz H [y] [v] []
      unfold Rps
      exact ⟨v, [], [], [], rfl, rfl, h2, by unfold Rps; exact ⟨rfl, rfl⟩⟩
    | cons d ds ih =>
      intro vs y v Fz H h1 h2
      obtain ⟨w, ws, rfl, r1, r2⟩ := rps_cons h1
      show Rps K Fz H (d :: (ds ++ [y])) (w :: (ws ++ [v])) []
      unfold Rps
      exact ⟨w, ws ++ [v], [], [], rfl, rfl, r1, ih ws y v Fz H r2 h2⟩
  have rp : Rps K (fun a => Fz1 a ∨ (a ∈ [L] ++ g ∧ a ≠ L)) (upd H1 L (.lst (acc ++ [v]))) (ds ++ [frz y]) (acc ++ [v]) [] := by
    refine append _ _ _ _ _ _ ?_ ?_
    · exact rs.mono (fun _ z => .inl z) tk (fun b xs z e => keep b _ (fun w => by subst w; exact z.elim hLz (fun z => nomatch z)) e) fun b u z r => rd_keep r fun o e => keep b o (fun w => by subst w; exact z.elim hLz (fun z => nomatch z)) e
    · have q2 := q.mono (Fz' := Fz1) (H' := upd H1 L (.lst (acc ++ [v]))) (fun _ z => z) tk (fun b xs z e => keep b _ (fun w => by subst w; exact z.elim hLz hLg) e) (fun b u z r => rd_keep r fun o e => keep b o (fun w => by subst w; exact z.elim hLz hLg) e)
      exact q2.frz (fun _ z => .inl z) fun b hb => .inr ⟨List.mem_append_right _ hb, fun w => hLg (w ▸ hb)⟩
  have srk : SR K Fz lk (upd H1 L (.lst (acc ++ [v]))) σ S1 fps1 := by
    refine ⟨p.sr.len, fun i d e => ?_, p.sr.emp, p.sr.dis, p.sr.nd, p.sr.nf, fun b z => ?_, fun i hi b hb o u => ?_⟩
    · obtain ⟨w, e2, r⟩ := p.sr.rep i d e
      have nb : ∀ b, Fz b ∨ b ∈ fps1 i → b ≠ L := fun b z w => by
        subst w
        exact z.elim (fun z => hLz (p.zz _ z)) (notL i)
      exact ⟨w, e2, r.mono (fun _ z => z) tk (fun b xs z e => keep b _ (nb b z) e) fun b u z r => rd_keep r fun o e => keep b o (nb b z) e⟩
    · obtain ⟨o, e⟩ := p.sr.za b z
      exact ⟨o, keep b o (fun w => by subst w; exact hLz (p.zz _ z)) e⟩
    · rw [upd_ne fun w => by subst w; exact notL i hb]
      exact p.sr.nl i hi b hb o u
  refine ⟨srk, ⟨by unfold Rp; exact ⟨L, acc ++ [v], [], rfl, upd_same, rfl, rp⟩, rfl⟩, fun a z => .inl (p.zz a z), fun a z => ?_, fun a z => ?_, by simp, fun a ha => ?_, fun a ha => ?_, fun a ha j => ?_, fun a ha => ?_, fun a ha o u => ?_, fun a o e h => ?_, fun a e => ?_, p.fs, p.fm⟩
  · rcases z with z | ⟨z, _⟩
    · exact p.zo a z
    · exact .inr (.inl ⟨p.fo a z, p.fd a z⟩)
  · by_cases w : a = L
    · rw [w]; exact ⟨_, upd_same⟩
    · obtain ⟨o, e⟩ : ∃ o, H1 a = some o := z.elim (p.za a) fun z => p.fv a z.1
      exact ⟨o, keep a o w e⟩
  · have e : a = L := by simpa using ha
    subst e
    exact fun z => z.elim hLz fun z => z.2 rfl
  · have e : a = L := by simpa using ha
    subst e
    exact ⟨_, upd_same⟩
  · have e : a = L := by simpa using ha
    subst e
    exact notL j
  · have e : a = L := by simpa using ha
    subst e
    exact p.fo a hLm
  · have e : a = L := by simpa using ha
    subst e
    rw [upd_same]
    intro z
    cases z
  · have e1 := p.kp a o e h
    by_cases w : a = L
    · subst w
      rcases p.fo a hLm with z | ⟨i, hi, z⟩
      · rw [z] at e; cases e
      · exact (h i hi z).elim
    · exact keep a o w e1
  · by_cases w : a = L
    · rw [w, upd_same] at e; cases e
    · rw [upd_ne w] at e; exact p.dm a e
theorem mono_list {K : PySem.W.Frag} {d : D} {v : V} {f0 : List Addr} : Mono fun Fz H fp => Rp K Fz H d v fp ∧ fp = f0 := fun _ _ _ _ _ h a b c e => ⟨h.1.mono a b c e, h.2⟩
theorem mergeS_ok {mt vs : List Nat} {S1 S' S2 : Stt} (h : mergeS mt vs S1 S' = some S2) : S2.length = S1.length ∧ (∀ i ∈ mt, ∀ t, S'[i]? = some (some t) → noF t = true) ∧ ∀ i, S2[i]? = S1[i]?.map fun o => if i ∈ vs then none else if i ∈ mt then (S'[i]?).getD none else o := by
  unfold mergeS at h
  obtain ⟨h1, rfl⟩ := if_some h
  refine ⟨List.length_mapIdx, fun i hi t e => ?_, fun i => List.getElem?_mapIdx⟩
  have h2 := List.all_eq_true.mp h1 i hi
  rw [e] at h2
  exact h2
theorem comp_sound {K : PySem.W.Frag} {tg : Tg} {n : An} {c : Tn} {e : En} {vs : List Nat} (hvs : ∀ i, i ∈ vs ↔ i ∈ tg.slots) (d1 : dj n.vw (tg.slots ++ (c.mt ++ e.mt)) = true) (d2 : dj e.vw (c.mt ++ e.mt) = true) (d3 : dj tg.slots (c.mt ++ e.mt) = true) {σ : L2.St} {H : Hp} {Q : VK} (h : tD K (eComp tg n c e) σ H Q) :
    tLc (tI K n) (gOf K tg) (tT K c) (tD K e) vs σ H Q := by
  obtain ⟨Fz, lk, S, fps, d, S2, p, k⟩ := h
  have rn : ((n.run S).bind fun p => if p.1.length ≤ 100000 then (compL tg c e p.1 (frzAt n.vw (wipeS tg.slots p.2))).bind fun q => (mergeS (c.mt ++ e.mt) tg.slots p.2 q.2).bind fun S2 => some (.lst true q.1, S2) else none) = some (d, S2) := p.rn
  cases e1 : n.run S with
  | none => rw [e1] at rn; cases rn
  | some z =>
    obtain ⟨ds, S1⟩ := z
    rw [e1] at rn
    have rn : (if ds.length ≤ 100000 then (compL tg c e ds (frzAt n.vw (wipeS tg.slots S1))).bind fun q => (mergeS (c.mt ++ e.mt) tg.slots S1 q.2).bind fun S2 => some (D.lst true q.1, S2) else none) = some (d, S2) := rn
    have hlen : ds.length ≤ 100000 := by
      apply Classical.byContradiction
      intro z
      rw [if_neg z] at rn
      cases rn
    rw [if_pos hlen] at rn
    cases e2 : compL tg c e ds (frzAt n.vw (wipeS tg.slots S1)) with
    | none => rw [e2] at rn; cases rn
    | some z =>
      obtain ⟨ys, Sb'⟩ := z
      rw [e2] at rn
      have rn : ((mergeS (c.mt ++ e.mt) tg.slots S1 Sb').bind fun S2 => some (D.lst true ys, S2)) = some (d, S2) := rn
      cases e3 : mergeS (c.mt ++ e.mt) tg.slots S1 Sb' with
      | none => rw [e3] at rn; cases rn
      | some S2' =>
        rw [e3] at rn
        cases rn
        obtain ⟨m1, m2, m3⟩ := mergeS_ok e3
        have ml : ∀ i ∈ tg.slots ++ (c.mt ++ e.mt), ¬ lk i := fun i hi => p.ml i (List.mem_append_right _ hi)
        refine ⟨Fz, lk, S, fps, ds, S1, ⟨p.sr, fun i hi => p.ml i (List.mem_append_left _ hi), e1⟩, fun J H1 Fz1 fps1 p1 it L hL => ?_⟩
        -- the block's store
        have hσw : ∀ i, i ∉ tg.slots → (wipe σ vs)[i]? = σ[i]? := fun i hi => by rw [wipe_get, if_neg fun z => hi ((hvs i).mp z)]
        have srw := p1.sr.wipe tg.slots
        have ewv : wipe σ tg.slots = wipe σ vs := by
          apply List.ext_getElem?
          intro i
          rw [wipe_get, wipe_get]
          by_cases hi : i ∈ vs
          · rw [if_pos hi, if_pos ((hvs i).mp hi)]
          · rw [if_neg hi, if_neg fun z => hi ((hvs i).mpr z)]
        rw [ewv] at srw
        have srb0 := srw.give (vw := n.vw) p1.zz p1.za (fun _ _ _ _ => .inr trivial) fun a z => by
          rcases p1.zo a z with z | z | ⟨i, hi, z⟩
          · exact .inl z
          · refine .inr (.inl fun j hj => ?_)
            by_cases hm : j ∈ tg.slots
            · simp only [hm, if_true] at hj; cases hj
            · simp only [hm, if_false] at hj; exact z.2 j hj
          · have hm : i ∉ tg.slots := fun w => dj_ok d1 i hi (List.mem_append_left _ w)
            exact .inr (.inr ⟨i, hi, by simp only [hm, if_false]; exact z⟩)
        generalize hFb : (fun a => Fz1 a ∨ ∃ i ∈ n.vw, a ∈ (if i ∈ tg.slots then [] else fps1 i)) = Fzb at srb0
        generalize hfb : (fun j => if j ∈ n.vw then [] else if j ∈ tg.slots then [] else fps1 j) = fpsb at srb0
        have Fb1 : ∀ a, Fz1 a → Fzb a := fun a z => by rw [← hFb]; exact .inl z
        have Fbo : ∀ a, Fzb a → Fz1 a ∨ ∃ i ∈ n.vw, a ∈ fps1 i := fun a z => by
          rw [← hFb] at z
          rcases z with z | ⟨i, hi, z⟩
          · exact .inl z
          · by_cases hm : i ∈ tg.slots
            · simp only [hm, if_true] at z; cases z
            · simp only [hm, if_false] at z; exact .inr ⟨i, hi, z⟩
        have fbs : ∀ j a, a ∈ fpsb j → a ∈ fps1 j ∧ j ∉ tg.slots ∧ j ∉ n.vw := fun j a ha => by
          rw [← hfb] at ha
          by_cases h1 : j ∈ n.vw
          · simp only [h1, if_true] at ha; cases ha
          · by_cases h2 : j ∈ tg.slots
            · simp only [h1, h2, if_true, if_false] at ha; cases ha
            · simp only [h1, h2, if_false] at ha; exact ⟨ha, h2, h1⟩
        have fbe : ∀ j, j ∉ tg.slots → j ∉ n.vw → fpsb j = fps1 j := fun j h1 h2 => by rw [← hfb]; simp only [h1, h2, if_false]
        have fbv : ∀ j ∈ tg.slots, fpsb j = [] := fun j hj => by
          cases q : fpsb j with
          | nil => rfl
          | cons a r => exact ((fbs j a (by rw [q]; exact List.mem_cons_self)).2.1 hj).elim
        have start : Pst K (fun Fz H fp => Rp K Fz H (.lst true []) (.ref L) fp ∧ fp = [L]) (less e.vw tg.slots) (tg.slots ++ (c.mt ++ e.mt)) Fzb lk H1 (wipe σ vs) (frzAt n.vw (wipeS tg.slots S1)) fpsb (frzAt n.vw (wipeS tg.slots S1)) (upd H1 L (.lst [])) Fzb fpsb [L] :=
          (Pst.start (RP := fun _ _ fp => fp = []) srb0 rfl).grow1 mono_tt hL (fun _ _ z => by cases z) fun e => by
            refine ⟨?_, rfl⟩
            unfold Rp
            exact ⟨L, [], [], rfl, upd_same, rfl, by unfold Rps; exact ⟨rfl, rfl⟩⟩
        have kz : ∀ {accD : List D} {S' H' Fz' fps'}, Pst K (fun Fz H fp => Rp K Fz H (.lst true accD) (.ref L) fp ∧ fp = [L]) (less e.vw tg.slots) (tg.slots ++ (c.mt ++ e.mt)) Fzb lk H1 (wipe σ vs) (frzAt n.vw (wipeS tg.slots S1)) fpsb S' H' Fz' fps' [L] → KeepZ Fz1 H1 H' := fun q =>
          ⟨fun a o z e => q.kp a o e fun i _ w => srb0.nf i a w (Fb1 a z), fun a xs e => q.kp a _ e fun i _ w => (srb0.live i a w).2 xs e⟩
        refine lc_it it (fun i H' => ∃ accD ysr S' Fz' fps', Pst K (fun Fz H fp => Rp K Fz H (.lst true accD) (.ref L) fp ∧ fp = [L]) (less e.vw tg.slots) (tg.slots ++ (c.mt ++ e.mt)) Fzb lk H1 (wipe σ vs) (frzAt n.vw (wipeS tg.slots S1)) fpsb S' H' Fz' fps' [L] ∧
          compL tg c e (ds.drop i) S' = some (ysr, Sb') ∧ ys = accD ++ ysr ∧ accD.length ≤ i ∧ ∀ j ∈ tg.slots, fps' j = []) ?_ ?_ ?_ ?_
        · exact ⟨[], ys, _, Fzb, fpsb, start, e2, rfl, Nat.le_refl _, fbv⟩
        · rintro i H' hi ⟨accD, ysr, S', Fz', fps', q, _⟩
          exact kz q
        · rintro i x H' H'' hi ⟨accD, ysr, S', Fz', fps', q, rn2, eys, hac, hfv⟩ ⟨d0, ed, rd, gr⟩
          have e4 : ds.drop i = d0 :: ds.drop (i + 1) := by
            rw [List.drop_eq_getElem_cons hi]
            have e4 : ds[i]? = some ds[i] := List.getElem?_eq_getElem hi
            rw [e4] at ed
            rw [Option.some.inj ed]
          rw [e4] at rn2
          have rn2 : ((tgSet tg d0 S').bind fun S1 => (c.run S1).bind fun p => if p.1 then (e.run p.2).bind fun q => (compL tg c e (ds.drop (i + 1)) (wipeS tg.slots q.2)).bind fun r => some (frz q.1 :: r.1, r.2) else compL tg c e (ds.drop (i + 1)) (wipeS tg.slots p.2)) = some (ysr, Sb') := rn2
          cases et : tgSet tg d0 S' with
          | none => rw [et] at rn2; cases rn2
          | some S3 =>
            rw [et] at rn2
            have rn2 : ((c.run S3).bind fun p => if p.1 then (e.run p.2).bind fun q => (compL tg c e (ds.drop (i + 1)) (wipeS tg.slots q.2)).bind fun r => some (frz q.1 :: r.1, r.2) else compL tg c e (ds.drop (i + 1)) (wipeS tg.slots p.2)) = some (ysr, Sb') := rn2
            have qg := q.growG mono_list gr
            refine tg_sound (K := K) tg (SPst.start [] [] qg.sr) (rd.weak Fb1) et fun σ2 fps2 q2 hf2 => ?_
            obtain ⟨tl, tgt⟩ := tgSet_get et
            have f2e : fps2 = fps' := by
              funext j
              rw [hf2 j]
              by_cases hj : j ∈ tg.slots
              · rw [if_pos hj, hfv j hj]
              · rw [if_neg hj]
            rw [f2e] at q2
            have hσl : σ2.length = (wipe σ vs).length := by rw [q2.sr.len, tl, qg.sr.len]
            have hσg : ∀ j, j ∉ tg.slots → σ2[j]? = (wipe σ vs)[j]? := fun j hj => q2.sg j (by simpa using hj)
            refine ⟨?_, ?_⟩
            · have e5 : wipe σ2 vs = wipe (wipe σ vs) vs := wipe_ext hσl fun j hj => hσg j fun z => hj ((hvs j).mpr z)
              have e6 : wipe (wipe σ vs) vs = wipe σ vs := wipe_ext (wipe_length _ _) fun j hj => by rw [wipe_get, if_neg hj]
              rw [e5, e6]
            cases ec : c.run S3 with
            | none => rw [ec] at rn2; cases rn2
            | some z =>
              obtain ⟨t, S4⟩ := z
              rw [ec] at rn2
              refine ⟨Fzb, lk, S3, fps', t, S4, ⟨q2.sr, fun j hj => ml j (List.mem_append_right _ (List.mem_append_left _ hj)), ec⟩, fun H3 Fz3 fps3 pc => ?_⟩
              have unb : ∀ {RP : (Addr → Prop) → Hp → List Addr → Prop} {vw mt : List Nat} {S5 H5 Fz5 fps5 fp}, Pst K RP vw mt Fzb lk H'' σ2 S3 fps' S5 H5 Fz5 fps5 fp → (∀ j ∈ mt, j ∈ c.mt ++ e.mt) → Pst K RP (less vw tg.slots) (tg.slots ++ mt) Fzb lk H'' (wipe σ vs) S' fps' (wipeS tg.slots S5) H5 Fz5 fps5 fp ∧ ∀ j ∈ tg.slots, fps5 j = [] := by
                intro RP vw mt S5 H5 Fz5 fps5 fp pp hm
                have hm2 : ∀ j ∈ tg.slots, j ∉ mt := fun j hj z => dj_ok d3 j hj (hm j z)
                exact ⟨pp.unbind hfv hm2 hσl hσg tgt, fun j hj => by rw [(pp.fs j (hm2 j hj)).1]; exact hfv j hj⟩
              cases t with
              | false =>
                have rn3 : compL tg c e (ds.drop (i + 1)) (wipeS tg.slots S4) = some (ysr, Sb') := rn2
                refine iteF ?_
                obtain ⟨u1, u2⟩ := unb (pc.drop (vw' := [])) fun j hj => List.mem_append_left _ hj
                have u1' : Pst K (fun _ _ fp => fp = []) [] (tg.slots ++ c.mt) Fzb lk H'' (wipe σ vs) S' fps' (wipeS tg.slots S4) H3 Fzb fps3 [] := u1.drop
                have s1 := (Pst.seq mono_list mono_tt qg u1' fun j hj z => by
                  obtain ⟨y1, y2⟩ := mem_less.mp hj
                  rcases List.mem_append.mp z with z | z
                  · exact y2 z
                  · exact dj_ok d2 j y1 (List.mem_append_left _ z)).imp (RP' := fun Fz H fp => Rp K Fz H (.lst true accD) (.ref L) fp ∧ fp = [L]) fun ⟨f, g, e5, r, hg⟩ => by
                    subst hg
                    have e6 : f = [L] := r.2
                    rw [e6] at r
                    rw [List.append_nil]
                    exact ⟨r.1, rfl⟩
                rw [List.append_nil, List.append_nil] at s1
                refine ⟨accD, ysr, _, _, fps3, s1.widen (fun j hj => hj) (fun j hj => ?_), rn3, eys, Nat.le_succ_of_le hac, u2⟩
                simp only [List.mem_append] at hj ⊢
                rcases hj with hj | hj | hj
                · exact hj
                · exact .inl hj
                · exact .inr (.inl hj)
              | true =>
                have rn3 : ((e.run S4).bind fun q => (compL tg c e (ds.drop (i + 1)) (wipeS tg.slots q.2)).bind fun r => some (frz q.1 :: r.1, r.2)) = some (ysr, Sb') := rn2
                refine iteT ?_
                cases ee : e.run S4 with
                | none => rw [ee] at rn3; cases rn3
                | some z =>
                  obtain ⟨y, S5⟩ := z
                  rw [ee] at rn3
                  have rn3 : ((compL tg c e (ds.drop (i + 1)) (wipeS tg.slots S5)).bind fun r => some (frz y :: r.1, r.2)) = some (ysr, Sb') := rn3
                  cases er : compL tg c e (ds.drop (i + 1)) (wipeS tg.slots S5) with
                  | none => rw [er] at rn3; cases rn3
                  | some z =>
                    obtain ⟨ysr2, Sb2⟩ := z
                    rw [er] at rn3
                    cases rn3
                    refine ⟨Fzb, lk, S4, fps3, y, S5, ⟨pc.sr, fun j hj => ml j (List.mem_append_right _ (List.mem_append_right _ hj)), ee⟩, fun v H4 Fz4 fps4 fp4 pe => ?_⟩
                    have pce := Pst.then mono_rp pc pe
                    have pce2 : Pst K (fun Fz H fp => Rp K Fz H y v fp) e.vw (c.mt ++ e.mt) Fzb lk H'' σ2 S3 fps' S5 H4 (fun a => Fzb a ∨ Fz4 a) fps4 fp4 := by
                      refine ⟨pce.sr, pce.rp, pce.zz, fun a z => ?_, pce.za, pce.nd, pce.nz, pce.fv, pce.fd, pce.fo, pce.fl, pce.kp, pce.dm, pce.fs, pce.fm⟩
                      rcases z with z | z
                      · exact .inl z
                      · rcases pe.zo a z with z | z | z
                        · exact .inl z
                        · refine .inr (.inl ⟨?_, z.2⟩)
                          rcases z.1 with w | ⟨l, hl, w⟩
                          · exact .inl (pc.dm a w)
                          · rcases pc.fm l a w with w | ⟨m, hm, w⟩ | w
                            · exact .inr ⟨l, List.mem_append_right _ hl, w⟩
                            · exact .inr ⟨m, List.mem_append_left _ hm, w⟩
                            · exact .inl w
                        · exact .inr (.inr z)
                    obtain ⟨u1, u2⟩ := unb pce2 fun j hj => hj
                    have s1 := Pst.seq mono_list mono_rp qg u1 fun j hj z => by
                      obtain ⟨y1, y2⟩ := mem_less.mp hj
                      rcases List.mem_append.mp z with z | z
                      · exact y2 z
                      · exact dj_ok d2 j y1 z
                    obtain ⟨acc, ha, hal, s2⟩ := s1.push
                    refine ⟨acc, ha, ?_, accD ++ [frz y], ysr2, _, _, fps4, s2.widen (fun j hj => (List.mem_append.mp hj).elim id id) (fun j hj => (List.mem_append.mp hj).elim id id), er, ?_, ?_, u2⟩
                    · rw [hal]
                      exact Nat.lt_of_lt_of_le (Nat.lt_of_le_of_lt hac (Nat.lt_of_lt_of_le hi hlen)) (by decide)
                    · rw [eys, List.append_assoc]; rfl
                    · rw [List.length_append]; exact Nat.succ_le_succ hac
        · rintro H' ⟨accD, ysr, S', Fz', fps', q, rn2, eys, hac, hfv⟩
          rw [List.drop_eq_nil_of_le (Nat.le_refl _)] at rn2
          cases rn2
          rw [List.append_nil] at eys
          subst eys
          -- behind the block
          have MTs : ∀ j, j ∈ c.mt ++ e.mt → j ∉ tg.slots := fun j hj z => dj_ok d3 j z hj
          have live1 : ∀ j a, a ∈ fps1 j → ¬ H1 a = none := fun j a ha e => by
            obtain ⟨⟨u, e'⟩, _⟩ := p1.sr.live j a ha
            rw [e] at e'; cases e'
          have inM : ∀ j a, a ∈ fps' j → (∃ l, l ∈ tg.slots ++ (c.mt ++ e.mt) ∧ a ∈ fps1 l) ∨ H1 a = none ∨ a ∈ fpsb j := fun j a ha => by
            rcases q.fm j a ha with z | ⟨l, hl, z⟩ | z
            · exact .inr (.inr z)
            · exact .inl ⟨l, hl, (fbs l a z).1⟩
            · exact .inr (.inl z)
          let fps2 : Nat → List Addr := fun j => if j ∈ tg.slots then [] else if j ∈ c.mt ++ e.mt then fps' j else fps1 j
          have in2 : ∀ j a, a ∈ fps2 j → j ∉ tg.slots ∧ (j ∈ c.mt ++ e.mt ∧ a ∈ fps' j ∨ j ∉ c.mt ++ e.mt ∧ a ∈ fps1 j) := fun j a ha => by
            by_cases h1 : j ∈ tg.slots
            · have : fps2 j = [] := if_pos h1
              rw [this] at ha; cases ha
            · by_cases h2 : j ∈ c.mt ++ e.mt
              · have : fps2 j = fps' j := (if_neg h1).trans (if_pos h2)
                rw [this] at ha; exact ⟨h1, .inl ⟨h2, ha⟩⟩
              · have : fps2 j = fps1 j := (if_neg h1).trans (if_neg h2)
                rw [this] at ha; exact ⟨h1, .inr ⟨h2, ha⟩⟩
          have f2n : ∀ j, j ∉ tg.slots → j ∉ c.mt ++ e.mt → fps2 j = fps1 j := fun j h1 h2 => (if_neg h1).trans (if_neg h2)
          have f2m : ∀ j, j ∈ c.mt ++ e.mt → fps2 j = fps' j := fun j h2 => (if_neg (MTs j h2)).trans (if_pos h2)
          have keep : ∀ a o, H1 a = some o → (Fz a ∨ ∃ j, j ∉ tg.slots ∧ j ∉ c.mt ++ e.mt ∧ a ∈ fps1 j) → H' a = some o := fun a o e h => q.kp a o e fun i hi w => by
            have w1 := (fbs i a w).1
            rcases h with h | ⟨j, h1, h2, h3⟩
            · exact p1.sr.nf i a w1 h
            · have := p1.sr.dis i j a w1 h3
              subst this
              rcases List.mem_append.mp hi with hi | hi
              · exact h1 hi
              · exact h2 hi
          have tupk : ∀ a xs, H1 a = some (.tup xs) → H' a = some (.tup xs) := fun a xs e => q.kp a _ e fun i _ w => (p1.sr.live i a (fbs i a w).1).2 xs e
          have sr2 : SR K Fz lk H' σ S2 fps2 := by
            refine ⟨p1.sr.len.trans m1.symm, fun j t e5 => ?_, fun j h => ?_, fun i j a hi hj => ?_, fun j => ?_, fun j a hj z => ?_, fun a z => ?_, fun j hj a ha o' u => ?_⟩
            · rw [m3 j] at e5
              by_cases h1 : j ∈ tg.slots
              · simp only [h1, if_true] at e5
                cases e6 : S1[j]? with
                | none => rw [e6] at e5; cases e5
                | some o => rw [e6] at e5; cases e5
              · by_cases h2 : j ∈ c.mt ++ e.mt
                · simp only [h1, h2, if_true, if_false] at e5
                  have e7 : Sb'[j]? = some (some t) := by
                    cases e6 : S1[j]? with
                    | none => rw [e6] at e5; cases e5
                    | some o =>
                      rw [e6] at e5
                      cases e8 : Sb'[j]? with
                      | none => rw [e8] at e5; cases e5
                      | some o2 => rw [e8] at e5; exact e5
                  obtain ⟨w, ew, rr⟩ := q.sr.rep j t e7
                  rw [hσw j h1] at ew
                  exact ⟨w, ew, by rw [f2m j h2]; exact rr.noF (m2 j h2 t e7)⟩
                · simp only [h1, h2, if_false] at e5
                  have e7 : S1[j]? = some (some t) := by
                    cases e6 : S1[j]? with
                    | none => rw [e6] at e5; cases e5
                    | some o => rw [e6] at e5; exact e5
                  obtain ⟨w, ew, rr⟩ := p1.sr.rep j t e7
                  exact ⟨w, ew, by rw [f2n j h1 h2]; exact rr.mono (fun _ z => z) tupk (fun a xs z e => keep a _ e (z.imp id fun z => ⟨j, h1, h2, z⟩)) fun a u z r => rd_keep r fun o e => keep a o e (z.imp id fun z => ⟨j, h1, h2, z⟩)⟩
            · by_cases h1 : j ∈ tg.slots
              · exact if_pos h1
              · by_cases h2 : j ∈ c.mt ++ e.mt
                · rw [f2m j h2]
                  refine q.sr.emp j fun t e5 => h t ?_
                  have hl : j < S1.length := by
                    have h3 := (List.getElem?_eq_some_iff.mp e5).1
                    rw [← q.sr.len, wipe_length, p1.sr.len] at h3
                    exact h3
                  rw [m3 j, List.getElem?_eq_getElem hl]
                  simp only [h1, h2, if_true, if_false, Option.map_some, e5]
                  rfl
                · rw [f2n j h1 h2]
                  refine p1.sr.emp j fun t e5 => h t ?_
                  rw [m3 j, e5]
                  simp only [h1, h2, if_false, Option.map_some]
            · obtain ⟨n1, hi⟩ := in2 i a hi
              obtain ⟨n2, hj⟩ := in2 j a hj
              rcases hi with ⟨mi, hi⟩ | ⟨ni, hi⟩
              · rcases hj with ⟨mj, hj⟩ | ⟨nj, hj⟩
                · exact q.sr.dis i j a hi hj
                · exfalso
                  rcases inM i a hi with ⟨l, hl, z⟩ | z | z
                  · have := p1.sr.dis l j a z hj
                    subst this
                    rcases List.mem_append.mp hl with hl | hl
                    · exact n2 hl
                    · exact nj hl
                  · exact live1 j a hj z
                  · have := p1.sr.dis i j a (fbs i a z).1 hj
                    subst this
                    exact nj mi
              · rcases hj with ⟨mj, hj⟩ | ⟨nj, hj⟩
                · exfalso
                  rcases inM j a hj with ⟨l, hl, z⟩ | z | z
                  · have := p1.sr.dis l i a z hi
                    subst this
                    rcases List.mem_append.mp hl with hl | hl
                    · exact n1 hl
                    · exact ni hl
                  · exact live1 i a hi z
                  · have := p1.sr.dis j i a (fbs j a z).1 hi
                    subst this
                    exact ni mj
                · exact p1.sr.dis i j a hi hj
            · by_cases h1 : j ∈ tg.slots
              · rw [show fps2 j = [] from if_pos h1]; exact List.nodup_nil
              · by_cases h2 : j ∈ c.mt ++ e.mt
                · rw [f2m j h2]; exact q.sr.nd j
                · rw [f2n j h1 h2]; exact p1.sr.nd j
            · obtain ⟨n1, hj⟩ := in2 j a hj
              rcases hj with ⟨mj, hj⟩ | ⟨nj, hj⟩
              · exact q.sr.nf j a hj (Fb1 a (p1.zz a z))
              · exact p1.sr.nf j a hj z
            · obtain ⟨o, e5⟩ := p1.sr.za a z
              exact ⟨o, keep a o e5 (.inl z)⟩
            · obtain ⟨n1, ha⟩ := in2 j a ha
              rcases ha with ⟨mj, ha⟩ | ⟨nj, ha⟩
              · exact q.sr.nl j hj a ha o' u
              · obtain ⟨⟨u', e'⟩, _⟩ := p1.sr.live j a ha
                rw [keep a u' e' (.inr ⟨j, n1, nj, ha⟩)]
                intro z
                rw [Option.some.inj z] at e'
                exact p1.sr.nl j hj a ha _ _ e'
          refine k (.ref L) H' Fz' fps2 [L] ⟨sr2, q.rp.1, fun a z => q.zz a (Fb1 a (p1.zz a z)), fun a z => ?_, q.za, q.nd, q.nz, q.fv, fun a ha j hj => ?_, fun a ha => ?_, q.fl, fun a o e5 h => ?_, fun a e5 => p1.dm a (q.dm a e5), fun j hj => ?_, fun j a ha => ?_⟩
          · have vwk : ∀ i ∈ n.vw, a ∈ fps1 i → ∃ i ∈ n.vw ++ less e.vw tg.slots, a ∈ fps2 i := fun i hi w => by
              have w1 := dj_ok d1 i hi
              exact ⟨i, List.mem_append_left _ hi, by rw [f2n i (fun y => w1 (List.mem_append_left _ y)) fun y => w1 (List.mem_append_right _ y)]; exact w⟩
            rcases q.zo a z with z1 | z1 | ⟨i, hi, z1⟩
            · rcases Fbo a z1 with z2 | ⟨i, hi, z2⟩
              · rcases p1.zo a z2 with w | w | ⟨i, hi, w⟩
                · exact .inl w
                · refine .inr (.inl ⟨w.1.imp id fun ⟨i, hi, y⟩ => ⟨i, List.mem_append_left _ hi, y⟩, fun j hj => ?_⟩)
                  obtain ⟨n1, hj⟩ := in2 j a hj
                  rcases hj with ⟨mj, hj⟩ | ⟨nj, hj⟩
                  · exact q.sr.nf j a hj z1
                  · exact w.2 j hj
                · exact .inr (.inr (vwk i hi w))
              · exact .inr (.inr (vwk i hi z2))
            · refine .inr (.inl ⟨?_, fun j hj => ?_⟩)
              · rcases z1.1 with w | ⟨i, hi, w⟩
                · exact .inl (p1.dm a w)
                · rcases p1.fm i a (fbs i a w).1 with y | ⟨l, hl, y⟩ | y
                  · exact .inr ⟨i, List.mem_append_right _ hi, y⟩
                  · exact .inr ⟨l, List.mem_append_left _ hl, y⟩
                  · exact .inl y
              · obtain ⟨n1, hj⟩ := in2 j a hj
                rcases hj with ⟨mj, hj⟩ | ⟨nj, hj⟩
                · exact z1.2 j hj
                · rcases z1.1 with w | ⟨i, hi, w⟩
                  · exact live1 j a hj w
                  · have := p1.sr.dis i j a (fbs i a w).1 hj
                    subst this
                    rcases List.mem_append.mp hi with hi | hi
                    · exact n1 hi
                    · exact nj hi
            · obtain ⟨y1, y2⟩ := mem_less.mp hi
              have y3 : i ∉ c.mt ++ e.mt := dj_ok d2 i y1
              rw [(q.fs i fun w => (List.mem_append.mp w).elim y2 y3).1] at z1
              exact .inr (.inr ⟨i, List.mem_append_right _ hi, by rw [f2n i y2 y3]; exact (fbs i a z1).1⟩)
          · have ea : a = L := by simpa using ha
            subst ea
            obtain ⟨n1, hj⟩ := in2 j a hj
            rcases hj with ⟨mj, hj⟩ | ⟨nj, hj⟩
            · exact q.fd a ha j hj
            · exact live1 j a hj hL
          · have ea : a = L := by simpa using ha
            subst ea
            exact .inl (p1.dm a hL)
          · refine q.kp a o (p1.kp a o e5 fun i hi => h i (List.mem_append_left _ hi)) fun i hi w => ?_
            rcases p1.fm i a (fbs i a w).1 with y | ⟨l, hl, y⟩ | y
            · exact h i (List.mem_append_right _ hi) y
            · exact h l (List.mem_append_left _ hl) y
            · rw [y] at e5; cases e5
          · have h1 : j ∉ tg.slots := fun z => hj (List.mem_append_right _ (List.mem_append_left _ z))
            have h2 : j ∉ c.mt ++ e.mt := fun z => hj (List.mem_append_right _ (List.mem_append_right _ z))
            have h3 := p1.fs j fun z => hj (List.mem_append_left _ z)
            refine ⟨(f2n j h1 h2).trans h3.1, ?_⟩
            rw [m3 j, ← h3.2]
            cases S1[j]? with
            | none => rfl
            | some o => simp only [h1, h2, if_false, Option.map_some]
          · have up : ∀ l ∈ tg.slots ++ (c.mt ++ e.mt), a ∈ fps1 l → a ∈ fps j ∨ (∃ l ∈ n.mt ++ (tg.slots ++ (c.mt ++ e.mt)), a ∈ fps l) ∨ H a = none := fun l hl z => by
              rcases p1.fm l a z with y | ⟨m, hm, y⟩ | y
              · exact .inr (.inl ⟨l, List.mem_append_right _ hl, y⟩)
              · exact .inr (.inl ⟨m, List.mem_append_left _ hm, y⟩)
              · exact .inr (.inr y)
            obtain ⟨n1, ha⟩ := in2 j a ha
            rcases ha with ⟨mj, ha⟩ | ⟨nj, ha⟩
            · rcases inM j a ha with ⟨l, hl, z⟩ | z | z
              · exact up l hl z
              · exact .inr (.inr (p1.dm a z))
              · exact up j (List.mem_append_right _ mj) (fbs j a z).1
            · exact (p1.fm j a ha).imp id (Or.imp (fun ⟨l, hl, w⟩ => ⟨l, List.mem_append_left _ hl, w⟩) id)
end TW

/-! TW7: comprehensions as rules; plain operations; stores into lists; tuples taken apart. -/
namespace TW
open PySem PySem.Spec PyProof.Rows L2

def nYes : Tn := ⟨[], [], fun S => some (true, S)⟩
abbrev STs (X : Cx) (ifs : List Expr) (n : Tn) : Prop := PTs X ifs (tT X.K n)
section
variable {X : Cx}
theorem sts_nil : STs X [] nYes := ⟨fun pins s σ H Q I h => pts_nil.run pins s σ H Q I (by
  obtain ⟨Fz, lk, S, fps, d, S', p, k⟩ := h
  cases p.rn
  exact k H Fz fps (Pst.start p.sr rfl))⟩
theorem sts_one {c : Expr} {n : Tn} (h : ST X c n) : STs X [c] n := pts_one h
theorem se_comp {elt tgE iter : Expr} {ifs : List Expr} {scope : Scope} {own : List (Str × Nat)} {pos : Pos} {tg : Tg} {n : An} {c : Tn} {e : En} (hc : X.calm = true) (hN : X.N.Nodup) (hi : SI X tgE iter n) (ok : BlkOk X.N X.env.scope scope own)
    (hg : ∀ (s : Shared) (H : Hp) (C : Addr) (cl : List (Str × Addr)) (fp : List Addr), SG (X.blk s H scope (compEnvC scope cl C X.env) fp) tgE tg) (ht : ∀ (s : Shared) (H : Hp) (C : Addr) (cl : List (Str × Addr)) (fp : List Addr), STs (X.blk s H scope (compEnvC scope cl C X.env) fp) ifs c)
    (he : ∀ (s : Shared) (H : Hp) (C : Addr) (cl : List (Str × Addr)) (fp : List Addr), SE (X.blk s H scope (compEnvC scope cl C X.env) fp) elt e) (hv : own.map (·.2) = tg.slots := by rfl)
    (d1 : dj n.vw (tg.slots ++ (c.mt ++ e.mt)) = true := by rfl) (d2 : dj e.vw (c.mt ++ e.mt) = true := by rfl) (d3 : dj tg.slots (c.mt ++ e.mt) = true := by rfl) (hs : ∀ x, foldedSetIterable iter X.env x = pure x := by intro _; rfl) :
    SE X (.ListComp elt [⟨tgE, iter, ifs, 0⟩] scope pos) (eComp tg n c e) :=
  PE.imp (pe_lc hc hN hi ok hg ht he hs) fun σ H Q q => comp_sound (fun i => by rw [hv]) d1 d2 d3 q
theorem ss_setLc {i : Nat} {y : Str} {py : Pos} {elt tgE iter : Expr} {ifs : List Expr} {scope : Scope} {own : List (Str × Nat)} {pos spos : Pos} {tg : Tg} {n : An} {c : Tn} {e : En} (hc : X.calm = true) (hN : X.N.Nodup) (hy : X.N[i]? = some y) (hyl : X.env.scope.names.lookup y = some .local)
    (hsw : swapsWith (.ListComp elt [⟨tgE, iter, ifs, 0⟩] scope pos) (some (.Name y py)) spos.line X.env = pure true) (hi : SI X tgE iter n) (ok : BlkOk X.N X.env.scope scope own)
    (hg : ∀ (s : Shared) (H : Hp) (C : Addr) (cl : List (Str × Addr)) (fp : List Addr), SG (X.blk s H scope (compEnvC scope cl C X.env) fp) tgE tg) (ht : ∀ (s : Shared) (H : Hp) (C : Addr) (cl : List (Str × Addr)) (fp : List Addr), STs (X.blk s H scope (compEnvC scope cl C X.env) fp) ifs c)
    (he : ∀ (s : Shared) (H : Hp) (C : Addr) (cl : List (Str × Addr)) (fp : List Addr), SE (X.blk s H scope (compEnvC scope cl C X.env) fp) elt e) (hv : own.map (·.2) = tg.slots := by rfl)
    (d1 : dj n.vw (tg.slots ++ (c.mt ++ e.mt)) = true := by rfl) (d2 : dj e.vw (c.mt ++ e.mt) = true := by rfl) (d3 : dj tg.slots (c.mt ++ e.mt) = true := by rfl) (hs : ∀ x, foldedSetIterable iter X.env x = pure x := by intro _; rfl) :
    SS X (.Assign [.Name y py] (.ListComp elt [⟨tgE, iter, ifs, 0⟩] scope pos) spos) (sAsg i (eComp tg n c e)) :=
  PS.imp (ps_setLc hc hN hy hyl hsw hi ok hg ht he hs) fun D σ H q => comp_sound (fun i => by rw [hv]) d1 d2 d3 (asg_sound q)
end
/-! ### operations whose answer is a plain value -/
def plain : D → Bool
  | .non => true
  | .bl _ => true
  | .int _ => true
  | .str _ => true
  | _ => false
theorem plain_rp {K Fz H Fz' H'} {d : D} {v : V} {fp : List Addr} (h : plain d = true) (r : Rp K Fz H d v fp) : Rp K Fz' H' d v [] := by
  cases d with
  | non => unfold Rp at r ⊢; exact ⟨r.1, rfl⟩
  | bl b => unfold Rp at r ⊢; exact ⟨r.1, rfl⟩
  | int b => unfold Rp at r ⊢; exact ⟨r.1, rfl⟩
  | str b => unfold Rp at r ⊢; exact ⟨r.1, rfl⟩
  | _ => cases h
def PlF (f : List D → Option D) : Prop := ∀ ds d, f ds = some d → plain d = true
def eAppP (f : List D → Option D) (n : An) : En := ⟨[], n.mt, fun S => (n.run S).bind fun p => (f (frzs p.1)).bind fun d => some (d, p.2)⟩
/-- a plain value leans on nothing -/
theorem tD_plain {K : PySem.W.Frag} {f : List D → Option D} {n : An} (hp : PlF f) {σ : L2.St} {H : Hp} {Q : VK} (h : tD K (eAppP f n) σ H Q) : tD K (eApp f n) σ H Q := by
  obtain ⟨Fz, lk, S, fps, d, S', p, k⟩ := h
  refine ⟨Fz, lk, S, fps, d, S', ⟨p.sr, p.ml, p.rn⟩, fun v H' Fz' fps' fp q => k v H' Fz fps' [] ?_⟩
  obtain ⟨ds, S1, d', e1, e2, e3⟩ := bind1 (f := fun ds => f (frzs ds)) p.rn
  obtain ⟨rfl, rfl⟩ := Prod.mk.inj e3
  exact ⟨q.sr, plain_rp (hp _ _ e2) q.rp, fun _ z => z, fun _ z => .inl z, q.sr.za, List.nodup_nil, (fun _ z => nomatch z), (fun _ z => nomatch z), (fun _ z => nomatch z), (fun _ z => nomatch z), (fun _ z => nomatch z), q.kp, q.dm, q.fs, q.fm⟩
section
variable {X : Cx} {e : Expr} {n : An} {f : List D → Option D}
theorem se_plain (hp : PlF f) (h : SE X e (eApp f n)) : SE X e (eAppP f n) := PE.imp h fun _ _ _ q => tD_plain hp q
theorem st_plain (h : ST X e (nVal (eApp f n))) : ST X e (nVal (eAppP f n)) := PT.imp h fun σ H Q q => by
  obtain ⟨Fz, lk, S, fps, d, S', p, k⟩ := q
  exact ⟨Fz, lk, S, fps, d, S', ⟨p.sr, p.ml, p.rn⟩, k⟩
end
end TW

/-! TW8: stores into lists, tuples taken apart. -/
namespace TW
open PySem PySem.Spec PyProof.Rows L2

/-- the object of slot i is changed -/
theorem SR.mut {K Fz lk H σ S fps} (r : SR K Fz lk H σ S fps) {i : Nat} {a : Addr} {o : HO} {d0 d' : D} {fp' g : List Addr} (hi : S[i]? = some (some d0)) (hσ : σ[i]? = some (some (.ref a))) (hf : fps i = a :: fp') (ho : ∀ ob u, o ≠ .frz ob u)
    (hd : Rp K Fz (upd H a o) d' (.ref a) (a :: g)) (gn : (a :: g).Nodup) (gd : ∀ b ∈ g, ∀ j, j ≠ i → b ∉ fps j) (gz : ∀ b ∈ g, ¬ Fz b) (gl : ∀ b ∈ g, ∀ ob u, H b ≠ some (.frz ob u)) :
    SR K Fz lk (upd H a o) σ (S.set i (some d')) (fun j => if j = i then a :: g else fps j) := by
  have hil : i < S.length := (List.getElem?_eq_some_iff.mp hi).1
  have am : a ∈ fps i := by rw [hf]; exact List.mem_cons_self
  have az : ¬ Fz a := r.nf i a am
  have ne : ∀ j, j ≠ i → ∀ b, b ∈ fps j → b ≠ a := fun j hj b hb e => hj (r.dis j i b hb (e ▸ am))
  refine ⟨by rw [List.length_set, r.len], fun j e h => ?_, fun j h => ?_, fun j l b hj hl => ?_, fun j => ?_, fun j b hb => ?_, fun b z => ?_, fun j hj b hb ob u => ?_⟩
  · by_cases hj : j = i
    · subst hj
      rw [List.getElem?_set_self hil] at h
      cases h
      exact ⟨.ref a, hσ, by simp only [if_true]; exact hd⟩
    · rw [List.getElem?_set_ne (Ne.symm hj)] at h
      obtain ⟨w, e1, q⟩ := r.rep j e h
      refine ⟨w, e1, ?_⟩
      simp only [hj, if_false]
      have nb : ∀ b, Fz b ∨ b ∈ fps j → b ≠ a := fun b z => z.elim (fun z w => az (w ▸ z)) (ne j hj b)
      refine q.mono (fun _ z => z) (fun b xs e => ?_) (fun b xs z e => by rw [upd_ne (nb b z)]; exact e) fun b u z rd => rd_keep rd fun o e => by rw [upd_ne (nb b z)]; exact e
      rw [upd_ne fun w => by subst w; exact (r.live i b am).2 xs e]
      exact e
  · by_cases hj : j = i
    · subst hj
      exact (h d' (List.getElem?_set_self hil)).elim
    · simp only [hj, if_false]
      exact r.emp j fun e he => h e (by rw [List.getElem?_set_ne (Ne.symm hj)]; exact he)
  · by_cases h1 : j = i
    · by_cases h2 : l = i
      · rw [h1, h2]
      · simp only [h1, if_true] at hj
        simp only [h2, if_false] at hl
        rcases List.mem_cons.mp hj with w | w
        · exact (ne l h2 b hl w).elim
        · exact (gd b w l h2 hl).elim
    · by_cases h2 : l = i
      · simp only [h2, if_true] at hl
        simp only [h1, if_false] at hj
        rcases List.mem_cons.mp hl with w | w
        · exact (ne j h1 b hj w).elim
        · exact (gd b w j h1 hj).elim
      · simp only [h1, if_false] at hj
        simp only [h2, if_false] at hl
        exact r.dis j l b hj hl
  · by_cases h1 : j = i
    · simp only [h1, if_true]; exact gn
    · simp only [h1, if_false]; exact r.nd j
  · by_cases h1 : j = i
    · simp only [h1, if_true] at hb
      rcases List.mem_cons.mp hb with w | w
      · rw [w]; exact az
      · exact gz b w
    · simp only [h1, if_false] at hb
      exact r.nf j b hb
  · obtain ⟨u, e⟩ := r.za b z
    exact ⟨u, by rw [upd_ne (show b ≠ a from fun w => az (w ▸ z))]; exact e⟩
  · by_cases h1 : j = i
    · simp only [h1, if_true] at hb
      by_cases w : b = a
      · rw [w, upd_same]
        exact fun z => ho ob u (Option.some.inj z)
      · rw [upd_ne w]
        rcases List.mem_cons.mp hb with w2 | w2
        · exact (w w2).elim
        · exact gl b w2 ob u
    · simp only [h1, if_false] at hb
      rw [upd_ne (ne j h1 b hb)]
      exact r.nl j hj b hb ob u
/-- .. behind a statement's part -/
theorem SPst.mut {K} {mt wr : List Nat} {Fz lk H σ0 fps S1 σ H1 Fz1 fps1} (p : SPst K mt wr Fz lk H σ0 fps S1 σ H1 Fz1 fps1) {i : Nat} {a : Addr} {o : HO} {d0 d' : D} {fp' g : List Addr} (hi : S1[i]? = some (some d0)) (hσ : σ[i]? = some (some (.ref a))) (hf : fps1 i = a :: fp') (ho : ∀ ob u, o ≠ .frz ob u)
    (hd : Rp K Fz1 (upd H1 a o) d' (.ref a) (a :: g)) (gn : (a :: g).Nodup) (gd : ∀ b ∈ g, ∀ j, j ≠ i → b ∉ fps1 j) (gz : ∀ b ∈ g, ¬ Fz1 b) (gl : ∀ b ∈ g, ∀ ob u, H1 b ≠ some (.frz ob u)) (gf : ∀ b ∈ g, b ∈ fps1 i ∨ H b = none ∨ ∃ j ∈ mt, b ∈ fps j) :
    SPst K (i :: mt) wr Fz lk H σ0 fps (S1.set i (some d')) σ (upd H1 a o) Fz1 (fun j => if j = i then a :: g else fps1 j) := by
  have am : a ∈ fps1 i := by rw [hf]; exact List.mem_cons_self
  have up : ∀ b, b ∈ fps1 i → b ∈ fps i ∨ (∃ j ∈ i :: mt, b ∈ fps j) ∨ H b = none := fun b hb => (p.fm i b hb).imp id (Or.imp (fun ⟨j, hj, w⟩ => ⟨j, List.mem_cons_of_mem _ hj, w⟩) id)
  refine ⟨p.sr.mut hi hσ hf ho hd gn gd gz gl, p.zz, p.zo, fun b u e h => ?_, fun b e => ?_, fun j hj b hb => ?_, fun j b hb => ?_, p.sg⟩
  · have e1 := p.kp b u e fun j hj => h j (List.mem_cons_of_mem _ hj)
    by_cases w : b = a
    · subst w
      rcases up b am with z | ⟨j, hj, z⟩ | z
      · exact (h i List.mem_cons_self z).elim
      · exact (h j hj z).elim
      · rw [z] at e; cases e
    · rw [upd_ne w]; exact e1
  · by_cases w : b = a
    · rw [w, upd_same] at e; cases e
    · rw [upd_ne w] at e; exact p.dm b e
  · have hji : ¬ j = i := fun w => hj (by rw [w]; exact List.mem_cons_self)
    simp only [hji, if_false] at hb
    exact p.fs j (fun z => hj (List.mem_cons_of_mem _ z)) b hb
  · by_cases hji : j = i
    · simp only [hji, if_true] at hb
      have fin : b ∈ fps1 i → b ∈ fps j ∨ (∃ j ∈ i :: mt, b ∈ fps j) ∨ H b = none := fun w => by
        rcases up b w with z | z | z
        · exact .inr (.inl ⟨i, List.mem_cons_self, z⟩)
        · exact .inr (.inl z)
        · exact .inr (.inr z)
      rcases List.mem_cons.mp hb with w | w
      · rw [w]; rw [w] at fin; exact fin am
      · rcases gf b w with z | z | ⟨l, hl, z⟩
        · exact fin z
        · exact .inr (.inr z)
        · exact .inr (.inl ⟨l, List.mem_cons_of_mem _ hl, z⟩)
    · simp only [hji, if_false] at hb
      exact (p.fm j b hb).imp id (Or.imp (fun ⟨l, hl, w⟩ => ⟨l, List.mem_cons_of_mem _ hl, w⟩) id)
theorem Rps.app {K Fz H} : ∀ {ds es : List D} {vs ws : List V} {f g : List Addr}, Rps K Fz H ds vs f → Rps K Fz H es ws g → Rps K Fz H (ds ++ es) (vs ++ ws) (f ++ g)
  | [], es, vs, ws, f, g, h1, h2 => by
    unfold Rps at h1
    rw [h1.1, h1.2]
    exact h2
  | d :: ds, es, vs, ws, f, g, h1, h2 => by
    unfold Rps at h1
    obtain ⟨v, us, f1, g1, rfl, rfl, r, q⟩ := h1
    show Rps K Fz H (d :: (ds ++ es)) (v :: (us ++ ws)) _
    unfold Rps
    exact ⟨v, us ++ ws, f1, g1 ++ g, rfl, List.append_assoc _ _ _, r, Rps.app q h2⟩
theorem rps_one {K Fz H} {d : D} {v : V} {f : List Addr} (h : Rp K Fz H d v f) : Rps K Fz H [d] [v] f := by
  unfold Rps
  exact ⟨v, [], f, [], rfl, by simp, h, by unfold Rps; exact ⟨rfl, rfl⟩⟩
/-- the slot's list -/
theorem own_list {K Fz lk H σ S fps} (r : SR K Fz lk H σ S fps) {i : Nat} {ds : List D} (hi : S[i]? = some (some (.lst true ds))) : ∃ a vs fp', σ[i]? = some (some (.ref a)) ∧ H a = some (.lst vs) ∧ fps i = a :: fp' ∧ Rps K Fz H ds vs fp' := by
  obtain ⟨v, e, q⟩ := r.rep i _ hi
  unfold Rp at q
  obtain ⟨a, vs, fp', rfl, ha, hf, q⟩ := q
  exact ⟨a, vs, fp', e, ha, hf, q⟩
theorem rps_upd {K Fz H} {a : Addr} {o : HO} {ds : List D} {vs : List V} {fp : List Addr} (h : Rps K Fz H ds vs fp) (hz : ¬ Fz a) (hf : a ∉ fp) (ht : ∀ xs, H a ≠ some (.tup xs)) : Rps K Fz (upd H a o) ds vs fp :=
  have nb : ∀ b, Fz b ∨ b ∈ fp → b ≠ a := fun b z w => by subst w; exact z.elim hz hf
  h.mono (fun _ z => z) (fun b xs e => by rw [upd_ne fun w => by subst w; exact ht xs e]; exact e) (fun b xs z e => by rw [upd_ne (nb b z)]; exact e) fun b u z rd => rd_keep rd fun o e => by rw [upd_ne (nb b z)]; exact e
theorem rp_upd {K Fz H} {a : Addr} {o : HO} {d : D} {v : V} {fp : List Addr} (h : Rp K Fz H d v fp) (hz : ¬ Fz a) (hf : a ∉ fp) (ht : ∀ xs, H a ≠ some (.tup xs)) : Rp K Fz (upd H a o) d v fp :=
  have nb : ∀ b, Fz b ∨ b ∈ fp → b ≠ a := fun b z w => by subst w; exact z.elim hz hf
  h.mono (fun _ z => z) (fun b xs e => by rw [upd_ne fun w => by subst w; exact ht xs e]; exact e) (fun b xs z e => by rw [upd_ne (nb b z)]; exact e) fun b u z rd => rd_keep rd fun o e => by rw [upd_ne (nb b z)]; exact e
/-! ### xs.append(e) -/
def okB (i : Nat) (n : En) (d : D) : Bool := noF d || decide (i ∉ n.vw)
def sApp (i : Nat) (n : En) : Sn := ⟨i :: n.mt, [], fun S => match S[i]? with
  | some (some (.lst true ds)) => (n.run S).bind fun p => if okB i n p.1 = true ∧ ds.length < 100000 then some (.nx ((bindS n.vw p.1 p.2).set i (some (.lst true (ds ++ [p.1]))))) else none
  | _ => none⟩
theorem bindS_at {i : Nat} {n : En} {d : D} {S : Stt} (h : okB i n d = true) : (bindS n.vw d S)[i]? = S[i]? := by
  unfold okB at h
  unfold bindS
  split
  · rfl
  · rename_i hn
    rcases Bool.or_eq_true_iff.mp h with h | h
    · exact (hn h).elim
    · have h := of_decide_eq_true h
      rw [frzAt_get]
      cases S[i]? with
      | none => rfl
      | some o => simp only [h, if_false, Option.map_some]
theorem sz_lt {n : Nat} (h : n < 100000) : n < sizeLine := Nat.lt_of_lt_of_le h (by decide)
theorem sz_le {n : Nat} (h : n ≤ 100000) : n ≤ sizeLine := Nat.le_trans h (by decide)
/-- a value of a statement goes into slot i's list -/
theorem SPst.into {K} {mt wr : List Nat} {Fz lk H σ0 fps S1 σ H1 Fz1 fps1 d v fp} (p : SPst K mt wr Fz lk H σ0 fps S1 σ H1 Fz1 fps1) (q : VO K mt H fps H1 Fz1 fps1 d v fp) {i : Nat} {a : Addr} {fp' : List Addr} {d0 d' : D} {o : HO} (hi : S1[i]? = some (some d0)) (hσ : σ[i]? = some (some (.ref a))) (hf : fps1 i = a :: fp') (ho : ∀ ob u, o ≠ .frz ob u)
    {g : List Addr} (hg : ∀ b ∈ g, b ∈ fp' ∨ b ∈ fp) (gn : (a :: g).Nodup) (hnl : ¬ lk i) (hd : Rp K Fz1 (upd H1 a o) d' (.ref a) (a :: g)) : SPst K (i :: mt) wr Fz lk H σ0 fps (S1.set i (some d')) σ (upd H1 a o) Fz1 (fun j => if j = i then a :: g else fps1 j) := by
  have inm : ∀ b ∈ fp', b ∈ fps1 i := fun b hb => by rw [hf]; exact List.mem_cons_of_mem _ hb
  refine p.mut hi hσ hf ho hd gn (fun b hb j hj z => ?_) (fun b hb => ?_) (fun b hb => ?_) fun b hb => ?_
  · rcases hg b hb with w | w
    · exact hj (p.sr.dis j i b z (inm b w))
    · exact q.fd b w j z
  · rcases hg b hb with w | w
    · exact p.sr.nf i b (inm b w)
    · exact q.nz b w
  · rcases hg b hb with w | w
    · exact p.sr.nl i hnl b (inm b w)
    · exact q.fl b w
  · rcases hg b hb with w | w
    · exact .inl (inm b w)
    · rcases q.fo b w with z | z
      · exact .inr (.inl z)
      · exact .inr (.inr z)
theorem app_sound {K : PySem.W.Frag} {i : Nat} {n : En} {D : Ends} {σ : L2.St} {H : Hp} (hn : i ∉ n.mt) (h : tS K (sApp i n) D σ H) : tDrop (tBM K "list" rAppend (tVar i) (tCons (tD K n) tNil)) D σ H := by
  obtain ⟨Fz, lk, S, fps, o, r, ml, rn, w⟩ := h
  have rn : (match S[i]? with
    | some (some (.lst true ds)) => (n.run S).bind fun p => if okB i n p.1 = true ∧ ds.length < 100000 then some (Out.nx ((bindS n.vw p.1 p.2).set i (some (.lst true (ds ++ [p.1]))))) else none
    | _ => none) = some o := rn
  split at rn
  · rename_i ds hS
    obtain ⟨d, S1, e1, e2⟩ := bindO (g := fun d S1 => if okB i n d = true ∧ ds.length < 100000 then some (Out.nx ((bindS n.vw d S1).set i (some (.lst true (ds ++ [d]))))) else none) rn
    obtain ⟨⟨hb, hl⟩, rfl⟩ := if_some e2
    obtain ⟨a, vs, fp', hσ, ha, hf, rs⟩ := own_list r hS
    refine ⟨_, hσ, .inl ⟨rfl, vs, SqL.of ha⟩, ?_⟩
    refine ⟨Fz, lk, S, fps, d, S1, ⟨r, fun j hj => ml j (List.mem_cons_of_mem _ hj), e1⟩, fun v H1 Fz1 fps1 fp p => ?_⟩
    obtain ⟨Fz2, fps2, p2, q2⟩ := p.bind
    have hS1 : (bindS n.vw d S1)[i]? = some (some (.lst true ds)) := by rw [bindS_at hb, (p.fs i hn).2]; exact hS
    obtain ⟨a', vs', fp2, hσ', ha', hf', rs'⟩ := own_list p2.sr hS1
    rw [hσ] at hσ'
    cases hσ'
    have am : a ∈ fps2 i := by rw [hf']; exact List.mem_cons_self
    have nd := p2.sr.nd i
    rw [hf'] at nd
    have az := p2.sr.nf i a am
    have at_ := (p2.sr.live i a am).2
    have afp : a ∉ fp := fun z => q2.fd a z i am
    have an : a ∉ fp2 := (List.nodup_cons.mp nd).1
    refine ⟨a, vs', v, rfl, rfl, ha', sz_lt (by rw [Rps.length rs']; exact hl), w σ _ Fz2 _ (p2.into q2 hS1 hσ hf' (fun _ _ z => by cases z) (g := fp2 ++ fp) (fun b hb => List.mem_append.mp hb) ?_ (ml i List.mem_cons_self) ?_)⟩
    · refine List.nodup_cons.mpr ⟨fun z => (List.mem_append.mp z).elim an afp, List.nodup_append.mpr ⟨(List.nodup_cons.mp nd).2, q2.nd, fun b hb c hc e => ?_⟩⟩
      subst e
      exact q2.fd b hc i (by rw [hf']; exact List.mem_cons_of_mem _ hb)
    · unfold Rp
      exact ⟨a, vs' ++ [v], fp2 ++ fp, rfl, upd_same, rfl, (rps_upd rs' az an at_).app (rps_one (rp_upd q2.rp az afp at_))⟩
  · cases rn
end TW

/-! TW9: pop, stores at an index, tuples taken apart. -/
namespace TW
open PySem PySem.Spec PyProof.Rows L2

theorem Rps.split {K Fz H} : ∀ {ds : List D} {vs : List V} {fp : List Addr} {j : Nat} {d : D}, Rps K Fz H ds vs fp → ds[j]? = some d → ∃ v f1 f f2, vs[j]? = some v ∧ fp = f1 ++ (f ++ f2) ∧ Rp K Fz H d v f ∧ Rps K Fz H (ds.eraseIdx j) (vs.eraseIdx j) (f1 ++ f2)
  | [], _, _, _, _, _, e => by cases e
  | x :: xs, vs, fp, j, d, h, e => by
    unfold Rps at h
    obtain ⟨v, ws, f, g, rfl, rfl, r, q⟩ := h
    cases j with
    | zero =>
      cases e
      exact ⟨v, [], f, g, rfl, rfl, r, q⟩
    | succ j =>
      obtain ⟨w, f1, f3, f2, e1, rfl, r2, q2⟩ := Rps.split (ds := xs) (vs := ws) (j := j) q e
      refine ⟨w, f ++ f1, f3, f2, e1, by rw [List.append_assoc], r2, ?_⟩
      show Rps K Fz H (x :: xs.eraseIdx j) (v :: ws.eraseIdx j) _
      unfold Rps
      exact ⟨v, ws.eraseIdx j, f, f1 ++ f2, rfl, by rw [List.append_assoc], r, q2⟩
theorem Rps.put {K Fz H} : ∀ {ds : List D} {vs : List V} {fp : List Addr} {j : Nat} {d y : D} {v : V} {h : List Addr}, Rps K Fz H ds vs fp → ds[j]? = some d → Rp K Fz H y v h → ∃ f1 f f2, fp = f1 ++ (f ++ f2) ∧ Rps K Fz H (ds.set j y) (vs.set j v) (f1 ++ (h ++ f2))
  | [], _, _, _, _, _, _, _, _, e, _ => by cases e
  | x :: xs, vs, fp, j, d, y, v, h, hr, e, hy => by
    unfold Rps at hr
    obtain ⟨w, ws, f, g, rfl, rfl, r, q⟩ := hr
    cases j with
    | zero =>
      cases e
      refine ⟨[], f, g, rfl, ?_⟩
      show Rps K Fz H (y :: xs) (v :: ws) _
      unfold Rps
      exact ⟨v, ws, h, g, rfl, rfl, hy, q⟩
    | succ j =>
      obtain ⟨f1, f3, f2, rfl, q2⟩ := Rps.put (ds := xs) (vs := ws) (j := j) q e hy
      refine ⟨f ++ f1, f3, f2, by rw [List.append_assoc], ?_⟩
      show Rps K Fz H (x :: xs.set j y) (w :: ws.set j v) _
      unfold Rps
      exact ⟨w, ws.set j v, f, f1 ++ (h ++ f2), rfl, by rw [List.append_assoc], r, q2⟩
/-- something of slot i's object comes out -/
theorem Pst.out {K} {RP : (Addr → Prop) → Hp → List Addr → Prop} {vw mt : List Nat} {Fz lk H σ S fps S1 H1 Fz1 fps1 fp1} (p : Pst K RP vw mt Fz lk H σ S fps S1 H1 Fz1 fps1 fp1) {i : Nat} {a : Addr} {o : HO} {d0 d' d : D} {v : V} {fp' g f : List Addr} (hi : S1[i]? = some (some d0)) (hσ : σ[i]? = some (some (.ref a))) (hf : fps1 i = a :: fp')
    (ho : ∀ ob u, o ≠ .frz ob u) (hnl : ¬ lk i) (hs : ∀ b, b ∈ g ∨ b ∈ f → b ∈ fp') (gn : g.Nodup) (fn : f.Nodup) (gf : ∀ b ∈ f, b ∉ g) (hd : Rp K Fz (upd H1 a o) d' (.ref a) (a :: g)) (hv : Rp K Fz (upd H1 a o) d v f) :
    Pst K (fun Fz H fp => Rp K Fz H d v fp) [] (i :: mt) Fz lk H σ S fps (S1.set i (some d')) (upd H1 a o) Fz (fun j => if j = i then a :: g else fps1 j) f := by
  have am : a ∈ fps1 i := by rw [hf]; exact List.mem_cons_self
  have nd := p.sr.nd i
  rw [hf] at nd
  have inm : ∀ b, b ∈ g ∨ b ∈ f → b ∈ fps1 i := fun b hb => by rw [hf]; exact List.mem_cons_of_mem _ (hs b hb)
  have nea : ∀ b, b ∈ g ∨ b ∈ f → b ≠ a := fun b hb e => (List.nodup_cons.mp nd).1 (e ▸ hs b hb)
  have up : ∀ b, b ∈ fps1 i → b ∈ fps i ∨ (∃ j ∈ i :: mt, b ∈ fps j) ∨ H b = none := fun b hb => (p.fm i b hb).imp id (Or.imp (fun ⟨j, hj, w⟩ => ⟨j, List.mem_cons_of_mem _ hj, w⟩) id)
  have upo : ∀ b, b ∈ fps1 i → H b = none ∨ ∃ j ∈ i :: mt, b ∈ fps j := fun b hb => by
    rcases up b hb with z | z | z
    · exact .inr ⟨i, List.mem_cons_self, z⟩
    · exact .inr z
    · exact .inl z
  refine ⟨p.sr.mut hi hσ hf ho hd (List.nodup_cons.mpr ⟨fun z => nea a (.inl z) rfl, gn⟩) (fun b hb j hj z => hj (p.sr.dis j i b z (inm b (.inl hb)))) (fun b hb => p.sr.nf i b (inm b (.inl hb))) (fun b hb => p.sr.nl i hnl b (inm b (.inl hb))), hv, fun _ z => z, fun _ z => .inl z, fun b z => ?_, fn, fun b hb => p.sr.nf i b (inm b (.inr hb)), fun b hb => (hv.live b hb).1, fun b hb j hj => ?_, fun b hb => upo b (inm b (.inr hb)), fun b hb ob u => ?_, fun b u e h => ?_, fun b e => ?_, fun j hj => ?_, fun j b hb => ?_⟩
  · obtain ⟨u, e⟩ := p.sr.za b z
    exact ⟨u, by rw [upd_ne (show b ≠ a from fun w => p.sr.nf i a am (w ▸ z))]; exact e⟩
  · by_cases hji : j = i
    · simp only [hji, if_true] at hj
      rcases List.mem_cons.mp hj with w | w
      · exact nea b (.inr hb) w
      · exact gf b hb w
    · simp only [hji, if_false] at hj
      exact hji (p.sr.dis j i b hj (inm b (.inr hb)))
  · rw [upd_ne (nea b (.inr hb))]
    exact p.sr.nl i hnl b (inm b (.inr hb)) ob u
  · have e1 := p.kp b u e fun j hj => h j (List.mem_cons_of_mem _ hj)
    by_cases w : b = a
    · subst w
      rcases upo b am with z | ⟨j, hj, z⟩
      · rw [z] at e; cases e
      · exact (h j hj z).elim
    · rw [upd_ne w]; exact e1
  · by_cases w : b = a
    · rw [w, upd_same] at e; cases e
    · rw [upd_ne w] at e; exact p.dm b e
  · have hji : ¬ j = i := fun w => hj (by rw [w]; exact List.mem_cons_self)
    have h1 := p.fs j fun z => hj (List.mem_cons_of_mem _ z)
    refine ⟨?_, ?_⟩
    · simp only [hji, if_false]; exact h1.1
    · rw [List.getElem?_set_ne (Ne.symm hji)]; exact h1.2
  · by_cases hji : j = i
    · simp only [hji, if_true] at hb
      have fin : b ∈ fps1 i → b ∈ fps j ∨ (∃ l ∈ i :: mt, b ∈ fps l) ∨ H b = none := fun w => by
        rcases upo b w with z | z
        · exact .inr (.inr z)
        · exact .inr (.inl z)
      rcases List.mem_cons.mp hb with w | w
      · rw [w]; rw [w] at fin; exact fin am
      · exact fin (inm b (.inl w))
    · simp only [hji, if_false] at hb
      exact (p.fm j b hb).imp id (Or.imp (fun ⟨l, hl, w⟩ => ⟨l, List.mem_cons_of_mem _ hl, w⟩) id)
def toI : D → Option Int
  | .int i => some i
  | _ => none
theorem toI_eq {d : D} {i : Int} (h : toI d = some i) : d = .int i := by
  cases d <;> cases h
  rfl
theorem rp_int {K Fz H} {i : Int} {v : V} {fp : List Addr} (h : Rp K Fz H (.int i) v fp) : v = .int i := by
  unfold Rp at h
  exact h.1
theorem nodup3 {f1 f f2 : List Addr} (h : (f1 ++ (f ++ f2)).Nodup) : (f1 ++ f2).Nodup ∧ f.Nodup ∧ ∀ b ∈ f, b ∉ f1 ++ f2 := by
  obtain ⟨h1, h2, h3⟩ := List.nodup_append.mp h
  obtain ⟨h4, h5, h6⟩ := List.nodup_append.mp h2
  refine ⟨List.nodup_append.mpr ⟨h1, h5, fun a ha b hb => h3 a ha b (List.mem_append_right _ hb)⟩, h4, fun b hb z => ?_⟩
  rcases List.mem_append.mp z with z | z
  · exact h3 b z b (List.mem_append_left _ hb) rfl
  · exact h6 b hb b z rfl
/-- xs.pop(e) -/
def ePopAt (i : Nat) (n : En) : En := ⟨[], i :: n.mt, fun S => match S[i]? with
  | some (some (.lst true ds)) => (n.run S).bind fun p => (toI p.1).bind fun k => if -1000000000 ≤ k ∧ k < 1000000000 then (ixN ds.length k).bind fun j => (ds[j]?).bind fun d => some (d, p.2.set i (some (.lst true (ds.eraseIdx j)))) else none
  | _ => none⟩
theorem popAt_sound {K : PySem.W.Frag} {i : Nat} {n : En} {σ : L2.St} {H : Hp} {Q : VK} (hn : i ∉ n.mt) (h : tD K (ePopAt i n) σ H Q) : tBM K "list" rPopAt (tVar i) (tCons (tD K n) tNil) σ H Q := by
  obtain ⟨Fz, lk, S, fps, d, S', p, k⟩ := h
  have rn : (match S[i]? with
    | some (some (.lst true ds)) => (n.run S).bind fun p => (toI p.1).bind fun k => if -1000000000 ≤ k ∧ k < 1000000000 then (ixN ds.length k).bind fun j => (ds[j]?).bind fun d => some (d, p.2.set i (some (.lst true (ds.eraseIdx j)))) else none
    | _ => none) = some (d, S') := p.rn
  split at rn
  · rename_i ds hS
    cases e1 : n.run S with
    | none => rw [e1] at rn; cases rn
    | some z =>
      obtain ⟨x, S1⟩ := z
      rw [e1] at rn
      have rn : ((toI x).bind fun k => if -1000000000 ≤ k ∧ k < 1000000000 then (ixN ds.length k).bind fun j => (ds[j]?).bind fun d => some (d, S1.set i (some (.lst true (ds.eraseIdx j)))) else none) = some (d, S') := rn
      cases e2 : toI x with
      | none => rw [e2] at rn; cases rn
      | some kk =>
        rw [e2] at rn
        have rn : (if -1000000000 ≤ kk ∧ kk < 1000000000 then (ixN ds.length kk).bind fun j => (ds[j]?).bind fun d => some (d, S1.set i (some (.lst true (ds.eraseIdx j)))) else none) = some (d, S') := rn
        split at rn
        · rename_i hk
          cases e3 : ixN ds.length kk with
          | none => rw [e3] at rn; cases rn
          | some j =>
            rw [e3] at rn
            have rn : ((ds[j]?).bind fun d => some (d, S1.set i (some (.lst true (ds.eraseIdx j))))) = some (d, S') := rn
            cases e4 : ds[j]? with
            | none => rw [e4] at rn; cases rn
            | some d0 =>
              rw [e4] at rn
              cases rn
              obtain ⟨a, vs, fp', hσ, ha, hf, rs⟩ := own_list p.sr hS
              refine ⟨_, hσ, .inl ⟨rfl, vs, SqL.of ha⟩, ?_⟩
              refine ⟨Fz, lk, S, fps, x, S1, ⟨p.sr, fun l hl => p.ml l (List.mem_cons_of_mem _ hl), e1⟩, fun v H1 Fz1 fps1 fp p1 => ?_⟩
              have hS1 : S1[i]? = some (some (.lst true ds)) := by rw [(p1.fs i hn).2]; exact hS
              obtain ⟨a', vs', fp2, hσ', ha', hf', rs'⟩ := own_list p1.sr hS1
              rw [hσ] at hσ'
              cases hσ'
              have am : a ∈ fps1 i := by rw [hf']; exact List.mem_cons_self
              have nd := p1.sr.nd i
              rw [hf'] at nd
              have az := p1.sr.nf i a am
              have at_ := (p1.sr.live i a am).2
              have an := (List.nodup_cons.mp nd).1
              obtain ⟨w, f1, f, f2, e5, rfl, r1, r2⟩ := rs'.split e4
              obtain ⟨n1, n2, n3⟩ := nodup3 (List.nodup_cons.mp nd).2
              have sub : ∀ b, b ∈ f1 ++ f2 ∨ b ∈ f → b ∈ f1 ++ (f ++ f2) := fun b hb => by
                simp only [List.mem_append] at hb ⊢
                rcases hb with (hb | hb) | hb
                · exact .inl hb
                · exact .inr (.inr hb)
                · exact .inr (.inl hb)
              have ev : v = .int kk := by
                have r := p1.rp
                rw [toI_eq e2] at r
                exact rp_int r
              have hl : vs'.length = ds.length := Rps.length rs'
              refine ⟨a, vs', kk, j, w, rfl, by rw [ev], ha', by have := hk.1; omega, by have := hk.2; omega, by rw [hl]; exact (ixN_seq e3).1, e5, k w _ Fz _ f (p1.out hS1 hσ hf' (fun _ _ z => by cases z) (p.ml i List.mem_cons_self) sub n1 n2 n3 ?_ (rp_upd r1 az (fun z => an (sub a (.inr z))) at_))⟩
              unfold Rp
              exact ⟨a, vs'.eraseIdx j, f1 ++ f2, rfl, upd_same, rfl, rps_upd r2 az (fun z => an (sub a (.inl z))) at_⟩
        · cases rn
  · cases rn
/-- xs.pop() -/
def ePop (i : Nat) : En := ⟨[], [i], fun S => match S[i]? with
  | some (some (.lst true ds)) => (ds[ds.length - 1]?).bind fun d => some (d, S.set i (some (.lst true (ds.eraseIdx (ds.length - 1)))))
  | _ => none⟩
theorem pop_sound {K : PySem.W.Frag} {i : Nat} {σ : L2.St} {H : Hp} {Q : VK} (h : tD K (ePop i) σ H Q) : tBM0 K "list" rPop (tVar i) σ H Q := by
  obtain ⟨Fz, lk, S, fps, d, S', p, k⟩ := h
  have rn : (match S[i]? with
    | some (some (.lst true ds)) => (ds[ds.length - 1]?).bind fun d => some (d, S.set i (some (.lst true (ds.eraseIdx (ds.length - 1)))))
    | _ => none) = some (d, S') := p.rn
  split at rn
  · rename_i ds hS
    cases e4 : ds[ds.length - 1]? with
    | none => rw [e4] at rn; cases rn
    | some d0 =>
      rw [e4] at rn
      cases rn
      obtain ⟨a, vs', fp2, hσ, ha', hf', rs'⟩ := own_list p.sr hS
      have p1 : Pst K (fun _ _ fp => fp = []) [] [] Fz lk H σ S fps S H Fz fps [] := Pst.start p.sr rfl
      have am : a ∈ fps i := by rw [hf']; exact List.mem_cons_self
      have nd := p1.sr.nd i
      rw [hf'] at nd
      have az := p1.sr.nf i a am
      have at_ := (p1.sr.live i a am).2
      have an := (List.nodup_cons.mp nd).1
      obtain ⟨w, f1, f, f2, e5, rfl, r1, r2⟩ := rs'.split e4
      obtain ⟨n1, n2, n3⟩ := nodup3 (List.nodup_cons.mp nd).2
      have sub : ∀ b, b ∈ f1 ++ f2 ∨ b ∈ f → b ∈ f1 ++ (f ++ f2) := fun b hb => by
        simp only [List.mem_append] at hb ⊢
        rcases hb with (hb | hb) | hb
        · exact .inl hb
        · exact .inr (.inr hb)
        · exact .inr (.inl hb)
      have hl : vs'.length = ds.length := Rps.length rs'
      have e6 : vs'.dropLast = vs'.eraseIdx (ds.length - 1) := by rw [List.eraseIdx_eq_dropLast (by
        have := (List.getElem?_eq_some_iff.mp e4).1
        omega)]
      refine ⟨_, hσ, .inl ⟨rfl, vs', SqL.of ha'⟩, a, vs', w, rfl, rfl, ha', by rw [hl]; exact e5, k w _ Fz _ f (p1.out hS hσ hf' (fun _ _ z => by cases z) (p.ml i List.mem_cons_self) sub n1 n2 n3 ?_ (rp_upd r1 az (fun z => an (sub a (.inr z))) at_))⟩
      rw [e6]
      unfold Rp
      exact ⟨a, vs'.eraseIdx (ds.length - 1), f1 ++ f2, rfl, upd_same, rfl, rps_upd r2 az (fun z => an (sub a (.inl z))) at_⟩
  · cases rn
/-! ### a, b = e -/
def setAllV : List Nat → List D → Stt → Option Stt := setAll
def sAsgT (is : List Nat) (n : En) : Sn := ⟨is ++ n.mt, is, fun S => (n.run S).bind fun p => match p.1 with
  | .tup ds => (setAll is ds (bindS n.vw p.1 p.2)).bind fun S2 => some (.nx S2)
  | _ => none⟩
theorem sets_sound {K : PySem.W.Frag} {mt0 : List Nat} : ∀ (is : List Nat) {wr0 : List Nat} {Fz : Addr → Prop} {lk H σ0 H0 fps0} {ds : List D} {vs : List V} {S S' : Stt} {σ : L2.St} {Fz0 : Addr → Prop} {fps : Nat → List Addr} {fp : List Addr}, SPst K mt0 wr0 Fz0 lk H0 σ0 fps0 S σ H Fz fps → Rps K Fz H ds vs fp → fp.Nodup → (∀ a ∈ fp, ¬ Fz a) → (∀ a ∈ fp, ∀ j, a ∉ fps j) →
    (∀ a ∈ fp, H0 a = none ∨ ∃ i ∈ mt0, a ∈ fps0 i) → (∀ a ∈ fp, ∀ o u, H a ≠ some (.frz o u)) → setAll is ds S = some S' →
    ∀ {Q : L2.St → Hp → Prop}, (∀ σ' fps', SPst K (is ++ mt0) (is ++ wr0) Fz0 lk H0 σ0 fps0 S' σ' H Fz fps' → Q σ' H) → gsOf is vs σ H Q
  | [], wr0, Fz, lk, H, σ0, H0, fps0, ds, vs, S, S', σ, Fz0, fps, fp, p, r, nd, nz, fd, fo, fl, e, Q, k => by
    cases ds with
    | nil =>
      cases e
      unfold Rps at r
      exact ⟨r.1, k σ fps p⟩
    | cons d ds => cases e
  | i :: is, wr0, Fz, lk, H, σ0, H0, fps0, ds, vs, S, S', σ, Fz0, fps, fp, p, r, nd, nz, fd, fo, fl, e, Q, k => by
    cases ds with
    | nil => cases e
    | cons d ds =>
      have e : (if i < S.length then setAll is ds (S.set i (some d)) else none) = some S' := e
      split at e
      · rename_i hi
        unfold Rps at r
        obtain ⟨v, ws, f, g, rfl, rfl, r1, r2⟩ := r
        obtain ⟨m1, m2, m3⟩ := List.nodup_append.mp nd
        refine ⟨v, ws, rfl, ?_⟩
        have p1 := p.set (d := d) (v := v) (fp := f) ⟨r1, m1, fun a ha => nz a (List.mem_append_left _ ha), fun a ha => fd a (List.mem_append_left _ ha), fun a ha => fo a (List.mem_append_left _ ha), fun a ha => fl a (List.mem_append_left _ ha)⟩ hi
        have p2 := p1.wide (mt' := i :: mt0) (wr' := i :: wr0) (fun _ z => z) fun _ z => z
        refine sets_sound (mt0 := i :: mt0) is p2 r2 m2 (fun a ha => nz a (List.mem_append_right _ ha)) (fun a ha j hj => ?_) (fun a ha => (fo a (List.mem_append_right _ ha)).imp id fun ⟨l, hl, w⟩ => ⟨l, List.mem_cons_of_mem _ hl, w⟩) (fun a ha => fl a (List.mem_append_right _ ha)) e fun σ' fps' q => k σ' fps' (q.wide (fun j hj => ?_) fun j hj => ?_)
        · by_cases h : j = i
          · simp only [h, if_true] at hj
            exact m3 a hj a ha rfl
          · simp only [h, if_false] at hj
            exact fd a (List.mem_append_right _ ha) j hj
        · simp only [List.mem_append, List.mem_cons, List.cons_append] at hj ⊢
          rcases hj with hj | hj | hj
          · exact .inr (.inl hj)
          · exact .inl hj
          · exact .inr (.inr hj)
        · simp only [List.mem_append, List.mem_cons, List.cons_append] at hj ⊢
          rcases hj with hj | hj | hj
          · exact .inr (.inl hj)
          · exact .inl hj
          · exact .inr (.inr hj)
      · cases e
theorem setAll_len : ∀ {is : List Nat} {ds : List D} {S S' : Stt}, setAll is ds S = some S' → ds.length = is.length
  | [], [], _, _, _ => rfl
  | [], _ :: _, _, _, h => by cases h
  | _ :: _, [], _, _, h => by cases h
  | i :: is, d :: ds, S, S', h => by
    have h : (if i < S.length then setAll is ds (S.set i (some d)) else none) = some S' := h
    split at h
    · rw [List.length_cons, List.length_cons, setAll_len h]
    · cases h
theorem asgT_sound {K : PySem.W.Frag} {is : List Nat} {n : En} {D : Ends} {σ : L2.St} {H : Hp} (h : tS K (sAsgT is n) D σ H) : tAsg (tD K n) (gTup K is.length (gsOf is)) D σ H := by
  obtain ⟨Fz, lk, S, fps, o, r, ml, rn, w⟩ := h
  obtain ⟨d, S1, e1, e2⟩ := bindO (g := fun (d : TW.D) S1 => match d with
    | .tup ds => (setAll is ds (bindS n.vw d S1)).bind fun S2 => some (Out.nx S2)
    | _ => none) rn
  cases d with
  | tup ds =>
    have e2 : ((setAll is ds (bindS n.vw (.tup ds) S1)).bind fun S2 => some (Out.nx S2)) = some o := e2
    cases e3 : setAll is ds (bindS n.vw (.tup ds) S1) with
    | none => rw [e3] at e2; cases e2
    | some S2 =>
      rw [e3] at e2
      cases e2
      refine ⟨Fz, lk, S, fps, _, S1, ⟨r, fun j hj => ml j (List.mem_append_right _ hj), e1⟩, fun v H1 Fz1 fps1 fp p => ?_⟩
      obtain ⟨Fz2, fps2, p2, q2⟩ := p.bind
      have r2 := q2.rp
      unfold Rp at r2
      obtain ⟨a, vs, rfl, ha, r2⟩ := r2
      refine ⟨a, vs, rfl, SqT.of ha, by rw [Rps.length r2]; exact setAll_len e3, sets_sound is p2 r2 q2.nd q2.nz q2.fd q2.fo q2.fl e3 fun σ' fps' q => w σ' H1 Fz2 fps' (q.wide (fun _ z => z) fun j hj => by
        show j ∈ is
        simpa using hj)⟩
  | _ => cases e2
section
variable {X : Cx}
theorem sgs_nil : SGs X [] [] := pgs_nil
theorem ss_setT {tgE e : Expr} {is : List Nat} {n : En} {pos : Pos} (he : SE X e n) (hg : PG X tgE (gTup X.K is.length (gsOf is))) (hs : swapsWithSole [tgE] e pos.line X.env = pure false := by rfl) (hw : swappedStores [tgE] e X.env = pure none := by rfl)
    (h1 : (assignEach [tgE] X.env).map (·.2) = [assign tgE X.env] := by rfl) : SS X (.Assign [tgE] e pos) (sAsgT is n) := PS.imp (ps_asg he hg hs hw h1) fun _ _ _ q => asgT_sound q
end
end TW

/-! TWA: stores at an index of a list; two names at once. -/
namespace TW
open PySem PySem.Spec PyProof.Rows L2

/-- a value into the list of slot i at place j -/
theorem SPst.setAt {K} {mt wr : List Nat} {Fz lk H σ0 fps S1 σ H1 Fz1 fps1 d v fp} (p : SPst K mt wr Fz lk H σ0 fps S1 σ H1 Fz1 fps1) (q : VO K mt H fps H1 Fz1 fps1 d v fp) {i : Nat} {ds : List D} (hS1 : S1[i]? = some (some (.lst true ds))) {j : Nat} (hj : j < ds.length) (hnl : ¬ lk i) :
    ∃ a vs, σ[i]? = some (some (.ref a)) ∧ H1 a = some (.lst vs) ∧ vs.length = ds.length ∧ ∃ fps2, SPst K (i :: mt) wr Fz lk H σ0 fps (S1.set i (some (.lst true (ds.set j d)))) σ (upd H1 a (.lst (vs.set j v))) Fz1 fps2 := by
  obtain ⟨a, vs', fp2, hσ', ha', hf', rs'⟩ := own_list p.sr hS1
  have am : a ∈ fps1 i := by rw [hf']; exact List.mem_cons_self
  have nd := p.sr.nd i
  rw [hf'] at nd
  have az := p.sr.nf i a am
  have at_ := (p.sr.live i a am).2
  have an := (List.nodup_cons.mp nd).1
  have afp : a ∉ fp := fun z => q.fd a z i am
  have dis : ∀ b, b ∈ fp2 → b ∉ fp := fun b hb z => q.fd b z i (by rw [hf']; exact List.mem_cons_of_mem _ hb)
  have rs3 := rps_upd (o := .lst (vs'.set j v)) rs' az an at_
  have rv := rp_upd (o := .lst (vs'.set j v)) q.rp az afp at_
  obtain ⟨f1, f, f2, rfl, r3⟩ := rs3.put (List.getElem?_eq_getElem hj) rv
  have sub : ∀ b, b ∈ f1 ++ (fp ++ f2) → b ∈ f1 ++ (f ++ f2) ∨ b ∈ fp := fun b hb => by
    simp only [List.mem_append] at hb ⊢
    rcases hb with hb | hb | hb
    · exact .inl (.inl hb)
    · exact .inr hb
    · exact .inl (.inr (.inr hb))
  obtain ⟨n1, n2, n3⟩ := nodup3 (List.nodup_cons.mp nd).2
  obtain ⟨k1, k2, k3⟩ := List.nodup_append.mp n1
  refine ⟨a, vs', hσ', ha', Rps.length rs', _, p.into q hS1 hσ' hf' (fun _ _ z => by cases z) (g := f1 ++ (fp ++ f2)) sub ?_ hnl ?_⟩
  · refine List.nodup_cons.mpr ⟨fun z => (sub a z).elim an afp, List.nodup_append.mpr ⟨k1, List.nodup_append.mpr ⟨q.nd, k2, fun b hb c hc e => ?_⟩, fun b hb c hc e => ?_⟩⟩
    · subst e
      exact dis b (List.mem_append_right _ (List.mem_append_right _ hc)) hb
    · subst e
      rcases List.mem_append.mp hc with z | z
      · exact dis b (List.mem_append_left _ hb) z
      · exact k3 b hb b z rfl
  · unfold Rp
    exact ⟨a, vs'.set j v, f1 ++ (fp ++ f2), rfl, upd_same, rfl, r3⟩
/-- x[k] = v, x a list of its own -/
def sSetL (i : Nat) (nk nv : En) : Sn := ⟨i :: (nv.mt ++ nk.mt), [], fun S => (nv.run S).bind fun p => match p.2[i]? with
  | some (some (.lst true ds)) => (nk.run p.2).bind fun q => (toI q.1).bind fun k => (ixN ds.length k).bind fun j => if okB i ⟨nv.vw ++ nk.vw, [], nv.run⟩ p.1 = true then some (.nx ((bindS (nv.vw ++ nk.vw) p.1 q.2).set i (some (.lst true (ds.set j p.1))))) else none
  | _ => none⟩
theorem setL_sound {K : PySem.W.Frag} {i : Nat} {nk nv : En} {D : Ends} {σ : L2.St} {H : Hp} (hd : dj nv.vw nk.mt = true) (hn : i ∉ nk.mt) (h : tS K (sSetL i nk nv) D σ H) : tAsg (tD K nv) (gSub (tVar i) (tD K nk) rSetL) D σ H := by
  obtain ⟨Fz, lk, S, fps, o, r, ml, rn, w⟩ := h
  obtain ⟨d, S1, e1, e2⟩ := bindO (g := fun d S1 => match S1[i]? with
    | some (some (.lst true ds)) => (nk.run S1).bind fun q => (toI q.1).bind fun k => (ixN ds.length k).bind fun j => if okB i ⟨nv.vw ++ nk.vw, [], nv.run⟩ d = true then some (Out.nx ((bindS (nv.vw ++ nk.vw) d q.2).set i (some (.lst true (ds.set j d))))) else none
    | _ => none) rn
  split at e2
  · rename_i ds hS
    obtain ⟨kd, S2, e3, e4⟩ := bindO (g := fun kd S2 => (toI kd).bind fun k => (ixN ds.length k).bind fun j => if okB i ⟨nv.vw ++ nk.vw, [], nv.run⟩ d = true then some (Out.nx ((bindS (nv.vw ++ nk.vw) d S2).set i (some (.lst true (ds.set j d))))) else none) e2
    cases e5 : toI kd with
    | none => rw [e5] at e4; cases e4
    | some k =>
      rw [e5] at e4
      have e4 : ((ixN ds.length k).bind fun j => if okB i ⟨nv.vw ++ nk.vw, [], nv.run⟩ d = true then some (Out.nx ((bindS (nv.vw ++ nk.vw) d S2).set i (some (.lst true (ds.set j d))))) else none) = some o := e4
      cases e6 : ixN ds.length k with
      | none => rw [e6] at e4; cases e4
      | some j =>
        rw [e6] at e4
        obtain ⟨hb, rfl⟩ := if_some e4
        refine ⟨Fz, lk, S, fps, d, S1, ⟨r, fun l hl => ml l (List.mem_cons_of_mem _ (List.mem_append_left _ hl)), e1⟩, fun v H1 Fz1 fps1 fp1 p1 => ?_⟩
        obtain ⟨a, vs, fp', hσ, ha, hf, rs⟩ := own_list p1.sr hS
        refine ⟨_, hσ, Fz, lk, S1, fps1, kd, S2, ⟨p1.sr, fun l hl => ml l (List.mem_cons_of_mem _ (List.mem_append_right _ hl)), e3⟩, fun kv H2 Fz2 fps2 fp2 p2 => ?_⟩
        have p3 := Pst.seq mono_rp mono_rp p1 p2 (dj_ok hd)
        have ekd := toI_eq e5
        have rk := p2.rp
        rw [ekd] at rk
        have ekv := rp_int rk
        have ef : fp2 = [] := by unfold Rp at rk; exact rk.2
        rw [ef, List.append_nil] at p3
        have p4 := p3.imp (RP' := fun Fz H fp => Rp K Fz H d v fp) fun ⟨f, g, e, q1, q2⟩ => by
          rw [ekd] at q2
          unfold Rp at q2
          rw [q2.2, List.append_nil] at e
          rw [e]
          exact q1
        obtain ⟨Fz3, fps3, s3, v3⟩ := p4.bind
        have hS3 : (bindS (nv.vw ++ nk.vw) d S2)[i]? = some (some (.lst true ds)) := by
          rw [bindS_at (n := ⟨nv.vw ++ nk.vw, [], nv.run⟩) hb, (p2.fs i hn).2]
          exact hS
        have hj : j < ds.length := (ixN_seq e6).2.1
        obtain ⟨a', vs', hσ', ha', hl', fps4, s4⟩ := s3.setAt v3 hS3 hj (ml i List.mem_cons_self)
        rw [hσ] at hσ'
        cases hσ'
        exact ⟨a, vs', k, j, rfl, ekv, ha', by rw [hl']; exact e6, w σ _ Fz3 fps4 (s4.wide (fun _ z => z) fun _ z => z)⟩
  · cases e2
/-- x[k], y = e: the first of a pair of plain values into a list, the other to a name -/
def sSetNm (i : Nat) (nk : En) (y : Nat) (n : En) : Sn := ⟨y :: i :: (n.mt ++ nk.mt), [y], fun S => (n.run S).bind fun p => match p.1 with
  | .tup [d1, d2] => if plain d1 = true ∧ plain d2 = true then (match p.2[i]? with
    | some (some (.lst true ds)) => (nk.run p.2).bind fun q => (toI q.1).bind fun k => (ixN ds.length k).bind fun j => if y < q.2.length then some (.nx ((q.2.set i (some (.lst true (ds.set j d1)))).set y (some d2))) else none
    | _ => none) else none
  | _ => none⟩
theorem vo_plain {K mt H fps H1 Fz fps2} {d : D} {v : V} (h : Rp K Fz H1 d v []) : VO K mt H fps H1 Fz fps2 d v [] :=
  ⟨h, List.nodup_nil, (fun _ z => nomatch z), (fun _ z => nomatch z), (fun _ z => nomatch z), (fun _ z => nomatch z)⟩
theorem plain_nil {K Fz H} {d : D} {v : V} {fp : List Addr} (h : plain d = true) (r : Rp K Fz H d v fp) : fp = [] := by
  cases d with
  | non => unfold Rp at r; exact r.2
  | bl b => unfold Rp at r; exact r.2
  | int b => unfold Rp at r; exact r.2
  | str b => unfold Rp at r; exact r.2
  | _ => cases h
theorem rps_two {K Fz H} {d1 d2 : D} {vs : List V} {fp : List Addr} (h : Rps K Fz H [d1, d2] vs fp) : ∃ v1 v2 f1 f2, vs = [v1, v2] ∧ fp = f1 ++ f2 ∧ Rp K Fz H d1 v1 f1 ∧ Rp K Fz H d2 v2 f2 := by
  unfold Rps at h
  obtain ⟨v, ws, f, g, rfl, rfl, r, q⟩ := h
  unfold Rps at q
  obtain ⟨w, us, f2, g2, rfl, rfl, r2, q2⟩ := q
  unfold Rps at q2
  rw [q2.1, q2.2]
  exact ⟨v, w, f, f2, rfl, by rw [List.append_nil], r, r2⟩
theorem setNm_sound {K : PySem.W.Frag} {i y : Nat} {nk n : En} {D : Ends} {σ : L2.St} {H : Hp} (hn : i ∉ nk.mt) (h : tS K (sSetNm i nk y n) D σ H) : tAsg (tD K n) (gTup K 2 (gCons (gSub (tVar i) (tD K nk) rSetL) (gCons (gName y) gNil))) D σ H := by
  obtain ⟨Fz, lk, S, fps, o, r, ml, rn, w⟩ := h
  obtain ⟨d, S1, e1, e2⟩ := bindO (g := fun (d : TW.D) S1 => match d with
    | .tup [d1, d2] => if plain d1 = true ∧ plain d2 = true then (match S1[i]? with
      | some (some (.lst true ds)) => (nk.run S1).bind fun q => (toI q.1).bind fun k => (ixN ds.length k).bind fun j => if y < q.2.length then some (Out.nx ((q.2.set i (some (.lst true (ds.set j d1)))).set y (some d2))) else none
      | _ => none) else none
    | _ => none) rn
  split at e2
  · rename_i d1 d2
    split at e2
    · rename_i hp
      split at e2
      · rename_i ds hS
        obtain ⟨kd, S2, e3, e4⟩ := bindO (g := fun kd (S2 : Stt) => (toI kd).bind fun k => (ixN ds.length k).bind fun j => if y < S2.length then some (Out.nx ((S2.set i (some (.lst true (ds.set j d1)))).set y (some d2))) else none) e2
        cases e5 : toI kd with
        | none => rw [e5] at e4; cases e4
        | some k =>
          rw [e5] at e4
          have e4 : ((ixN ds.length k).bind fun j => if y < S2.length then some (Out.nx ((S2.set i (some (.lst true (ds.set j d1)))).set y (some d2))) else none) = some o := e4
          cases e6 : ixN ds.length k with
          | none => rw [e6] at e4; cases e4
          | some j =>
            rw [e6] at e4
            obtain ⟨hy, rfl⟩ := if_some e4
            refine ⟨Fz, lk, S, fps, _, S1, ⟨r, fun l hl => ml l (List.mem_cons_of_mem _ (List.mem_cons_of_mem _ (List.mem_append_left _ hl))), e1⟩, fun v H1 Fz1 fps1 fp1 p1 => ?_⟩
            have r1 := p1.rp
            unfold Rp at r1
            obtain ⟨t, vs, rfl, ht, r1⟩ := r1
            obtain ⟨v1, v2, f1, f2, rfl, rfl, q1, q2⟩ := rps_two r1
            obtain ⟨a, vs, fp', hσ, ha, hf, rs⟩ := own_list p1.sr hS
            refine ⟨t, [v1, v2], rfl, SqT.of ht, rfl, v1, [v2], rfl, ?_⟩
            refine ⟨_, hσ, Fz, lk, S1, fps1, kd, S2, ⟨p1.sr, fun l hl => ml l (List.mem_cons_of_mem _ (List.mem_cons_of_mem _ (List.mem_append_right _ hl))), e3⟩, fun kv H2 Fz2 fps2 fp2 p2 => ?_⟩
            have ekd := toI_eq e5
            have rk := p2.rp
            rw [ekd] at rk
            have ekv := rp_int rk
            have s2 : SPst K (n.mt ++ nk.mt) [] Fz lk H σ fps S2 σ H2 Fz fps2 := p1.spst.trans p2.spst
            have vo1 : VO K (n.mt ++ nk.mt) H fps H2 Fz fps2 d1 v1 [] := vo_plain (plain_rp hp.1 q1)
            have hS2 : S2[i]? = some (some (.lst true ds)) := by rw [(p2.fs i hn).2]; exact hS
            obtain ⟨a', vs', hσ', ha', hl', fps4, s4⟩ := s2.setAt vo1 hS2 (ixN_seq e6).2.1 (ml i (List.mem_cons_of_mem _ List.mem_cons_self))
            rw [hσ] at hσ'
            cases hσ'
            refine ⟨a, vs', k, j, rfl, ekv, ha', by rw [hl']; exact e6, v2, [], rfl, rfl, ?_⟩
            have s5 := s4.set (d := d2) (v := v2) (fp := []) (vo_plain (plain_rp hp.2 q2)) (i := y) (by rw [List.length_set]; exact hy)
            exact w _ _ Fz _ (s5.wide (fun _ z => z) fun _ z => z)
      · cases e2
    · cases e2
  · cases e2
/-- a, b = e1, e2 (two names of the frame) -/
def sPar (i j : Nat) (n : An) : Sn := ⟨j :: i :: n.mt, [i, j], fun S => (n.run S).bind fun p => match p.1 with
  | [d1, d2] => if i < p.2.length ∧ j < p.2.length then some (.nx (((if noFs p.1 then p.2 else frzAt n.vw p.2).set i (some d1)).set j (some d2))) else none
  | _ => none⟩
theorem Pst.bindR {K} {vw mt : List Nat} {Fz lk H σ S fps S1 H1 Fz1 fps1 fp} {ds : List D} {vs : List V} (p : Pst K (fun Fz H fp => Rps K Fz H ds vs fp) vw mt Fz lk H σ S fps S1 H1 Fz1 fps1 fp) :
    ∃ Fz2 fps2, SPst K mt [] Fz lk H σ fps (if noFs ds then S1 else frzAt vw S1) σ H1 Fz2 fps2 ∧ Rps K Fz2 H1 ds vs fp ∧ (∀ a ∈ fp, ¬ Fz2 a) ∧ ∀ a ∈ fp, ∀ j, a ∉ fps2 j := by
  by_cases hn : noFs ds = true
  · rw [if_pos hn]
    exact ⟨Fz, fps1, p.spst, p.rp.noF hn, fun a ha z => p.nz a ha (p.zz a z), p.fd⟩
  · rw [if_neg hn]
    have g := p.sr.give (vw := vw) p.zz (fun a z => p.za a z) (fun _ _ _ _ => .inr trivial) fun a z => (p.zo a z).imp id (Or.imp And.right id)
    have sub : ∀ j a, a ∈ (if j ∈ vw then [] else fps1 j) → a ∈ fps1 j := fun j a ha => by
      by_cases hm : j ∈ vw
      · simp only [hm, if_true] at ha; cases ha
      · simp only [hm, if_false] at ha; exact ha
    refine ⟨_, _, ⟨g, fun a z => .inl (p.zz a z), ?_, p.kp, p.dm, ?_, ?_, fun _ _ => rfl⟩, p.rp.weak fun a z => .inl z, ?_, fun a ha j hj => p.fd a ha j (sub j a hj)⟩
    · rintro a (z | ⟨i, _, z⟩)
      · rcases p.zo a z with z | ⟨z | ⟨i, _, z⟩, _⟩ | ⟨i, _, z⟩
        · exact .inl z
        · exact .inr (.inl z)
        · exact .inr (.inr ⟨i, z⟩)
        · rcases p.fm i a z with z | ⟨l, _, z⟩ | z
          · exact .inr (.inr ⟨i, z⟩)
          · exact .inr (.inr ⟨l, z⟩)
          · exact .inr (.inl z)
      · rcases p.fm i a z with z | ⟨l, _, z⟩ | z
        · exact .inr (.inr ⟨i, z⟩)
        · exact .inr (.inr ⟨l, z⟩)
        · exact .inr (.inl z)
    · intro i hi a ha
      have z := sub i a ha
      rw [(p.fs i hi).1] at z
      exact z
    · exact fun i a ha => p.fm i a (sub i a ha)
    · rintro a ha (z | ⟨i, _, z⟩)
      · exact p.nz a ha z
      · exact p.fd a ha i z
theorem par_sound {K : PySem.W.Frag} {i j : Nat} {n : An} {D : Ends} {σ : L2.St} {H : Hp} (h : tS K (sPar i j n) D σ H) : tPar i j (tA K n) D σ H := by
  obtain ⟨Fz, lk, S, fps, o, r, ml, rn, w⟩ := h
  obtain ⟨ds, S1, e1, e2⟩ := bindO (g := fun (ds : List TW.D) S1 => match ds with
    | [d1, d2] => if i < S1.length ∧ j < S1.length then some (Out.nx (((if noFs ds then S1 else frzAt n.vw S1).set i (some d1)).set j (some d2))) else none
    | _ => none) rn
  split at e2
  · rename_i d1 d2
    obtain ⟨⟨hi, hj⟩, rfl⟩ := if_some e2
    refine ⟨Fz, lk, S, fps, _, S1, ⟨r, fun l hl => ml l (List.mem_cons_of_mem _ (List.mem_cons_of_mem _ hl)), e1⟩, fun vs H1 Fz1 fps1 fp p => ?_⟩
    obtain ⟨Fz2, fps2, p2, r2, nz2, fd2⟩ := p.bindR
    have hl : (if noFs [d1, d2] then S1 else frzAt n.vw S1).length = S1.length := by
      split
      · rfl
      · exact frzAt_length _ _
    have es : setAll [i, j] [d1, d2] (if noFs [d1, d2] then S1 else frzAt n.vw S1) = some (((if noFs [d1, d2] then S1 else frzAt n.vw S1).set i (some d1)).set j (some d2)) := by
      show (if i < (if noFs [d1, d2] then S1 else frzAt n.vw S1).length then (if j < ((if noFs [d1, d2] then S1 else frzAt n.vw S1).set i (some d1)).length then some (((if noFs [d1, d2] then S1 else frzAt n.vw S1).set i (some d1)).set j (some d2)) else none) else none) = _
      rw [if_pos (by rw [hl]; exact hi), if_pos (by rw [List.length_set, hl]; exact hj)]
    have g := sets_sound (K := K) [i, j] p2 r2 p.nd nz2 fd2 p.fo p.fl es (Q := D.nx) fun σ' fps' q => w σ' H1 Fz2 fps' (q.wide (fun l hl => ?_) fun l hl => ?_)
    · obtain ⟨v, ws, rfl, v2, us, e3, e4, g⟩ := g
      subst e3
      subst e4
      exact ⟨v, v2, rfl, g⟩
    · simp only [List.mem_append, List.mem_cons, List.not_mem_nil, or_false] at hl
      rcases hl with (hl | hl) | hl
      · rw [hl]; exact List.mem_cons_of_mem _ List.mem_cons_self
      · rw [hl]; exact List.mem_cons_self
      · exact List.mem_cons_of_mem _ (List.mem_cons_of_mem _ hl)
    · show l ∈ [i, j]
      simpa using hl
  · cases e2
end TW

/-! TWB: operators. -/
namespace TW
open PySem PySem.Spec PyProof.Rows L2

section
variable {K : PySem.W.Frag} {Fz : Addr → Prop} {H : Hp}
theorem rps2 {d1 d2 : D} {vs : List V} (h : Rps K Fz H [d1, d2] vs []) : ∃ x y, vs = [x, y] ∧ Rp K Fz H d1 x [] ∧ Rp K Fz H d2 y [] := by
  obtain ⟨x, ws, rfl, r1, r2⟩ := rps_cons h
  obtain ⟨y, us, rfl, r3, r4⟩ := rps_cons r2
  unfold Rps at r4
  rw [r4.1]
  exact ⟨x, y, rfl, r1, r3⟩
theorem rps1 {d1 : D} {vs : List V} (h : Rps K Fz H [d1] vs []) : ∃ x, vs = [x] ∧ Rp K Fz H d1 x [] := by
  obtain ⟨x, ws, rfl, r1, r2⟩ := rps_cons h
  unfold Rps at r2
  rw [r2.1]
  exact ⟨x, rfl, r1⟩
theorem rp_str {x : Str} {v : V} {fp : List Addr} (h : Rp K Fz H (.str x) v fp) : v = .str x := by
  unfold Rp at h
  exact h.1
theorem rp_non {v : V} {fp : List Addr} (h : Rp K Fz H .non v fp) : v = .non := by
  unfold Rp at h
  exact h.1
theorem rp_lst {o : Bool} {ds : List D} {v : V} (h : Rp K Fz H (.lst o ds) v []) : ∃ a vs, v = .ref a ∧ H a = some (.lst vs) ∧ Fz a ∧ Rps K Fz H ds vs [] := by
  cases o with
  | true =>
    unfold Rp at h
    obtain ⟨a, vs, fp', e, ha, e2, r⟩ := h
    cases e2
  | false =>
    unfold Rp at h
    obtain ⟨a, vs, e, hz, ha, e2, r⟩ := h
    exact ⟨a, vs, e, ha, hz, r⟩
theorem rp_tup {ds : List D} {v : V} {fp : List Addr} (h : Rp K Fz H (.tup ds) v fp) : ∃ a vs, v = .ref a ∧ H a = some (.tup vs) ∧ Rps K Fz H ds vs fp := by
  unfold Rp at h
  obtain ⟨a, vs, e, ha, r⟩ := h
  exact ⟨a, vs, e, ha, r⟩
theorem rp_scr {ns : List Int} {v : V} {fp : List Addr} (h : Rp K Fz H (.scr ns) v fp) : ∃ a, v = .ref a ∧ SqL K H a (ns.map V.int) := by
  unfold Rp at h
  obtain ⟨a, e, ha, _⟩ := h
  exact ⟨a, e, ha.sq⟩
theorem rp_mk_int {i : Int} : Rp K Fz H (.int i) (.int i) [] := by unfold Rp; exact ⟨rfl, rfl⟩
theorem rp_mk_str {i : Str} : Rp K Fz H (.str i) (.str i) [] := by unfold Rp; exact ⟨rfl, rfl⟩
theorem rp_mk_non : Rp K Fz H .non .non [] := by unfold Rp; exact ⟨rfl, rfl⟩
end
abbrev Za (Fz : Addr → Prop) (H : Hp) : Prop := ∀ a, Fz a → ∃ o, H a = some o
/-! ### + -/
def dAdd : List D → Option D
  | [.int a, .int b] => some (.int (a + b))
  | [.str a, .str b] => if a.length + b.length ≤ 100000 then some (.str (a ++ b)) else none
  | [.lst _ xs, .lst _ ys] => if xs.length + ys.length ≤ 100000 then some (.lst true (xs ++ ys)) else none
  | [.tup xs, .tup ys] => if xs.length + ys.length ≤ 100000 then some (.tup (xs ++ ys)) else none
  | _ => none
def rAddA (K : PySem.W.Frag) : R2 := fun x y H Q => rI0 (fun i j => .int (i + j)) x y H Q ∨ (∃ i j, x = .str i ∧ y = .str j ∧ i.length + j.length ≤ sizeLine ∧ Q (.str (i ++ j)) H) ∨ rCat x y H Q ∨ rCatA K x y H Q
theorem op_addA {X : Cx} : OpR X (binaryOp .Add) (rAddA X.K) := op_add.or (op_add_str.or (op_cat.or op_catA))
theorem v_add {K : PySem.W.Frag} : VOp K (r2 (rAddA K)) dAdd := by
  intro Fz H ds vs d Q za r e k
  unfold dAdd at e
  split at e
  · rename_i a b
    cases e
    obtain ⟨x, y, rfl, r1, r2⟩ := rps2 r
    exact ⟨_, _, rfl, .inl ⟨a, b, rp_int r1, rp_int r2, k _ _ _ _ (VPst.old za rp_mk_int)⟩⟩
  · rename_i a b
    obtain ⟨hl, rfl⟩ := if_some e
    obtain ⟨x, y, rfl, r1, r2⟩ := rps2 r
    exact ⟨_, _, rfl, .inr (.inl ⟨a, b, rp_str r1, rp_str r2, sz_le hl, k _ _ _ _ (VPst.old za rp_mk_str)⟩)⟩
  · rename_i o1 xs o2 ys
    obtain ⟨hl, rfl⟩ := if_some e
    obtain ⟨x, y, rfl, r1, r2⟩ := rps2 r
    obtain ⟨a, vs, rfl, ha, _, ra⟩ := rp_lst r1
    obtain ⟨b, ws, rfl, hb, _, rb⟩ := rp_lst r2
    refine ⟨_, _, rfl, .inr (.inr (.inl ⟨a, b, vs, ws, rfl, rfl, ha, hb, sz_le (by rw [Rps.length ra, Rps.length rb]; exact hl), fun p hp => k _ _ _ _ (VPst.lst za hp (ra.app rb))⟩))⟩
  · rename_i xs ys
    obtain ⟨hl, rfl⟩ := if_some e
    obtain ⟨x, y, rfl, r1, r2⟩ := rps2 r
    obtain ⟨a, vs, rfl, ha, ra⟩ := rp_tup r1
    obtain ⟨b, ws, rfl, hb, rb⟩ := rp_tup r2
    have rab := ra.app rb
    refine ⟨_, _, rfl, .inr (.inr (.inr ⟨a, b, vs, ws, rfl, rfl, SqT.of ha, SqT.of hb, sz_le (by rw [Rps.length ra, Rps.length rb]; exact hl), fun e0 => ?_, fun _ e0 => ?_, fun _ _ p hp => k _ _ _ _ (VPst.tup za hp rab)⟩))⟩
    · subst e0
      refine k _ _ _ _ (VPst.old za ?_)
      unfold Rp
      exact ⟨b, [] ++ ws, rfl, hb, rab⟩
    · subst e0
      refine k _ _ _ _ (VPst.old za ?_)
      unfold Rp
      exact ⟨a, vs ++ [], rfl, by rw [List.append_nil]; exact ha, rab⟩
  · cases e
/-! ### ints -/
/-- two ints in, under C -/
def dI2 (C : Int → Int → Bool) (g : Int → Int → Int) : List D → Option D
  | [.int a, .int b] => if C a b then some (.int (g a b)) else none
  | _ => none
theorem pl_dI2 {C : Int → Int → Bool} {g : Int → Int → Int} : PlF (dI2 C g) := by
  intro ds d e
  unfold dI2 at e
  split at e
  · obtain ⟨_, rfl⟩ := if_some e
    rfl
  · cases e
theorem v_I2 {K : PySem.W.Frag} {C : Int → Int → Bool} {P : Int → Int → Prop} {g : Int → Int → Int} (h : ∀ i j, C i j = true → P i j) : VOp K (r2 (rI P fun i j => .int (g i j))) (dI2 C g) := by
  intro Fz H ds vs d Q za r e k
  unfold dI2 at e
  split at e
  · rename_i a b
    obtain ⟨hc, rfl⟩ := if_some e
    obtain ⟨x, y, rfl, r1, r2⟩ := rps2 r
    exact ⟨_, _, rfl, a, b, rp_int r1, rp_int r2, h a b hc, k _ _ _ _ (VPst.old za rp_mk_int)⟩
  · cases e
theorem v_I20 {K : PySem.W.Frag} {g : Int → Int → Int} : VOp K (r2 (rI0 fun i j => .int (g i j))) (dI2 (fun _ _ => true) g) := by
  intro Fz H ds vs d Q za r e k
  unfold dI2 at e
  split at e
  · rename_i a b
    obtain ⟨hc, rfl⟩ := if_some e
    obtain ⟨x, y, rfl, r1, r2⟩ := rps2 r
    exact ⟨_, _, rfl, a, b, rp_int r1, rp_int r2, k _ _ _ _ (VPst.old za rp_mk_int)⟩
  · cases e
abbrev dSub : List D → Option D := dI2 (fun _ _ => true) (fun i j => i - j)
def cMul (i j : Int) : Bool := decide (i.natAbs < 2 ^ 64) || decide (j.natAbs < 2 ^ 64)
abbrev dMul : List D → Option D := dI2 cMul (fun i j => i * j)
theorem cMul_ok (i j : Int) (h : cMul i j = true) : CMul i j := by
  unfold cMul at h
  rcases Bool.or_eq_true_iff.mp h with h | h
  · have := of_decide_eq_true h
    exact .inl ⟨by omega, by omega⟩
  · have := of_decide_eq_true h
    exact .inr ⟨by omega, by omega⟩
/-- a positive divisor that is no giant -/
def cDiv (_ j : Int) : Bool := decide (0 < j) && decide (j.natAbs.log2 < 1000)
abbrev dFdiv : List D → Option D := dI2 cDiv (fun i j => i / j)
theorem noPy {i j : Int} (h : j.natAbs.log2 < 1000) : Builtin.divisionGoesByPylong i j = false := by
  unfold Builtin.divisionGoesByPylong
  apply Bool.and_eq_false_iff.mpr
  left
  apply decide_eq_false
  by_cases hj : (j == 0) = true
  · simp only [hj, if_true]; omega
  · simp only [hj]; simp only [Bool.false_eq_true, if_false]; omega
theorem op_fdivD {X : Cx} : OpR X (binaryOp .FloorDiv) (rI (fun _ j => 0 < j ∧ j.natAbs.log2 < 1000) fun i j => .int (i / j)) := opI fun i j _ _ _ _ _ hc q => by
  have h1 : (0 : Int) < j := hc.1
  exact floordiv_int (by omega) (by rw [Int.fdiv_eq_ediv_of_nonneg i (by omega)]; exact q) (.inl (noPy hc.2))
theorem cDiv_ok (i j : Int) (h : cDiv i j = true) : 0 < j ∧ j.natAbs.log2 < 1000 := by
  unfold cDiv at h
  obtain ⟨h1, h2⟩ := Bool.and_eq_true_iff.mp h
  exact ⟨of_decide_eq_true h1, of_decide_eq_true h2⟩
def cPos (_ j : Int) : Bool := decide (0 < j)
abbrev dMod : List D → Option D := dI2 cPos (fun i j => i % j)
def cPow (i j : Int) : Bool := decide (0 ≤ j) && decide (j ≤ 1000) && decide (i.natAbs < 2 ^ 64)
theorem cPow_ok (i j : Int) (h : cPow i j = true) : CPow i j := by
  unfold cPow at h
  obtain ⟨h0, h3⟩ := Bool.and_eq_true_iff.mp h
  obtain ⟨h1, h2⟩ := Bool.and_eq_true_iff.mp h0
  have := of_decide_eq_true h2
  exact ⟨of_decide_eq_true h1, by omega, of_decide_eq_true h3⟩
abbrev dPow : List D → Option D := dI2 cPow (fun i j => i ^ j.toNat)
abbrev dShl : List D → Option D := dI2 cPow (fun i j => i * 2 ^ j.toNat)
def cNn (_ j : Int) : Bool := decide (0 ≤ j)
abbrev dShr : List D → Option D := dI2 cNn (fun i j => i / 2 ^ j.toNat)
abbrev dAnd : List D → Option D := dI2 (fun _ _ => true) Builtin.bitAnd
abbrev dXor : List D → Option D := dI2 (fun _ _ => true) Builtin.bitXor
section
variable {X : Cx} {a b : Expr} {na nb : En} {pos : Pos}
theorem se_add (ha : SE X a na) (hb : SE X b nb) (hd : dj na.vw nb.mt = true := by rfl) : SE X (.BinOp a .Add b pos) (eApp dAdd (a2 na nb)) := se_bin op_addA v_add ha hb hd
theorem se_sub (ha : SE X a na) (hb : SE X b nb) (hd : dj na.vw nb.mt = true := by rfl) : SE X (.BinOp a .Sub b pos) (eAppP dSub (a2 na nb)) := se_plain pl_dI2 (se_bin op_sub v_I20 ha hb hd)
theorem se_mul (ha : SE X a na) (hb : SE X b nb) (hd : dj na.vw nb.mt = true := by rfl) : SE X (.BinOp a .Mult b pos) (eAppP dMul (a2 na nb)) := se_plain pl_dI2 (se_bin op_mul (v_I2 cMul_ok) ha hb hd)
theorem se_fdiv (ha : SE X a na) (hb : SE X b nb) (hd : dj na.vw nb.mt = true := by rfl) : SE X (.BinOp a .FloorDiv b pos) (eAppP dFdiv (a2 na nb)) := se_plain pl_dI2 (se_bin op_fdivD (v_I2 cDiv_ok) ha hb hd)
theorem se_mod (ha : SE X a na) (hb : SE X b nb) (hd : dj na.vw nb.mt = true := by rfl) : SE X (.BinOp a .Mod b pos) (eAppP dMod (a2 na nb)) := se_plain pl_dI2 (se_bin op_mod (v_I2 fun _ _ h => of_decide_eq_true h) ha hb hd)
theorem se_pow (ha : SE X a na) (hb : SE X b nb) (hd : dj na.vw nb.mt = true := by rfl) : SE X (.BinOp a .Pow b pos) (eAppP dPow (a2 na nb)) := se_plain pl_dI2 (se_bin op_pow (v_I2 cPow_ok) ha hb hd)
theorem se_shl (ha : SE X a na) (hb : SE X b nb) (hd : dj na.vw nb.mt = true := by rfl) : SE X (.BinOp a .LShift b pos) (eAppP dShl (a2 na nb)) := se_plain pl_dI2 (se_bin op_shl (v_I2 cPow_ok) ha hb hd)
theorem se_shr (ha : SE X a na) (hb : SE X b nb) (hd : dj na.vw nb.mt = true := by rfl) : SE X (.BinOp a .RShift b pos) (eAppP dShr (a2 na nb)) := se_plain pl_dI2 (se_bin op_shr (v_I2 fun _ _ h => of_decide_eq_true h) ha hb hd)
theorem se_band (ha : SE X a na) (hb : SE X b nb) (hd : dj na.vw nb.mt = true := by rfl) : SE X (.BinOp a .BitAnd b pos) (eAppP dAnd (a2 na nb)) := se_plain pl_dI2 (se_bin op_and v_I20 ha hb hd)
theorem se_bxor (ha : SE X a na) (hb : SE X b nb) (hd : dj na.vw nb.mt = true := by rfl) : SE X (.BinOp a .BitXor b pos) (eAppP dXor (a2 na nb)) := se_plain pl_dI2 (se_bin op_xor v_I20 ha hb hd)
end
def dNeg : List D → Option D
  | [.int a] => some (.int (-a))
  | _ => none
theorem v_neg {K : PySem.W.Frag} : VOp K (r1 (rU fun i => .int (-i))) dNeg := by
  intro Fz H ds vs d Q za r e k
  unfold dNeg at e
  split at e
  · rename_i a
    cases e
    obtain ⟨x, rfl, r1⟩ := rps1 r
    exact ⟨_, rfl, a, rp_int r1, k _ _ _ _ (VPst.old za rp_mk_int)⟩
  · cases e
theorem pl_neg : PlF dNeg := by
  intro ds d e
  unfold dNeg at e
  split at e
  · cases e; rfl
  · cases e
theorem se_neg {X : Cx} {a : Expr} {na : En} {pos : Pos} (ha : SE X a na) : SE X (.UnaryOp .USub a pos) (eAppP dNeg (a1 na)) := se_plain pl_neg (se_un un_neg v_neg ha)
/-! ### < <= > >= -/
def dCmp (g : Int → Int → Bool) (s : List Nat → List Nat → Bool) : List D → Option D
  | [.int a, .int b] => some (.bl (g a b))
  | [.str a, .str b] => some (.bl (s a.cps.toList b.cps.toList))
  | _ => none
theorem pl_dCmp {g : Int → Int → Bool} {s : List Nat → List Nat → Bool} : PlF (dCmp g s) := by
  intro ds d e
  unfold dCmp at e
  split at e
  · cases e; rfl
  · cases e; rfl
  · cases e
theorem v_cmp {K : PySem.W.Frag} {g : Int → Int → Bool} {s : List Nat → List Nat → Bool} {rs : R2} (hs : ∀ (x y : Str) (H : Hp) (Q : VK), Q (.bl (s x.cps.toList y.cps.toList)) H → rs (.str x) (.str y) H Q) : VOp K (r2 (fun x y H Q => rI0 (fun i j => .bl (g i j)) x y H Q ∨ rs x y H Q)) (dCmp g s) := by
  intro Fz H ds vs d Q za r e k
  unfold dCmp at e
  split at e
  · rename_i a b
    cases e
    obtain ⟨x, y, rfl, r1, r2⟩ := rps2 r
    exact ⟨_, _, rfl, .inl ⟨a, b, rp_int r1, rp_int r2, k _ _ _ _ (VPst.old za rp_bl')⟩⟩
  · rename_i a b
    cases e
    obtain ⟨x, y, rfl, r1, r2⟩ := rps2 r
    have e1 := rp_str r1
    have e2 := rp_str r2
    subst e1 e2
    exact ⟨_, _, rfl, .inr (hs a b H Q (k _ _ _ _ (VPst.old za rp_bl')))⟩
  · cases e
abbrev dLt : List D → Option D := dCmp (fun i j => decide (i < j)) (fun a b => decide (a < b))
abbrev dLe : List D → Option D := dCmp (fun i j => decide (i ≤ j)) (fun a b => !decide (b < a))
abbrev dGt : List D → Option D := dCmp (fun i j => decide (j < i)) (fun a b => decide (b < a))
abbrev dGe : List D → Option D := dCmp (fun i j => decide (j ≤ i)) (fun a b => !decide (a < b))
end TW

/-! TWC: comparisons, in, is, subscripts. -/
namespace TW
open PySem PySem.Spec PyProof.Rows L2

section
variable {X : Cx} {a b : Expr} {na nb : En} {pos : Pos}
theorem op_ltA : OpR X (compareOp .Lt) (fun x y H Q => rI0 (fun i j => .bl (decide (i < j))) x y H Q ∨ ∃ i j, x = .str i ∧ y = .str j ∧ Q (.bl (decide (i.cps.toList < j.cps.toList))) H) := op_lt.or op_lt_str
theorem op_leA : OpR X (compareOp .LtE) (fun x y H Q => rI0 (fun i j => .bl (decide (i ≤ j))) x y H Q ∨ ∃ i j, x = .str i ∧ y = .str j ∧ Q (.bl (!decide (j.cps.toList < i.cps.toList))) H) := op_le.or op_le_str
theorem op_gtA : OpR X (compareOp .Gt) (fun x y H Q => rI0 (fun i j => .bl (decide (j < i))) x y H Q ∨ ∃ i j, x = .str i ∧ y = .str j ∧ Q (.bl (decide (j.cps.toList < i.cps.toList))) H) := op_gt.or op_gt_str
theorem op_geA : OpR X (compareOp .GtE) (fun x y H Q => rI0 (fun i j => .bl (decide (j ≤ i))) x y H Q ∨ ∃ i j, x = .str i ∧ y = .str j ∧ Q (.bl (!decide (i.cps.toList < j.cps.toList))) H) := op_ge.or op_ge_str
theorem v_lt {K : PySem.W.Frag} : VOp K (r2 (fun x y H Q => rI0 (fun i j => .bl (decide (i < j))) x y H Q ∨ ∃ i j, x = .str i ∧ y = .str j ∧ Q (.bl (decide (i.cps.toList < j.cps.toList))) H)) dLt := v_cmp fun x y H Q q => ⟨x, y, rfl, rfl, q⟩
theorem v_le {K : PySem.W.Frag} : VOp K (r2 (fun x y H Q => rI0 (fun i j => .bl (decide (i ≤ j))) x y H Q ∨ ∃ i j, x = .str i ∧ y = .str j ∧ Q (.bl (!decide (j.cps.toList < i.cps.toList))) H)) dLe := v_cmp fun x y H Q q => ⟨x, y, rfl, rfl, q⟩
theorem v_gt {K : PySem.W.Frag} : VOp K (r2 (fun x y H Q => rI0 (fun i j => .bl (decide (j < i))) x y H Q ∨ ∃ i j, x = .str i ∧ y = .str j ∧ Q (.bl (decide (j.cps.toList < i.cps.toList))) H)) dGt := v_cmp fun x y H Q q => ⟨x, y, rfl, rfl, q⟩
theorem v_ge {K : PySem.W.Frag} : VOp K (r2 (fun x y H Q => rI0 (fun i j => .bl (decide (j ≤ i))) x y H Q ∨ ∃ i j, x = .str i ∧ y = .str j ∧ Q (.bl (!decide (i.cps.toList < j.cps.toList))) H)) dGe := v_cmp fun x y H Q q => ⟨x, y, rfl, rfl, q⟩
theorem se_lt (ha : SE X a na) (hb : SE X b nb) (hd : dj na.vw nb.mt = true := by rfl) : SE X (.Compare a [.Lt] [b] pos) (eAppP dLt (a2 na nb)) := se_plain pl_dCmp (se_cmp op_ltA v_lt ha hb (nomark _) hd)
theorem se_le (ha : SE X a na) (hb : SE X b nb) (hd : dj na.vw nb.mt = true := by rfl) : SE X (.Compare a [.LtE] [b] pos) (eAppP dLe (a2 na nb)) := se_plain pl_dCmp (se_cmp op_leA v_le ha hb (nomark _) hd)
theorem se_gt (ha : SE X a na) (hb : SE X b nb) (hd : dj na.vw nb.mt = true := by rfl) : SE X (.Compare a [.Gt] [b] pos) (eAppP dGt (a2 na nb)) := se_plain pl_dCmp (se_cmp op_gtA v_gt ha hb (nomark _) hd)
theorem se_ge (ha : SE X a na) (hb : SE X b nb) (hd : dj na.vw nb.mt = true := by rfl) : SE X (.Compare a [.GtE] [b] pos) (eAppP dGe (a2 na nb)) := se_plain pl_dCmp (se_cmp op_geA v_ge ha hb (nomark _) hd)
theorem st_lt (ha : SE X a na) (hb : SE X b nb) (hd : dj na.vw nb.mt = true := by rfl) : ST X (.Compare a [.Lt] [b] pos) (nVal (eAppP dLt (a2 na nb))) := st_plain (st_cmp op_ltA v_lt ha hb (nomark _) hd)
theorem st_le (ha : SE X a na) (hb : SE X b nb) (hd : dj na.vw nb.mt = true := by rfl) : ST X (.Compare a [.LtE] [b] pos) (nVal (eAppP dLe (a2 na nb))) := st_plain (st_cmp op_leA v_le ha hb (nomark _) hd)
theorem st_gt (ha : SE X a na) (hb : SE X b nb) (hd : dj na.vw nb.mt = true := by rfl) : ST X (.Compare a [.Gt] [b] pos) (nVal (eAppP dGt (a2 na nb))) := st_plain (st_cmp op_gtA v_gt ha hb (nomark _) hd)
theorem st_ge (ha : SE X a na) (hb : SE X b nb) (hd : dj na.vw nb.mt = true := by rfl) : ST X (.Compare a [.GtE] [b] pos) (nVal (eAppP dGe (a2 na nb))) := st_plain (st_cmp op_geA v_ge ha hb (nomark _) hd)
end
/-! ### == and != -/
mutual
def toP : D → Option PyData
  | .non => some .none
  | .bl b => some (.bool b)
  | .int i => some (.int i)
  | .str x => some (.str x)
  | .tup xs => (toPs xs).map .tuple
  | .lst _ xs => (toPs xs).map .list
  | .dct _ _ _ => none
  | .scr _ => none
def toPs : List D → Option (List PyData)
  | [] => some []
  | x :: xs => (toP x).bind fun p => (toPs xs).map (p :: ·)
end
mutual
theorem dp_of {K : PySem.W.Frag} {Fz : Addr → Prop} {H : Hp} : ∀ {d : D} {v : V} {p : PyData}, Rp K Fz H d v [] → toP d = some p → Dp K H v p
  | .non, v, p, r, e => by
    unfold toP at e
    cases e
    rw [rp_non r]
    exact .non
  | .bl b, v, p, r, e => by
    unfold toP at e
    cases e
    rw [rp_bl r]
    exact .bl b
  | .int b, v, p, r, e => by
    unfold toP at e
    cases e
    rw [rp_int r]
    exact .int b
  | .str b, v, p, r, e => by
    unfold toP at e
    cases e
    rw [rp_str r]
    exact .str b
  | .tup xs, v, p, r, e => by
    unfold toP at e
    cases e1 : toPs xs with
    | none => rw [e1] at e; cases e
    | some ps =>
      rw [e1] at e
      cases e
      obtain ⟨a, vs, rfl, ha, rs⟩ := rp_tup r
      exact .tup (SqT.of ha) (dps_of rs e1)
  | .lst o xs, v, p, r, e => by
    unfold toP at e
    cases e1 : toPs xs with
    | none => rw [e1] at e; cases e
    | some ps =>
      rw [e1] at e
      cases e
      obtain ⟨a, vs, rfl, ha, _, rs⟩ := rp_lst r
      exact .lst (SqL.of ha) (dps_of rs e1)
  | .dct o ks xs, v, p, r, e => by unfold toP at e; cases e
  | .scr ns, v, p, r, e => by unfold toP at e; cases e
theorem dps_of {K : PySem.W.Frag} {Fz : Addr → Prop} {H : Hp} : ∀ {ds : List D} {vs : List V} {ps : List PyData}, Rps K Fz H ds vs [] → toPs ds = some ps → DpAll K H vs ps
  | [], vs, ps, r, e => by
    unfold toPs at e
    cases e
    unfold Rps at r
    rw [r.1]
    exact .nil
  | d :: ds, vs, ps, r, e => by
    unfold toPs at e
    cases e1 : toP d with
    | none => rw [e1] at e; cases e
    | some p =>
      rw [e1] at e
      cases e2 : toPs ds with
      | none => rw [e2] at e; cases e
      | some qs =>
        rw [e2] at e
        cases e
        obtain ⟨v, ws, rfl, r1, r2⟩ := rps_cons r
        exact .cons (dp_of r1 e1) (dps_of r2 e2)
end
/-- == of trees without dicts -/
def eqT (x y : D) : Option Bool := match x, y with
  | .str a, .str b => some (decide (a = b))
  | .int a, .int b => some (decide (a = b))
  | .bl a, .bl b => some (decide (a = b))
  | x, y => (toP x).bind fun p => (toP y).bind fun q => if SeqAt.shaped p && SeqAt.shaped q then some (PyData.eqv p q) else none
def dEq : List D → Option D
  | [x, y] => (eqT x y).map .bl
  | _ => none
def dNe : List D → Option D
  | [x, y] => (eqT x y).map fun b => .bl (!b)
  | _ => none
theorem pl_eq : PlF dEq := by
  intro ds d e
  unfold dEq at e
  split at e
  · cases h : eqT _ _ with
    | none => rw [h] at e; cases e
    | some b => rw [h] at e; cases e; rfl
  · cases e
theorem pl_ne : PlF dNe := by
  intro ds d e
  unfold dNe at e
  split at e
  · cases h : eqT _ _ with
    | none => rw [h] at e; cases e
    | some b => rw [h] at e; cases e; rfl
  · cases e
def rEqA (K : PySem.W.Frag) : R2 := fun x y H Q => rEq x y H Q ∨ rEqD K x y H Q
def rNeA (K : PySem.W.Frag) : R2 := fun x y H Q => rNe x y H Q ∨ rNeD K x y H Q
theorem dec_str' {a b : Str} : decide (V.str a = V.str b) = decide (a = b) := by
  by_cases h : a = b
  · rw [h]; simp
  · rw [decide_eq_false h, decide_eq_false fun z => h (V.str.inj z)]
theorem dec_int' {a b : Int} : decide (V.int a = V.int b) = decide (a = b) := by
  by_cases h : a = b
  · rw [h]; simp
  · rw [decide_eq_false h, decide_eq_false fun z => h (V.int.inj z)]
theorem dec_bl' {a b : Bool} : decide (V.bl a = V.bl b) = decide (a = b) := by
  by_cases h : a = b
  · rw [h]; simp
  · rw [decide_eq_false h, decide_eq_false fun z => h (V.bl.inj z)]
theorem eqT_sound {K : PySem.W.Frag} {Fz : Addr → Prop} {H : Hp} {x y : D} {v u : V} {b : Bool} {Q : VK} (r1 : Rp K Fz H x v []) (r2 : Rp K Fz H y u []) (e : eqT x y = some b) : (Q (.bl b) H → rEqA K v u H Q) ∧ (Q (.bl !b) H → rNeA K v u H Q) := by
  unfold eqT at e
  split at e
  · rename_i a c
    cases e
    have e1 := rp_str r1
    have e2 := rp_str r2
    subst e1 e2
    exact ⟨fun q => .inl ⟨rfl, by rw [dec_str']; exact q⟩, fun q => .inl ⟨rfl, by rw [dec_str']; exact q⟩⟩
  · rename_i a c
    cases e
    have e1 := rp_int r1
    have e2 := rp_int r2
    subst e1 e2
    exact ⟨fun q => .inl ⟨rfl, by rw [dec_int']; exact q⟩, fun q => .inl ⟨rfl, by rw [dec_int']; exact q⟩⟩
  · rename_i a c
    cases e
    have e1 := rp_bl r1
    have e2 := rp_bl r2
    subst e1 e2
    exact ⟨fun q => .inl ⟨rfl, by rw [dec_bl']; exact q⟩, fun q => .inl ⟨rfl, by rw [dec_bl']; exact q⟩⟩
  · cases e1 : toP x with
    | none => rw [e1] at e; cases e
    | some p =>
      cases e2 : toP y with
      | none => rw [e1, e2] at e; cases e
      | some q =>
        rw [e1, e2] at e
        have e : (if SeqAt.shaped p && SeqAt.shaped q then some (PyData.eqv p q) else none) = some b := e
        obtain ⟨hs, rfl⟩ := if_some e
        obtain ⟨s1, s2⟩ := Bool.and_eq_true_iff.mp hs
        exact ⟨fun z => .inr ⟨p, q, dp_of r1 e1, dp_of r2 e2, s1, s2, z⟩, fun z => .inr ⟨p, q, dp_of r1 e1, dp_of r2 e2, s1, s2, z⟩⟩
theorem v_eq {K : PySem.W.Frag} : VOp K (r2 (rEqA K)) dEq := by
  intro Fz H ds vs d Q za r e k
  unfold dEq at e
  split at e
  · rename_i x y
    cases h : eqT x y with
    | none => rw [h] at e; cases e
    | some b =>
      rw [h] at e
      cases e
      obtain ⟨v, u, rfl, r1, r2⟩ := rps2 r
      exact ⟨_, _, rfl, (eqT_sound r1 r2 h).1 (k _ _ _ _ (VPst.old za rp_bl'))⟩
  · cases e
theorem v_ne {K : PySem.W.Frag} : VOp K (r2 (rNeA K)) dNe := by
  intro Fz H ds vs d Q za r e k
  unfold dNe at e
  split at e
  · rename_i x y
    cases h : eqT x y with
    | none => rw [h] at e; cases e
    | some b =>
      rw [h] at e
      cases e
      obtain ⟨v, u, rfl, r1, r2⟩ := rps2 r
      exact ⟨_, _, rfl, (eqT_sound r1 r2 h).2 (k _ _ _ _ (VPst.old za rp_bl'))⟩
  · cases e
section
variable {X : Cx} {a b : Expr} {na nb : En} {pos : Pos}
theorem se_eq (hu : X.A.units + 64 < cLine) (ha : SE X a na) (hb : SE X b nb) (hd : dj na.vw nb.mt = true := by rfl) : SE X (.Compare a [.Eq] [b] pos) (eAppP dEq (a2 na nb)) := se_plain pl_eq (se_cmp (op_eq.or (op_eqD hu)) v_eq ha hb (nomark _) hd)
theorem se_ne (hu : X.A.units + 64 < cLine) (ha : SE X a na) (hb : SE X b nb) (hd : dj na.vw nb.mt = true := by rfl) : SE X (.Compare a [.NotEq] [b] pos) (eAppP dNe (a2 na nb)) := se_plain pl_ne (se_cmp (op_ne.or (op_neD hu)) v_ne ha hb (nomark _) hd)
theorem st_eq (hu : X.A.units + 64 < cLine) (ha : SE X a na) (hb : SE X b nb) (hd : dj na.vw nb.mt = true := by rfl) : ST X (.Compare a [.Eq] [b] pos) (nVal (eAppP dEq (a2 na nb))) := st_plain (st_cmp (op_eq.or (op_eqD hu)) v_eq ha hb (nomark _) hd)
theorem st_ne (hu : X.A.units + 64 < cLine) (ha : SE X a na) (hb : SE X b nb) (hd : dj na.vw nb.mt = true := by rfl) : ST X (.Compare a [.NotEq] [b] pos) (nVal (eAppP dNe (a2 na nb))) := st_plain (st_cmp (op_ne.or (op_neD hu)) v_ne ha hb (nomark _) hd)
end
/-! ### in, not in -/
/-- == of plain trees -/
def eqP : D → D → Bool
  | .non, .non => true
  | .bl a, .bl b => a == b
  | .bl a, .int b => (if a then 1 else 0) == b
  | .int a, .bl b => a == (if b then 1 else 0)
  | .int a, .int b => a == b
  | .str a, .str b => a == b
  | _, _ => false
def inP (x : D) (xs : List D) : Bool := xs.any fun y => eqP y x
def seqIn : D → Option (List D)
  | .lst _ xs => some xs
  | .tup xs => some xs
  | _ => none
def inD (x y : D) : Option Bool := match y with
  | .str t => (match x with
    | .str u => some (!(Builtin.Str.occurrences t u 0 t.length 1).isEmpty)
    | _ => none)
  | y => (seqIn y).bind fun ys => if plain x && ys.all plain then some (inP x ys) else none
def dIn : List D → Option D
  | [x, y] => (inD x y).map .bl
  | _ => none
def dNotIn : List D → Option D
  | [x, y] => (inD x y).map fun b => .bl (!b)
  | _ => none
theorem pl_in : PlF dIn := by
  intro ds d e
  unfold dIn at e
  split at e
  · cases h : inD _ _ with
    | none => rw [h] at e; cases e
    | some b => rw [h] at e; cases e; rfl
  · cases e
theorem pl_notIn : PlF dNotIn := by
  intro ds d e
  unfold dNotIn at e
  split at e
  · cases h : inD _ _ with
    | none => rw [h] at e; cases e
    | some b => rw [h] at e; cases e; rfl
  · cases e
theorem plain_flat {K : PySem.W.Frag} {Fz : Addr → Prop} {H : Hp} {d : D} {v : V} (h : plain d = true) (r : Rp K Fz H d v []) : flatV v = true ∧ ∀ {d2 : D} {v2 : V}, plain d2 = true → Rp K Fz H d2 v2 [] → eqV v2 v = eqP d2 d := by
  cases d with
  | non =>
    rw [rp_non r]
    refine ⟨rfl, fun {d2 v2} h2 r2 => ?_⟩
    cases d2 with
    | non => rw [rp_non r2]; rfl
    | bl b => rw [rp_bl r2]; rfl
    | int b => rw [rp_int r2]; rfl
    | str b => rw [rp_str r2]; rfl
    | _ => cases h2
  | bl c =>
    rw [rp_bl r]
    refine ⟨rfl, fun {d2 v2} h2 r2 => ?_⟩
    cases d2 with
    | non => rw [rp_non r2]; rfl
    | bl b => rw [rp_bl r2]; rfl
    | int b => rw [rp_int r2]; rfl
    | str b => rw [rp_str r2]; rfl
    | _ => cases h2
  | int c =>
    rw [rp_int r]
    refine ⟨rfl, fun {d2 v2} h2 r2 => ?_⟩
    cases d2 with
    | non => rw [rp_non r2]; rfl
    | bl b => rw [rp_bl r2]; rfl
    | int b => rw [rp_int r2]; rfl
    | str b => rw [rp_str r2]; rfl
    | _ => cases h2
  | str c =>
    rw [rp_str r]
    refine ⟨rfl, fun {d2 v2} h2 r2 => ?_⟩
    cases d2 with
    | non => rw [rp_non r2]; rfl
    | bl b => rw [rp_bl r2]; rfl
    | int b => rw [rp_int r2]; rfl
    | str b => rw [rp_str r2]; rfl
    | _ => cases h2
  | _ => cases h
theorem plains {K : PySem.W.Frag} {Fz : Addr → Prop} {H : Hp} {x : D} {v : V} (hx : plain x = true) (rx : Rp K Fz H x v []) : ∀ {ds : List D} {vs : List V}, Rps K Fz H ds vs [] → ds.all plain = true → vs.all flatV = true ∧ inV v vs = inP x ds
  | [], vs, r, _ => by
    unfold Rps at r
    rw [r.1]
    exact ⟨rfl, rfl⟩
  | d :: ds, vs, r, h => by
    obtain ⟨w, ws, rfl, r1, r2⟩ := rps_cons r
    rw [List.all_cons] at h
    obtain ⟨h1, h2⟩ := Bool.and_eq_true_iff.mp h
    obtain ⟨q1, q2⟩ := plains hx rx r2 h2
    refine ⟨by rw [List.all_cons, q1, (plain_flat h1 r1).1]; rfl, ?_⟩
    show (eqV w v || inV v ws) = (eqP d x || inP x ds)
    rw [q2, (plain_flat hx rx).2 h1 r1]
def rInA (K : PySem.W.Frag) : R2 := fun x y H Q => (∃ i j, x = .str i ∧ y = .str j ∧ Q (.bl (!(Builtin.Str.occurrences j i 0 j.length 1).isEmpty)) H) ∨ rIn K false x y H Q
def rNotInA (K : PySem.W.Frag) : R2 := fun x y H Q => (∃ i j, x = .str i ∧ y = .str j ∧ Q (.bl (!(!(Builtin.Str.occurrences j i 0 j.length 1).isEmpty))) H) ∨ rIn K true x y H Q
theorem inD_sound {K : PySem.W.Frag} {Fz : Addr → Prop} {H : Hp} {x y : D} {v u : V} {b : Bool} {Q : VK} (r1 : Rp K Fz H x v []) (r2 : Rp K Fz H y u []) (e : inD x y = some b) : (Q (.bl b) H → rInA K v u H Q) ∧ (Q (.bl !b) H → rNotInA K v u H Q) := by
  unfold inD at e
  split at e
  · rename_i t
    split at e
    · rename_i w
      cases e
      have e1 := rp_str r1
      have e2 := rp_str r2
      subst e1 e2
      exact ⟨fun q => .inl ⟨_, _, rfl, rfl, q⟩, fun q => .inl ⟨_, _, rfl, rfl, q⟩⟩
    · cases e
  · cases e1 : seqIn y with
    | none => rw [e1] at e; cases e
    | some ys =>
      rw [e1] at e
      have e : (if plain x && ys.all plain then some (inP x ys) else none) = some b := e
      obtain ⟨hp, rfl⟩ := if_some e
      obtain ⟨hx, hy⟩ := Bool.and_eq_true_iff.mp hp
      cases y with
      | lst o xs =>
        cases e1
        obtain ⟨a, vs, rfl, ha, _, rs⟩ := rp_lst r2
        obtain ⟨q1, q2⟩ := plains hx r1 rs hy
        exact ⟨fun q => .inr ⟨a, vs, rfl, .inl (SqL.of ha), (plain_flat hx r1).1, q1, by rw [q2]; exact q⟩, fun q => .inr ⟨a, vs, rfl, .inl (SqL.of ha), (plain_flat hx r1).1, q1, by rw [q2]; exact q⟩⟩
      | tup xs =>
        cases e1
        obtain ⟨a, vs, rfl, ha, rs⟩ := rp_tup r2
        obtain ⟨q1, q2⟩ := plains hx r1 rs hy
        exact ⟨fun q => .inr ⟨a, vs, rfl, .inr (SqT.of ha), (plain_flat hx r1).1, q1, by rw [q2]; exact q⟩, fun q => .inr ⟨a, vs, rfl, .inr (SqT.of ha), (plain_flat hx r1).1, q1, by rw [q2]; exact q⟩⟩
      | _ => cases e1
theorem v_in {K : PySem.W.Frag} : VOp K (r2 (rInA K)) dIn := by
  intro Fz H ds vs d Q za r e k
  unfold dIn at e
  split at e
  · rename_i x y
    cases h : inD x y with
    | none => rw [h] at e; cases e
    | some b =>
      rw [h] at e
      cases e
      obtain ⟨v, u, rfl, r1, r2⟩ := rps2 r
      exact ⟨_, _, rfl, (inD_sound r1 r2 h).1 (k _ _ _ _ (VPst.old za rp_bl'))⟩
  · cases e
theorem v_notIn {K : PySem.W.Frag} : VOp K (r2 (rNotInA K)) dNotIn := by
  intro Fz H ds vs d Q za r e k
  unfold dNotIn at e
  split at e
  · rename_i x y
    cases h : inD x y with
    | none => rw [h] at e; cases e
    | some b =>
      rw [h] at e
      cases e
      obtain ⟨v, u, rfl, r1, r2⟩ := rps2 r
      exact ⟨_, _, rfl, (inD_sound r1 r2 h).2 (k _ _ _ _ (VPst.old za rp_bl'))⟩
  · cases e
section
variable {X : Cx} {a b : Expr} {na nb : En} {pos : Pos}
theorem se_in (ha : SE X a na) (hb : SE X b nb) (hm : behindInMarks .In b = false := by rfl) (hd : dj na.vw nb.mt = true := by rfl) : SE X (.Compare a [.In] [b] pos) (eAppP dIn (a2 na nb)) := se_plain pl_in (se_cmp (op_in_str.or op_in_seq) v_in ha hb hm hd)
theorem se_notIn (ha : SE X a na) (hb : SE X b nb) (hm : behindInMarks .NotIn b = false := by rfl) (hd : dj na.vw nb.mt = true := by rfl) : SE X (.Compare a [.NotIn] [b] pos) (eAppP dNotIn (a2 na nb)) := se_plain pl_notIn (se_cmp (op_notin_str.or op_notIn_seq) v_notIn ha hb hm hd)
theorem st_in (ha : SE X a na) (hb : SE X b nb) (hm : behindInMarks .In b = false := by rfl) (hd : dj na.vw nb.mt = true := by rfl) : ST X (.Compare a [.In] [b] pos) (nVal (eAppP dIn (a2 na nb))) := st_plain (st_cmp (op_in_str.or op_in_seq) v_in ha hb hm hd)
theorem st_notIn (ha : SE X a na) (hb : SE X b nb) (hm : behindInMarks .NotIn b = false := by rfl) (hd : dj na.vw nb.mt = true := by rfl) : ST X (.Compare a [.NotIn] [b] pos) (nVal (eAppP dNotIn (a2 na nb))) := st_plain (st_cmp (op_notin_str.or op_notIn_seq) v_notIn ha hb hm hd)
end
/-! ### subscripts -/
def ixD (x : D) (i : Int) : Option D := match x with
  | .lst _ xs => atI xs i
  | .tup xs => atI xs i
  | .scr ns => (atI ns i).map .int
  | .str z => if z.length ≤ 100000 then (atI z.cps.toList i).map fun c => .str ⟨#[c]⟩ else none
  | _ => none
def dIx : List D → Option D
  | [x, .int i] => ixD x i
  | _ => none
theorem Rps.atI {K Fz H} {ds : List D} {vs : List V} {i : Int} {d : D} (r : Rps K Fz H ds vs []) (e : L2.atI ds i = some d) : ∃ v, L2.atI vs i = some v ∧ Rp K Fz H d v [] := by
  unfold L2.atI at e ⊢
  rw [Rps.length r]
  cases e1 : ixN ds.length i with
  | none => rw [e1] at e; cases e
  | some j =>
    rw [e1] at e
    have e : ds[j]? = some d := e
    have hj : j < vs.length := by rw [Rps.length r]; exact (List.getElem?_eq_some_iff.mp e).1
    obtain ⟨d', e2, r2⟩ := r.at (List.getElem?_eq_getElem hj)
    rw [e] at e2
    cases e2
    exact ⟨vs[j], List.getElem?_eq_getElem hj, r2⟩
theorem v_ix {K : PySem.W.Frag} : VOp K (r2 (rIx K)) dIx := by
  intro Fz H ds vs d Q za r e k
  unfold dIx at e
  split at e
  · rename_i x i
    obtain ⟨v, u, rfl, r1, r2⟩ := rps2 r
    have eu := rp_int r2
    subst eu
    refine ⟨_, _, rfl, ?_⟩
    cases x with
    | lst o xs =>
      obtain ⟨a, vs, rfl, ha, _, rs⟩ := rp_lst r1
      obtain ⟨w, e1, rw_⟩ := rs.atI e
      exact .inl ⟨a, vs, i, w, rfl, rfl, SqL.of ha, e1, k _ _ _ _ (VPst.old za rw_)⟩
    | tup xs =>
      obtain ⟨a, vs, rfl, ha, rs⟩ := rp_tup r1
      obtain ⟨w, e1, rw_⟩ := rs.atI e
      exact .inr (.inl ⟨a, vs, i, w, rfl, rfl, SqT.of ha, e1, k _ _ _ _ (VPst.old za rw_)⟩)
    | scr ns =>
      obtain ⟨a, rfl, ha⟩ := rp_scr r1
      have e : (L2.atI ns i).map D.int = some d := e
      cases e1 : L2.atI ns i with
      | none => rw [e1] at e; cases e
      | some n =>
        rw [e1] at e
        cases e
        have e2 : L2.atI (ns.map D.int) i = some (.int n) := by
          unfold L2.atI at e1 ⊢
          rw [List.length_map]
          cases e3 : ixN ns.length i with
          | none => rw [e3] at e1; cases e1
          | some j =>
            rw [e3] at e1
            show (ns.map D.int)[j]? = _
            have e1 : ns[j]? = some n := e1
            rw [List.getElem?_map, e1]
            rfl
        obtain ⟨w, e3, rw_⟩ := (rps_ints (K := K) (Fz := Fz) (H := H) ns).atI e2
        exact .inl ⟨a, _, i, w, rfl, rfl, ha, e3, k _ _ _ _ (VPst.old za rw_)⟩
    | str z =>
      have e : (if z.length ≤ 100000 then (L2.atI z.cps.toList i).map fun c => D.str ⟨#[c]⟩ else none) = some d := e
      split at e
      · rename_i hl
        cases e1 : L2.atI z.cps.toList i with
        | none => rw [e1] at e; cases e
        | some c =>
          rw [e1] at e
          cases e
          exact .inr (.inr ⟨z, i, c, rp_str r1, rfl, sz_le hl, e1, k _ _ _ _ (VPst.old za rp_mk_str)⟩)
      · cases e
    | _ => cases e
  · cases e
theorem se_item {X : Cx} {a b : Expr} {na nb : En} {pos : Pos} (ha : SE X a na) (hb : SE X b nb) (hs : PlainIx b) (hd : dj na.vw nb.mt = true := by rfl) : SE X (.Subscript a b pos) (eApp dIx (a2 na nb)) := se_ix ix_seq v_ix ha hb hs hd
end TW

/-! TWD: calls of built-ins. -/
namespace TW
open PySem PySem.Spec PyProof.Rows L2

/-! ### min, max of two texts -/
section
variable {prog : Program} {w : World} {A : Around} {s : Shared} {E : Value → Shared → Prop}
def sAt (x y : Str) : Nat → List Nat
  | 0 => x.cps.toList
  | _ => y.cps.toList
theorem sAt_of {x y : Str} {t u : Tok} {i : Nat} {v : Value} (h : (#[Value.str x t, Value.str y u])[i]? = some v) : ∃ z k, v = .str z k ∧ sAt x y i = z.cps.toList := by
  match i with
  | 0 => cases h; exact ⟨_, _, rfl, rfl⟩
  | 1 => cases h; exact ⟨_, _, rfl, rfl⟩
  | n + 2 => simp at h
theorem cmp_strs_gt {x y : Str} {t u : Tok} : CmpOf prog w A .Gt (fun i v => (#[Value.str x t, Value.str y u])[i]? = some v) (fun i j => decide (sAt x y j < sAt x y i)) := by
  intro i j vi vj s Q E hi hj hQ
  obtain ⟨z, k, rfl, e1⟩ := sAt_of hi
  obtain ⟨z', k', rfl, e2⟩ := sAt_of hj
  simp only [e1, e2] at hQ
  exact richCompare_gives (op := .Gt) (typeIs_str _ _ _) (typeIs_str _ _ _) F.slot_str_gt F.entry_str_gt (F.args_str_gt_2 _ _) (gives_str_gt _ _ _ _) (fun e => nomatch e) hQ
theorem cmp_strs_lt {x y : Str} {t u : Tok} : CmpOf prog w A .Lt (fun i v => (#[Value.str x t, Value.str y u])[i]? = some v) (fun i j => decide (sAt x y i < sAt x y j)) := by
  intro i j vi vj s Q E hi hj hQ
  obtain ⟨z, k, rfl, e1⟩ := sAt_of hi
  obtain ⟨z', k', rfl, e2⟩ := sAt_of hj
  simp only [e1, e2] at hQ
  exact richCompare_gives (op := .Lt) (typeIs_str _ _ _) (typeIs_str _ _ _) F.slot_str_lt F.entry_str_lt (F.args_str_lt_2 _ _) (gives_str_lt _ _ _ _) (fun e => nomatch e) hQ
theorem max_two_strs {a b : Str} {t u : Tok} {Q : Value → Shared → Prop} (hh : A.handled = none)
    (h : ∀ h' tk, (∀ c o, s.heap.get? c = some o → h'.get? c = some o) → Q (if a.cps.toList < b.cps.toList then .str b u else .str a t) { s with heap := h', toks := tk }) :
    wpAny (model prog w) A (call (.builtin "max") [.str a t, .str b u]) Q E s := by
  have hT : (s.heap.push { cls := .type "tuple", data := .seq #[.str a t, .str b u] }).IsTuple s.heap.objs.size #[.str a t, .str b u] := ⟨_, Heap.get?_push_size _ rfl, rfl, 0, rfl⟩
  refine call_max_two (wpAny_pyIter_tuple hT ?_)
  have hsz : (s.heap.push { cls := .type "tuple", data := .seq #[.str a t, .str b u] }).objs.size = s.heap.objs.size + 1 := Heap.size_push ..
  refine ⟨_, [_, s.heap.objs.size], [_], _, _, _, _, rfl, Walks.tuple (A := A.in1) hh _ s.heap.objs.size (by rw [hsz]; exact Nat.ne_of_lt (Nat.lt_succ_self _)) #[.str a t, .str b u],
    ⟨⟨_, Heap.get?_push_size _ rfl, rfl, rfl⟩, hT.push _⟩, fun c hc => ?_, by simp, cmp_strs_gt, fun v h' tk hP hk => ?_⟩
  · show c < ((s.heap.push _).push _).objs.size
    rw [Heap.size_push, hsz]
    rcases List.mem_cons.mp hc with rfl | hc
    · rw [hsz]; exact Nat.lt_succ_self _
    · rcases List.mem_cons.mp hc with rfl | hc
      · exact Nat.lt_succ_of_lt (Nat.lt_succ_self _)
      · cases hc
  · have hold : ∀ c o, s.heap.get? c = some o → h'.get? c = some o := fun c o e => by
      refine hk c o (fun hm => ?_) (Heap.get?_push_of_some _ (Heap.get?_push_of_some _ e))
      rcases List.mem_cons.mp hm with e1 | hm
      · have := Heap.lt_size e; rw [e1, hsz] at this; exact Nat.lt_irrefl _ (Nat.lt_of_succ_lt this)
      · cases hm
    have := h h' tk hold
    have hv : v = if a.cps.toList < b.cps.toList then Value.str b u else Value.str a t := by
      have hP' : (#[Value.str a t, Value.str b u])[if decide (a.cps.toList < b.cps.toList) then 1 else 0]? = some v := hP
      by_cases hba : a.cps.toList < b.cps.toList
      · simp only [hba, decide_true, if_true] at hP' ⊢
        cases hP'; rfl
      · simp only [hba, decide_false, if_false, Bool.false_eq_true] at hP' ⊢
        cases hP'; rfl
    rw [hv]; exact this
theorem min_two_strs {a b : Str} {t u : Tok} {Q : Value → Shared → Prop} (hh : A.handled = none)
    (h : ∀ h' tk, (∀ c o, s.heap.get? c = some o → h'.get? c = some o) → Q (if b.cps.toList < a.cps.toList then .str b u else .str a t) { s with heap := h', toks := tk }) :
    wpAny (model prog w) A (call (.builtin "min") [.str a t, .str b u]) Q E s := by
  have hT : (s.heap.push { cls := .type "tuple", data := .seq #[.str a t, .str b u] }).IsTuple s.heap.objs.size #[.str a t, .str b u] := ⟨_, Heap.get?_push_size _ rfl, rfl, 0, rfl⟩
  refine call_min_two (wpAny_pyIter_tuple hT ?_)
  have hsz : (s.heap.push { cls := .type "tuple", data := .seq #[.str a t, .str b u] }).objs.size = s.heap.objs.size + 1 := Heap.size_push ..
  refine ⟨_, [_, s.heap.objs.size], [_], _, _, _, _, rfl, Walks.tuple (A := A.in1) hh _ s.heap.objs.size (by rw [hsz]; exact Nat.ne_of_lt (Nat.lt_succ_self _)) #[.str a t, .str b u],
    ⟨⟨_, Heap.get?_push_size _ rfl, rfl, rfl⟩, hT.push _⟩, fun c hc => ?_, by simp, cmp_strs_lt, fun v h' tk hP hk => ?_⟩
  · show c < ((s.heap.push _).push _).objs.size
    rw [Heap.size_push, hsz]
    rcases List.mem_cons.mp hc with rfl | hc
    · rw [hsz]; exact Nat.lt_succ_self _
    · rcases List.mem_cons.mp hc with rfl | hc
      · exact Nat.lt_succ_of_lt (Nat.lt_succ_self _)
      · cases hc
  · have hold : ∀ c o, s.heap.get? c = some o → h'.get? c = some o := fun c o e => by
      refine hk c o (fun hm => ?_) (Heap.get?_push_of_some _ (Heap.get?_push_of_some _ e))
      rcases List.mem_cons.mp hm with e1 | hm
      · have := Heap.lt_size e; rw [e1, hsz] at this; exact Nat.lt_irrefl _ (Nat.lt_of_succ_lt this)
      · cases hm
    have := h h' tk hold
    have hv : v = if b.cps.toList < a.cps.toList then Value.str b u else Value.str a t := by
      have hP' : (#[Value.str a t, Value.str b u])[if decide (b.cps.toList < a.cps.toList) then 1 else 0]? = some v := hP
      by_cases hba : b.cps.toList < a.cps.toList
      · simp only [hba, decide_true, if_true] at hP' ⊢
        cases hP'; rfl
      · simp only [hba, decide_false, if_false, Bool.false_eq_true] at hP' ⊢
        cases hP'; rfl
    rw [hv]; exact this
end
theorem call_max2s {X : Cx} (hc : X.calm = true) : CallR X (.builtin "max") (fun xs H Q => ∃ i j, xs = [.str i, .str j] ∧ Q (.str (if i.cps.toList < j.cps.toList then j else i)) H) := by
  intro pins s σ H xs us Q I r h
  obtain ⟨i, j, rfl, q⟩ := h
  obtain ⟨u, w', rfl, ⟨t, rfl⟩, ⟨t', rfl⟩⟩ := vals2 r
  refine max_two_strs (I.ok.hd hc) fun h' tk k => ⟨_, H, I.kept k, ?_, q⟩
  by_cases hj : i.cps.toList < j.cps.toList
  · rw [if_pos hj, if_pos hj]; exact ⟨_, rfl⟩
  · rw [if_neg hj, if_neg hj]; exact ⟨_, rfl⟩
theorem call_min2s {X : Cx} (hc : X.calm = true) : CallR X (.builtin "min") (fun xs H Q => ∃ i j, xs = [.str i, .str j] ∧ Q (.str (if j.cps.toList < i.cps.toList then j else i)) H) := by
  intro pins s σ H xs us Q I r h
  obtain ⟨i, j, rfl, q⟩ := h
  obtain ⟨u, w', rfl, ⟨t, rfl⟩, ⟨t', rfl⟩⟩ := vals2 r
  refine min_two_strs (I.ok.hd hc) fun h' tk k => ⟨_, H, I.kept k, ?_, q⟩
  by_cases hj : j.cps.toList < i.cps.toList
  · rw [if_pos hj, if_pos hj]; exact ⟨_, rfl⟩
  · rw [if_neg hj, if_neg hj]; exact ⟨_, rfl⟩
theorem call_divmodD {X : Cx} : CallR X (.builtin "divmod") (fun xs H Q => ∃ i j, xs = [.int i, .int j] ∧ (0 < j ∧ j.natAbs.log2 < 1000) ∧ ∀ p, H p = none → Q (.ref p) (upd H p (.tup [.int (i / j), .int (i % j)]))) := by
  intro pins s σ H xs us Q I r h
  obtain ⟨i, j, rfl, ⟨h1, h2⟩, q⟩ := h
  obtain ⟨u, w', rfl, ⟨t, rfl⟩, ⟨t', rfl⟩⟩ := vals2 r
  refine divmod_int (by omega) ?_ (.inl (noPy h2))
  rw [Int.fdiv_eq_ediv_of_nonneg i (by omega), Int.fmod_eq_emod_of_nonneg i (by omega)]
  have hn : H s.heap.objs.size = none := I.hok.fresh (Nat.le_refl _)
  refine ⟨.ref s.heap.objs.size, _, ?_, rfl, q _ hn⟩
  refine I.laid (fun b o e => Heap.get?_push_of_some _ e) (Nat.le_refl _) ⟨by simp only [List.length_cons, List.length_nil]; rw [sizeLine_eq]; decide, [.int (i / j) s.toks, .int (i % j) (s.toks + 1)], .cons ⟨_, rfl⟩ (.cons ⟨_, rfl⟩ .nil), ?_⟩
  exact ⟨_, Heap.get?_push_size s.heap rfl, rfl, 0, rfl⟩

/-! ### the rules -/
section
variable {X : Cx} {e : Expr} {es : List Expr} {n : An} {pos p : Pos} {f : List D → Option D} {r : List V → Hp → VK → Prop} {x : Str}
theorem se_bi {id : String} (hc : CallR X (.builtin id) r) (hv : VOp X.K r f) (hg : Gl X x) (hm : X.mg x = none) (hb : bootBuiltins x = some (.builtin id)) (ha : SA X (e :: es) n) (hn : x ≠ "__name__" := by decide) (hdb : (x == ("__debug__" : Str)) = false := by decide)
    (he : starEach (e :: es) X.env = (false, eval e X.env) :: starEach es X.env := by rfl) (hpl : (backTo pos (starEach es X.env)).any (·.1) = false := by rfl) : SE X (.Call (.Name x p) (e :: es) [] pos) (eApp f n) :=
  PE.imp (pe_callB hc hg hm hb ha hn hdb he hpl) fun _ _ _ q => ev_app hv (fun _ _ _ z => z) q
theorem se_ty {T : String} (hc : CallR X (.type T) r) (hv : VOp X.K r f) (hg : Gl X x) (hm : X.mg x = none) (hb : bootBuiltins x = some (.type T)) (ha : SA X (e :: es) n) (hn : x ≠ "__name__" := by decide) (hdb : (x == ("__debug__" : Str)) = false := by decide)
    (he : starEach (e :: es) X.env = (false, eval e X.env) :: starEach es X.env := by rfl) (hpl : (backTo pos (starEach es X.env)).any (·.1) = false := by rfl) : SE X (.Call (.Name x p) (e :: es) [] pos) (eApp f n) :=
  PE.imp (pe_callTy hc hg hm hb ha hn hdb he hpl) fun _ _ _ q => ev_app hv (fun _ _ _ z => z) q
end
/-! len -/
def lenD : D → Option Nat
  | .lst _ xs => some xs.length
  | .tup xs => some xs.length
  | .scr ns => some ns.length
  | .str z => if z.length ≤ 100000 then some z.length else none
  | _ => none
def dLen : List D → Option D
  | [x] => (lenD x).map fun n => .int (n : Int)
  | _ => none
theorem pl_len : PlF dLen := by
  intro ds d e
  unfold dLen at e
  split at e
  · cases h : lenD _ with
    | none => rw [h] at e; cases e
    | some b => rw [h] at e; cases e; rfl
  · cases e
theorem v_len {K : PySem.W.Frag} : VOp K (fun xs H Q => ∃ x n, xs = [x] ∧ LenV K x H n ∧ Q (.int n) H) dLen := by
  intro Fz H ds vs d Q za r e k
  unfold dLen at e
  split at e
  · rename_i x
    cases h : lenD x with
    | none => rw [h] at e; cases e
    | some n =>
      rw [h] at e
      cases e
      obtain ⟨v, rfl, r1⟩ := rps1 r
      refine ⟨v, n, rfl, ?_, k _ _ _ _ (VPst.old za rp_mk_int)⟩
      cases x with
      | lst o xs =>
        cases h
        obtain ⟨a, vs, rfl, ha, _, rs⟩ := rp_lst r1
        exact .inl ⟨vs, SqL.of ha, (Rps.length rs).symm⟩
      | tup xs =>
        cases h
        obtain ⟨a, vs, rfl, ha, rs⟩ := rp_tup r1
        exact .inr ⟨vs, SqT.of ha, (Rps.length rs).symm⟩
      | scr ns =>
        cases h
        obtain ⟨a, rfl, ha⟩ := rp_scr r1
        exact .inl ⟨_, ha, (List.length_map _).symm⟩
      | str z =>
        obtain ⟨hz, rfl⟩ := if_some (show (if z.length ≤ 100000 then some z.length else none) = some n from h)
        rw [rp_str r1]
        exact ⟨sz_le hz, rfl⟩
      | _ => cases h
  · cases e
/-! tuple, list -/
def seqD : D → Option (List D)
  | .lst _ xs => some xs
  | .tup xs => some xs
  | .scr ns => some (ns.map .int)
  | _ => none
theorem seqD_sq {K Fz H} {x : D} {v : V} {xs : List D} (h : seqD x = some xs) (r : Rp K Fz H x v []) : ∃ a vs, v = .ref a ∧ (SqL K H a vs ∨ SqT K H a vs) ∧ Rps K Fz H xs vs [] := by
  cases x with
  | lst o xs =>
    cases h
    obtain ⟨a, vs, rfl, ha, _, rs⟩ := rp_lst r
    exact ⟨a, vs, rfl, .inl (SqL.of ha), rs⟩
  | tup xs =>
    cases h
    obtain ⟨a, vs, rfl, ha, rs⟩ := rp_tup r
    exact ⟨a, vs, rfl, .inr (SqT.of ha), rs⟩
  | scr ns =>
    cases h
    obtain ⟨a, rfl, ha⟩ := rp_scr r
    exact ⟨a, _, rfl, .inl ha, rps_ints ns⟩
  | _ => cases h
def dTup : List D → Option D
  | [x] => (seqD x).map .tup
  | _ => none
def dList : List D → Option D
  | [x] => (seqD x).map (.lst true)
  | _ => none
theorem v_tup {K : PySem.W.Frag} : VOp K (fun xs H Q => ∃ p ys, xs = [.ref p] ∧ ((SqL K H p ys ∧ ∀ l, H l = none → Q (.ref l) (upd H l (.tup ys))) ∨ (SqT K H p ys ∧ Q (.ref p) H))) dTup := by
  intro Fz H ds vs d Q za r e k
  unfold dTup at e
  split at e
  · rename_i x
    obtain ⟨v, rfl, r1⟩ := rps1 r
    cases x with
    | lst o xs =>
      cases e
      obtain ⟨a, vs, rfl, ha, _, rs⟩ := rp_lst r1
      exact ⟨a, vs, rfl, .inl ⟨SqL.of ha, fun l hl => k _ _ _ _ (VPst.tup za hl rs)⟩⟩
    | tup xs =>
      cases e
      obtain ⟨a, vs, rfl, ha, rs⟩ := rp_tup r1
      exact ⟨a, vs, rfl, .inr ⟨SqT.of ha, k _ _ _ _ (VPst.old za r1)⟩⟩
    | scr ns =>
      cases e
      obtain ⟨a, rfl, ha⟩ := rp_scr r1
      exact ⟨a, _, rfl, .inl ⟨ha, fun l hl => k _ _ _ _ (VPst.tup za hl (rps_ints ns))⟩⟩
    | _ => cases e
  · cases e
theorem v_list {K : PySem.W.Frag} : VOp K (fun xs H Q => ∃ p ys, xs = [.ref p] ∧ (SqL K H p ys ∨ SqT K H p ys) ∧ ∀ l, H l = none → Q (.ref l) (upd H l (.lst ys))) dList := by
  intro Fz H ds vs d Q za r e k
  unfold dList at e
  split at e
  · rename_i x
    obtain ⟨v, rfl, r1⟩ := rps1 r
    cases h : seqD x with
    | none => rw [h] at e; cases e
    | some xs =>
      rw [h] at e
      cases e
      obtain ⟨a, vs, rfl, ha, rs⟩ := seqD_sq h r1
      exact ⟨a, vs, rfl, ha, fun l hl => k _ _ _ _ (VPst.lst za hl rs)⟩
  · cases e
/-! sum, all, any -/
def intsD : List D → Option (List Int)
  | [] => some []
  | .int i :: xs => (intsD xs).map (i :: ·)
  | _ :: _ => none
def blsD : List D → Option (List Bool)
  | [] => some []
  | .bl i :: xs => (blsD xs).map (i :: ·)
  | _ :: _ => none
def strsD : List D → Option (List Str)
  | [] => some []
  | .str i :: xs => (strsD xs).map (i :: ·)
  | _ :: _ => none
theorem intsD_rp {K Fz H} : ∀ {ds : List D} {ns : List Int} {vs : List V}, intsD ds = some ns → Rps K Fz H ds vs [] → vs = ns.map V.int
  | [], ns, vs, e, r => by
    cases e
    unfold Rps at r
    exact r.1
  | d :: ds, ns, vs, e, r => by
    obtain ⟨v, ws, rfl, r1, r2⟩ := rps_cons r
    cases d with
    | int i =>
      have e : (intsD ds).map (i :: ·) = some ns := e
      cases h : intsD ds with
      | none => rw [h] at e; cases e
      | some ms =>
        rw [h] at e
        cases e
        rw [rp_int r1, intsD_rp h r2]
        rfl
    | _ => cases e
theorem blsD_rp {K Fz H} : ∀ {ds : List D} {ns : List Bool} {vs : List V}, blsD ds = some ns → Rps K Fz H ds vs [] → vs = ns.map V.bl
  | [], ns, vs, e, r => by
    cases e
    unfold Rps at r
    exact r.1
  | d :: ds, ns, vs, e, r => by
    obtain ⟨v, ws, rfl, r1, r2⟩ := rps_cons r
    cases d with
    | bl i =>
      have e : (blsD ds).map (i :: ·) = some ns := e
      cases h : blsD ds with
      | none => rw [h] at e; cases e
      | some ms =>
        rw [h] at e
        cases e
        rw [rp_bl r1, blsD_rp h r2]
        rfl
    | _ => cases e
theorem strsD_rp {K Fz H} : ∀ {ds : List D} {ns : List Str} {vs : List V}, strsD ds = some ns → Rps K Fz H ds vs [] → vs = ns.map V.str
  | [], ns, vs, e, r => by
    cases e
    unfold Rps at r
    exact r.1
  | d :: ds, ns, vs, e, r => by
    obtain ⟨v, ws, rfl, r1, r2⟩ := rps_cons r
    cases d with
    | str i =>
      have e : (strsD ds).map (i :: ·) = some ns := e
      cases h : strsD ds with
      | none => rw [h] at e; cases e
      | some ms =>
        rw [h] at e
        cases e
        rw [rp_str r1, strsD_rp h r2]
        rfl
    | _ => cases e
def dSum : List D → Option D
  | [.lst _ xs] => (intsD xs).map fun ns => .int ns.sum
  | _ => none
def dAll : List D → Option D
  | [.lst _ xs] => (blsD xs).map fun ns => .bl (ns.all id)
  | _ => none
def dAny : List D → Option D
  | [.lst _ xs] => (blsD xs).map fun ns => .bl (ns.any id)
  | _ => none
theorem map_some {α β : Type} {x : Option α} {f : α → β} {b : β} (h : x.map f = some b) : ∃ a, x = some a ∧ b = f a := by
  cases x with
  | none => cases h
  | some a => cases h; exact ⟨a, rfl, rfl⟩
theorem pl_sum : PlF dSum := by
  intro ds d e
  unfold dSum at e
  split at e
  · obtain ⟨_, _, rfl⟩ := map_some e; rfl
  · cases e
theorem pl_all : PlF dAll := by
  intro ds d e
  unfold dAll at e
  split at e
  · obtain ⟨_, _, rfl⟩ := map_some e; rfl
  · cases e
theorem pl_any : PlF dAny := by
  intro ds d e
  unfold dAny at e
  split at e
  · obtain ⟨_, _, rfl⟩ := map_some e; rfl
  · cases e
theorem rp_bl1 {K Fz H} {b : Bool} : Rp K Fz H (.bl b) (.bl b) [] := by unfold Rp; exact ⟨rfl, rfl⟩
theorem v_sum {K : PySem.W.Frag} : VOp K (rSum K) dSum := by
  intro Fz H ds vs d Q za r e k
  unfold dSum at e
  split at e
  · obtain ⟨v, rfl, r1⟩ := rps1 r
    obtain ⟨ns, h, rfl⟩ := map_some e
    obtain ⟨a, vs, rfl, ha, _, rs⟩ := rp_lst r1
    exact ⟨a, ns, rfl, by rw [← intsD_rp h rs]; exact SqL.of ha, k _ _ _ _ (VPst.old za rp_mk_int)⟩
  · cases e
theorem v_all {K : PySem.W.Frag} : VOp K (rAll K) dAll := by
  intro Fz H ds vs d Q za r e k
  unfold dAll at e
  split at e
  · obtain ⟨v, rfl, r1⟩ := rps1 r
    obtain ⟨ns, h, rfl⟩ := map_some e
    obtain ⟨a, vs, rfl, ha, _, rs⟩ := rp_lst r1
    exact ⟨a, ns, rfl, by rw [← blsD_rp h rs]; exact SqL.of ha, k _ _ _ _ (VPst.old za rp_bl1)⟩
  · cases e
theorem v_any {K : PySem.W.Frag} : VOp K (rAny K) dAny := by
  intro Fz H ds vs d Q za r e k
  unfold dAny at e
  split at e
  · obtain ⟨v, rfl, r1⟩ := rps1 r
    obtain ⟨ns, h, rfl⟩ := map_some e
    obtain ⟨a, vs, rfl, ha, _, rs⟩ := rp_lst r1
    exact ⟨a, ns, rfl, by rw [← blsD_rp h rs]; exact SqL.of ha, k _ _ _ _ (VPst.old za rp_bl1)⟩
  · cases e
/-! min, max of two; divmod -/
def dMin : List D → Option D
  | [.int i, .int j] => some (.int (if j < i then j else i))
  | [.str i, .str j] => some (.str (if j.cps.toList < i.cps.toList then j else i))
  | _ => none
def dMax : List D → Option D
  | [.int i, .int j] => some (.int (if j > i then j else i))
  | [.str i, .str j] => some (.str (if i.cps.toList < j.cps.toList then j else i))
  | _ => none
def dDivmod : List D → Option D
  | [.int i, .int j] => if cDiv i j then some (.tup [.int (i / j), .int (i % j)]) else none
  | _ => none
theorem pl_min : PlF dMin := by
  intro ds d e
  unfold dMin at e
  split at e <;> cases e <;> rfl
theorem pl_max : PlF dMax := by
  intro ds d e
  unfold dMax at e
  split at e <;> cases e <;> rfl
def rMin2 : List V → Hp → VK → Prop := fun xs H Q => (∃ i j, xs = [.int i, .int j] ∧ Q (.int (if j < i then j else i)) H) ∨ ∃ i j, xs = [.str i, .str j] ∧ Q (.str (if j.cps.toList < i.cps.toList then j else i)) H
def rMax2 : List V → Hp → VK → Prop := fun xs H Q => (∃ i j, xs = [.int i, .int j] ∧ Q (.int (if j > i then j else i)) H) ∨ ∃ i j, xs = [.str i, .str j] ∧ Q (.str (if i.cps.toList < j.cps.toList then j else i)) H
theorem v_min {K : PySem.W.Frag} : VOp K rMin2 dMin := by
  intro Fz H ds vs d Q za r e k
  unfold dMin at e
  split at e
  · cases e
    obtain ⟨v, u, rfl, r1, r2⟩ := rps2 r
    exact .inl ⟨_, _, by rw [rp_int r1, rp_int r2], k _ _ _ _ (VPst.old za rp_mk_int)⟩
  · cases e
    obtain ⟨v, u, rfl, r1, r2⟩ := rps2 r
    exact .inr ⟨_, _, by rw [rp_str r1, rp_str r2], k _ _ _ _ (VPst.old za rp_mk_str)⟩
  · cases e
theorem v_max {K : PySem.W.Frag} : VOp K rMax2 dMax := by
  intro Fz H ds vs d Q za r e k
  unfold dMax at e
  split at e
  · cases e
    obtain ⟨v, u, rfl, r1, r2⟩ := rps2 r
    exact .inl ⟨_, _, by rw [rp_int r1, rp_int r2], k _ _ _ _ (VPst.old za rp_mk_int)⟩
  · cases e
    obtain ⟨v, u, rfl, r1, r2⟩ := rps2 r
    exact .inr ⟨_, _, by rw [rp_str r1, rp_str r2], k _ _ _ _ (VPst.old za rp_mk_str)⟩
  · cases e
theorem v_divmod {K : PySem.W.Frag} : VOp K (fun xs H Q => ∃ i j, xs = [.int i, .int j] ∧ (0 < j ∧ j.natAbs.log2 < 1000) ∧ ∀ p, H p = none → Q (.ref p) (upd H p (.tup [.int (i / j), .int (i % j)]))) dDivmod := by
  intro Fz H ds vs d Q za r e k
  unfold dDivmod at e
  split at e
  · obtain ⟨hc, rfl⟩ := if_some e
    obtain ⟨v, u, rfl, r1, r2⟩ := rps2 r
    refine ⟨_, _, by rw [rp_int r1, rp_int r2], cDiv_ok _ _ hc, fun p hp => k _ _ _ _ (VPst.tup za hp ?_)⟩
    unfold Rps
    refine ⟨_, _, [], [], rfl, rfl, rp_mk_int, ?_⟩
    unfold Rps
    exact ⟨_, _, [], [], rfl, rfl, rp_mk_int, by unfold Rps; exact ⟨rfl, rfl⟩⟩
  · cases e
section
variable {X : Cx} {a b : Expr} {na nb : En} {p pos : Pos}
theorem se_len (hg : Gl X "len") (hm : X.mg "len" = none) (ha : SE X a na) (hs : starEach [a] X.env = [(false, eval a X.env)] := by rfl) : SE X (.Call (.Name "len" p) [a] [] pos) (eAppP dLen (a1 na)) :=
  se_plain pl_len (se_bi call_len v_len hg hm (by rfl) (sa_cons ha sa_nil (dj_nil _) (by rw [hs]; rfl)) (he := by rw [hs]; rfl))
theorem se_tuple (hg : Gl X "tuple") (hm : X.mg "tuple" = none) (ha : SE X a na) (hs : starEach [a] X.env = [(false, eval a X.env)] := by rfl) : SE X (.Call (.Name "tuple" p) [a] [] pos) (eApp dTup (a1 na)) :=
  se_ty call_tuple_of v_tup hg hm (by rfl) (sa_cons ha sa_nil (dj_nil _) (by rw [hs]; rfl)) (he := by rw [hs]; rfl)
theorem se_list (hg : Gl X "list") (hm : X.mg "list" = none) (ha : SE X a na) (hs : starEach [a] X.env = [(false, eval a X.env)] := by rfl) : SE X (.Call (.Name "list" p) [a] [] pos) (eApp dList (a1 na)) :=
  se_ty call_list_of v_list hg hm (by rfl) (sa_cons ha sa_nil (dj_nil _) (by rw [hs]; rfl)) (he := by rw [hs]; rfl)
theorem se_sum (hc : X.calm = true) (hg : Gl X "sum") (hm : X.mg "sum" = none) (ha : SE X a na) (hs : starEach [a] X.env = [(false, eval a X.env)] := by rfl) : SE X (.Call (.Name "sum" p) [a] [] pos) (eAppP dSum (a1 na)) :=
  se_plain pl_sum (se_bi (cr_sum hc) v_sum hg hm (by rfl) (sa_cons ha sa_nil (dj_nil _) (by rw [hs]; rfl)) (he := by rw [hs]; rfl))
theorem se_all (hc : X.calm = true) (hg : Gl X "all") (hm : X.mg "all" = none) (ha : SE X a na) (hs : starEach [a] X.env = [(false, eval a X.env)] := by rfl) : SE X (.Call (.Name "all" p) [a] [] pos) (eAppP dAll (a1 na)) :=
  se_plain pl_all (se_bi (cr_all hc) v_all hg hm (by rfl) (sa_cons ha sa_nil (dj_nil _) (by rw [hs]; rfl)) (he := by rw [hs]; rfl))
theorem se_any (hc : X.calm = true) (hg : Gl X "any") (hm : X.mg "any" = none) (ha : SE X a na) (hs : starEach [a] X.env = [(false, eval a X.env)] := by rfl) : SE X (.Call (.Name "any" p) [a] [] pos) (eAppP dAny (a1 na)) :=
  se_plain pl_any (se_bi (cr_any hc) v_any hg hm (by rfl) (sa_cons ha sa_nil (dj_nil _) (by rw [hs]; rfl)) (he := by rw [hs]; rfl))
theorem se_min (hc : X.calm = true) (hg : Gl X "min") (hm : X.mg "min" = none) (ha : SA X [a, b] (a2 na nb)) (hs : starEach [a, b] X.env = [(false, eval a X.env), (false, eval b X.env)] := by rfl) (hs2 : starEach [b] X.env = [(false, eval b X.env)] := by rfl) (hpl : (backTo pos (starEach [b] X.env)).any (·.1) = false := by rfl) : SE X (.Call (.Name "min" p) [a, b] [] pos) (eAppP dMin (a2 na nb)) :=
  se_plain pl_min (se_bi (CallR.or (call_min2 hc) (call_min2s hc)) v_min hg hm (by rfl) ha (he := by rw [hs, hs2]) (hpl := hpl))
theorem se_max (hc : X.calm = true) (hg : Gl X "max") (hm : X.mg "max" = none) (ha : SA X [a, b] (a2 na nb)) (hs : starEach [a, b] X.env = [(false, eval a X.env), (false, eval b X.env)] := by rfl) (hs2 : starEach [b] X.env = [(false, eval b X.env)] := by rfl) (hpl : (backTo pos (starEach [b] X.env)).any (·.1) = false := by rfl) : SE X (.Call (.Name "max" p) [a, b] [] pos) (eAppP dMax (a2 na nb)) :=
  se_plain pl_max (se_bi (CallR.or (call_max2 hc) (call_max2s hc)) v_max hg hm (by rfl) ha (he := by rw [hs, hs2]) (hpl := hpl))
theorem se_divmod (hg : Gl X "divmod") (hm : X.mg "divmod" = none) (ha : SA X [a, b] (a2 na nb)) (hs : starEach [a, b] X.env = [(false, eval a X.env), (false, eval b X.env)] := by rfl) (hs2 : starEach [b] X.env = [(false, eval b X.env)] := by rfl) (hpl : (backTo pos (starEach [b] X.env)).any (·.1) = false := by rfl) : SE X (.Call (.Name "divmod" p) [a, b] [] pos) (eApp dDivmod (a2 na nb)) :=
  se_bi call_divmodD v_divmod hg hm (by rfl) ha (he := by rw [hs, hs2]) (hpl := hpl)
end
end TW

/-! TWE: dicts: d[k], k in d, d.get(k, x), {}, d[k] = v. -/
namespace TW
open PySem PySem.Spec PyProof.Rows L2

def keyD : Key → D
  | .inl i => .int i
  | .inr x => .str x
def toKey : D → Option Key
  | .int i => some (.inl i)
  | .str x => some (.inr x)
  | _ => none
def toKeys : List D → Option (List Key)
  | [] => some []
  | x :: xs => (toKey x).bind fun k => (toKeys xs).map (k :: ·)
/-- the value of k -/
def getG {κ α : Type} [DecidableEq κ] : List κ → List α → κ → Option α
  | k' :: ks, v :: vs, k => if k' = k then some v else getG ks vs k
  | _, _, _ => none
/-- what d[k] is: none, where k is no key of that kind -/
def getD (ks : Kx) (vs : List D) (k : D) : Option (Option D) := match ks with
  | .inl kk => (toKey k).map fun q => getG kk vs q
  | .inr kk => (match k with
    | .tup xs => (toKeys xs).map fun q => getG kk vs q
    | _ => none)
theorem toKey_rp {K Fz H} {d : D} {v : V} {k : Key} (h : toKey d = some k) (r : Rp K Fz H d v []) : v = kV k := by
  cases d with
  | int i => cases h; exact rp_int r
  | str x => cases h; exact rp_str r
  | _ => cases h
theorem toKeys_rp {K Fz H} : ∀ {ds : List D} {vs : List V} {ks : List Key}, toKeys ds = some ks → Rps K Fz H ds vs [] → vs = ks.map kV
  | [], vs, ks, e, r => by
    cases e
    unfold Rps at r
    exact r.1
  | d :: ds, vs, ks, e, r => by
    obtain ⟨v, ws, rfl, r1, r2⟩ := rps_cons r
    have e : ((toKey d).bind fun k => (toKeys ds).map (k :: ·)) = some ks := e
    cases h : toKey d with
    | none => rw [h] at e; cases e
    | some k =>
      rw [h] at e
      obtain ⟨q, e1, rfl⟩ := map_some e
      rw [toKey_rp h r1, toKeys_rp e1 r2]
      rfl
/-- none for none -/
def OR (P : D → V → Prop) : Option D → Option V → Prop
  | some d, some v => P d v
  | none, none => True
  | _, _ => False
theorem getG_rp {K Fz H} {κ : Type} [DecidableEq κ] {k : κ} : ∀ {kk : List κ} {ds : List D} {vs : List V}, Rps K Fz H ds vs [] → kk.length = vs.length → OR (fun d v => Rp K Fz H d v []) (getG kk ds k) (valV (kk.zip vs) k)
  | [], ds, vs, r, hl => by
    cases vs with
    | nil =>
      unfold Rps at r
      cases ds with
      | nil => exact True.intro
      | cons d ds => exact True.intro
    | cons _ _ => cases hl
  | k' :: kk, [], vs, r, hl => by
    unfold Rps at r
    rw [r.1] at hl
    cases hl
  | k' :: kk, d :: ds, vs, r, hl => by
    obtain ⟨v, ws, rfl, r1, r2⟩ := rps_cons r
    show OR _ (if k' = k then some d else getG kk ds k) (valV ((k', v) :: kk.zip ws) k)
    by_cases h : k' = k
    · rw [if_pos h, valV_pos (p := (k', v)) h]
      exact r1
    · rw [if_neg h]
      rw [valV_neg (p := (k', v)) h]
      exact getG_rp (kk := kk) (ds := ds) (vs := ws) r2 (by simpa using hl)
theorem rp_dct {K Fz H} {o : Bool} {ks : Kx} {ds : List D} {v : V} (h : Rp K Fz H (.dct o ks ds) v []) : ∃ a vs, v = .ref a ∧ DRd H a ks vs ∧ Fz a ∧ Rps K Fz H ds vs [] := by
  cases o with
  | true =>
    unfold Rp at h
    obtain ⟨a, vs, fp, _, _, e, _⟩ := h
    cases e
  | false =>
    unfold Rp at h
    obtain ⟨a, vs, e, hz, ha, _, r⟩ := h
    exact ⟨a, vs, e, ha, hz, r⟩
/-- looked up -/
theorem getD_sound {K Fz H} {o : Bool} {ks : Kx} {ds : List D} {x y : V} {k : D} {r : Option D} (hx : Rp K Fz H (.dct o ks ds) x []) (hy : Rp K Fz H k y []) (e : getD ks ds k = some r) : ∃ a ov, x = .ref a ∧ DGet H a y ov ∧ OR (fun d v => Rp K Fz H d v []) r ov := by
  obtain ⟨a, vs, rfl, hd, _, rs⟩ := rp_dct hx
  cases ks with
  | inl kk =>
    obtain ⟨q, e1, rfl⟩ := map_some (show (toKey k).map (fun q => getG kk ds q) = some r from e)
    exact ⟨a, valV (kk.zip vs) q, rfl, .inl ⟨_, q, hd.2, toKey_rp e1 hy, rfl⟩, getG_rp (k := q) rs hd.1⟩
  | inr kk =>
    cases k with
    | tup xs =>
      obtain ⟨q, e1, rfl⟩ := map_some (show (toKeys xs).map (fun q => getG kk ds q) = some r from e)
      obtain ⟨b, us, rfl, hb, ru⟩ := rp_tup hy
      exact ⟨a, valV (kk.zip vs) q, rfl, .inr ⟨_, q, b, hd.2, rfl, by rw [← toKeys_rp e1 ru]; exact hb, rfl⟩, getG_rp (k := q) rs hd.1⟩
    | _ => cases e
def dGet : List D → Option D
  | [.dct _ ks vs, k] => (getD ks vs k).bind id
  | _ => none
def rDGet : R2 := fun x y H Q => ∃ a v, x = .ref a ∧ DGet H a y (some v) ∧ Q v H
theorem bind_some {α β : Type} {x : Option α} {f : α → Option β} {b : β} (h : x.bind f = some b) : ∃ a, x = some a ∧ f a = some b := by
  cases x with
  | none => cases h
  | some a => exact ⟨a, rfl, h⟩
theorem v_dget {K : PySem.W.Frag} : VOp K (r2 rDGet) dGet := by
  intro Fz H ds vs d Q za r e k
  unfold dGet at e
  split at e
  · obtain ⟨v, u, rfl, r1, r2⟩ := rps2 r
    obtain ⟨o, e1, e2⟩ := bind_some e
    cases e2
    obtain ⟨a, ov, rfl, g, h⟩ := getD_sound r1 r2 e1
    cases ov with
    | none => exact h.elim
    | some w => exact ⟨_, _, rfl, a, w, rfl, g, k _ _ _ _ (VPst.old za h)⟩
  · cases e
/-- x[y]: a list's, a tuple's, a text's, a dict's -/
def isDct : List D → Bool
  | .dct _ _ _ :: _ => true
  | _ => false
def dSub1 (ds : List D) : Option D := if isDct ds then dGet ds else dIx ds
theorem tD_ite {K : PySem.W.Frag} {f g : List D → Option D} {c : List D → Bool} {n : An} {σ : L2.St} {H : Hp} {Q : VK} (h : tD K (eApp (fun ds => if c ds then f ds else g ds) n) σ H Q) : tD K (eApp f n) σ H Q ∨ tD K (eApp g n) σ H Q := by
  obtain ⟨Fz, lk, S, fps, d, S', p, k⟩ := h
  obtain ⟨ds, S1, d', e1, e2, e3⟩ := bind1 (f := fun ds => if c (frzs ds) then f (frzs ds) else g (frzs ds)) p.rn
  obtain ⟨rfl, rfl⟩ := Prod.mk.inj e3
  cases hc : c (frzs ds) with
  | true =>
    rw [hc] at e2
    refine .inl ⟨Fz, lk, S, fps, _, _, ⟨p.sr, p.ml, ?_⟩, k⟩
    show ((n.run S).bind fun p => (f (frzs p.1)).bind fun d => some (d, p.2)) = _
    rw [e1]
    show ((f (frzs ds)).bind _) = _
    rw [show f (frzs ds) = some d from e2]
    rfl
  | false =>
    rw [hc] at e2
    refine .inr ⟨Fz, lk, S, fps, _, _, ⟨p.sr, p.ml, ?_⟩, k⟩
    show ((n.run S).bind fun p => (g (frzs p.1)).bind fun d => some (d, p.2)) = _
    rw [e1]
    show ((g (frzs ds)).bind _) = _
    rw [show g (frzs ds) = some d from e2]
    rfl
theorem se_sub1 {X : Cx} {a b : Expr} {na nb : En} {pos : Pos} (hu : X.A.units + 64 < cLine) (ha : SE X a na) (hb : SE X b nb) (hs : PlainIx b) (hn : NoSl b) (hd : dj na.vw nb.mt = true := by rfl) : SE X (.Subscript a b pos) (eApp dSub1 (a2 na nb)) :=
  PE.imp (PE.or (pe_dget (by omega) ha hb hn) (pe_ix ix_seq ha hb hs)) fun σ H Q q => by
    rcases tD_ite q with q | q
    · exact .inl (ev_op2 v_dget hd q)
    · exact .inr (ev_op2 v_ix hd q)
/-! ### in -/
def rDIn : R2 := fun y x H Q => ∃ a o, x = .ref a ∧ DGet H a y o ∧ Q (.bl o.isSome) H
def rDNotIn : R2 := fun y x H Q => ∃ a o, x = .ref a ∧ DGet H a y o ∧ Q (.bl (!o.isSome)) H
theorem op_din {X : Cx} (hu : X.A.units + 1 < cLine) : OpR X (compareOp .In) rDIn := by
  intro pins s σ H x y v u Q I rx ry h
  obtain ⟨a, o, rfl, g, q⟩ := h
  obtain rfl : u = Value.ref a := ry
  exact d_in hu I g rx fun s3 I3 => ⟨.bl o.isSome, H, I3, rfl, q⟩
theorem op_dnotin {X : Cx} (hu : X.A.units + 1 < cLine) : OpR X (compareOp .NotIn) rDNotIn := by
  intro pins s σ H x y v u Q I rx ry h
  obtain ⟨a, o, rfl, g, q⟩ := h
  obtain rfl : u = Value.ref a := ry
  exact d_notIn hu I g rx fun s3 I3 => ⟨.bl (!o.isSome), H, I3, rfl, q⟩
def inA (x y : D) : Option Bool := match y with
  | .dct _ ks vs => (getD ks vs x).map Option.isSome
  | _ => inD x y
def dInA : List D → Option D
  | [x, y] => (inA x y).map .bl
  | _ => none
def dNotInA : List D → Option D
  | [x, y] => (inA x y).map fun b => .bl (!b)
  | _ => none
theorem pl_inA : PlF dInA := by
  intro ds d e
  unfold dInA at e
  split at e
  · obtain ⟨_, _, rfl⟩ := map_some e; rfl
  · cases e
theorem pl_notInA : PlF dNotInA := by
  intro ds d e
  unfold dNotInA at e
  split at e
  · obtain ⟨_, _, rfl⟩ := map_some e; rfl
  · cases e
theorem inA_sound {K : PySem.W.Frag} {Fz : Addr → Prop} {H : Hp} {x y : D} {v u : V} {b : Bool} {Q : VK} (r1 : Rp K Fz H x v []) (r2 : Rp K Fz H y u []) (e : inA x y = some b) : (Q (.bl b) H → rDIn v u H Q ∨ rInA K v u H Q) ∧ (Q (.bl !b) H → rDNotIn v u H Q ∨ rNotInA K v u H Q) := by
  unfold inA at e
  split at e
  · obtain ⟨o, e1, rfl⟩ := map_some e
    obtain ⟨a, ov, rfl, g, h⟩ := getD_sound r2 r1 e1
    have ho : ov.isSome = o.isSome := by
      cases o with
      | none =>
        cases ov with
        | none => rfl
        | some _ => exact h.elim
      | some d =>
        cases ov with
        | none => exact h.elim
        | some _ => rfl
    exact ⟨fun q => .inl ⟨a, ov, rfl, g, by rw [ho]; exact q⟩, fun q => .inl ⟨a, ov, rfl, g, by rw [ho]; exact q⟩⟩
  · exact ⟨fun q => .inr ((inD_sound r1 r2 e).1 q), fun q => .inr ((inD_sound r1 r2 e).2 q)⟩
theorem v_inA {K : PySem.W.Frag} : VOp K (r2 fun x y H Q => rDIn x y H Q ∨ rInA K x y H Q) dInA := by
  intro Fz H ds vs d Q za r e k
  unfold dInA at e
  split at e
  · obtain ⟨b, h, rfl⟩ := map_some e
    obtain ⟨v, u, rfl, r1, r2⟩ := rps2 r
    exact ⟨_, _, rfl, (inA_sound r1 r2 h).1 (k _ _ _ _ (VPst.old za rp_bl1))⟩
  · cases e
theorem v_notInA {K : PySem.W.Frag} : VOp K (r2 fun x y H Q => rDNotIn x y H Q ∨ rNotInA K x y H Q) dNotInA := by
  intro Fz H ds vs d Q za r e k
  unfold dNotInA at e
  split at e
  · obtain ⟨b, h, rfl⟩ := map_some e
    obtain ⟨v, u, rfl, r1, r2⟩ := rps2 r
    exact ⟨_, _, rfl, (inA_sound r1 r2 h).2 (k _ _ _ _ (VPst.old za rp_bl1))⟩
  · cases e
section
variable {X : Cx} {a b : Expr} {na nb : En} {pos : Pos}
theorem se_inA (hu : X.A.units + 64 < cLine) (ha : SE X a na) (hb : SE X b nb) (hm : behindInMarks .In b = false := by rfl) (hd : dj na.vw nb.mt = true := by rfl) : SE X (.Compare a [.In] [b] pos) (eAppP dInA (a2 na nb)) := se_plain pl_inA (se_cmp ((op_din (by omega)).or (op_in_str.or op_in_seq)) v_inA ha hb hm hd)
theorem se_notInA (hu : X.A.units + 64 < cLine) (ha : SE X a na) (hb : SE X b nb) (hm : behindInMarks .NotIn b = false := by rfl) (hd : dj na.vw nb.mt = true := by rfl) : SE X (.Compare a [.NotIn] [b] pos) (eAppP dNotInA (a2 na nb)) := se_plain pl_notInA (se_cmp ((op_dnotin (by omega)).or (op_notin_str.or op_notIn_seq)) v_notInA ha hb hm hd)
theorem st_inA (hu : X.A.units + 64 < cLine) (ha : SE X a na) (hb : SE X b nb) (hm : behindInMarks .In b = false := by rfl) (hd : dj na.vw nb.mt = true := by rfl) : ST X (.Compare a [.In] [b] pos) (nVal (eAppP dInA (a2 na nb))) := st_plain (st_cmp ((op_din (by omega)).or (op_in_str.or op_in_seq)) v_inA ha hb hm hd)
theorem st_notInA (hu : X.A.units + 64 < cLine) (ha : SE X a na) (hb : SE X b nb) (hm : behindInMarks .NotIn b = false := by rfl) (hd : dj na.vw nb.mt = true := by rfl) : ST X (.Compare a [.NotIn] [b] pos) (nVal (eAppP dNotInA (a2 na nb))) := st_plain (st_cmp ((op_dnotin (by omega)).or (op_notin_str.or op_notIn_seq)) v_notInA ha hb hm hd)
end
/-! ### d.get(k, x) -/
def aApp3 (a b c : En) : An := aCons a (aCons b (aCons c aNil))
def dGet2 : List D → Option D
  | [.dct _ ks vs, k, x] => (getD ks vs k).map fun o => o.getD x
  | _ => none
theorem rps3 {K Fz H} {d1 d2 d3 : D} {vs : List V} (h : Rps K Fz H [d1, d2, d3] vs []) : ∃ x y z, vs = [x, y, z] ∧ Rp K Fz H d1 x [] ∧ Rp K Fz H d2 y [] ∧ Rp K Fz H d3 z [] := by
  obtain ⟨v, ws, rfl, r1, r2⟩ := rps_cons h
  obtain ⟨x, y, rfl, r3, r4⟩ := rps2 r2
  exact ⟨v, x, y, rfl, r1, r3, r4⟩
def rGet2 : List V → Hp → VK → Prop := fun vs H Q => ∃ x y z, vs = [x, y, z] ∧ ∃ a o, x = .ref a ∧ IsD H a ∧ DGet H a y o ∧ Q (o.getD z) H
theorem dget_isD {H : Hp} {a : Addr} {y : V} {o : Option V} (g : DGet H a y o) : IsD H a := by
  rcases g with ⟨kvs, k, e, _⟩ | ⟨kvs, k, b, e, _⟩
  · exact .inl ⟨kvs, e⟩
  · exact .inr ⟨kvs, e⟩
theorem drd_isD {H : Hp} {a : Addr} {ks : Kx} {vs : List V} (h : DRd H a ks vs) : IsD H a := by
  cases ks with
  | inl kk => exact .inl ⟨_, h.2⟩
  | inr kk => exact .inr ⟨_, h.2⟩
theorem v_get2 {K : PySem.W.Frag} : VOp K rGet2 dGet2 := by
  intro Fz H ds vs d Q za r e k
  unfold dGet2 at e
  split at e
  · obtain ⟨o, e1, rfl⟩ := map_some e
    obtain ⟨v, u, w, rfl, r1, r2, r3⟩ := rps3 r
    obtain ⟨a, ov, rfl, g, h⟩ := getD_sound r1 r2 e1
    refine ⟨_, _, _, rfl, a, ov, rfl, dget_isD g, g, ?_⟩
    cases o with
    | none =>
      cases ov with
      | none => exact k _ _ _ _ (VPst.old za r3)
      | some _ => exact h.elim
    | some d =>
      cases ov with
      | none => exact h.elim
      | some z => exact k _ _ _ _ (VPst.old za h)
  · cases e
/-- a method's reading: the object first -/
theorem ev_mt {K : PySem.W.Frag} {r : V → List V → Hp → VK → Prop} {f : List D → Option D} {a : En} {b : An} {C : V → Hp → Prop} (ho : VOp K (fun vs H Q => ∃ x xs, vs = x :: xs ∧ r x xs H Q) f)
    (chk : ∀ (Fz : Addr → Prop) (H : Hp) (d : D) (ds : List D) (v : V) (z : D), f (d :: ds) = some z → Rp K Fz H d v [] → C v H) (hd : dj a.vw b.mt = true) {σ : L2.St} {H : Hp} {Q : VK} (h : tD K (eApp f (aCons a b)) σ H Q) :
    tD K a σ H fun x H1 => C x H1 ∧ tA K b σ H1 fun xs H2 => r x xs H2 Q := by
  obtain ⟨Fz, lk, S, fps, d, S', p, k⟩ := h
  obtain ⟨ds, S1, d', e1, e2, e3⟩ := bind1 (f := fun ds => f (frzs ds)) p.rn
  obtain ⟨rfl, rfl⟩ := Prod.mk.inj e3
  obtain ⟨x, S2, xs, S3, e4, e5, e6⟩ := bind2 (f := fun _ S => b.run S) (g := fun x xs => x :: xs) e1
  obtain ⟨rfl, rfl⟩ := Prod.mk.inj e6
  refine ⟨Fz, lk, S, fps, x, S2, ⟨p.sr, fun i hi => p.ml i (List.mem_append_left _ hi), e4⟩, fun v H1 Fz1 fps1 fp1 p1 => ⟨?_, ?_⟩⟩
  · exact chk (fun a => Fz1 a ∨ a ∈ fp1) H1 (frz x) (frzs xs) v d e2 (p1.rp.frz (fun _ z => .inl z) fun _ z => .inr z)
  · refine ⟨Fz, lk, S2, fps1, xs, _, ⟨p1.sr, fun i hi => p.ml i (List.mem_append_right _ hi), e5⟩, fun vs H2 Fz2 fps2 fp2 p2 => ?_⟩
    have p3 := Pst.seq mono_rp mono_rps p1 p2 (dj_ok hd)
    have p4 : Pst K (fun Fz H fp => Rps K Fz H (x :: xs) (v :: vs) fp) _ _ Fz lk H σ S fps S' H2 _ fps2 (fp1 ++ fp2) := p3.imp fun ⟨f, g, e, r, q⟩ => by unfold Rps; exact ⟨v, vs, f, g, rfl, e, r, q⟩
    have hr := ho (fun a => (Fz1 a ∨ Fz2 a) ∨ a ∈ fp1 ++ fp2) H2 (frzs (x :: xs)) (v :: vs) d Q (fun a z => z.elim (p4.za a) (p4.fv a)) (p4.rp.frz (fun _ z => .inl z) fun _ z => .inr z) e2 fun w H3 Fz3 fp3 q => k w H3 Fz3 fps2 fp3 (p4.app q)
    obtain ⟨x', xs', e, q⟩ := hr
    cases e
    exact q
theorem se_dget2 {X : Cx} {o e f : Expr} {no ne nf : En} {apos cpos : Pos} (hu : X.A.units + 64 < cLine) (ho : SE X o no) (he : SE X e ne) (hf : SE X f nf) (m : M2 X o "get" apos e f cpos) (d1 : dj no.vw (ne.mt ++ nf.mt) = true := by rfl) (d2 : dj ne.vw nf.mt = true := by rfl) :
    SE X (.Call (.Attribute o "get" apos) [e, f] [] cpos) (eApp dGet2 (aApp3 no ne nf)) :=
  PE.imp (pe_dget2 (by omega) ho he hf m) fun σ H Q q => by
    have h := ev_mt (C := fun v H => ∃ a, v = .ref a ∧ IsD H a) (r := fun x xs H Q => ∃ y z, xs = [y, z] ∧ ∃ a o, x = .ref a ∧ DGet H a y o ∧ Q (o.getD z) H) (a := no) (b := a2 ne nf) (f := dGet2) (K := X.K) ?_ ?_ (by simpa [aCons, aNil] using d1) q
    · refine tD_mono h fun x H1 h => ?_
      obtain ⟨⟨a, rfl, hI⟩, h⟩ := h
      refine ⟨a, rfl, hI, ?_⟩
      have h2 : tCons (tD X.K ne) (tCons (tD X.K nf) tNil) σ H1 _ := ev_cons (fun _ _ _ z => z) (fun _ _ _ z => ev_cons (fun _ _ _ z => z) (fun _ _ _ z => ev_nil z) (dj_nil _) z) (by simpa [aCons, aNil] using d2) h
      refine tD_mono h2 fun y H2 h3 => tD_mono h3 fun z H3 h4 => ?_
      obtain ⟨y', z', e, a', o, e2, g, q⟩ := h4
      cases e
      cases e2
      exact ⟨o, g, q⟩
    · intro Fz H ds vs d Q za r e k
      obtain ⟨x, y, z, rfl, a, o, rfl, _, g, q⟩ := v_get2 Fz H ds vs d Q za r e k
      exact ⟨_, _, rfl, y, z, rfl, a, o, rfl, g, q⟩
    · intro Fz H d ds v z e r
      unfold dGet2 at e
      split at e
      · rename_i h
        cases h
        obtain ⟨a, vs, rfl, hd, _, _⟩ := rp_dct r
        exact ⟨a, rfl, drd_isD hd⟩
      · cases e
/-! ### {} -/
def eDnew (t : Bool) : En := ⟨[], [], fun S => some (.dct true (if t then .inr [] else .inl []) [], S)⟩
theorem new_own {K Fz lk H σ S fps} {d : D} {p : Addr} {u : HO} (r : SR K Fz lk H σ S fps) (hp : H p = none) (hu : ∀ o w, u ≠ .frz o w) (h : Rp K Fz (upd H p u) d (.ref p) [p]) : Pst K (fun Fz H fp => Rp K Fz H d (.ref p) fp) [] [] Fz lk H σ S fps S (upd H p u) Fz fps [p] := by
  have ip : ∀ a ∈ [p], a = p := fun a z => by simpa using z
  have nz : ¬ Fz p := fun z => by obtain ⟨o, e⟩ := r.za p z; rw [hp] at e; cases e
  refine ⟨r.keep (upd_keep hp), h, fun _ z => z, fun _ z => .inl z, fun a z => let ⟨o, e⟩ := r.za a z; ⟨o, upd_keep hp a o e⟩, by simp, fun a z => by rw [ip a z]; exact nz, fun a z => by rw [ip a z]; exact ⟨_, upd_same⟩, fun a z j hj => ?_, fun a z => by rw [ip a z]; exact .inl hp, fun a z o w => by rw [ip a z, upd_same]; exact fun e => hu o w (Option.some.inj e), fun a o e _ => upd_keep hp a o e, fun a e => ?_, fun _ _ => ⟨rfl, rfl⟩, fun _ _ z => .inl z⟩
  · obtain ⟨⟨o, e⟩, _⟩ := r.live j a hj
    rw [ip a z, hp] at e; cases e
  · cases e' : H a with
    | none => rfl
    | some o => rw [upd_keep hp a o e'] at e; cases e
theorem rps_nil {K Fz H} : Rps K Fz H [] [] [] := by unfold Rps; exact ⟨rfl, rfl⟩
theorem dnewT {K : PySem.W.Frag} {σ : L2.St} {H : Hp} {Q : VK} (q : tD K (eDnew true) σ H Q) : tDNewT σ H Q := by
  obtain ⟨Fz, lk, S, fps, d, S', p, k⟩ := q
  cases p.rn
  exact fun a ha => k _ _ _ _ _ (new_own p.sr ha (fun _ _ z => by cases z) (by unfold Rp; exact ⟨a, [], [], rfl, ⟨rfl, .inl upd_same⟩, rfl, rps_nil⟩))
theorem dnewK {K : PySem.W.Frag} {σ : L2.St} {H : Hp} {Q : VK} (q : tD K (eDnew false) σ H Q) : tDNewK σ H Q := by
  obtain ⟨Fz, lk, S, fps, d, S', p, k⟩ := q
  cases p.rn
  exact fun a ha => k _ _ _ _ _ (new_own p.sr ha (fun _ _ z => by cases z) (by unfold Rp; exact ⟨a, [], [], rfl, ⟨rfl, .inl upd_same⟩, rfl, rps_nil⟩))
theorem se_dnewT {X : Cx} {pos : Pos} : SE X (.Dict [] [] pos) (eDnew true) := PE.imp pe_dnewT fun _ _ _ q => dnewT q
theorem se_dnewK {X : Cx} {pos : Pos} : SE X (.Dict [] [] pos) (eDnew false) := PE.imp pe_dnewK fun _ _ _ q => dnewK q
end TW

/-! TWF: d[k] = v. -/
namespace TW
open PySem PySem.Spec PyProof.Rows L2

section
variable {κ α : Type} [DecidableEq κ]
/-- in its place, or at the end -/
def putG (kk : List κ) (ds : List α) (k : κ) (d : α) : Option (List κ × List α) :=
  if k ∈ kk then (if kk.count k ≤ 1 then some (kk, ds.set (kk.idxOf k) d) else none) else some (kk ++ [k], ds ++ [d])
theorem zip_any {kk : List κ} {vs : List V} {k : κ} (h : kk.length = vs.length) : ((kk.zip vs).any fun kv => decide (kv.1 = k)) = decide (k ∈ kk) := by
  induction kk generalizing vs with
  | nil => simp
  | cons x kk ih =>
    cases vs with
    | nil => cases h
    | cons v vs =>
      have h : kk.length = vs.length := by simpa using h
      rw [List.zip_cons_cons, List.any_cons, ih h]
      by_cases e : x = k
      · simp [e]
      · have e' : ¬ k = x := fun z => e z.symm
        simp [e, e']
theorem zip_map_no {kk : List κ} {vs : List V} {k : κ} {v : V} (h : k ∉ kk) : (kk.zip vs).map (fun kv => if kv.1 = k then (kv.1, v) else kv) = kk.zip vs := by
  induction kk generalizing vs with
  | nil => rfl
  | cons x kk ih =>
    cases vs with
    | nil => rfl
    | cons w vs =>
      have e : ¬ x = k := fun z => h (by rw [z]; exact List.mem_cons_self)
      rw [List.zip_cons_cons, List.map_cons, ih fun z => h (List.mem_cons_of_mem _ z), if_neg e]
theorem zip_map_set {kk : List κ} {vs : List V} {k : κ} {v : V} (hm : k ∈ kk) (hc : kk.count k ≤ 1) (h : kk.length = vs.length) : (kk.zip vs).map (fun kv => if kv.1 = k then (kv.1, v) else kv) = kk.zip (vs.set (kk.idxOf k) v) := by
  induction kk generalizing vs with
  | nil => cases hm
  | cons x kk ih =>
    cases vs with
    | nil => cases h
    | cons w vs =>
      have h : kk.length = vs.length := by simpa using h
      by_cases e : x = k
      · subst e
        have hn : x ∉ kk := fun z => by
          have := List.count_pos_iff.mpr z
          rw [List.count_cons_self] at hc
          omega
        rw [List.idxOf_cons_self, List.zip_cons_cons, List.map_cons, if_pos rfl, zip_map_no hn]
        rfl
      · have hm2 : k ∈ kk := by
          rcases List.mem_cons.mp hm with z | z
          · exact (e z.symm).elim
          · exact z
        rw [List.count_cons_of_ne (by simpa using e)] at hc
        rw [List.zip_cons_cons, List.map_cons, if_neg e, ih hm2 hc h, List.idxOf_cons, show (x == k) = false from by simpa using e]
        rfl
theorem putG_len {kk kk' : List κ} {ds ds' : List α} {k : κ} {d : α} (e : putG kk ds k d = some (kk', ds')) (h : kk.length = ds.length) : kk'.length = ds'.length := by
  unfold putG at e
  split at e
  · split at e
    · cases e; rw [List.length_set]; exact h
    · cases e
  · cases e; rw [List.length_append, List.length_append, h]; rfl
/-- what the library calls putK -/
theorem putG_zip {kk kk' : List κ} {ds ds' : List α} {vs : List V} {k : κ} {d : α} {v : V} (e : putG kk ds k d = some (kk', ds')) (hl : kk.length = vs.length) : ∃ vs', putG kk vs k v = some (kk', vs') ∧ putK (kk.zip vs) k v = kk'.zip vs' := by
  unfold putG at e
  unfold putG putK
  rw [zip_any hl]
  by_cases hm : k ∈ kk
  · rw [if_pos hm] at e ⊢
    rw [if_pos (decide_eq_true hm)]
    split at e
    · rename_i hc
      cases e
      rw [if_pos hc]
      exact ⟨_, rfl, zip_map_set hm hc hl⟩
    · cases e
  · rw [if_neg hm] at e ⊢
    cases e
    rw [if_neg (by simpa using hm)]
    refine ⟨_, rfl, ?_⟩
    rw [List.zip_append hl]
    rfl
theorem putG_rps {K Fz H} {kk kk' : List κ} {ds ds' : List D} {vs vs' : List V} {k : κ} {d : D} {v : V} {fp f0 : List Addr} (e : putG kk ds k d = some (kk', ds')) (e2 : putG kk vs k v = some (kk', vs')) (hl : kk.length = vs.length) (rs : Rps K Fz H ds vs f0) (rv : Rp K Fz H d v fp) (nd : f0.Nodup) (nf : fp.Nodup) (dis : ∀ b, b ∈ f0 → b ∉ fp) :
    ∃ g, Rps K Fz H ds' vs' g ∧ g.Nodup ∧ ∀ b ∈ g, b ∈ f0 ∨ b ∈ fp := by
  unfold putG at e e2
  by_cases hm : k ∈ kk
  · rw [if_pos hm] at e e2
    split at e
    · rename_i hc
      rw [if_pos hc] at e2
      cases e
      cases e2
      have hj : kk.idxOf k < ds.length := by
        rw [← Rps.length rs, ← hl]
        exact List.idxOf_lt_length_iff.mpr hm
      obtain ⟨f1, f, f2, rfl, r3⟩ := rs.put (List.getElem?_eq_getElem hj) rv
      obtain ⟨n1, n2, n3⟩ := nodup3 nd
      obtain ⟨k1, k2, k3⟩ := List.nodup_append.mp n1
      refine ⟨_, r3, List.nodup_append.mpr ⟨k1, List.nodup_append.mpr ⟨nf, k2, fun b hb c hc e => ?_⟩, fun b hb c hc e => ?_⟩, fun b hb => ?_⟩
      · subst e
        exact dis b (List.mem_append_right _ (List.mem_append_right _ hc)) hb
      · subst e
        rcases List.mem_append.mp hc with z | z
        · exact dis b (List.mem_append_left _ hb) z
        · exact k3 b hb b z rfl
      · simp only [List.mem_append] at hb ⊢
        rcases hb with hb | hb | hb
        · exact .inl (.inl hb)
        · exact .inr hb
        · exact .inl (.inr (.inr hb))
    · cases e
  · rw [if_neg hm] at e e2
    cases e
    cases e2
    exact ⟨f0 ++ fp, rs.app (rps_one rv), List.nodup_append.mpr ⟨nd, nf, fun b hb c hc e => by subst e; exact dis b hb hc⟩, fun b hb => List.mem_append.mp hb⟩
end
def putD (ks : Kx) (ds : List D) (k d : D) : Option (Kx × List D) := match ks with
  | .inl kk => (toKey k).bind fun q => (putG kk ds q d).map fun r => (.inl r.1, r.2)
  | .inr kk => (match k with
    | .tup xs => (toKeys xs).bind fun q => (putG kk ds q d).map fun r => (.inr r.1, r.2)
    | _ => none)
theorem toKey_nil {K Fz H} {d : D} {v : V} {fp : List Addr} {k : Key} (h : toKey d = some k) (r : Rp K Fz H d v fp) : fp = [] := by
  cases d with
  | int i => unfold Rp at r; exact r.2
  | str x => unfold Rp at r; exact r.2
  | _ => cases h
theorem toKeys_nil {K Fz H} : ∀ {ds : List D} {vs : List V} {fp : List Addr} {ks : List Key}, toKeys ds = some ks → Rps K Fz H ds vs fp → fp = []
  | [], vs, fp, ks, e, r => by unfold Rps at r; exact r.2
  | d :: ds, vs, fp, ks, e, r => by
    unfold Rps at r
    obtain ⟨v, ws, f, g, rfl, rfl, r1, r2⟩ := r
    obtain ⟨k, e1, e2⟩ := bind_some (show ((toKey d).bind fun k => (toKeys ds).map (k :: ·)) = some ks from e)
    obtain ⟨q, e3, _⟩ := map_some e2
    rw [toKey_nil e1 r1, toKeys_nil e3 r2]
    rfl
theorem putD_key {K Fz H} {ks : Kx} {ds : List D} {k d : D} {z : Kx × List D} {v : V} {fp : List Addr} (e : putD ks ds k d = some z) (r : Rp K Fz H k v fp) : fp = [] := by
  cases ks with
  | inl kk =>
    obtain ⟨q, e1, _⟩ := bind_some (show ((toKey k).bind fun q => (putG kk ds q d).map fun r => ((.inl r.1 : Kx), r.2)) = some z from e)
    exact toKey_nil e1 r
  | inr kk =>
    cases k with
    | tup xs =>
      obtain ⟨q, e1, _⟩ := bind_some (show ((toKeys xs).bind fun q => (putG kk ds q d).map fun r => ((.inr r.1 : Kx), r.2)) = some z from e)
      unfold Rp at r
      obtain ⟨a, vs, _, _, r⟩ := r
      exact toKeys_nil e1 r
    | _ => cases e
/-- the slot's dict -/
theorem own_dict {K Fz lk H σ S fps} (r : SR K Fz lk H σ S fps) {i : Nat} {ks : Kx} {ds : List D} (hi : S[i]? = some (some (.dct true ks ds))) : ∃ a vs fp', σ[i]? = some (some (.ref a)) ∧ DRd H a ks vs ∧ fps i = a :: fp' ∧ Rps K Fz H ds vs fp' := by
  obtain ⟨v, e, q⟩ := r.rep i _ hi
  unfold Rp at q
  obtain ⟨a, vs, fp', rfl, ha, hf, q⟩ := q
  exact ⟨a, vs, fp', e, ha, hf, q⟩
/-- the heap's object -/
def objD : Kx → List V → HO
  | .inl kk, vs => .dK (kk.zip vs)
  | .inr kk, vs => .dT (kk.zip vs)
theorem drd_rd {H : Hp} {a : Addr} {ks : Kx} {vs : List V} (h : DRd H a ks vs) : Rd H a (objD ks vs) := by
  cases ks with
  | inl kk => exact h.2
  | inr kk => exact h.2
theorem objD_nf (ks : Kx) (vs : List V) : ∀ o u, objD ks vs ≠ .frz o u := by
  intro o u
  cases ks with
  | inl kk => exact fun e => by cases e
  | inr kk => exact fun e => by cases e
/-- a value into the dict of slot i at key k -/
theorem SPst.putAt {K} {mt wr : List Nat} {Fz lk H σ0 fps S1 σ H1 Fz1 fps1 d v fp} (p : SPst K mt wr Fz lk H σ0 fps S1 σ H1 Fz1 fps1) (q : VO K mt H fps H1 Fz1 fps1 d v fp) {i : Nat} {ks : Kx} {ds : List D} (hS1 : S1[i]? = some (some (.dct true ks ds))) {k : D} {y : V} {Fk : Addr → Prop} (ry : Rp K Fk H1 k y []) {z : Kx × List D} (e : putD ks ds k d = some z) (hlen : ds.length < 100000) (hnl : ¬ lk i) :
    ∃ a H2, σ[i]? = some (some (.ref a)) ∧ DPut H1 a y v H2 ∧ ∃ fps2, SPst K (i :: mt) wr Fz lk H σ0 fps (S1.set i (some (.dct true z.1 z.2))) σ H2 Fz1 fps2 := by
  obtain ⟨a, vs, fp2, hσ, hd, hf', rs'⟩ := own_dict p.sr hS1
  have am : a ∈ fps1 i := by rw [hf']; exact List.mem_cons_self
  have nd := p.sr.nd i
  rw [hf'] at nd
  have az := p.sr.nf i a am
  have at_ := (p.sr.live i a am).2
  have an := (List.nodup_cons.mp nd).1
  have afp : a ∉ fp := fun z => q.fd a z i am
  have dis : ∀ b, b ∈ fp2 → b ∉ fp := fun b hb z => q.fd b z i (by rw [hf']; exact List.mem_cons_of_mem _ hb)
  have ha : H1 a = some (objD ks vs) := rd_exact (drd_rd hd) (p.sr.nl i hnl a am)
  cases ks with
  | inl kk =>
    obtain ⟨kq, e1, e2⟩ := bind_some (show ((toKey k).bind fun q => (putG kk ds q d).map fun r => ((.inl r.1 : Kx), r.2)) = some z from e)
    obtain ⟨⟨kk', ds'⟩, e3, rfl⟩ := map_some e2
    obtain ⟨vs', e4, e5⟩ := putG_zip (v := v) e3 hd.1
    have rs3 := rps_upd (o := .dK (putK (kk.zip vs) kq v)) rs' az an at_
    have rv := rp_upd (o := .dK (putK (kk.zip vs) kq v)) q.rp az afp at_
    obtain ⟨g, r3, gn, gs⟩ := putG_rps e3 e4 hd.1 rs3 rv (List.nodup_cons.mp nd).2 q.nd dis
    refine ⟨a, _, hσ, .inl ⟨_, kq, ha, toKey_rp e1 ry, ?_, rfl⟩, _, p.into q hS1 hσ hf' (fun _ _ z => by cases z) (g := g) gs (List.nodup_cons.mpr ⟨fun z => (gs a z).elim an afp, gn⟩) hnl ?_⟩
    · have : (kk.zip vs).length ≤ ds.length := by rw [List.length_zip, ← Rps.length rs']; exact Nat.min_le_right _ _
      exact sz_lt (Nat.lt_of_le_of_lt this hlen)
    · unfold Rp
      exact ⟨a, vs', g, rfl, ⟨putG_len e4 hd.1, .inl (by rw [upd_same, e5])⟩, rfl, r3⟩
  | inr kk =>
    cases k with
    | tup xs =>
      obtain ⟨kq, e1, e2⟩ := bind_some (show ((toKeys xs).bind fun q => (putG kk ds q d).map fun r => ((.inr r.1 : Kx), r.2)) = some z from e)
      obtain ⟨⟨kk', ds'⟩, e3, rfl⟩ := map_some e2
      obtain ⟨vs', e4, e5⟩ := putG_zip (v := v) e3 hd.1
      obtain ⟨b, us, rfl, hb, ru⟩ := rp_tup ry
      have rs3 := rps_upd (o := .dT (putK (kk.zip vs) kq v)) rs' az an at_
      have rv := rp_upd (o := .dT (putK (kk.zip vs) kq v)) q.rp az afp at_
      obtain ⟨g, r3, gn, gs⟩ := putG_rps e3 e4 hd.1 rs3 rv (List.nodup_cons.mp nd).2 q.nd dis
      refine ⟨a, _, hσ, .inr ⟨_, kq, b, ha, rfl, by rw [← toKeys_rp e1 ru]; exact hb, ?_, rfl⟩, _, p.into q hS1 hσ hf' (fun _ _ z => by cases z) (g := g) gs (List.nodup_cons.mpr ⟨fun z => (gs a z).elim an afp, gn⟩) hnl ?_⟩
      · have : (kk.zip vs).length ≤ ds.length := by rw [List.length_zip, ← Rps.length rs']; exact Nat.min_le_right _ _
        exact sz_lt (Nat.lt_of_le_of_lt this hlen)
      · unfold Rp
        exact ⟨a, vs', g, rfl, ⟨putG_len e4 hd.1, .inl (by rw [upd_same, e5])⟩, rfl, r3⟩
    | _ => cases e
/-- x[k] = v, x a dict of its own -/
def sSetD (i : Nat) (nk nv : En) : Sn := ⟨i :: (nv.mt ++ nk.mt), [], fun S => (nv.run S).bind fun p => match p.2[i]? with
  | some (some (.dct true ks ds)) => (nk.run p.2).bind fun q => (putD ks ds q.1 p.1).bind fun z => if okB i ⟨nv.vw ++ nk.vw, [], nv.run⟩ p.1 = true ∧ ds.length < 100000 then some (.nx ((bindS (nv.vw ++ nk.vw) p.1 q.2).set i (some (.dct true z.1 z.2)))) else none
  | _ => none⟩
theorem setD_sound {K : PySem.W.Frag} {i : Nat} {nk nv : En} {D : Ends} {σ : L2.St} {H : Hp} (hd : dj nv.vw nk.mt = true) (hn : i ∉ nk.mt) (h : tS K (sSetD i nk nv) D σ H) : sDPut (tVar i) (tD K nk) (tD K nv) D σ H := by
  obtain ⟨Fz, lk, S, fps, o, r, ml, rn, w⟩ := h
  obtain ⟨d, S1, e1, e2⟩ := bindO (g := fun d S1 => match S1[i]? with
    | some (some (.dct true ks ds)) => (nk.run S1).bind fun q => (putD ks ds q.1 d).bind fun z => if okB i ⟨nv.vw ++ nk.vw, [], nv.run⟩ d = true ∧ ds.length < 100000 then some (Out.nx ((bindS (nv.vw ++ nk.vw) d q.2).set i (some (.dct true z.1 z.2)))) else none
    | _ => none) rn
  split at e2
  · rename_i ks ds hS
    obtain ⟨kd, S2, e3, e4⟩ := bindO (g := fun kd S2 => (putD ks ds kd d).bind fun z => if okB i ⟨nv.vw ++ nk.vw, [], nv.run⟩ d = true ∧ ds.length < 100000 then some (Out.nx ((bindS (nv.vw ++ nk.vw) d S2).set i (some (.dct true z.1 z.2)))) else none) e2
    obtain ⟨z, e5, e6⟩ := bind_some e4
    obtain ⟨⟨hb, hlen⟩, rfl⟩ := if_some e6
    refine ⟨Fz, lk, S, fps, d, S1, ⟨r, fun l hl => ml l (List.mem_cons_of_mem _ (List.mem_append_left _ hl)), e1⟩, fun v H1 Fz1 fps1 fp1 p1 => ?_⟩
    obtain ⟨a, vs, fp', hσ, ha, hf, rs⟩ := own_dict p1.sr hS
    refine ⟨_, hσ, Fz, lk, S1, fps1, kd, S2, ⟨p1.sr, fun l hl => ml l (List.mem_cons_of_mem _ (List.mem_append_right _ hl)), e3⟩, fun kv H2 Fz2 fps2 fp2 p2 => ?_⟩
    have p3 := Pst.seq mono_rp mono_rp p1 p2 (dj_ok hd)
    have ef : fp2 = [] := putD_key e5 p2.rp
    have rk : Rp K Fz2 H2 kd kv [] := by rw [← ef]; exact p2.rp
    rw [ef, List.append_nil] at p3
    have p4 := p3.imp (RP' := fun Fz H fp => Rp K Fz H d v fp) fun ⟨f, g, e, q1, q2⟩ => by
      rw [putD_key e5 q2, List.append_nil] at e
      rw [e]
      exact q1
    obtain ⟨Fz3, fps3, s3, v3⟩ := p4.bind
    have hS3 : (bindS (nv.vw ++ nk.vw) d S2)[i]? = some (some (.dct true ks ds)) := by
      rw [bindS_at (n := ⟨nv.vw ++ nk.vw, [], nv.run⟩) hb, (p2.fs i hn).2]
      exact hS
    obtain ⟨a', H3, hσ', hp, fps4, s4⟩ := s3.putAt v3 hS3 rk e5 hlen (ml i List.mem_cons_self)
    rw [hσ] at hσ'
    cases hσ'
    exact ⟨a, H3, rfl, hp, w σ _ Fz3 fps4 (s4.wide (fun _ z => z) fun _ z => z)⟩
  · cases e2
/-- x[k] = v, a list or a dict -/
def isDctS : Option (Option D) → Bool
  | some (some (.dct _ _ _)) => true
  | _ => false
def sSet (i : Nat) (nk nv : En) : Sn := ⟨i :: (nv.mt ++ nk.mt), [], fun S => if isDctS S[i]? then (sSetD i nk nv).run S else (sSetL i nk nv).run S⟩
theorem set_sound {K : PySem.W.Frag} {i : Nat} {nk nv : En} {D : Ends} {σ : L2.St} {H : Hp} (hd : dj nv.vw nk.mt = true) (hn : i ∉ nk.mt) (h : tS K (sSet i nk nv) D σ H) : sDPut (tVar i) (tD K nk) (tD K nv) D σ H ∨ tAsg (tD K nv) (gSub (tVar i) (tD K nk) rSetL) D σ H := by
  obtain ⟨Fz, lk, S, fps, o, r, ml, rn, w⟩ := h
  have rn : (if isDctS S[i]? then (sSetD i nk nv).run S else (sSetL i nk nv).run S) = some o := rn
  split at rn
  · exact .inl (setD_sound hd hn ⟨Fz, lk, S, fps, o, r, ml, rn, w⟩)
  · exact .inr (setL_sound hd hn ⟨Fz, lk, S, fps, o, r, ml, rn, w⟩)
end TW

/-! TWG: items() and values() of a dict whose keys are tuples. -/
namespace TW
open PySem PySem.Spec PyProof.Rows L2

theorem frzT2 {X : Cx} {pins : List (Addr × Obj)} {σ : L2.St} {H : Hp} {s : Shared} {d : Addr} {o : Obj} {kvs : List (List Key × V)} (I : Inv X pins σ H s) (h : H d = some (.frz o (.dT kvs))) :
    (d == sysModules) = false ∧ s.heap.get? d = some o ∧ o.ExactDict ∧ ∃ (es : Array DictEntry) (ep : Nat), o.data = .dict es ep ∧ es.size = kvs.length ∧
      ∀ (i : Nat) (k : List Key) (v : V), kvs[i]? = some (k, v) → ∃ (en : DictEntry) (q : Addr), es[i]? = some en ∧ en.key = .ref q ∧ H q = some (.tup (k.map kV)) ∧ RelV v en.val := by
  obtain ⟨hd, z, hs, xs, pr, o', es, ep, ho, hx, hdt, he, _⟩ := I.hok d _ h
  rw [hd] at ho
  cases ho
  refine ⟨hs, hd, hx, es, ep, hdt, ?_, fun i k v e => ?_⟩
  · have l1 : es.size = xs.length := size_of_entries he
    have l2 : kvs.length = xs.length := Paired.length pr
    omega
  · obtain ⟨b, hb, e1, e2, e3⟩ := paired_get pr e
    have q := entry_at he i
    rw [hb] at q
    exact ⟨_, b.2.1, q, rfl, e2, e3⟩
def Itit (d : Addr) (o : Obj) (kvs : List (List Key × V)) : It :=
  ⟨fun i H => H d = some (.frz o (.dT kvs)) ∧ i < kvs.length, fun i H x H' => ∃ T q k v, kvs[i]? = some (k, v) ∧ x = .ref T ∧ H q = some (.tup (k.map kV)) ∧ H T = none ∧ H' = upd H T (.tup [.ref q, v]), fun i H => H d = some (.frz o (.dT kvs)) ∧ kvs.length ≤ i⟩
def Itdt (d : Addr) (o : Obj) (kvs : List (List Key × V)) : It :=
  ⟨fun i H => H d = some (.frz o (.dT kvs)) ∧ i < kvs.length, fun i H x H' => H' = H ∧ ∃ k, kvs[i]? = some (k, x), fun i H => H d = some (.frz o (.dT kvs)) ∧ kvs.length ≤ i⟩
section
variable {P : Program} {w : World} {K : PySem.W.Frag} {tg : Expr} {d : Addr} {o : Obj} {es : Array DictEntry} {ep : Nat}
theorem getA {es : Array DictEntry} {i : Nat} {en : DictEntry} (h : es[i]? = some en) : ∃ hi : i < es.size, es[i] = en := by
  rcases Array.getElem?_eq_some_iff.mp h with ⟨a, b⟩
  exact ⟨a, b⟩
theorem turn_itemsT {kvs : List (List Key × V)} {elts : List Expr} {kk : Nat} {tpos : Pos} (it : Addr) (hod : o.data = .dict es ep) :
    Turn P w K (.Tuple elts kk tpos) (Itit d o kvs) [it] it (fun i h => ∃ ok ov, IsItemIter h it d i kvs.length ep ok ov) where
  mem := by simp
  obj := fun i h st b hb => by
    have e : b = it := by simpa using hb
    subst e
    obtain ⟨ok, ov, e⟩ := st
    exact ⟨_, e, fun v z => nomatch z⟩
  keep := fun i h h' st k => let ⟨ok, ov, e⟩ := st; ⟨ok, ov, k it (by simp) _ e⟩
  item := by
    intro X hP hw hK hc i pins s σ H E I hf st hg
    subst hP hw hK
    obtain ⟨hd, hi⟩ := hg
    obtain ⟨hs, hgd, hx, es', ep', hdt, hsz, ent⟩ := frzT2 I hd
    obtain ⟨rfl, rfl⟩ := dict_ep hod hdt
    obtain ⟨⟨k, v⟩, hkv⟩ : ∃ p, kvs[i]? = some p := ⟨kvs[i], List.getElem?_eq_getElem hi⟩
    obtain ⟨en, q, hen, hkey, hq, ru⟩ := ent i k v hkv
    obtain ⟨hi2, hent⟩ := getA hen
    obtain ⟨ok, ov, he⟩ := st
    rw [← hsz] at he
    have hlt : it < s.heap.objs.size := Heap.lt_size he
    refine DT.nextI he ⟨o, hgd, hx, hdt⟩ hi2 fun h' ho hT hz hk => ?_
    rw [hent, hkey] at ho hT
    refine ⟨_, rfl, wpAny_letOwnedTupleGo_items (s := { s with heap := h' }) ho fun h'' he' sb => ?_⟩
    have hT2 : h''.get? s.heap.objs.size = some { cls := .type "tuple", data := .seq #[.ref q, en.val] } := (sb.2 _ (Nat.ne_of_gt hlt)).trans hT
    have new : ObjOk X.prog X.w (upd H s.heap.objs.size (.tup [.ref q, v])) h'' s.heap.objs.size (.tup [.ref q, v]) :=
      ⟨by show 2 ≤ sizeLine; decide, [.ref q, en.val], .cons rfl (.cons ru .nil), ⟨_, hT2, rfl, _, rfl⟩⟩
    have I1 : Inv X pins σ (upd H s.heap.objs.size (.tup [.ref q, v])) { s with heap := h'' } :=
      I.turnedNew (t' := s.toks) (ch := [it]) (fun b ob hb e => (sb.2 b (by simpa using hb)).trans (hk b ob (by simpa using hb) e)) hf (Nat.le_refl _) new
    refine ⟨.ref s.heap.objs.size, _, I1, rfl, ⟨_, q, k, v, hkv, rfl, hq, I.hok.fresh (Nat.le_refl _), rfl⟩, ⟨.ref q, en.val, ?_⟩, fun b hb => ?_⟩
    · rw [← hsz]; exact he'
    · have e : b = it := by simpa using hb
      rw [e, upd_ne (Nat.ne_of_lt hlt)]
      exact (hf it (by simp)).1
  done := by
    intro X hP hw hK hc i pins s σ H E I hf st hg
    subst hP hw hK
    obtain ⟨hd, hi⟩ := hg
    obtain ⟨f0, f1, f2, f3, f4, f5⟩ := hf it (by simp)
    obtain ⟨hs, hgd, hx, es', ep', hdt, hsz, ent⟩ := frzT2 I hd
    obtain ⟨rfl, rfl⟩ := dict_ep hod hdt
    obtain ⟨ok, ov, he⟩ := st
    rw [← hsz] at he hi
    exact DT.endI (I.ok.hd hc) he ⟨o, hgd, hx, hdt⟩ hi fun h' eb => ⟨rfl, I.turned (t' := s.toks) (fun b ob hb e => eb b ob hb e) f0 f1 f3 f4 f5⟩
  self := fun A i s Q E st h => let ⟨_, _, e⟩ := st; PySem.W.kcp_self e h
theorem turn_valsT {kvs : List (List Key × V)} (it : Addr) (hod : o.data = .dict es ep) : Turn P w K tg (Itdt d o kvs) [it] it (fun i h => h.IsValIter it d i kvs.length ep) where
  mem := by simp
  obj := fun i h st b hb => by
    have e : b = it := by simpa using hb
    subst e
    obtain ⟨oi, e, c, dd⟩ := st
    exact ⟨oi, e, fun v z => by rw [dd] at z; cases z⟩
  keep := fun i h h' st k => st.at fun oi e => k it (by simp) oi e
  item := by
    intro X hP hw hK hc i pins s σ H E I hf st hg
    subst hP hw hK
    obtain ⟨hd, hi⟩ := hg
    obtain ⟨f0, f1, f2, f3, f4, f5⟩ := hf it (by simp)
    obtain ⟨hs, hgd, hx, es', ep', hdt, hsz, ent⟩ := frzT2 I hd
    obtain ⟨rfl, rfl⟩ := dict_ep hod hdt
    obtain ⟨⟨k, v⟩, hkv⟩ : ∃ p, kvs[i]? = some p := ⟨kvs[i], List.getElem?_eq_getElem hi⟩
    obtain ⟨en, q, hen, hkey, hq, ru⟩ := ent i k v hkv
    obtain ⟨hi2, hent⟩ := getA hen
    rw [← hsz] at st
    refine wpAny_pyNext_values_item_raw st ⟨o, hgd, hx, hdt⟩ hi2 fun h' st' sb => ?_
    rw [hent]
    have I1 : Inv X pins σ H { s with heap := h' } := I.turned (t' := s.toks) (fun b ob hb e => (sb.2 b hb).trans e) f0 f1 f3 f4 f5
    obtain ⟨oi, e, c, dd⟩ := id st'
    refine ⟨en.val, rfl, go_of (s := { s with heap := h' }) e c dd (by decide) ⟨v, H, I1, ru, ⟨rfl, k, hkv⟩, ?_, fun b hb => (hf b hb).1⟩⟩
    show h'.IsValIter it d (i + 1) kvs.length _
    rw [← hsz]
    exact st'
  done := by
    intro X hP hw hK hc i pins s σ H E I hf st hg
    subst hP hw hK
    obtain ⟨hd, hi⟩ := hg
    obtain ⟨f0, f1, f2, f3, f4, f5⟩ := hf it (by simp)
    obtain ⟨hs, hgd, hx, es', ep', hdt, hsz, ent⟩ := frzT2 I hd
    obtain ⟨rfl, rfl⟩ := dict_ep hod hdt
    rw [← hsz] at st hi
    exact wpAny_pyNext_values_end_raw (I.ok.hd hc) st ⟨o, hgd, hx, hdt⟩ hi fun h' eb => ⟨rfl, I.turned (t' := s.toks) (fun b ob hb e => eb b ob hb e) f0 f1 f3 f4 f5⟩
  self := fun A i s Q E st h => wpAny_pyIter_valiter st h
end
def iItemsT (td : TE) : TI := fun σ H R => td σ H fun x H1 => ∃ d o kvs, x = .ref d ∧ H1 d = some (.frz o (.dT kvs)) ∧ R (Itit d o kvs) H1
def iValsT (td : TE) : TI := fun σ H R => td σ H fun x H1 => ∃ d o kvs, x = .ref d ∧ H1 d = some (.frz o (.dT kvs)) ∧ R (Itdt d o kvs) H1
section
variable {X : Cx} {tg e : Expr} {td : TE} {apos cpos : Pos}
theorem pi_itemsT {elts : List Expr} {kk : Nat} {tpos : Pos} (he : PE X e td) (hbase : attributeBase e "items" X.env (eval e X.env) = eval e X.env := by rfl) (hline : (apos.endLine == cpos.line) = true := by rfl) :
    PI X (.Tuple elts kk tpos) (.Call (.Attribute e "items" apos) [] [] cpos) (iItemsT td) := by
  refine ⟨fun pins s σ H R I h => ?_⟩
  refine wpAny_Call_method (T := "dict") (id := "dict.items") hbase rfl hline F.plainAttrs_dict F.slot_dict_items F.type_dict_items (thn (he.run pins s σ H _ I h) fun u s1 ⟨x, H1, I1, rx, d, o, kvs, ex, hd, q⟩ => ?_)
  subst ex
  obtain rfl : u = Value.ref d := rx
  obtain ⟨hs, hgd, hx, es, ep, hdt, hsz, ent⟩ := frzT2 I1 hd
  have raw : DT.Raw s1.heap d es ep := ⟨o, hgd, hx, hdt⟩
  refine ⟨raw.typeIs, fun b q => by cases q; exact ⟨o, hgd, hx.2.1⟩, ?_⟩
  have I2 : Inv X pins σ H1 { s1 with heap := s1.heap.push { cls := .type "dict_items", data := .fields #[.ref d] } } := I1.kept (t' := s1.toks) fun b ob q => Heap.get?_push_of_some _ q
  have fin : wpAny (model X.prog X.w) X.A (pyIter (.ref s1.heap.objs.size)) (PIE X pins σ (.Tuple elts kk tpos) R) X.xe { s1 with heap := s1.heap.push { cls := .type "dict_items", data := .fields #[.ref d] } } := by
    refine DT.iterI (d := d) ⟨_, Heap.get?_push_size _ rfl, rfl, rfl⟩ (raw.push _) (pi_one (tk := s1.toks) I2 _ (turn_itemsT _ hdt) ⟨.none, .none, ?_⟩ q)
    rw [← hsz]
    exact Heap.get?_push_size _ rfl
  show wpAny _ _ (callWith cpos (.builtin "dict.items") [.ref d] [] []) _ X.xe s1
  exact method_meetsIn F.slot_dict_items F.entry_dict_items rfl (PySem.evalArgs_none ⟨rfl, raw.typeIs, F.args_dict_items_1 _, _, DT.meetsItems (es := es) (ep := ep) hs, raw, fin⟩)
theorem pi_valuesT (he : PE X e td) (hbase : attributeBase e "values" X.env (eval e X.env) = eval e X.env := by rfl) (hline : (apos.endLine == cpos.line) = true := by rfl) : PI X tg (.Call (.Attribute e "values" apos) [] [] cpos) (iValsT td) := by
  refine ⟨fun pins s σ H R I h => ?_⟩
  refine wpAny_Call_method (T := "dict") (id := "dict.values") hbase rfl hline F.plainAttrs_dict F.slot_dict_values F.type_dict_values (thn (he.run pins s σ H _ I h) fun u s1 ⟨x, H1, I1, rx, d, o, kvs, ex, hd, q⟩ => ?_)
  subst ex
  obtain rfl : u = Value.ref d := rx
  obtain ⟨hs, hgd, hx, es, ep, hdt, hsz, ent⟩ := frzT2 I1 hd
  have raw : DT.Raw s1.heap d es ep := ⟨o, hgd, hx, hdt⟩
  refine ⟨raw.typeIs, fun b q => by cases q; exact ⟨o, hgd, hx.2.1⟩, ?_⟩
  have I2 : Inv X pins σ H1 { s1 with heap := s1.heap.push { cls := .type "dict_values", data := .fields #[.ref d] } } := I1.kept (t' := s1.toks) fun b ob q => Heap.get?_push_of_some _ q
  have fin : wpAny (model X.prog X.w) X.A (pyIter (.ref s1.heap.objs.size)) (PIE X pins σ tg R) X.xe { s1 with heap := s1.heap.push { cls := .type "dict_values", data := .fields #[.ref d] } } := by
    refine wpAny_pyIter_values_raw (d := d) (es := es) (ep := ep) ⟨_, Heap.get?_push_size _ rfl, rfl, rfl⟩ (raw.push _) (pi_one (tk := s1.toks) I2 _ (turn_valsT _ hdt) ⟨_, Heap.get?_push_size _ rfl, rfl, ?_⟩ q)
    rw [hsz] <;> rfl
  show wpAny _ _ (callWith cpos (.builtin "dict.values") [.ref d] [] []) _ X.xe s1
  exact method_meetsIn F.slot_dict_values F.entry_dict_values rfl (PySem.evalArgs_none ⟨rfl, raw.typeIs, F.args_dict_values_1 _, _, meets_dict_values_raw d hs, ⟨es, ep, raw⟩, fin⟩)
end
end TW

/-! TWH: a dict is walked: paths, locks. -/
namespace TW
open PySem PySem.Spec PyProof.Rows L2

/-! ### Rp leans on its dicts alone -/
section
variable {K : PySem.W.Frag} {Fz Fz' : Addr → Prop} {H H' : Hp}
mutual
theorem Rp.monoD : ∀ {d : D} {v : V} {fp : List Addr}, Rp K Fz H d v fp → (∀ a xs, H a = some (.tup xs) → H' a = some (.tup xs)) → (∀ a xs, H a = some (.lst xs) → H' a = some (.lst xs)) → (∀ a xs, Rd H a (.lst xs) → Rd H' a (.lst xs)) → (∀ a ks vs, DRd H a ks vs → DRd H' a ks vs) → Rp K Fz H' d v fp
  | .non, _, _, h, _, _, _, _ => by unfold Rp at h ⊢; exact h
  | .bl _, _, _, h, _, _, _, _ => by unfold Rp at h ⊢; exact h
  | .int _, _, _, h, _, _, _, _ => by unfold Rp at h ⊢; exact h
  | .str _, _, _, h, _, _, _, _ => by unfold Rp at h ⊢; exact h
  | .tup ds, _, _, h, ht, hx, hs, hr => by
    unfold Rp at h ⊢
    obtain ⟨a, vs, e, ha, r⟩ := h
    exact ⟨a, vs, e, ht _ _ ha, Rps.monoD r ht hx hs hr⟩
  | .lst true ds, _, _, h, ht, hx, hs, hr => by
    unfold Rp at h ⊢
    obtain ⟨a, vs, fp', e, ha, rfl, r⟩ := h
    exact ⟨a, vs, fp', e, hx _ _ ha, rfl, Rps.monoD r ht hx hs hr⟩
  | .lst false ds, _, _, h, ht, hx, hs, hr => by
    unfold Rp at h ⊢
    obtain ⟨a, vs, e, hf, ha, rfl, r⟩ := h
    exact ⟨a, vs, e, hf, hx _ _ ha, rfl, Rps.monoD r ht hx hs hr⟩
  | .dct true ks ds, _, _, h, ht, hx, hs, hr => by
    unfold Rp at h ⊢
    obtain ⟨a, vs, fp', e, ha, rfl, r⟩ := h
    exact ⟨a, vs, fp', e, hr a ks vs ha, rfl, Rps.monoD r ht hx hs hr⟩
  | .dct false ks ds, _, _, h, ht, hx, hs, hr => by
    unfold Rp at h ⊢
    obtain ⟨a, vs, e, hf, ha, rfl, r⟩ := h
    exact ⟨a, vs, e, hf, hr a ks vs ha, rfl, Rps.monoD r ht hx hs hr⟩
  | .scr ns, _, _, h, ht, hx, hs, hr => by
    unfold Rp at h ⊢
    obtain ⟨a, e, ha, rfl⟩ := h
    exact ⟨a, e, ha.imp (fun z => ⟨z.1, hs a _ z.2⟩) id, rfl⟩
theorem Rps.monoD : ∀ {ds : List D} {vs : List V} {fp : List Addr}, Rps K Fz H ds vs fp → (∀ a xs, H a = some (.tup xs) → H' a = some (.tup xs)) → (∀ a xs, H a = some (.lst xs) → H' a = some (.lst xs)) → (∀ a xs, Rd H a (.lst xs) → Rd H' a (.lst xs)) → (∀ a ks vs, DRd H a ks vs → DRd H' a ks vs) → Rps K Fz H' ds vs fp
  | [], _, _, h, _, _, _, _ => by unfold Rps at h ⊢; exact h
  | d :: ds, _, _, h, ht, hx, hs, hr => by
    unfold Rps at h ⊢
    obtain ⟨v, ws, f, g, e, rfl, r, q⟩ := h
    exact ⟨v, ws, f, g, e, rfl, Rp.monoD r ht hx hs hr, Rps.monoD q ht hx hs hr⟩
end
end
/-- a dict's object -/
def IsDO (u : HO) : Prop := (∃ kvs, u = .dK kvs) ∨ ∃ kvs, u = .dT kvs
theorem IsDO.mut {u : HO} (h : IsDO u) : Mut (some u) := by
  rcases h with ⟨k, rfl⟩ | ⟨k, rfl⟩
  · exact True.intro
  · exact True.intro
theorem IsDO.nf {u : HO} (h : IsDO u) : ∀ o w, u ≠ .frz o w := by
  rcases h with ⟨k, rfl⟩ | ⟨k, rfl⟩
  · exact fun o w e => by cases e
  · exact fun o w e => by cases e
/-- two heaps that differ by a lock at d -/
structure LkAt (d : Addr) (od : Obj) (u : HO) (H H' : Hp) : Prop where
  is : IsDO u
  at1 : H d = some u
  at2 : H' d = some (.frz od u)
  ne : ∀ a, a ≠ d → H' a = H a
section
variable {K : PySem.W.Frag} {Fz Fz' : Addr → Prop} {H H' : Hp} {d : Addr} {od : Obj} {u : HO}
theorem LkAt.mk' (h : IsDO u) (e : H d = some u) : LkAt d od u H (upd H d (.frz od u)) := ⟨h, e, upd_same, fun a ha => upd_ne ha⟩
theorem LkAt.un (h : IsDO u) (e : H' d = some (.frz od u)) : LkAt d od u (upd H' d u) H' := ⟨h, upd_same, e, fun a ha => (upd_ne ha).symm⟩
theorem LkAt.rd (L : LkAt d od u H H') {a : Addr} {w : HO} (hw : ∀ o x, w ≠ .frz o x) : Rd H a w ↔ Rd H' a w := by
  by_cases ha : a = d
  · subst ha
    constructor
    · rintro (z | ⟨o, z⟩)
      · rw [L.at1] at z; cases z; exact .inr ⟨od, L.at2⟩
      · rw [L.at1] at z; exact (L.is.nf _ _ (Option.some.inj z)).elim
    · rintro (z | ⟨o, z⟩)
      · rw [L.at2] at z; exact (hw _ _ (Option.some.inj z).symm).elim
      · rw [L.at2] at z; cases z; exact .inl L.at1
  · constructor
    · exact fun z => rd_keep z fun o e => by rw [L.ne a ha]; exact e
    · exact fun z => rd_keep z fun o e => by rw [← L.ne a ha]; exact e
theorem LkAt.drd (L : LkAt d od u H H') {a : Addr} {ks : Kx} {vs : List V} : DRd H a ks vs ↔ DRd H' a ks vs := by
  cases ks with
  | inl kk => exact and_congr Iff.rfl (L.rd fun o x e => by cases e)
  | inr kk => exact and_congr Iff.rfl (L.rd fun o x e => by cases e)
theorem LkAt.sq (L : LkAt d od u H H') {a : Addr} {xs : List V} : SqL K H a xs ↔ SqL K H' a xs :=
  or_congr (L.rd fun o x e => by cases e) Iff.rfl
theorem LkAt.tup (L : LkAt d od u H H') {a : Addr} {xs : List V} : H a = some (.tup xs) ↔ H' a = some (.tup xs) := by
  by_cases ha : a = d
  · subst ha
    rw [L.at1, L.at2]
    constructor
    · intro z
      rcases L.is with ⟨k, rfl⟩ | ⟨k, rfl⟩ <;> cases z
    · intro z; cases z
  · rw [L.ne a ha]
theorem LkAt.lst (L : LkAt d od u H H') {a : Addr} {xs : List V} : H a = some (.lst xs) ↔ H' a = some (.lst xs) := by
  by_cases ha : a = d
  · subst ha
    rw [L.at1, L.at2]
    constructor
    · intro z
      rcases L.is with ⟨k, rfl⟩ | ⟨k, rfl⟩ <;> cases z
    · intro z; cases z
  · rw [L.ne a ha]
theorem LkAt.none (L : LkAt d od u H H') {a : Addr} : H a = none ↔ H' a = none := by
  by_cases ha : a = d
  · subst ha
    rw [L.at1, L.at2]
    exact ⟨fun z => (nomatch z), fun z => (nomatch z)⟩
  · rw [L.ne a ha]
theorem LkAt.live (L : LkAt d od u H H') {a : Addr} : (∃ o, H a = some o) ↔ ∃ o, H' a = some o := by
  by_cases ha : a = d
  · subst ha
    exact ⟨fun _ => ⟨_, L.at2⟩, fun _ => ⟨_, L.at1⟩⟩
  · rw [L.ne a ha]
theorem LkAt.rp (L : LkAt d od u H H') {t : D} {v : V} {fp : List Addr} : Rp K Fz H t v fp ↔ Rp K Fz H' t v fp :=
  ⟨fun h => h.monoD (fun _ _ => L.tup.mp) (fun _ _ => L.lst.mp) (fun _ _ => (L.rd fun o x e => by cases e).mp) fun _ _ _ => L.drd.mp, fun h => h.monoD (fun _ _ => L.tup.mpr) (fun _ _ => L.lst.mpr) (fun _ _ => (L.rd fun o x e => by cases e).mpr) fun _ _ _ => L.drd.mpr⟩
theorem SR.lock {lk lk' : Nat → Prop} {σ : L2.St} {S : Stt} {fps : Nat → List Addr} (L : LkAt d od u H H') (r : SR K Fz lk H σ S fps) (h1 : ∀ i, lk i → lk' i) (h2 : ∀ i, d ∈ fps i → lk' i) : SR K Fz lk' H' σ S fps where
  len := r.len
  rep := fun i t e => let ⟨v, e1, q⟩ := r.rep i t e; ⟨v, e1, L.rp.mp q⟩
  emp := r.emp
  dis := r.dis
  nd := r.nd
  nf := r.nf
  za := fun a z => L.live.mp (r.za a z)
  nl := fun i hi a ha o w => by
    rw [L.ne a fun z => by subst z; exact hi (h2 i ha)]
    exact r.nl i (fun z => hi (h1 i z)) a ha o w
/-- the lock of slot i -/
def lkd (lk : Nat → Prop) (fps : Nat → List Addr) (d : Addr) (i : Nat) : Prop := lk i ∨ d ∈ fps i
theorem Pst.unlock {RP : (Addr → Prop) → Hp → List Addr → Prop} {vw mt : List Nat} {lk : Nat → Prop} {H1 H2 : Hp} {σ : L2.St} {S S' : Stt} {fps fps' : Nat → List Addr} {fp : List Addr} (L : LkAt d od u H H1) (r0 : SR K Fz lk H σ S fps) (hm : ∀ i ∈ mt, ¬ lkd lk fps d i) (hr : ∀ Fz H H' fp, LkAt d od u H H' → RP Fz H' fp → RP Fz H fp)
    (p : Pst K RP vw mt Fz (lkd lk fps d) H1 σ S fps S' H2 Fz' fps' fp) : H2 d = some (.frz od u) ∧ Pst K RP vw mt Fz lk H σ S fps S' (upd H2 d u) Fz' fps' fp := by
  have dm : ∀ i ∈ mt, d ∉ fps i := fun i hi z => hm i hi (.inr z)
  have e2 : H2 d = some (.frz od u) := p.kp d _ L.at2 dm
  have L2 : LkAt d od u (upd H2 d u) H2 := LkAt.un L.is e2
  have nfd : ∀ a ∈ fp, a ≠ d := fun a ha z => by
    subst z
    rcases p.fo a ha with z | ⟨i, hi, z⟩
    · rw [L.at2] at z; cases z
    · exact dm i hi z
  refine ⟨e2, ?_, hr _ _ _ _ L2 p.rp, p.zz, fun a z => ?_, fun a z => L2.live.mpr (p.za a z), p.nd, p.nz, fun a ha => L2.live.mpr (p.fv a ha), p.fd, fun a ha => (p.fo a ha).imp L.none.mpr id, fun a ha o w => ?_, fun a o e h => ?_, fun a e => L.none.mpr (p.dm a (L2.none.mp e)), p.fs, fun i a ha => (p.fm i a ha).imp id (Or.imp id L.none.mpr)⟩
  · refine ⟨p.sr.len, fun i t e => let ⟨v, e1, q⟩ := p.sr.rep i t e; ⟨v, e1, L2.rp.mpr q⟩, p.sr.emp, p.sr.dis, p.sr.nd, p.sr.nf, fun a z => L2.live.mpr (p.sr.za a z), fun i hi a ha o w => ?_⟩
    by_cases had : a = d
    · subst had
      rw [upd_same]
      exact fun z => L.is.nf _ _ (Option.some.inj z)
    · rw [upd_ne had]
      by_cases hl : lkd lk fps d i
      · have hi2 : i ∉ mt := fun z => hm i z hl
        have ha2 : a ∈ fps i := by rw [← (p.fs i hi2).1]; exact ha
        obtain ⟨⟨o', eo⟩, _⟩ := r0.live i a ha2
        have : H2 a = some o' := p.kp a o' (by rw [L.ne a had]; exact eo) fun j hj z => hi2 (r0.dis j i a z ha2 ▸ hj)
        rw [this]
        intro z
        rw [Option.some.inj z] at eo
        exact r0.nl i hi a ha2 _ _ eo
      · exact p.sr.nl i hl a ha o w
  · rcases p.zo a z with z | z | z
    · exact .inl z
    · exact .inr (.inl ⟨z.1.imp L.none.mpr id, z.2⟩)
    · exact .inr (.inr z)
  · rw [upd_ne (nfd a ha)]
    exact p.fl a ha o w
  · by_cases had : a = d
    · subst had
      rw [L.at1] at e
      cases e
      exact upd_same
    · rw [upd_ne had]
      exact p.kp a o (by rw [L.ne a had]; exact e) h
theorem SPst.unlock {mt wr : List Nat} {lk : Nat → Prop} {H1 H2 : Hp} {σ σ' : L2.St} {S S' : Stt} {fps fps' : Nat → List Addr} (L : LkAt d od u H H1) (r0 : SR K Fz lk H σ S fps) (hm : ∀ i ∈ mt, ¬ lkd lk fps d i)
    (p : SPst K mt wr Fz (lkd lk fps d) H1 σ fps S' σ' H2 Fz' fps') : H2 d = some (.frz od u) ∧ SPst K mt wr Fz lk H σ fps S' σ' (upd H2 d u) Fz' fps' := by
  have dm : ∀ i ∈ mt, d ∉ fps i := fun i hi z => hm i hi (.inr z)
  have e2 : H2 d = some (.frz od u) := p.kp d _ L.at2 dm
  have L2 : LkAt d od u (upd H2 d u) H2 := LkAt.un L.is e2
  refine ⟨e2, ?_, p.zz, fun a z => ?_, fun a o e h => ?_, fun a e => L.none.mpr (p.dm a (L2.none.mp e)), p.fs, fun i a ha => (p.fm i a ha).imp id (Or.imp id L.none.mpr), p.sg⟩
  · refine ⟨p.sr.len, fun i t e => let ⟨v, e1, q⟩ := p.sr.rep i t e; ⟨v, e1, L2.rp.mpr q⟩, p.sr.emp, p.sr.dis, p.sr.nd, p.sr.nf, fun a z => L2.live.mpr (p.sr.za a z), fun i hi a ha o w => ?_⟩
    by_cases had : a = d
    · subst had
      rw [upd_same]
      exact fun z => L.is.nf _ _ (Option.some.inj z)
    · rw [upd_ne had]
      by_cases hl : lkd lk fps d i
      · have hi2 : i ∉ mt := fun z => hm i z hl
        have ha2 : a ∈ fps i := p.fs i hi2 a ha
        obtain ⟨⟨o', eo⟩, _⟩ := r0.live i a ha2
        have : H2 a = some o' := p.kp a o' (by rw [L.ne a had]; exact eo) fun j hj z => hi2 (r0.dis j i a z ha2 ▸ hj)
        rw [this]
        intro z
        rw [Option.some.inj z] at eo
        exact r0.nl i hi a ha2 _ _ eo
      · exact p.sr.nl i hl a ha o w
  · rcases p.zo a z with z | z | z
    · exact .inl z
    · exact .inr (.inl (L.none.mpr z))
    · exact .inr (.inr z)
  · by_cases had : a = d
    · subst had
      rw [L.at1] at e
      cases e
      exact upd_same
    · rw [upd_ne had]
      exact p.kp a o (by rw [L.ne a had]; exact e) h
theorem VO.unlock {mt : List Nat} {H1 H2 : Hp} {fps fps' : Nat → List Addr} {t : D} {v : V} {fp : List Addr} (L : LkAt d od u H H1) (e2 : H2 d = some (.frz od u)) (hm : ∀ i ∈ mt, d ∉ fps i) (q : VO K mt H1 fps H2 Fz' fps' t v fp) : VO K mt H fps (upd H2 d u) Fz' fps' t v fp := by
  have L2 : LkAt d od u (upd H2 d u) H2 := LkAt.un L.is e2
  refine ⟨L2.rp.mpr q.rp, q.nd, q.nz, q.fd, fun a ha => (q.fo a ha).imp L.none.mpr id, fun a ha o w => ?_⟩
  have : a ≠ d := fun z => by
    subst z
    rcases q.fo a ha with z | ⟨i, hi, z⟩
    · rw [L.at2] at z; cases z
    · exact hm i hi z
  rw [upd_ne this]
  exact q.fl a ha o w
end
end TW

/-! TWI: walks over what a path leads to: lists, tuples, texts, dicts. -/
namespace TW
open PySem PySem.Spec PyProof.Rows L2

/-! ### paths -/
def StepV (K : PySem.W.Frag) (H : Hp) (v : V) (c : Int) (w : V) : Prop := ∃ a vs, v = .ref a ∧ (H a = some (.lst vs) ∨ H a = some (.tup vs)) ∧ atI vs c = some w
def PathV (K : PySem.W.Frag) (H : Hp) : V → List Int → V → Prop
  | v, [], w => w = v
  | v, c :: cs, w => ∃ u, StepV K H v c u ∧ PathV K H u cs w
def tPath (K : PySem.W.Frag) (i : Nat) (cs : List Int) : TE := fun σ H Q => ∃ v w, σ[i]? = some (some v) ∧ PathV K H v cs w ∧ Q w H
theorem pathV_snoc {K : PySem.W.Frag} {H : Hp} {c : Int} : ∀ {cs : List Int} {v w : V}, PathV K H v (cs ++ [c]) w → ∃ u, PathV K H v cs u ∧ StepV K H u c w
  | [], v, w, h => by
    obtain ⟨u, s, e⟩ := h
    have e : w = u := e
    subst e
    exact ⟨v, rfl, s⟩
  | c' :: cs, v, w, h => by
    obtain ⟨u, s, h⟩ := h
    obtain ⟨x, h1, h2⟩ := pathV_snoc (cs := cs) h
    exact ⟨x, ⟨u, s, h1⟩, h2⟩
section
variable {X : Cx}
theorem pth_var {i : Nat} {x : Str} {pos : Pos} (h : PE X (.Name x pos) (tVar i)) : PE X (.Name x pos) (tPath X.K i []) := PE.imp h fun σ H Q q => by
  obtain ⟨v, w, e, p, q⟩ := q
  have p : w = v := p
  subst p
  exact ⟨w, e, q⟩
theorem pth_ix {a b : Expr} {pos : Pos} {i : Nat} {cs : List Int} {c : Int} (ha : PE X a (tPath X.K i cs)) (hb : PE X b (tC (.int c))) (hs : PlainIx b) : PE X (.Subscript a b pos) (tPath X.K i (cs ++ [c])) := PE.imp (pe_ix ix_seq ha hb hs) fun σ H Q q => by
  obtain ⟨v, w, e, p, q⟩ := q
  obtain ⟨u, p1, a, vs, rfl, hs, ha⟩ := pathV_snoc p
  refine ⟨v, .ref a, e, p1, ?_⟩
  rcases hs with hs | hs
  · exact .inl ⟨a, vs, c, w, rfl, rfl, SqL.of hs, ha, q⟩
  · exact .inr (.inl ⟨a, vs, c, w, rfl, rfl, SqT.of hs, ha, q⟩)
end
def pathD : D → List Int → Option D
  | d, [] => some d
  | .lst _ xs, c :: cs => (atI xs c).bind fun x => pathD x cs
  | .tup xs, c :: cs => (atI xs c).bind fun x => pathD x cs
  | _, _ :: _ => none
theorem path_rp {K Fz H} : ∀ {cs : List Int} {d t : D} {v : V}, Rp K Fz H d v [] → pathD d cs = some t → ∃ w, PathV K H v cs w ∧ Rp K Fz H t w []
  | [], d, t, v, r, e => by
    have e : some d = some t := by
      cases d <;> exact e
    cases e
    exact ⟨v, rfl, r⟩
  | c :: cs, d, t, v, r, e => by
    cases d with
    | lst o xs =>
      obtain ⟨x, e1, e2⟩ := bind_some (show ((atI xs c).bind fun x => pathD x cs) = some t from e)
      obtain ⟨a, vs, rfl, ha, _, rs⟩ := rp_lst r
      obtain ⟨w, ew, rw_⟩ := rs.atI e1
      obtain ⟨z, p, q⟩ := path_rp (cs := cs) rw_ e2
      exact ⟨z, ⟨w, ⟨a, vs, rfl, .inl ha, ew⟩, p⟩, q⟩
    | tup xs =>
      obtain ⟨x, e1, e2⟩ := bind_some (show ((atI xs c).bind fun x => pathD x cs) = some t from e)
      obtain ⟨a, vs, rfl, ha, rs⟩ := rp_tup r
      obtain ⟨w, ew, rw_⟩ := rs.atI e1
      obtain ⟨z, p, q⟩ := path_rp (cs := cs) rw_ e2
      exact ⟨z, ⟨w, ⟨a, vs, rfl, .inr ha, ew⟩, p⟩, q⟩
    | _ => cases e
theorem LkAt.path {K : PySem.W.Frag} {H H' : Hp} {d : Addr} {od : Obj} {u : HO} (L : LkAt d od u H H') : ∀ {cs : List Int} {v w : V}, PathV K H v cs w → PathV K H' v cs w
  | [], v, w, h => h
  | c :: cs, v, w, h => by
    obtain ⟨x, ⟨a, vs, e, hs, ha⟩, h⟩ := h
    exact ⟨x, ⟨a, vs, e, hs.imp L.lst.mp L.tup.mp, ha⟩, L.path h⟩
/-! ### what is walked there -/
def keysOf : Kx → List D
  | .inl kk => kk.map keyD
  | .inr kk => kk.map fun k => .tup (k.map keyD)
def isScr : D → Bool
  | .scr _ => true
  | _ => false
def anyG : D → Option (List D)
  | .dct _ ks _ => some (keysOf ks)
  | d => itemsD d
def itemsG : D → Option (List D)
  | .dct _ ks vs => some ((keysOf ks).zipWith (fun k v => .tup [k, v]) vs)
  | _ => none
def valsG : D → Option (List D)
  | .dct _ _ vs => some vs
  | _ => none
def nPath (g : D → Option (List D)) (i : Nat) (cs : List Int) : An := ⟨[i], [], fun S => match S[i]? with
  | some (some t) => (pathD (frz t) cs).bind fun x => (g x).map fun ds => (ds, S)
  | _ => none⟩
theorem nPath_run {g : D → Option (List D)} {i : Nat} {cs : List Int} {S S' : Stt} {ds : List D} (h : (nPath g i cs).run S = some (ds, S')) : ∃ t x, S[i]? = some (some t) ∧ pathD (frz t) cs = some x ∧ g x = some ds ∧ S' = S := by
  have h : (match S[i]? with
    | some (some t) => (pathD (frz t) cs).bind fun x => (g x).map fun ds => (ds, S)
    | _ => none) = some (ds, S') := h
  split at h
  · rename_i t e
    obtain ⟨x, e1, e2⟩ := bind_some h
    obtain ⟨ds', e3, e4⟩ := map_some e2
    obtain ⟨rfl, rfl⟩ := Prod.mk.inj e4
    exact ⟨t, x, e, e1, e3, rfl⟩
  · cases h
theorem rp_key {K Fz H} (k : Key) : Rp K Fz H (keyD k) (kV k) [] := by
  cases k with
  | inl i => exact rp_mk_int
  | inr x => exact rp_mk_str
theorem rps_keys {K Fz H} : ∀ ks : List Key, Rps K Fz H (ks.map keyD) (ks.map kV) []
  | [] => rps_nil
  | k :: ks => by
    show Rps K Fz H (keyD k :: ks.map keyD) (kV k :: ks.map kV) []
    unfold Rps
    exact ⟨kV k, ks.map kV, [], [], rfl, rfl, rp_key k, rps_keys ks⟩
theorem rp_tupk {K Fz H} {k : List Key} {q : Addr} (h : H q = some (.tup (k.map kV))) : Rp K Fz H (.tup (k.map keyD)) (.ref q) [] := by
  unfold Rp
  exact ⟨q, _, rfl, h, rps_keys k⟩
theorem zip_at {α β : Type} {xs : List α} {ys : List β} {i : Nat} {p : α × β} (h : (xs.zip ys)[i]? = some p) : xs[i]? = some p.1 ∧ ys[i]? = some p.2 := by
  rw [List.getElem?_zip_eq_some] at h
  exact h
theorem it_keysK {K Fz H1} {d : Addr} {o : Obj} {kk : List Key} {vs : List V} (hd : H1 d = some (.frz o (.dK (kk.zip vs)))) (hz : Fz d) (hl : kk.length = vs.length) : ItOk K Fz (Itk d o (kk.zip vs)) (kk.map keyD) H1 := by
  unfold ItOk
  rw [List.length_map, show kk.length = (kk.zip vs).length by rw [List.length_zip, ← hl, Nat.min_self]]
  refine walk_keys.mono (fun H2 k => k.1 d _ hz hd) fun i H x H' hi k y => ?_
  obtain ⟨rfl, kq, v, e, rfl⟩ := y
  exact ⟨keyD kq, by rw [List.getElem?_map, (zip_at e).1]; rfl, rp_key kq, .inl rfl⟩
theorem it_keysT {K Fz H1} {d : Addr} {o : Obj} {kk : List (List Key)} {vs : List V} (hd : H1 d = some (.frz o (.dT (kk.zip vs)))) (hz : Fz d) (hl : kk.length = vs.length) : ItOk K Fz (Itkt d o (kk.zip vs)) (kk.map fun k => .tup (k.map keyD)) H1 := by
  unfold ItOk
  rw [List.length_map, show kk.length = (kk.zip vs).length by rw [List.length_zip, ← hl, Nat.min_self]]
  refine walk_keysT.mono (fun H2 k => k.1 d _ hz hd) fun i H x H' hi k y => ?_
  obtain ⟨rfl, kq, v, q, e, rfl, hq⟩ := y
  exact ⟨.tup (kq.map keyD), by rw [List.getElem?_map, (zip_at e).1]; rfl, rp_tupk hq, .inl rfl⟩
theorem it_valsK {K Fz H1} {d : Addr} {o : Obj} {kk : List Key} {ds : List D} {vs : List V} (hd : H1 d = some (.frz o (.dK (kk.zip vs)))) (hz : Fz d) (hl : kk.length = vs.length) (r : Rps K Fz H1 ds vs []) : ItOk K Fz (Itd d o (kk.zip vs)) ds H1 := by
  unfold ItOk
  rw [← Rps.length r, show vs.length = (kk.zip vs).length by rw [List.length_zip, hl, Nat.min_self]]
  refine walk_values.mono (fun H2 k => k.1 d _ hz hd) fun i H x H' hi k y => ?_
  obtain ⟨rfl, kq, e⟩ := y
  obtain ⟨t, e1, q⟩ := (r.keepZ k).at (zip_at e).2
  exact ⟨t, e1, q, .inl rfl⟩
theorem it_valsT {K Fz H1} {d : Addr} {o : Obj} {kk : List (List Key)} {ds : List D} {vs : List V} (hd : H1 d = some (.frz o (.dT (kk.zip vs)))) (hz : Fz d) (hl : kk.length = vs.length) (r : Rps K Fz H1 ds vs []) : ItOk K Fz (Itdt d o (kk.zip vs)) ds H1 := by
  unfold ItOk
  rw [← Rps.length r, show vs.length = (kk.zip vs).length by rw [List.length_zip, hl, Nat.min_self]]
  have g : ∀ H2, KeepZ Fz H1 H2 → H2 d = some (.frz o (.dT (kk.zip vs))) := fun H2 k => k.1 d _ hz hd
  refine ⟨fun i H2 hi k => ⟨g H2 k, hi⟩, fun H2 k => ⟨g H2 k, Nat.le_refl _⟩, fun i H2 x H' hi k y => ?_⟩
  obtain ⟨rfl, kq, e⟩ := y
  obtain ⟨t, e1, q⟩ := (r.keepZ k).at (zip_at e).2
  exact ⟨t, e1, q, .inl rfl⟩
theorem rp_pair {K Fz H} {a b : D} {v w : V} {T : Addr} (hT : H T = none) (r1 : Rp K Fz H a v []) (r2 : Rp K Fz H b w []) : Rp K Fz (upd H T (.tup [v, w])) (.tup [a, b]) (.ref T) [] := by
  unfold Rp
  refine ⟨T, [v, w], rfl, upd_same, ?_⟩
  unfold Rps
  refine ⟨v, [w], [], [], rfl, rfl, r1.keep (upd_keep hT), ?_⟩
  unfold Rps
  exact ⟨w, [], [], [], rfl, rfl, r2.keep (upd_keep hT), rps_nil⟩
theorem it_itemsK {K Fz H1} {d : Addr} {o : Obj} {kk : List Key} {ds : List D} {vs : List V} (hd : H1 d = some (.frz o (.dK (kk.zip vs)))) (hz : Fz d) (hl : kk.length = vs.length) (r : Rps K Fz H1 ds vs []) : ItOk K Fz (Iti d o (kk.zip vs)) ((kk.map keyD).zipWith (fun k v => .tup [k, v]) ds) H1 := by
  unfold ItOk
  rw [List.length_zipWith, List.length_map, ← Rps.length r, show min kk.length vs.length = (kk.zip vs).length by rw [List.length_zip]]
  have g : ∀ H2, KeepZ Fz H1 H2 → H2 d = some (.frz o (.dK (kk.zip vs))) := fun H2 k => k.1 d _ hz hd
  refine ⟨fun i H2 hi k => ⟨g H2 k, hi⟩, fun H2 k => ⟨g H2 k, Nat.le_refl _⟩, fun i H2 x H' hi k y => ?_⟩
  obtain ⟨T, kq, v, e, rfl, hT, rfl⟩ := y
  obtain ⟨t, e1, q⟩ := (r.keepZ k).at (zip_at e).2
  refine ⟨.tup [keyD kq, t], ?_, rp_pair hT (rp_key kq) q, .inr ⟨T, _, hT, rfl⟩⟩
  rw [List.getElem?_zipWith, List.getElem?_map, (zip_at e).1, e1]
  rfl
theorem it_itemsT {K Fz H1} {d : Addr} {o : Obj} {kk : List (List Key)} {ds : List D} {vs : List V} (hd : H1 d = some (.frz o (.dT (kk.zip vs)))) (hz : Fz d) (hl : kk.length = vs.length) (r : Rps K Fz H1 ds vs []) : ItOk K Fz (Itit d o (kk.zip vs)) ((kk.map fun k => .tup (k.map keyD)).zipWith (fun k v => .tup [k, v]) ds) H1 := by
  unfold ItOk
  rw [List.length_zipWith, List.length_map, ← Rps.length r, show min kk.length vs.length = (kk.zip vs).length by rw [List.length_zip]]
  have g : ∀ H2, KeepZ Fz H1 H2 → H2 d = some (.frz o (.dT (kk.zip vs))) := fun H2 k => k.1 d _ hz hd
  refine ⟨fun i H2 hi k => ⟨g H2 k, hi⟩, fun H2 k => ⟨g H2 k, Nat.le_refl _⟩, fun i H2 x H' hi k y => ?_⟩
  obtain ⟨T, b, kq, v, e, rfl, hb, hT, rfl⟩ := y
  obtain ⟨t, e1, q⟩ := (r.keepZ k).at (zip_at e).2
  refine ⟨.tup [.tup (kq.map keyD), t], ?_, rp_pair hT (rp_tupk hb) q, .inr ⟨T, _, hT, rfl⟩⟩
  rw [List.getElem?_zipWith, List.getElem?_map, (zip_at e).1, e1]
  rfl
/-! ### the path's end -/
theorem pathV_det {K : PySem.W.Frag} {H : Hp} : ∀ {cs : List Int} {v w w' : V}, PathV K H v cs w → PathV K H v cs w' → w = w'
  | [], v, w, w', h, h' => Eq.trans h (Eq.symm h')
  | c :: cs, v, w, w', h, h' => by
    obtain ⟨x, ⟨a, vs, rfl, hs, ha⟩, h⟩ := h
    obtain ⟨x', ⟨a', vs', e, hs', ha'⟩, h'⟩ := h'
    cases e
    have ev : vs = vs' := by
      rcases hs with hs | hs
      · rcases hs' with z | z
        · rw [hs] at z; cases z; rfl
        · rw [hs] at z; cases z
      · rcases hs' with z | z
        · rw [hs] at z; cases z
        · rw [hs] at z; cases z; rfl
    subst ev
    rw [ha] at ha'
    cases ha'
    exact pathV_det h h'
/-- what the store says of the end of a path -/
theorem end_of {K Fz lk H σ S fps} (r : SR K Fz lk H σ S fps) {i : Nat} {cs : List Int} {t x : D} (hS : S[i]? = some (some t)) (e : pathD (frz t) cs = some x) : ∃ v w, σ[i]? = some (some v) ∧ PathV K H v cs w ∧ Rp K (fun a => Fz a ∨ a ∈ fps i) H x w [] ∧ Pst K (fun _ _ fp => fp = []) [i] [] Fz lk H σ S fps S H (fun a => Fz a ∨ a ∈ fps i) fps [] := by
  obtain ⟨v, e1, q⟩ := r.rep i t hS
  have p := view r q
  obtain ⟨w, p1, q1⟩ := path_rp p.rp e
  exact ⟨v, w, e1, p1, q1, p.imp fun _ => rfl⟩
theorem drd_lk {H : Hp} {d : Addr} {ks : Kx} {vs : List V} (h : DRd H d ks vs) (hn : ∀ u, H d = some u → ¬ IsDO u) : ∃ o, H d = some (.frz o (objD ks vs)) := by
  rcases drd_rd h with z | ⟨o, z⟩
  · refine (hn _ z ?_).elim
    cases ks with
    | inl kk => exact .inl ⟨_, rfl⟩
    | inr kk => exact .inr ⟨_, rfl⟩
  · exact ⟨o, z⟩
section
variable {X : Cx} {tg e : Expr} {i : Nat} {cs : List Int}
/-- no dict that is not locked stands at the path's end -/
def PLX (K : PySem.W.Frag) (i : Nat) (cs : List Int) : L2.St → Hp → Prop := fun σ H => ∀ v w d u, σ[i]? = some (some v) → PathV K H v cs w → w = .ref d → H d = some u → ¬ IsDO u
theorem pi_pany (he : PE X e (tPath X.K i cs)) : PI X tg e (fun σ H R => PLX X.K i cs σ H ∧ tI X.K (nPath anyG i cs) σ H R) :=
  PI.imp (PI.or (pi_keys he) (PI.or (pi_list he) (PI.or (pi_tup he) (pi_str he)))) fun σ H R q => by
    obtain ⟨pl, Fz, lk, S, fps, ds, S', p, k⟩ := q
    obtain ⟨t, x, hS, e1, e2, rfl⟩ := nPath_run p.rn
    obtain ⟨v, w, hσ, hp, rx, ps⟩ := end_of p.sr hS e1
    cases x with
    | dct o ks vs =>
      cases e2
      obtain ⟨d, vs', rfl, hd, hz, rs⟩ := rp_dct rx
      obtain ⟨od, hl⟩ := drd_lk hd fun u e => pl v _ d u hσ hp rfl e
      left
      cases ks with
      | inl kk => exact ⟨v, _, hσ, hp, d, od, rfl, .inl ⟨_, hl, k _ _ _ _ ps (it_keysK hl hz hd.1)⟩⟩
      | inr kk => exact ⟨v, _, hσ, hp, d, od, rfl, .inr ⟨_, hl, k _ _ _ _ ps (it_keysT hl hz hd.1)⟩⟩
    | lst o xs =>
      cases e2
      obtain ⟨a, vs', rfl, ha, hz, rs⟩ := rp_lst rx
      right; left
      exact ⟨v, _, hσ, hp, a, rfl, ⟨_, SqL.of ha⟩, k _ _ _ _ ps (it_list (SqL.of ha) hz rs)⟩
    | tup xs =>
      cases e2
      obtain ⟨a, vs', rfl, ha, rs⟩ := rp_tup rx
      right; right; left
      exact ⟨v, _, hσ, hp, a, rfl, ⟨_, SqT.of ha⟩, k _ _ _ _ ps (it_tup ha rs)⟩
    | str z =>
      cases e2
      right; right; right
      exact ⟨v, _, hσ, hp, z, rp_str rx, k _ _ _ _ ps it_str⟩
    | _ => cases e2
theorem pi_pvals {apos cpos : Pos} (he : PE X e (tPath X.K i cs)) (hbase : attributeBase e "values" X.env (eval e X.env) = eval e X.env := by rfl) (hline : (apos.endLine == cpos.line) = true := by rfl) : PI X tg (.Call (.Attribute e "values" apos) [] [] cpos) (fun σ H R => PLX X.K i cs σ H ∧ tI X.K (nPath valsG i cs) σ H R) :=
  PI.imp (PI.or (pi_values he hbase hline) (pi_valuesT he hbase hline)) fun σ H R q => by
    obtain ⟨pl, Fz, lk, S, fps, ds, S', p, k⟩ := q
    obtain ⟨t, x, hS, e1, e2, rfl⟩ := nPath_run p.rn
    obtain ⟨v, w, hσ, hp, rx, ps⟩ := end_of p.sr hS e1
    cases x with
    | dct o ks vs =>
      cases e2
      obtain ⟨d, vs', rfl, hd, hz, rs⟩ := rp_dct rx
      obtain ⟨od, hl⟩ := drd_lk hd fun u e => pl v _ d u hσ hp rfl e
      cases ks with
      | inl kk => exact .inl ⟨v, _, hσ, hp, d, od, _, rfl, hl, k _ _ _ _ ps (it_valsK hl hz hd.1 rs)⟩
      | inr kk => exact .inr ⟨v, _, hσ, hp, d, od, _, rfl, hl, k _ _ _ _ ps (it_valsT hl hz hd.1 rs)⟩
    | _ => cases e2
theorem pi_pitems {apos cpos : Pos} {elts : List Expr} {kk : Nat} {tpos : Pos} (he : PE X e (tPath X.K i cs)) (hbase : attributeBase e "items" X.env (eval e X.env) = eval e X.env := by rfl) (hline : (apos.endLine == cpos.line) = true := by rfl) : PI X (.Tuple elts kk tpos) (.Call (.Attribute e "items" apos) [] [] cpos) (fun σ H R => PLX X.K i cs σ H ∧ tI X.K (nPath itemsG i cs) σ H R) :=
  PI.imp (PI.or (pi_items he hbase hline) (pi_itemsT he hbase hline)) fun σ H R q => by
    obtain ⟨pl, Fz, lk, S, fps, ds, S', p, k⟩ := q
    obtain ⟨t, x, hS, e1, e2, rfl⟩ := nPath_run p.rn
    obtain ⟨v, w, hσ, hp, rx, ps⟩ := end_of p.sr hS e1
    cases x with
    | dct o ks vs =>
      cases e2
      obtain ⟨d, vs', rfl, hd, hz, rs⟩ := rp_dct rx
      obtain ⟨od, hl⟩ := drd_lk hd fun u e => pl v _ d u hσ hp rfl e
      cases ks with
      | inl kk => exact .inl ⟨v, _, hσ, hp, d, od, _, rfl, hl, k _ _ _ _ ps (it_itemsK hl hz hd.1 rs)⟩
      | inr kk => exact .inr ⟨v, _, hσ, hp, d, od, _, rfl, hl, k _ _ _ _ ps (it_itemsT hl hz hd.1 rs)⟩
    | _ => cases e2
end
/-! ### comprehensions and for over a path -/
/-- a path of slot i, its dict locked -/
theorem lock_plx {K : PySem.W.Frag} {σ : L2.St} {H H' : Hp} {d : Addr} {od : Obj} {u : HO} {i : Nat} {cs : List Int} {v : V} (L : LkAt d od u H H') (hσ : σ[i]? = some (some v)) (hp : PathV K H v cs (.ref d)) : PLX K i cs σ H' := fun v' w d' u' e p e2 e3 hu => by
  rw [hσ] at e
  cases e
  have e4 := pathV_det (L.path hp) p
  rw [e2] at e4
  cases e4
  rw [L.at2] at e3
  cases e3
  rcases hu with ⟨_, z⟩ | ⟨_, z⟩ <;> cases z
theorem plx_of {K : PySem.W.Frag} {σ : L2.St} {H : Hp} {i : Nat} {cs : List Int} {v w : V} (hσ : σ[i]? = some (some v)) (hp : PathV K H v cs w) (h : ∀ d u, w = .ref d → H d = some u → ¬ IsDO u) : PLX K i cs σ H := fun v' w' d u e p e2 e3 => by
  rw [hσ] at e
  cases e
  rw [← pathV_det hp p] at e2
  exact h d u e2 e3
theorem cls_end (H : Hp) (w : V) : (∃ d u, w = .ref d ∧ H d = some u ∧ IsDO u) ∨ ∀ d u, w = .ref d → H d = some u → ¬ IsDO u := by
  by_cases h : ∃ d u, w = .ref d ∧ H d = some u ∧ IsDO u
  · exact .inl h
  · exact .inr fun d u e1 e2 e3 => h ⟨d, u, e1, e2, e3⟩
/-- an expression whose first step walks a path -/
theorem tD_path {K : PySem.W.Frag} {n : En} {i : Nat} {cs : List Int} {wi : TI} {F : TI → TE} (hF : ∀ (P : L2.St → Hp → Prop) σ H Q, P σ H → F wi σ H Q → F (fun σ H R => P σ H ∧ wi σ H R) σ H Q) (hs : ∀ σ H Q, tD K n σ H Q → F wi σ H Q) (hi : i ∉ n.mt)
    (hr : ∀ S d S', n.run S = some (d, S') → ∃ t x, S[i]? = some (some t) ∧ pathD (frz t) cs = some x ∧ isScr x = false) {σ : L2.St} {H : Hp} {Q : VK} (q : tD K n σ H Q) :
    F (fun σ H R => PLX K i cs σ H ∧ wi σ H R) σ H Q ∨ tLockE (F (fun σ H R => PLX K i cs σ H ∧ wi σ H R)) σ H Q := by
  obtain ⟨Fz, lk, S, fps, d0, S', p, k⟩ := q
  obtain ⟨t, x, hS, e1, hx⟩ := hr S d0 S' p.rn
  obtain ⟨v, w, hσ, hp, rx, ps⟩ := end_of p.sr hS e1
  rcases cls_end H w with ⟨d, u, rfl, hd, hu⟩ | hn
  · right
    refine ⟨d, u, hd, hu.mut, fun od => ?_⟩
    have L : LkAt d od u H (upd H d (.frz od u)) := LkAt.mk' hu hd
    have hz : Fz d ∨ d ∈ fps i := by
      cases x with
      | dct o ks vs => obtain ⟨a, _, e, _, hz, _⟩ := rp_dct rx; cases e; exact hz
      | lst o xs =>
        obtain ⟨a, _, e, ha, hz, _⟩ := rp_lst rx
        cases e
        exact hz
      | tup xs =>
        obtain ⟨a, _, e, ha, _⟩ := rp_tup rx
        cases e
        rw [hd] at ha
        rcases hu with ⟨_, rfl⟩ | ⟨_, rfl⟩ <;> cases ha
      | scr ns => cases hx
      | non => cases rp_non rx
      | bl b => cases rp_bl rx
      | int b => cases rp_int rx
      | str b => cases rp_str rx
    have hm : ∀ j ∈ n.mt, ¬ lkd lk fps d j := fun j hj z => by
      rcases z with z | z
      · exact p.ml j hj z
      · rcases hz with w | w
        · exact p.sr.nf j d z w
        · exact hi (p.sr.dis j i d z w ▸ hj)
    refine hF _ _ _ _ (lock_plx L hσ hp) (hs _ _ _ ⟨Fz, lkd lk fps d, S, fps, d0, S', ⟨p.sr.lock L (fun _ z => .inl z) fun _ z => .inr z, hm, p.rn⟩, fun v' H' Fz' fps' fp q => ?_⟩)
    obtain ⟨e2, q2⟩ := Pst.unlock (RP := fun Fz H fp => Rp K Fz H d0 v' fp) L p.sr hm (fun _ _ _ _ L => L.rp.mpr) q
    exact ⟨e2, k _ _ _ _ _ q2⟩
  · left
    exact hF _ _ _ _ (plx_of hσ hp hn) (hs _ _ _ ⟨Fz, lk, S, fps, d0, S', p, k⟩)
theorem tS_path {K : PySem.W.Frag} {n : Sn} {i : Nat} {cs : List Int} {wi : TI} {F : TI → TS} (hF : ∀ (P : L2.St → Hp → Prop) D σ H, P σ H → F wi D σ H → F (fun σ H R => P σ H ∧ wi σ H R) D σ H) (hs : ∀ D σ H, tS K n D σ H → F wi D σ H) (hi : i ∉ n.mt)
    (hr : ∀ S o, n.run S = some o → ∃ t x, S[i]? = some (some t) ∧ pathD (frz t) cs = some x ∧ isScr x = false) {σ : L2.St} {H : Hp} {D : Ends} (q : tS K n D σ H) :
    F (fun σ H R => PLX K i cs σ H ∧ wi σ H R) D σ H ∨ tLock (F (fun σ H R => PLX K i cs σ H ∧ wi σ H R)) D σ H := by
  obtain ⟨Fz, lk, S, fps, o, r, ml, rn, wn⟩ := q
  obtain ⟨t, x, hS, e1, hx⟩ := hr S o rn
  obtain ⟨v, w, hσ, hp, rx, ps⟩ := end_of r hS e1
  rcases cls_end H w with ⟨d, u, rfl, hd, hu⟩ | hn
  · right
    refine ⟨d, u, hd, hu.mut, fun od => ?_⟩
    have L : LkAt d od u H (upd H d (.frz od u)) := LkAt.mk' hu hd
    have hz : Fz d ∨ d ∈ fps i := by
      cases x with
      | dct o ks vs => obtain ⟨a, _, e, _, hz, _⟩ := rp_dct rx; cases e; exact hz
      | lst o xs =>
        obtain ⟨a, _, e, ha, hz, _⟩ := rp_lst rx
        cases e
        exact hz
      | tup xs =>
        obtain ⟨a, _, e, ha, _⟩ := rp_tup rx
        cases e
        rw [hd] at ha
        rcases hu with ⟨_, rfl⟩ | ⟨_, rfl⟩ <;> cases ha
      | scr ns => cases hx
      | non => cases rp_non rx
      | bl b => cases rp_bl rx
      | int b => cases rp_int rx
      | str b => cases rp_str rx
    have hm : ∀ j ∈ n.mt, ¬ lkd lk fps d j := fun j hj z => by
      rcases z with z | z
      · exact ml j hj z
      · rcases hz with w | w
        · exact r.nf j d z w
        · exact hi (r.dis j i d z w ▸ hj)
    refine hF _ _ _ _ (lock_plx L hσ hp) (hs _ _ _ ⟨Fz, lkd lk fps d, S, fps, o, r.lock L (fun _ z => .inl z) fun _ z => .inr z, hm, rn, ?_⟩)
    cases o with
    | nx S' => exact fun σ' H' Fz' fps' q => let ⟨e2, q2⟩ := q.unlock L r hm; ⟨e2, wn _ _ _ _ q2⟩
    | rt d0 S' => exact fun v' σ' H' Fz' fps' fp q z => let ⟨e2, q2⟩ := q.unlock L r hm; ⟨e2, wn _ _ _ _ _ _ q2 (z.unlock L e2 fun j hj y => hm j hj (.inr y))⟩
  · left
    exact hF _ _ _ _ (plx_of hσ hp hn) (hs _ _ _ ⟨Fz, lk, S, fps, o, r, ml, rn, wn⟩)
theorem PS.or {X : Cx} {e : Stmt} {t t' : TS} (h : PS X e t) (h' : PS X e t') : PS X e (fun D σ H => t D σ H ∨ t' D σ H) := ⟨fun pins s σ H D I q => q.elim (h.run pins s σ H D I) (h'.run pins s σ H D I)⟩
section
variable {X : Cx}
theorem nPath_ok {g : D → Option (List D)} (hg : ∀ ns, g (.scr ns) = none) {i : Nat} {cs : List Int} {S : Stt} {z : List D × Stt} (h : (nPath g i cs).run S = some z) : ∃ t x, S[i]? = some (some t) ∧ pathD (frz t) cs = some x ∧ isScr x = false := by
  obtain ⟨ds, S'⟩ := z
  obtain ⟨t, x, e1, e2, e3, _⟩ := nPath_run h
  refine ⟨t, x, e1, e2, ?_⟩
  cases x with
  | scr ns => rw [hg] at e3; cases e3
  | _ => rfl
theorem nin_of {i : Nat} {xs : List Nat} (h : dj [i] xs = true) : i ∉ xs := dj_ok h i (by simp)
/-- a comprehension over a path -/
theorem se_compP {g : D → Option (List D)} {i : Nat} {cs : List Int} {elt tgE iter : Expr} {ifs : List Expr} {scope : Scope} {own : List (Str × Nat)} {pos : Pos} {tg : Tg} {c : Tn} {e : En} (hc : X.calm = true) (hN : X.N.Nodup) (hi : PI X tgE iter (fun σ H R => PLX X.K i cs σ H ∧ tI X.K (nPath g i cs) σ H R)) (ok : BlkOk X.N X.env.scope scope own)
    (hg : ∀ (s : Shared) (H : Hp) (C : Addr) (cl : List (Str × Addr)) (fp : List Addr), SG (X.blk s H scope (compEnvC scope cl C X.env) fp) tgE tg) (ht : ∀ (s : Shared) (H : Hp) (C : Addr) (cl : List (Str × Addr)) (fp : List Addr), STs (X.blk s H scope (compEnvC scope cl C X.env) fp) ifs c)
    (he : ∀ (s : Shared) (H : Hp) (C : Addr) (cl : List (Str × Addr)) (fp : List Addr), SE (X.blk s H scope (compEnvC scope cl C X.env) fp) elt e) (hv : own.map (·.2) = tg.slots := by rfl)
    (d1 : dj [i] (tg.slots ++ (c.mt ++ e.mt)) = true := by rfl) (d2 : dj e.vw (c.mt ++ e.mt) = true := by rfl) (d3 : dj tg.slots (c.mt ++ e.mt) = true := by rfl) (hs : ∀ x, foldedSetIterable iter X.env x = pure x := by intro _; rfl) (hgs : ∀ ns, g (.scr ns) = none := by intro _; rfl) :
    SE X (.ListComp elt [⟨tgE, iter, ifs, 0⟩] scope pos) (eComp tg (nPath g i cs) c e) :=
  PE.imp (PE.or (pe_lc hc hN hi ok hg ht he hs) (pe_lock (pe_lc hc hN hi ok hg ht he hs))) fun σ H Q q =>
    tD_path (F := fun wi => tLc wi (gOf X.K tg) (tT X.K c) (tD X.K e) (own.map (·.2))) (fun P σ H Q hp h => ⟨hp, h⟩) (fun σ H Q q => comp_sound (fun i => by rw [hv]) d1 d2 d3 q) (nin_of d1)
      (fun S d S' h => by
        have h : (((nPath g i cs).run S).bind _) = some (d, S') := h
        obtain ⟨z, e1, _⟩ := bind_some h
        exact nPath_ok hgs e1) q
theorem ss_setLcP {g : D → Option (List D)} {i j : Nat} {cs : List Int} {y : Str} {py : Pos} {elt tgE iter : Expr} {ifs : List Expr} {scope : Scope} {own : List (Str × Nat)} {pos spos : Pos} {tg : Tg} {c : Tn} {e : En} (hc : X.calm = true) (hN : X.N.Nodup) (hy : X.N[j]? = some y) (hyl : X.env.scope.names.lookup y = some .local)
    (hsw : swapsWith (.ListComp elt [⟨tgE, iter, ifs, 0⟩] scope pos) (some (.Name y py)) spos.line X.env = pure true) (hi : PI X tgE iter (fun σ H R => PLX X.K i cs σ H ∧ tI X.K (nPath g i cs) σ H R)) (ok : BlkOk X.N X.env.scope scope own)
    (hg : ∀ (s : Shared) (H : Hp) (C : Addr) (cl : List (Str × Addr)) (fp : List Addr), SG (X.blk s H scope (compEnvC scope cl C X.env) fp) tgE tg) (ht : ∀ (s : Shared) (H : Hp) (C : Addr) (cl : List (Str × Addr)) (fp : List Addr), STs (X.blk s H scope (compEnvC scope cl C X.env) fp) ifs c)
    (he : ∀ (s : Shared) (H : Hp) (C : Addr) (cl : List (Str × Addr)) (fp : List Addr), SE (X.blk s H scope (compEnvC scope cl C X.env) fp) elt e) (hv : own.map (·.2) = tg.slots := by rfl)
    (d1 : dj [i] (tg.slots ++ (c.mt ++ e.mt)) = true := by rfl) (d2 : dj e.vw (c.mt ++ e.mt) = true := by rfl) (d3 : dj tg.slots (c.mt ++ e.mt) = true := by rfl) (hs : ∀ x, foldedSetIterable iter X.env x = pure x := by intro _; rfl) (hgs : ∀ ns, g (.scr ns) = none := by intro _; rfl) (d4 : dj [i] [j] = true := by rfl) :
    SS X (.Assign [.Name y py] (.ListComp elt [⟨tgE, iter, ifs, 0⟩] scope pos) spos) (sAsg j (eComp tg (nPath g i cs) c e)) :=
  PS.imp (TW.PS.or (ps_setLc hc hN hy hyl hsw hi ok hg ht he hs) (ps_lock (ps_setLc hc hN hy hyl hsw hi ok hg ht he hs))) fun D σ H q =>
    tS_path (F := fun wi => tAsg (tLc wi (gOf X.K tg) (tT X.K c) (tD X.K e) (own.map (·.2))) (gName j)) (fun P D σ H hp h => ⟨hp, h⟩) (fun D σ H q => comp_sound (fun i => by rw [hv]) d1 d2 d3 (asg_sound q))
      (fun z => (List.mem_cons.mp z).elim (fun z => nin_of d4 (by rw [z]; exact List.mem_cons_self)) fun z => nin_of d1 z)
      (fun S o h => by
        have h : ((eComp tg (nPath g i cs) c e).run S).bind _ = some o := h
        obtain ⟨z, e1, _⟩ := bind_some h
        have e1 : (((nPath g i cs).run S).bind _) = some z := e1
        obtain ⟨z2, e2, _⟩ := bind_some e1
        exact nPath_ok hgs e2) q
/-- for over a path -/
theorem ss_forP {g : D → Option (List D)} {i : Nat} {cs : List Int} {tg iter : Expr} {body : List Stmt} {t : Tg} {b : Sn} {pos : Pos} (hp : PassesOwn (model X.prog X.w) X.A X.env X.xe) (hc : X.calm = true) (hi : PI X tg iter (fun σ H R => PLX X.K i cs σ H ∧ tI X.K (nPath g i cs) σ H R)) (hg : SG X tg t) (hb : SB X body b)
    (hd : dj [i] (t.slots ++ b.mt) = true := by rfl) (hs : ∀ x, foldedSetIterable iter X.env x = pure x := by intro _; rfl) (hgs : ∀ ns, g (.scr ns) = none := by intro _; rfl) : SS X (.For tg iter body [] pos) (sFor t (nPath g i cs) b) :=
  PS.imp (TW.PS.or (ps_for hp hc hi hg hb hs) (ps_lock (ps_for hp hc hi hg hb hs))) fun D σ H q =>
    tS_path (F := fun wi => tFor wi (gOf X.K t) (tS X.K b)) (fun P D σ H hp h => ⟨hp, h⟩) (fun D σ H q => for_sound hd q) (nin_of hd)
      (fun S o h => by
        have h : (((nPath g i cs).run S).bind _) = some o := h
        obtain ⟨z, e1, _⟩ := bind_some h
        exact nPath_ok hgs e1) q
end
end TW

/-! TWJ: repr of data. -/
namespace TW
open PySem PySem.Spec PyProof.Rows L2

def keyQ : Key → PyData
  | .inl i => .int i
  | .inr x => .str x
def keysQ : Kx → List PyData
  | .inl kk => kk.map keyQ
  | .inr kk => kk.map fun k => .tuple (k.map keyQ)
mutual
/-- a tree as data -/
def toQ : D → Option PyData
  | .non => some .none
  | .bl b => some (.bool b)
  | .int i => some (.int i)
  | .str x => some (.str x)
  | .tup xs => (toQs xs).map .tuple
  | .lst _ xs => (toQs xs).map .list
  | .dct _ ks vs => (toQs vs).map fun ps => .dict ((keysQ ks).zip ps)
  | .scr _ => none
def toQs : List D → Option (List PyData)
  | [] => some []
  | x :: xs => (toQ x).bind fun p => (toQs xs).map (p :: ·)
end
mutual
def hasL : D → Bool
  | .tup xs => hasLs xs
  | .lst _ _ => true
  | .dct _ _ vs => hasLs vs
  | _ => false
def hasLs : List D → Bool
  | [] => false
  | x :: xs => hasL x || hasLs xs
end
/-- it reads off as p, sys.modules is not met where no list is -/
def RdQ (h : Heap) (l : Bool) (u : Value) (p : PyData) : Prop := ∃ as, Reads h u p as ∧ (l = false → sysModules ∉ as)
def RdQs (h : Heap) (l : Bool) (us : List Value) (ps : List PyData) : Prop := ∃ as, ReadsAll h us ps as ∧ (l = false → sysModules ∉ as)
theorem RdQs.nil {h : Heap} {l : Bool} : RdQs h l [] [] := ⟨[], .nil, by simp⟩
theorem RdQs.cons {h : Heap} {l m : Bool} {u : Value} {us : List Value} {p : PyData} {ps : List PyData} (a : RdQ h l u p) (b : RdQs h m us ps) : RdQs h (l || m) (u :: us) (p :: ps) := by
  obtain ⟨as, r, n⟩ := a
  obtain ⟨bs, q, m⟩ := b
  refine ⟨as ++ bs, .cons r q, fun e z => ?_⟩
  obtain ⟨e1, e2⟩ := Bool.or_eq_false_iff.mp e
  exact (List.mem_append.mp z).elim (n e1) (m e2)
theorem toQs_len : ∀ {ds : List D} {ps : List PyData}, toQs ds = some ps → ds.length = ps.length
  | [], ps, e => by unfold toQs at e; cases e; rfl
  | d :: ds, ps, e => by
    unfold toQs at e
    obtain ⟨p, e1, e2⟩ := bind_some e
    obtain ⟨qs, e3, rfl⟩ := map_some e2
    rw [List.length_cons, List.length_cons, toQs_len e3]
theorem rdq_key {h : Heap} {k : Key} {u : Value} (r : RelV (kV k) u) : RdQ h false u (keyQ k) := by
  cases k with
  | inl i => obtain ⟨t, rfl⟩ := (show ∃ t, u = Value.int i t from r); exact ⟨[], .int i t, by simp⟩
  | inr x => obtain ⟨t, rfl⟩ := (show ∃ t, u = Value.str x t from r); exact ⟨[], .str x t, by simp⟩
theorem rdq_keys {h : Heap} : ∀ {ks : List Key} {us : List Value}, Vals (ks.map kV) us → RdQs h false us (ks.map keyQ)
  | [], us, r => by cases r; exact RdQs.nil
  | k :: ks, us, r => by
    cases r with
    | cons r1 r2 => exact .cons (rdq_key r1) (rdq_keys r2)
theorem keyIs_rel {k : Key} {u : Value} (h : keyIs k u = true) : RelV (kV k) u := by
  rcases keyIs_shape h with ⟨i, t, rfl, rfl⟩ | ⟨x, t, rfl, rfl⟩
  · exact ⟨t, rfl⟩
  · exact ⟨t, rfl⟩
section
variable {X : Cx} {pins : List (Addr × Obj)} {σ : L2.St} {H : Hp} {s : Shared} {Fz : Addr → Prop}
theorem rdq_tupk (I : Inv X pins σ H s) {q : Addr} {k : List Key} (h : H q = some (.tup (k.map kV))) : RdQ s.heap false (.ref q) (.tuple (k.map keyQ)) := by
  obtain ⟨its, rv, ⟨o, ho, hc, n, hd⟩, _⟩ := I.tuple (SqT.of h)
  obtain ⟨as, r, m⟩ := rdq_keys (h := s.heap) rv
  exact ⟨as, .tuple ho hc hd (by simpa using r), m⟩
theorem pairsK {h : Heap} {kk : List Key} {vs : List V} {ws : List (Key × Value)} {es : List DictEntry} (hl : kk.length = vs.length) (kv : KV (kk.zip vs) ws) (ps : Pairs (mixKind X.prog X.w) es ws) : RdQs h false (es.map (·.key)) (kk.map keyQ) ∧ ∃ us, Vals vs us ∧ es.map (·.val) = us := by
  induction kk generalizing vs ws es with
  | nil =>
    cases vs with
    | nil =>
      cases kv
      cases ps
      exact ⟨RdQs.nil, [], .nil, rfl⟩
    | cons _ _ => cases hl
  | cons k kk ih =>
    cases vs with
    | nil => cases hl
    | cons v vs =>
      cases kv with
      | cons a b =>
        cases ps with
        | cons c d e =>
          obtain ⟨q1, us, q2, q3⟩ := ih (by simpa using hl) b e
          refine ⟨.cons (l := false) (m := false) (rdq_key (keyIs_rel ?_)) q1, _, .cons ?_ q2, by rw [List.map_cons, q3]⟩
          · have c' := c
            rw [← a.1] at c'
            exact c'
          · rw [d]; exact a.2
theorem pairsT (I : Inv X pins σ H s) {kk : List (List Key)} {vs : List V} {xs : List (List Key × Addr × Value)} (hl : kk.length = vs.length) (kt : KT H (kk.zip vs) xs) : RdQs s.heap false ((xs.map (PySem.entryOfKey (PySem.tupleKind (mixKind X.prog X.w)))).map (·.key)) (kk.map fun k => .tuple (k.map keyQ)) ∧ ∃ us, Vals vs us ∧ (xs.map (PySem.entryOfKey (PySem.tupleKind (mixKind X.prog X.w)))).map (·.val) = us := by
  induction kk generalizing vs xs with
  | nil =>
    cases vs with
    | nil =>
      cases kt
      exact ⟨RdQs.nil, [], .nil, rfl⟩
    | cons _ _ => cases hl
  | cons k kk ih =>
    cases vs with
    | nil => cases hl
    | cons v vs =>
      cases kt with
      | cons a b =>
        obtain ⟨q1, us, q2, q3⟩ := ih (by simpa using hl) b
        exact ⟨.cons (l := false) (m := false) (rdq_tupk I a.2.1) q1, _, .cons a.2.2 q2, by rw [List.map_cons, List.map_cons, q3]; rfl⟩
mutual
theorem Rp.reads (I : Inv X pins σ H s) : ∀ {d : D} {v : V} {u : Value} {p : PyData}, Rp X.K Fz H d v [] → RelV v u → toQ d = some p → RdQ s.heap (hasL d) u p
  | .non, v, u, p, r, ru, e => by
    unfold toQ at e
    cases e
    rw [rp_non r] at ru
    cases (show u = Value.none from ru)
    exact ⟨[], .none, by simp⟩
  | .bl b, v, u, p, r, ru, e => by
    unfold toQ at e
    cases e
    rw [rp_bl r] at ru
    cases (show u = Value.bool b from ru)
    exact ⟨[], .bool b, by simp⟩
  | .int i, v, u, p, r, ru, e => by
    unfold toQ at e
    cases e
    rw [rp_int r] at ru
    obtain ⟨t, rfl⟩ := (show ∃ t, u = Value.int i t from ru)
    exact ⟨[], .int i t, by simp⟩
  | .str x, v, u, p, r, ru, e => by
    unfold toQ at e
    cases e
    rw [rp_str r] at ru
    obtain ⟨t, rfl⟩ := (show ∃ t, u = Value.str x t from ru)
    exact ⟨[], .str x t, by simp⟩
  | .tup xs, v, u, p, r, ru, e => by
    unfold toQ at e
    obtain ⟨ps, e1, rfl⟩ := map_some e
    obtain ⟨a, vs, rfl, ha, rs⟩ := rp_tup r
    cases (show u = Value.ref a from ru)
    obtain ⟨its, rv, ⟨o, ho, hc, n, hd⟩, _⟩ := I.tuple (SqT.of ha)
    obtain ⟨as, q, m⟩ := Rps.reads I rs rv e1
    exact ⟨as, .tuple ho hc hd (by simpa using q), fun z => m (by unfold hasL at z; exact z)⟩
  | .lst o xs, v, u, p, r, ru, e => by
    unfold toQ at e
    obtain ⟨ps, e1, rfl⟩ := map_some e
    obtain ⟨a, vs, rfl, ha, _, rs⟩ := rp_lst r
    cases (show u = Value.ref a from ru)
    obtain ⟨its, rv, ⟨o, n, ho, hc, _, hd⟩, _⟩ := I.list (SqL.of ha)
    obtain ⟨as, q, m⟩ := Rps.reads I rs rv e1
    exact ⟨a :: as, .list ho hc hd (by simpa using q), fun z => by unfold hasL at z; cases z⟩
  | .dct o ks vs, v, u, p, r, ru, e => by
    unfold toQ at e
    obtain ⟨ps, e1, rfl⟩ := map_some e
    obtain ⟨a, ws, rfl, hd, _, rs⟩ := rp_dct r
    cases (show u = Value.ref a from ru)
    cases ks with
    | inl kk =>
      obtain ⟨_, hsys, es', kv, ob, es, ep, h1, h2, h3, _, h5, _⟩ := dk_rd I.hok hd.2
      obtain ⟨⟨as, k1, m1⟩, us, rv, ev⟩ := pairsK (h := s.heap) hd.1 kv h5
      obtain ⟨bs, k2, m2⟩ := Rps.reads I rs rv e1
      have hl : kk.length = ps.length := by rw [hd.1, Rps.length rs]; exact toQs_len e1
      refine ⟨_, .dict h1 h2.1 h3 (kvs := (keysQ (.inl kk)).zip ps) (as := as) (bs := bs) ?_ ?_, fun hL z => ?_⟩
      · rw [List.map_fst_zip (by rw [show (keysQ (.inl kk)).length = kk.length from List.length_map _]; omega)]
        exact k1
      · rw [List.map_snd_zip (by rw [show (keysQ (.inl kk)).length = kk.length from List.length_map _]; omega), ev]
        exact k2
      · rcases List.mem_append.mp z with z | z
        · rcases List.mem_cons.mp z with z | z
          · rw [← z] at hsys; simp at hsys
          · exact m1 rfl z
        · exact m2 (by unfold hasL at hL; exact hL) z
    | inr kk =>
      obtain ⟨_, hsys, xs, kt, ob, es, ep, h1, h2, h3, h4, _⟩ := dt_rd I.hok hd.2
      obtain ⟨⟨as, k1, m1⟩, us, rv, ev⟩ := pairsT I hd.1 kt
      obtain ⟨bs, k2, m2⟩ := Rps.reads I rs rv e1
      have hl : kk.length = ps.length := by rw [hd.1, Rps.length rs]; exact toQs_len e1
      refine ⟨_, .dict h1 h2.1 h3 (kvs := (keysQ (.inr kk)).zip ps) (as := as) (bs := bs) ?_ ?_, fun hL z => ?_⟩
      · rw [List.map_fst_zip (by rw [show (keysQ (.inr kk)).length = kk.length from List.length_map _]; omega), h4]
        exact k1
      · rw [List.map_snd_zip (by rw [show (keysQ (.inr kk)).length = kk.length from List.length_map _]; omega), h4, ev]
        exact k2
      · rcases List.mem_append.mp z with z | z
        · rcases List.mem_cons.mp z with z | z
          · rw [← z] at hsys; simp at hsys
          · exact m1 rfl z
        · exact m2 (by unfold hasL at hL; exact hL) z
  | .scr ns, v, u, p, r, ru, e => by unfold toQ at e; cases e
theorem Rps.reads (I : Inv X pins σ H s) : ∀ {ds : List D} {vs : List V} {us : List Value} {ps : List PyData}, Rps X.K Fz H ds vs [] → Vals vs us → toQs ds = some ps → RdQs s.heap (hasLs ds) us ps
  | [], vs, us, ps, r, rv, e => by
    unfold toQs at e
    cases e
    unfold Rps at r
    rw [r.1] at rv
    cases rv
    exact RdQs.nil
  | d :: ds, vs, us, ps, r, rv, e => by
    unfold toQs at e
    obtain ⟨p, e1, e2⟩ := bind_some e
    obtain ⟨qs, e3, rfl⟩ := map_some e2
    obtain ⟨v, ws, rfl, r1, r2⟩ := rps_cons r
    cases rv with
    | cons a b => exact .cons (Rp.reads I r1 a e1) (Rps.reads I r2 b e3)
end
end
end TW

/-! TWK: repr(x); promises where no repr runs below (guards = []). -/
namespace TW
open PySem PySem.Spec PyProof.Rows L2
section
variable {prog : Program} {w : World} {A : Around} {s : Shared} {E : Value → Shared → Prop}
theorem repr_tup {a : Addr} {xs : List PyData} {as : List Addr} {Q : Value → Shared → Prop} (r : Reads s.heap (.ref a) (.tuple xs) as) (hs : (PyData.tuple xs).showable = true) (hsm : (PyData.tuple xs).hasDict = true → sysModules ∉ as) (hz : (PyData.tuple xs).shown.length ≤ sizeLine)
    (hg : A.guards = some []) (hu : A.units + 8 + (PyData.tuple xs).depth < cLine) (hQ : ∀ h' u tk, (∀ b o, s.heap.get? b = some o → h'.get? b = some o) → Q (.str (PyData.tuple xs).shown u) { s with heap := h', toks := tk }) :
    wpAny (model prog w) A (call (.builtin "repr") [.ref a]) Q E s := by
  cases r with
  | tuple h1 h2 h3 h4 =>
    have hz' : (tupleText (PyData.shownAll xs)).length ≤ sizeLine := by simpa only [PyData.shown] using hz
    obtain ⟨bs, hb, hk⟩ := ReprAllK.of_readsAll (prog := prog) (w := w) h4 (by simpa [PyData.showable] using hs) (fun hx => hsm (by simpa [PyData.hasDict] using hx)) (fun t ht => Nat.le_trans (tupleText_mem_le ht) hz')
    have r : Reads s.heap (.ref a) (.tuple xs) _ := .tuple h1 h2 h3 h4
    have hna : a ∉ bs := not_mem_of_deeper r (by simp only [PyData.depth]; omega) hb
    simp only [PyData.depth] at hu
    simp only [PyData.shown] at hQ
    have hTy : s.TypeIs (.ref a) "tuple" := ⟨_, h1, h2⟩
    refine Calls.call_function_entry F.kind_repr F.plain_repr F.entry_repr (F.args_repr1 _) ?_
    unfold Builtin.«repr»
    refine wpAny_bind (m := oneArg "repr" _) (wpAny_pure ?_)
    refine wpAny_bind (wpAny_cRoomFor (by show A.units + 1 < _; omega) ?_)
    refine wpAny_bind (wpAny_specialOf (name := Str.ofString "__repr__") hTy F.slot_tuple_repr.lookup ?_)
    refine wpAny_bind (m := callSpecialIfBound? (.ref a) (Str.ofString "__repr__")) (wpAny_callSpecialIfBound?_slotG (name := Str.ofString "__repr__") hTy F.slot_tuple_repr
      (call_tuple_reprK h1 h2 h3 hna hk (g := []) hg (fun b _ => Clear.nil b) (by show A.units + 1 + _ < _; omega) (fun _ _ e => e) (fun h' u tk hk' => ?_) hz'))
    refine wpAny_bind (wpAny_isInstance (T := "str") (b := true) rfl isSubtype_str_str ?_)
    exact wpAny_pure ⟨_, rfl, hQ h' u tk hk'⟩
end
/-- repr of a tuple -/
def showOk (l : Bool) (p : PyData) : Bool := p.showable && (!p.hasDict || !l) && decide (p.depth ≤ 64) && decide (p.shown.length ≤ 10000000)
def dRepr : List D → Option D
  | [.tup xs] => (toQ (.tup xs)).bind fun p => if showOk (hasL (.tup xs)) p then some (.str p.shown) else none
  | _ => none
def rRepr (K : PySem.W.Frag) : List V → Hp → VK → Prop := fun vs H Q => ∃ (Fz : Addr → Prop) (v : V) (xs : List D) (p : PyData), vs = [v] ∧ Rp K Fz H (.tup xs) v [] ∧ toQ (.tup xs) = some p ∧ showOk (hasL (.tup xs)) p = true ∧ Q (.str p.shown) H
theorem pl_repr : PlF dRepr := by
  intro ds d e
  unfold dRepr at e
  split at e
  · obtain ⟨p, _, e2⟩ := bind_some e
    obtain ⟨_, rfl⟩ := if_some e2
    rfl
  · cases e
theorem v_repr {K : PySem.W.Frag} : VOp K (rRepr K) dRepr := by
  intro Fz H ds vs d Q za r e k
  unfold dRepr at e
  split at e
  · obtain ⟨p, e1, e2⟩ := bind_some e
    obtain ⟨hs, rfl⟩ := if_some e2
    obtain ⟨v, rfl, r1⟩ := rps1 r
    exact ⟨Fz, v, _, p, rfl, r1, e1, hs, k _ _ _ _ (VPst.old za rp_mk_str)⟩
  · cases e
theorem cr_repr {X : Cx} (hg : X.A.guards = some []) (hu : X.A.units + 100 < cLine) : CallR X (.builtin "repr") (rRepr X.K) := by
  intro pins s σ H vs us Q I r h
  obtain ⟨Fz, v, xs, p, rfl, rp, e, hs, q⟩ := h
  obtain ⟨u, rfl, ru⟩ := vals1 r
  obtain ⟨as, rd, hm⟩ := Rp.reads I rp ru e
  unfold showOk at hs
  simp only [Bool.and_eq_true, decide_eq_true_eq] at hs
  obtain ⟨⟨⟨h1, h2⟩, h3⟩, h4⟩ := hs
  unfold toQ at e
  obtain ⟨ps, e1, rfl⟩ := map_some e
  obtain ⟨a, ws, rfl, ha, rs⟩ := rp_tup rp
  cases (show u = Value.ref a from ru)
  refine repr_tup rd h1 (fun hd => hm ?_) (by rw [sizeLine_eq]; omega) hg (by omega) fun h' t tk hk => ⟨.str _, H, I.kept hk, ⟨t, rfl⟩, q⟩
  rw [hd] at h2
  simpa using h2
theorem se_repr {X : Cx} {a : Expr} {na : En} {p pos : Pos} (hgs : X.A.guards = some []) (hu : X.A.units + 100 < cLine) (hg : Gl X "repr") (hm : X.mg "repr" = none) (ha : SE X a na) (hs : starEach [a] X.env = [(false, eval a X.env)] := by rfl) : SE X (.Call (.Name "repr" p) [a] [] pos) (eAppP dRepr (a1 na)) :=
  se_plain pl_repr (se_bi (cr_repr hgs hu) v_repr hg hm (by rfl) (sa_cons ha sa_nil (dj_nil _) (by rw [hs]; rfl)) (he := by rw [hs]; rfl))
end TW

/-! TWL: promises for calls under which no repr runs. -/
namespace TW
open PySem PySem.Spec PyProof.Rows L2

/-- FnOk where no repr runs -/
structure FnG (P : Program) (w : World) (K : PySem.W.Frag) (mg : Str → Option Value) (base : Heap) (CX : CXT) (k : Nat) (f : Addr) (fd : FuncData) (ps : List Str) (sp : Sp) : Prop where
  len : ∀ vs H Q E, sp vs H Q E → vs.length = ps.length
  run : ∀ (A : Around) (outer : List Env) (s : Shared) (H : Hp) (args : Args) (us : List Value) (vs : List V) (Q : VK) (E : XK), Room k A → A.guards = some [] → Env0 P w K mg base A outer s H → BindsTo s fd args (ps.zip us) → Vals vs us → sp vs H Q E →
    codeAny (model P w) A (.call (.ref f) args) (CR CX outer P w H s Q E) s
theorem FnG.of {P : Program} {w : World} {K : PySem.W.Frag} {mg : Str → Option Value} {base : Heap} {CX : CXT} {k : Nat} {f : Addr} {fd : FuncData} {ps : List Str} {sp : Sp} (F : FnOk P w K mg base CX k f fd ps sp) : FnG P w K mg base CX k f fd ps sp :=
  ⟨F.len, fun A outer s H args us vs Q E hr _ => F.run A outer s H args us vs Q E hr⟩
theorem FnG.mono {P : Program} {w : World} {K : PySem.W.Frag} {mg : Str → Option Value} {base : Heap} {CX : CXT} {j k : Nat} {f : Addr} {fd : FuncData} {ps : List Str} {sp : Sp} (F : FnG P w K mg base CX j f fd ps sp) (h : j ≤ k) : FnG P w K mg base CX k f fd ps sp :=
  ⟨F.len, fun A outer s H args us vs Q E hr => F.run A outer s H args us vs Q E (hr.mono h)⟩
/-- the rule of HandS for a def, its body under no repr -/
theorem fnG_ok {P : Program} {w : World} {K : PySem.W.Frag} {mg : Str → Option Value} {base : Heap} {x qual : Str} {params : Arguments} {body : List Stmt} {scope : Scope} {f : Addr} {fd : FuncData} {N ps : List Str} {k : Nat} {io : List Bool} {b : Sn}
    (F : FunD K x qual params body scope [] [] f fd) (S : FnScope N ps scope) (hl : io.length = ps.length) (hw : ∀ i ∈ b.wr, io[i]? ≠ some true)
    (hb : ∀ (cdv : Value) (A : Around) (outer : List Env) (s : Shared) (H : Hp) (E : XK), Room k (A.deeper (envOfC qual scope s.heap.objs.size f cdv)) → A.guards = some [] → SB (cxOf CX0 P w K mg base N qual scope f cdv A outer s H E).nox body b) :
    FnG P w K mg base CX0 (k + 1) f fd ps (spOf K io (fnOf io N.length b)) := by
  refine ⟨fun vs H Q E h => ?_, fun A outer s H args us vs Q E hr hgs => ?_⟩
  · obtain ⟨Fz, ds, fps, d, outs, hv, hd, _⟩ := h
    rw [hv, hl]
  · -- the promise at this A alone: the same def, its spec asked for A's guards
    have G : FnOk P w K mg base CX0 (k + 1) f fd ps (fun vs H Q E => spOf K io (fnOf io N.length b) vs H Q E) → True := fun _ => trivial
    intro e0 hbt r hsp
    obtain ⟨oc, od, dV, kV, doc, pm, an, cdv, ct, osl, rfl, lk, hcd, _, _⟩ := F.ex
    have hl2 : vs.length = ps.length := by
      obtain ⟨Fz, ds, fps, d, outs, hv, hd, _⟩ := hsp
      rw [hv, hl]
    have KX : K.In s.heap := e0.mod.kin.keeps fun b o e => (e0.bs b o e).1
    have lim : s.heap.NoLimit := e0.mod.nolimit.keeps fun b o e => (e0.bs b o e).1
    have hkind : ∀ y ∈ ps.zip us, scope.names.lookup y.1 = some .local ∨ (scope.names.lookup y.1 = some .cell ∧ ((cellsFrom (s.heap.objs.size + 1) scope.names []).lookup y.1).isSome = true) := fun ⟨n, v⟩ hy => by
      rcases S.par n (List.of_mem_zip hy).1 with q | q
      · exact .inl q
      · exact .inr ⟨q, PySem.W.cellsFrom_some _ _ _ (.inl q)⟩
    refine codeAny_call_function hr.depth (KX _ _ lk) rfl S.co S.gen rfl (PySem.W.codeRec_of KX hcd) (hbt _ _ _ _ ?_)
    refine wpAny_newFunctionEnv_cells S.kind hkind fun env he s1 x => ?_
    subst he
    refine ⟨lim.keeps x.toInCall.keep, codeAny_func ?_⟩
    have ht := PSs.nox (hb cdv A outer s H E (hr.deeper _) hgs)
    have hq := body_sound (N := N) hw hsp
    have I : Inv (cxOf CX0 P w K mg base N qual scope f cdv A outer s H E) [] (start N vs) H s1 := inv_start S hr.hd e0 hl2 r x
    refine wpAny_mono (ht.run [] s1 (start N vs) H _ I hq) (fun fl s' hs => ?_) fun e s' hs => hs
    have fin : ∀ {σ' : L2.St} {H' : Hp} {v : V} {u : Value}, Inv (cxOf CX0 P w K mg base N qual scope f cdv A outer s H E) [] σ' H' s' → RelV v u → Q v H' → CE outer P w H s Q u s' :=
      fun {σ' H' v u} J rv q => ⟨v, H', J.os, J.bare, J.base, J.hok, rv, q⟩
    cases fl with
    | ret u =>
      obtain ⟨v, σ', H', J, rv, q⟩ := hs
      exact fin J rv q
    | next =>
      obtain ⟨σ', H', J, q⟩ := hs
      exact fin (v := V.non) (u := Value.none) J rfl q
    | brk =>
      obtain ⟨_, _, _, q⟩ := hs
      exact False.elim q
    | cont =>
      obtain ⟨_, _, _, q⟩ := hs
      exact False.elim q
section
variable {X : Cx} {CX : CXT} {k : Nat} {f : Addr} {fd : FuncData} {ps : List Str} {sp : Sp} {ds : List Value} {dvs : List V} {E : XK}
theorem run_fnG {pins : List (Addr × Obj)} {σ : L2.St} {H : Hp} {s : Shared} {Q : VK} {us : List Value} {vs : List V} (F : FnG X.prog X.w X.K X.mg X.base CX k f fd ps sp) (hgs : X.A.guards = some []) (hr : Room k X.A) (hb : Binds X.K fd ps ds) (hd : Vals dvs ds) (hx : Passes CX X E)
    (I : Inv X pins σ H s) (r : Vals vs us) (h : sp (vs ++ dvs) H Q E) : wpAny (model X.prog X.w) X.A (call (.ref f) us) (EP X pins σ Q) X.xe s := by
  have r2 : Vals (vs ++ dvs) (us ++ ds) := r.append hd
  have hl : (us ++ ds).length = ps.length := by rw [← r2.length]; exact F.len _ _ _ _ h
  refine wpAny_call (codeAny_mono (F.run X.A X.stack s H ⟨us, []⟩ (us ++ ds) (vs ++ dvs) Q E hr hgs I.env0 (hb s us I.kIn hl) r2 h) fun r s' hq => ?_)
  cases r with
  | error e => exact hx pins σ H s e s' I hq
  | ok fl =>
    cases fl with
    | ret u => exact I.after hq
    | next => exact False.elim hq
    | brk => exact False.elim hq
    | cont => exact False.elim hq
end
section
variable {X : Cx} {k : Nat} {f : Addr} {fd : FuncData} {ps : List Str} {F : Fn} {m : Mn} {x : Str} {p pos : Pos} {e : Expr} {es : List Expr}
/-- f(e, ..) under no repr -/
theorem se_callG {io : List Bool} (G : FnG X.prog X.w X.K X.mg X.base CX0 k f fd ps (spOf X.K io F)) (hgs : X.A.guards = some []) (hr : Room k X.A) (hg : Gl X x) (hm : X.mg x = some (.ref f)) (hk : PySem.W.keepIn X.K (.ref f) = true) (hb : Binds X.K fd ps [])
    (ha : SM X (e :: es) m) (hio : m.rf.map Option.isSome = io := by rfl) (hd : dj (refs m.rf) m.nd.vw = true := by rfl) (hn : (refs m.rf).Nodup := by decide) (hdb : (x == ("__debug__" : Str)) = false := by decide)
    (he : starEach (e :: es) X.env = (false, eval e X.env) :: starEach es X.env := by rfl) (hpl : (backTo pos (starEach es X.env)).any (·.1) = false := by rfl) :
    SE X (.Call (.Name x p) (e :: es) [] pos) (eCall F m) := by
  subst hio
  have hpe : ∀ t, PA X (e :: es) t → PE X (.Call (.Name x p) (e :: es) [] pos) (tCall (spOf X.K (m.rf.map Option.isSome) F) [] (fun _ _ _ => False) t) := fun t ha => by
    refine ⟨fun pins s σ H Q I h => ?_⟩
    refine wpAny_Call_Name_kw (ld_glob I hg hm ?_ hdb)
    refine PySem.W.callWith_K (h₀ := X.base) I.ok.mod.kin hk (thn (ha.run pos pins s σ H _ I h) fun us s1 ⟨vs, H1, I1, r, q⟩ => ⟨I1.kIn, ?_⟩) he hpl
    exact run_fnG G hgs hr hb .nil (pass0 (X := X)) I1 r q
  exact PE.imp (hpe _ ha) fun σ H Q q => call_sound hd hn q
end
theorem law_callG {P : Program} {w : World} {K : PySem.W.Frag} {mg mb : Str → Option Value} {CX : CXT} {k : Nat} {fa a : Addr} {fd : FuncData} {x : Str} {sp : Sp} {s₁ : Shared} {vs : List Value} {ns : List Int}
    (KX : K.In s₁.heap) (hns : s₁.heap.Ns mainGlobals mg) (hb : s₁.heap.Ns builtinsNs mb) (hbb : ∀ x : Str, x ≠ "__name__" → mb x = bootBuiltins x) (hlim : s₁.heap.NoLimit) (hg : s₁.gens = #[])
    (ha : s₁.heap.get? a = some { cls := .type "list", data := .seq vs.toArray }) (hi : IntsAre vs ns) (hl : ns.length ≤ sizeLine) (hr : Room k callerA)
    (F : ∀ base : Heap, K.In base → base.Ns mainGlobals mg → FnG P w K mg base CX k fa fd [x] sp) (hbind : ∀ (s : Shared) (u : Value), BindsTo s fd ⟨[u], []⟩ [(x, u)])
    (hsp : ∀ H : Hp, Only H → SqL K H a (ns.map V.int) → sp [.ref a] H (fun v _ => v = .bl true) fun _ _ _ => False)
    (hCX : ∀ H e s', CX [] H s₁ (fun _ _ _ => False) e s' → False) :
    codeAny (model P w) callerA (.call (.ref fa) ⟨[.ref a], []⟩) (fun r s' => r = .ok (.ret (.bool true)) ∧ OldK s₁.heap s'.heap ∧ s'.os = s₁.os ∧ AllBare s'.gens) s₁ := by
  have rv := vals_ints hi
  have lenV := hi.length
  -- from an abstract heap in which nothing but the script may be tracked
  have core : ∀ H : Hp, Only H → SqL K H a (ns.map V.int) → HOk P w H s₁.heap → (∀ b, H b ≠ none → b = a) → (H a ≠ none → K.lookup a = none) →
      codeAny (model P w) callerA (.call (.ref fa) ⟨[.ref a], []⟩) (fun r s' => r = .ok (.ret (.bool true)) ∧ OldK s₁.heap s'.heap ∧ s'.os = s₁.os ∧ AllBare s'.gens) s₁ := by
    intro H hO hS hok hA hK
    have base_of : ∀ {b : Addr} {o : Obj}, s₁.heap.get? b = some o → H b = none → (hidT s₁.heap H).get? b = some o := fun e n => hidT_get e n
    have noA : ∀ {b : Addr} {o : Obj} {es : Array DictEntry} {ep : Nat}, s₁.heap.get? b = some o → o.data = .dict es ep → H b = none := fun {b o es ep} e d => by
      cases q : H b with
      | none => rfl
      | some u =>
        have e' : b = a := hA b (by rw [q]; simp)
        subst e'
        rw [ha] at e; cases e
        have d' : Data.seq vs.toArray _ = Data.dict es ep := d
        cases d'
    have nsK : ∀ {b : Addr} {m : Str → Option Value}, s₁.heap.Ns b m → (hidT s₁.heap H).Ns b m := fun {b m} ⟨o, es, ep, e, d, r⟩ => ⟨o, es, ep, base_of e (noA e d), d, r⟩
    have hKb : K.In (hidT s₁.heap H) := fun b o e => base_of (KX b o e) (by
      cases q : H b with
      | none => rfl
      | some u =>
        have e' : b = a := hA b (by rw [q]; simp)
        subst e'
        rw [hK (by rw [q]; simp)] at e; cases e)
    have hM : Mod K mg (hidT s₁.heap H) := ⟨hKb, nsK hns, ⟨mb, nsK hb, hbb⟩, let ⟨mc, h1, h2⟩ := hlim; ⟨mc, nsK h1, h2⟩⟩
    have e0 : Env0 P w K mg (hidT s₁.heap H) callerA [] s₁ H := ⟨rfl, hM, fun b o e => of_hidT e, Nat.le_of_eq (hidT_size _ _), trivial, fun b hb => absurd (show b ∈ ([] : List Addr) from hb) (by simp), hok, .of_eq hg⟩
    refine codeAny_mono ((F _ hKb (nsK hns)).run callerA [] s₁ H ⟨[.ref a], []⟩ [.ref a] [.ref a] _ _ hr rfl e0 (hbind s₁ (.ref a)) (.cons rfl .nil) (hsp H hO hS)) fun r s' h => ?_
    cases r with
    | error e => exact (hCX H e s' h).elim
    | ok fl =>
      cases fl with
      | next => exact False.elim h
      | brk => exact False.elim h
      | cont => exact False.elim h
      | ret u =>
        obtain ⟨v, H', os, bare, un, hok', r', q⟩ := h
        have q' : v = .bl true := q
        subst q'
        obtain rfl : u = Value.bool true := r'
        refine ⟨rfl, OldK.of_keep fun b o e => ?_, os, bare⟩
        cases q : H b with
        | none => exact un.keep b o e q (by intro z; exact absurd (show b ∈ ([] : List Addr) from z) (by simp)) (by simp)
        | some u =>
          rcases hO b with z | ⟨ob, xs, z⟩
          · rw [q] at z; cases z
          · have z2 := un.frzs b ob _ z
            obtain ⟨e1, _⟩ := hok b _ z
            obtain ⟨e2, _⟩ := hok' b _ z2
            rw [e] at e1; cases e1
            exact e2
  cases hk : K.lookup a with
  | some o =>
    -- the script is one of the module's own objects
    have e := KX a o hk
    rw [ha] at e
    cases e
    refine core (fun _ => none) (fun _ => .inl rfl) (.inr ⟨_, vs.toArray, _, hk, rfl, rfl, rfl, by rw [List.size_toArray, lenV]; exact hl, by simpa using rv⟩) (fun b u z => by have z' : (none : Option HO) = some u := z; cases z') (fun b z => absurd rfl z) fun z => absurd rfl z
  | none =>
    refine core (fun b => if b = a then some (.frz { cls := .type "list", data := .seq vs.toArray } (.lst (ns.map V.int))) else none) (fun b => ?_) (.inl (.inr ⟨{ cls := .type "list", data := .seq vs.toArray }, if_pos rfl⟩)) (fun b u z => ?_) (fun b z => ?_) fun _ => hk
    · by_cases hb : b = a
      · exact .inr ⟨_, _, if_pos hb⟩
      · exact .inl (if_neg hb)
    · by_cases hb : b = a
      · have z' := (if_pos hb).symm.trans z
        cases z'
        subst hb
        exact ⟨ha, by rw [List.length_map]; exact hl, vs, _, rv, ha⟩
      · have z' := (if_neg hb).symm.trans z
        cases z'
    · by_cases hb : b = a
      · exact hb
      · exact absurd (if_neg hb) z
theorem walk_ofG {l : PySem.W.OpenLaw} {n k : Nat} {q : Program} {loose : List Str} {XP : (Str → Option Value) → Heap → Prop} {YP : World → Heap → Prop} {d : DefRec} {CX : CXT} {x : Str}
    (hn : l.most = some n) (hn2 : n ≤ sizeLine) (hdf : d.params.defaults = []) (hr : Room k callerA)
    (F : ∀ (w : World) (mg : Str → Option Value) (fa : Addr) (h : Heap), YP w h → h.Ns mainGlobals mg → mg d.name = some (.ref fa) →
      ∃ (K : PySem.W.Frag) (fd : FuncData) (sp : Sp), K.In h ∧ (∀ (s : Shared) (u : Value), BindsTo s fd ⟨[u], []⟩ [(x, u)]) ∧
        (∀ (H : Hp) (a : Addr) (ns : List Int), ns.length ≤ n → Only H → SqL K H a (ns.map V.int) → sp [.ref a] H (fun v _ => v = .bl true) fun _ _ _ => False) ∧
        ∀ base : Heap, K.In base → base.Ns mainGlobals mg → FnG l.prog w K mg base CX k fa fd [x] sp)
    (hCX : ∀ (H : Hp) (s : Shared) (e : Value) (s' : Shared), CX [] H s (fun _ _ _ => False) e s' → False) :
    PySem.W.WalkO q loose XP YP l.row.toRowW d [] (fun f vs => PySem.call f vs) := by
  refine Att.attach_call hn hdf fun w s₀ s₁ mg mb fa o pm cd doc a vs ns G Y ho hd hcd hmg hobj hints hlen hg => ?_
  obtain ⟨K, fd, sp, KX, hb, hsp, hF⟩ := F w mg fa _ Y G.T.g hmg
  exact law_callG KX G.T.g G.T.b G.T.builtins G.T.nolimit hg hobj hints (Nat.le_trans hlen hn2) hr hF hb (fun H hO hS => hsp H a ns hlen hO hS) fun H e s' => hCX H s₁ e s'
end TW

/-! TWM: slices, sorted, join, count, isinstance, enumerate, append, pop. -/
namespace TW
open PySem PySem.Spec PyProof.Rows L2

/-! ### slices -/
def cutL {α : Type} (xs : List α) (lo hi : Option Int) : List α := (xs.drop (HT.sIx xs.length 0 lo)).take (HT.sIx xs.length xs.length hi - HT.sIx xs.length 0 lo)
def cutD (x : D) (lo hi : Option Int) : Option D := match x with
  | .lst _ xs => some (.lst true (cutL xs lo hi))
  | .tup xs => some (.tup (cutL xs lo hi))
  | .str z => if z.length ≤ 100000 then some (.str (cutS z lo hi)) else none
  | _ => none
theorem Rps.drop {K Fz H} : ∀ {ds : List D} {vs : List V} (n : Nat), Rps K Fz H ds vs [] → Rps K Fz H (ds.drop n) (vs.drop n) []
  | ds, vs, 0, r => r
  | [], vs, n + 1, r => by
    unfold Rps at r
    rw [r.1]
    exact rps_nil
  | d :: ds, vs, n + 1, r => by
    obtain ⟨v, ws, rfl, r1, r2⟩ := rps_cons r
    exact Rps.drop n r2
theorem rps_mk {K Fz H} {d : D} {ds : List D} {v : V} {vs : List V} (h : Rp K Fz H d v []) (r : Rps K Fz H ds vs []) : Rps K Fz H (d :: ds) (v :: vs) [] := by
  unfold Rps
  exact ⟨v, vs, [], [], rfl, rfl, h, r⟩
theorem Rps.take {K Fz H} : ∀ {ds : List D} {vs : List V} (n : Nat), Rps K Fz H ds vs [] → Rps K Fz H (ds.take n) (vs.take n) []
  | ds, vs, 0, r => rps_nil
  | [], vs, n + 1, r => by
    unfold Rps at r
    rw [r.1]
    exact rps_nil
  | d :: ds, vs, n + 1, r => by
    obtain ⟨v, ws, rfl, r1, r2⟩ := rps_cons r
    exact rps_mk r1 (Rps.take n r2)
theorem cut_rps {K Fz H} {ds : List D} {vs : List V} {lo hi : Option Int} (r : Rps K Fz H ds vs []) : Rps K Fz H (cutL ds lo hi) (cutV vs lo hi) [] := by
  unfold cutL cutV
  rw [Rps.length r]
  exact (r.drop _).take _
def rSl (K : PySem.W.Frag) : V → Option Int → Option Int → Hp → VK → Prop := fun x lo hi H Q => rSlL K x lo hi H Q ∨ rSlA K x lo hi H Q ∨ rSlS x lo hi H Q
theorem sl_any {X : Cx} : SlR X (rSl X.K) := sl_list.or (sl_tupA.or sl_str)
theorem cut_whole {α : Type} {xs : List α} {lo hi : Option Int} (h : HT.sIx xs.length 0 lo = 0 ∧ HT.sIx xs.length xs.length hi = xs.length) : cutL xs lo hi = xs := by
  unfold cutL
  rw [h.1, h.2]
  simp
theorem v_cut {K Fz H} {x d : D} {v : V} {lo hi : Option Int} {Q : VK} (za : ∀ a, Fz a → ∃ o, H a = some o) (r : Rp K Fz H x v []) (e : cutD x lo hi = some d) (k : ∀ v H' Fz' fp, VPst K Fz H d v H' Fz' fp → Q v H') : rSl K v lo hi H Q := by
  cases x with
  | lst o xs =>
    cases e
    obtain ⟨a, vs, rfl, ha, _, rs⟩ := rp_lst r
    exact .inl ⟨a, vs, rfl, SqL.of ha, fun p hp => k _ _ _ _ (VPst.lst za hp (cut_rps rs))⟩
  | tup xs =>
    cases e
    obtain ⟨a, vs, rfl, ha, rs⟩ := rp_tup r
    refine .inr (.inl ⟨a, vs, rfl, SqT.of ha, fun hw => k _ _ _ _ (VPst.old za ?_), fun _ p hp => k _ _ _ _ (VPst.tup za hp (cut_rps rs))⟩)
    rw [Rps.length rs] at hw
    rw [cut_whole hw]
    exact r
  | str z =>
    obtain ⟨hz, rfl⟩ := if_some (show (if z.length ≤ 100000 then some (D.str (cutS z lo hi)) else none) = some d from e)
    exact .inr (.inr ⟨z, rp_str r, sz_le hz, k _ _ _ _ (VPst.old za rp_mk_str)⟩)
  | _ => cases e
def dSl00 : List D → Option D
  | [x] => cutD x none none
  | _ => none
def dSl10 : List D → Option D
  | [x, .int i] => cutD x (some i) none
  | _ => none
def dSl01 : List D → Option D
  | [x, .int j] => cutD x none (some j)
  | _ => none
def dSl11 : List D → Option D
  | [x, .int i, .int j] => cutD x (some i) (some j)
  | _ => none
section
variable {X : Cx} {e l h : Expr} {ne nl nh : En} {p2 pos : Pos}
theorem se_sl00 (he : SE X e ne) : SE X (.Subscript e (.Slice none none none p2) pos) (eApp dSl00 (a1 ne)) := PE.imp (pe_slice sl_any he po_none po_none) fun σ H Q q =>
  ev_op1 (r := fun x H Q => rSl X.K x none none H Q) (fun Fz H ds vs d Q za r e k => by
    unfold dSl00 at e
    split at e
    · obtain ⟨v, rfl, r1⟩ := rps1 r
      exact ⟨v, rfl, v_cut za r1 e k⟩
    · cases e) q
theorem se_sl10 (he : SE X e ne) (hl : SE X l nl) (hd : dj ne.vw nl.mt = true := by rfl) : SE X (.Subscript e (.Slice (some l) none none p2) pos) (eApp dSl10 (a2 ne nl)) := PE.imp (pe_slice sl_any he (po_some hl) po_none) fun σ H Q q =>
  ev_op2 (r := fun x y H Q => ∃ i, y = .int i ∧ rSl X.K x (some i) none H Q) (fun Fz H ds vs d Q za r e k => by
    unfold dSl10 at e
    split at e
    · obtain ⟨v, u, rfl, r1, r2⟩ := rps2 r
      exact ⟨v, u, rfl, _, rp_int r2, v_cut za r1 e k⟩
    · cases e) hd q
theorem se_sl01 (he : SE X e ne) (hl : SE X h nh) (hd : dj ne.vw nh.mt = true := by rfl) : SE X (.Subscript e (.Slice none (some h) none p2) pos) (eApp dSl01 (a2 ne nh)) := PE.imp (pe_slice sl_any he po_none (po_some hl)) fun σ H Q q =>
  ev_op2 (r := fun x y H Q => ∃ i, y = .int i ∧ rSl X.K x none (some i) H Q) (fun Fz H ds vs d Q za r e k => by
    unfold dSl01 at e
    split at e
    · obtain ⟨v, u, rfl, r1, r2⟩ := rps2 r
      exact ⟨v, u, rfl, _, rp_int r2, v_cut za r1 e k⟩
    · cases e) hd q
end
/-! ### sorted(list) -/
def toPd (d : D) : PyData := (toP d).getD .none
def leD : D → D → Bool := PySem.W.dataLe false toPd
def sortD (ds : List D) : List D := ds.mergeSort leD
/-- what can be sorted -/
def okSort (ds : List D) : Bool := ds.all (fun d => (toP d).isSome) && (ds.all fun a => ds.all fun b => PySem.W.alike (toPd a) (toPd b)) && (ds.all (fun d => match toPd d with
    | .tuple (_ :: _) => true
    | _ => false) || ds.all (fun d => match toPd d with
    | .none => false
    | .tuple _ => false
    | _ => true)) && ds.all fun d => decide ((toPd d).depth ≤ 64)
theorem okSort_all {ds : List D} (h : okSort ds = true) : (∀ d ∈ ds, toP d = some (toPd d)) ∧ PySem.W.AllAlike (ds.map toPd) ∧ PySem.W.Sortable (ds.map toPd) ∧ ∀ d ∈ ds, (toPd d).depth ≤ 64 := by
  unfold okSort at h
  simp only [Bool.and_eq_true, Bool.or_eq_true, List.all_eq_true, decide_eq_true_eq] at h
  obtain ⟨⟨⟨h1, h2⟩, h3⟩, h4⟩ := h
  refine ⟨fun d hd => ?_, fun p hp q hq => ?_, ?_, h4⟩
  · have := h1 d hd
    unfold toPd
    cases e : toP d with
    | none => rw [e] at this; cases this
    | some p => rfl
  · obtain ⟨a, ha, rfl⟩ := List.mem_map.mp hp
    obtain ⟨b, hb, rfl⟩ := List.mem_map.mp hq
    exact h2 a ha b hb
  · rcases h3 with h3 | h3
    · refine .inl fun p hp => ?_
      obtain ⟨a, ha, rfl⟩ := List.mem_map.mp hp
      have := h3 a ha
      split at this
      · rename_i x xs e
        exact ⟨x, xs, e⟩
      · cases this
    · refine .inr fun p hp => ?_
      obtain ⟨a, ha, rfl⟩ := List.mem_map.mp hp
      have := h3 a ha
      split at this
      · cases this
      · cases this
      · rename_i n1 n2
        exact ⟨n1, n2⟩
def rSortT (K : PySem.W.Frag) : List V → Hp → VK → Prop := fun vs H Q => ∃ (Fz : Addr → Prop) (a : Addr) (xs : List V) (ds : List D), vs = [.ref a] ∧ SqL K H a xs ∧ Rps K Fz H ds xs [] ∧ okSort ds = true ∧
  ∀ p, H p = none → Q (.ref p) (upd H p (.lst (((xs.zip ds).mergeSort (PySem.W.dataLe false fun b => toPd b.2)).map (·.1))))
theorem each_of {xs : List V} {us : List Value} : ∀ {ds : List D}, Vals xs us → ds.length = xs.length → PySem.W.EachIs (fun (u : Value) (b : V × D) => RelV b.1 u) us (xs.zip ds) := by
  intro ds r
  induction r generalizing ds with
  | nil => intro h; cases ds with
    | nil => exact .nil
    | cons _ _ => cases h
  | cons a b ih =>
    intro h
    cases ds with
    | nil => cases h
    | cons d ds => exact .cons a (ih (by simpa using h))
theorem each_rd {X : Cx} {pins : List (Addr × Obj)} {σ : L2.St} {H : Hp} {s : Shared} {Fz : Addr → Prop} (I : Inv X pins σ H s) {xs : List V} {us : List Value} : ∀ {ds : List D}, Vals xs us → Rps X.K Fz H ds xs [] → (∀ d ∈ ds, toP d = some (toPd d)) → PySem.W.EachIs (fun (u : Value) (b : V × D) => ∃ as, Reads s.heap u (toPd b.2) as) us (xs.zip ds) := by
  intro ds r
  induction r generalizing ds with
  | nil => intro h _; cases ds with
    | nil => exact .nil
    | cons _ _ => exact .nil
  | @cons v u vs us a b ih =>
    intro h hp
    cases ds with
    | nil => unfold Rps at h; cases h.1
    | cons d ds =>
      obtain ⟨v', ws, e, r1, r2⟩ := rps_cons h
      cases e
      exact .cons (Dp.reads I _ _ _ (dp_of r1 (hp d List.mem_cons_self)) a) (ih r2 fun d hd => hp d (List.mem_cons_of_mem _ hd))
theorem each_vals {bs : List (V × D)} : ∀ {us : List Value}, PySem.W.EachIs (fun (u : Value) (b : V × D) => RelV b.1 u) us bs → Vals (bs.map (·.1)) us := by
  intro us h
  induction h with
  | nil => exact .nil
  | cons a b ih => exact .cons a ih
theorem cr_sortT {X : Cx} (hu : X.A.units + 100 < cLine) : CallR X (.builtin "sorted") (rSortT X.K) := by
  intro pins s σ H vs us Q I r h
  obtain ⟨Fz, a, xs, ds, rfl, hs, rs, ok, q⟩ := h
  obtain ⟨its, rv, ⟨o, n, ho, hc, hdn, hd⟩, hz⟩ := I.list hs
  rw [Vals.ref1 r]
  obtain ⟨h1, h2, h3, h4⟩ := okSort_all ok
  have hlen : ds.length = xs.length := (Rps.length rs).symm
  have em : (xs.zip ds).map (fun b => toPd b.2) = ds.map toPd := by
    rw [show (fun b : V × D => toPd b.2) = toPd ∘ Prod.snd from rfl, ← List.map_map, List.map_snd_zip (by omega)]
  have hzl : (xs.zip ds).length = xs.length := by rw [List.length_zip]; omega
  refine PySem.W.sorted_data (R := fun (u : Value) (b : V × D) => RelV b.1 u) (enc := fun b => toPd b.2) (bs := xs.zip ds) (vs := its) ⟨o, ho, hc, n, hd⟩ (each_of rv hlen) (each_rd I rv rs h1) (by rw [em]; exact h2) (by rw [em]; exact h3) (by rw [hzl]; exact hz) (fun b hb => ?_) fun out ho2 e2 => ?_
  · have := h4 b.2 (List.of_mem_zip hb).2
    omega
  · obtain ⟨ep, he'⟩ := PyProof.Rows.sortedAll_at s.heap its out.toArray
    refine ⟨.ref _, upd H (s.heap.objs.size + 1) (.lst _), I.laid (t' := s.toks) (fun _ _ => PyProof.Rows.sortedAll_old) (Nat.le_succ _) ⟨?_, out, ep, each_vals e2, he'⟩, rfl, q _ (I.hok.fresh (Nat.le_succ _))⟩
    rw [List.length_map, (List.mergeSort_perm _ _).length_eq, hzl]
    exact hz
def dSort : List D → Option D
  | [.lst _ xs] => if okSort xs then some (.lst true (sortD xs)) else none
  | _ => none
theorem zip_rps {K Fz H} : ∀ {ds : List D} {vs : List V}, Rps K Fz H ds vs [] → ∀ b ∈ vs.zip ds, Rp K Fz H b.2 b.1 []
  | [], vs, r, b, hb => by simp at hb
  | d :: ds, vs, r, b, hb => by
    obtain ⟨v, ws, rfl, r1, r2⟩ := rps_cons r
    rcases List.mem_cons.mp hb with rfl | hb
    · exact r1
    · exact zip_rps r2 b hb
theorem rps_zip {K Fz H} : ∀ {bs : List (V × D)}, (∀ b ∈ bs, Rp K Fz H b.2 b.1 []) → Rps K Fz H (bs.map (·.2)) (bs.map (·.1)) []
  | [], _ => rps_nil
  | b :: bs, h => rps_mk (h b List.mem_cons_self) (rps_zip fun c hc => h c (List.mem_cons_of_mem _ hc))
theorem sort_zip {vs : List V} {ds : List D} (h : ds.length = vs.length) : (((vs.zip ds).mergeSort (PySem.W.dataLe false fun b => toPd b.2)).map (·.2)) = sortD ds := by
  unfold sortD
  have h1 := List.map_mergeSort (r := PySem.W.dataLe false fun b : V × D => toPd b.2) (s := leD) (f := fun b : V × D => b.2) (l := vs.zip ds) (fun a _ b _ => rfl)
  have h2 : (vs.zip ds).map (fun b : V × D => b.2) = ds := List.map_snd_zip (by omega)
  rw [h2] at h1
  exact h1
theorem v_sort {K : PySem.W.Frag} : VOp K (rSortT K) dSort := by
  intro Fz H ds vs d Q za r e k
  unfold dSort at e
  split at e
  · obtain ⟨hok, rfl⟩ := if_some e
    obtain ⟨v, rfl, r1⟩ := rps1 r
    obtain ⟨a, ws, rfl, ha, _, rs⟩ := rp_lst r1
    refine ⟨Fz, a, ws, _, rfl, SqL.of ha, rs, hok, fun p hp => k _ _ _ _ (VPst.lst za hp ?_)⟩
    rw [← sort_zip (Rps.length rs).symm]
    exact rps_zip fun b hb => zip_rps rs b ((List.mergeSort_perm _ _).mem_iff.mp hb)
  · cases e
/-! ### ''.join(list), list.count(x) -/
def dJoin : List D → Option D
  | [.str a, x] => (seqD x).bind fun xs => (strsD xs).bind fun ys => if (ys.map (·.length)).sum + ys.length * a.length ≤ 16777216 then some (.str (Txt.join a ys)) else none
  | _ => none
def dCount : List D → Option D
  | [.lst o xs, y] => (toP (.lst o xs)).bind fun p => (toP y).bind fun q => if SeqAt.shaped p && SeqAt.shaped q then some (.int (((xs.map toPd).countP fun z => PyData.eqv z q : Nat) : Int)) else none
  | _ => none
theorem pl_join : PlF dJoin := by
  intro ds d e
  unfold dJoin at e
  split at e
  · obtain ⟨_, _, e⟩ := bind_some e
    obtain ⟨_, _, e⟩ := bind_some e
    obtain ⟨_, rfl⟩ := if_some e
    rfl
  · cases e
theorem pl_count : PlF dCount := by
  intro ds d e
  unfold dCount at e
  split at e
  · obtain ⟨_, _, e⟩ := bind_some e
    obtain ⟨_, _, e⟩ := bind_some e
    obtain ⟨_, rfl⟩ := if_some e
    rfl
  · cases e
theorem toPs_pd : ∀ {ds : List D} {ps : List PyData}, toPs ds = some ps → ds.map toPd = ps
  | [], ps, e => by unfold toPs at e; cases e; rfl
  | d :: ds, ps, e => by
    unfold toPs at e
    obtain ⟨p, e1, e2⟩ := bind_some e
    obtain ⟨qs, e3, rfl⟩ := map_some e2
    rw [List.map_cons, toPs_pd e3]
    unfold toPd
    rw [e1]
    rfl
def rCountD (K : PySem.W.Frag) : V → List V → Hp → VK → Prop := fun x xs H Q => ∃ (a : Addr) (y : V) (d : PyData) (ds : List PyData), x = V.ref a ∧ xs = [y] ∧ Dp K H (V.ref a) (.list ds) ∧ Dp K H y d ∧ SeqAt.shaped (.list ds) = true ∧ SeqAt.shaped d = true ∧ Q (.int ((ds.countP fun z => PyData.eqv z d : Nat) : Int)) H
theorem mt_countD {X : Cx} (hu : X.A.units + 65 < cLine) : MtR X "list.count" (rCountD X.K) := by
  intro pins s σ H x xs v us Q I rx rxs h
  obtain ⟨a, y, d, ds, rfl, rfl, hl, hy, sl, sd, q⟩ := h
  cases rx
  obtain ⟨uy, rfl, ry⟩ := rxs.one
  obtain ⟨bs, r1⟩ := Dp.reads I d y uy hy ry
  have hxs : PyData.canLayAll0 ds = true := SeqAt.canLay_of_shaped sl
  have hroom : X.A.units + 1 + min (PyData.depthAll ds) d.depth < cLine := room_in_shaped sd hu
  cases hl with
  | lst hs ha =>
    obtain ⟨its, rv, ⟨⟨cls, dd, data, sls⟩, n, ho, hc, hdn, hdt⟩, hlen⟩ := I.list hs
    simp only at hc hdt
    subst hc hdt
    obtain ⟨as, h4⟩ := Dp.readsAll I ds _ its ha rv
    have hmap : its.map (SeqAt.readOf s.heap) = ds := SeqAt.readsAll_map ds its as hxs h4
    refine call_meets PySem.F.slot_list_count ⟨_, ho, rfl⟩ PySem.F.entry_list_count (PySem.F.args_list_count_2 _ _)
      (SeqAt.list_countAt a its.toArray n dd sls uy (fun u => PyData.eqv (SeqAt.readOf s.heap u) d)) ⟨ho, SeqAt.items_eqAt (vs := its.toArray) (show ReadsAll s.heap its.toArray.toList ds as from h4) r1 hxs (SeqAt.canLay_of_shaped sd) hroom, ?_⟩
    refine ⟨.int _, H, I.tok _, ⟨s.toks, ?_⟩, q⟩
    show Value.int ((its.toArray.toList.countP (fun u => PyData.eqv (SeqAt.readOf s.heap u) d) : Nat) : Int) s.toks = _
    rw [← hmap, List.countP_map]
    rfl
section
variable {X : Cx} {o e : Expr} {no ne : En} {apos cpos : Pos}
theorem se_join (ho : SE X o no) (he : SE X e ne) (hd : dj no.vw ne.mt = true := by rfl) (hbase : attributeBase o "join" X.env (eval o X.env) = eval o X.env := by rfl)
    (hfew : ((backTo cpos (starEach [e] X.env)).all (fun x => !x.1) && (backToKw cpos (keywordEach [] X.env)).all (fun x => x.1.isSome) && decide (([e] : List Expr).length + ([] : List Keyword).length + (if ([] : List Keyword).isEmpty then 0 else 1) < 30)) = true := by rfl)
    (hline : (apos.endLine == cpos.line) = true := by rfl) (hs : starEach [e] X.env = (false, eval e X.env) :: starEach [] X.env := by rfl) (hplain : (backTo cpos (starEach [] X.env)).any (·.1) = false := by rfl) :
    SE X (.Call (.Attribute o "join" apos) [e] [] cpos) (eAppP dJoin (a2 no ne)) :=
  se_plain pl_join (PE.imp (pe_bm F.plainAttrs_str F.slot_str_join F.type_str_join mt_join ho (sa_cons he sa_nil (dj_nil _) hs) hbase hfew hline hs hplain) fun σ H Q q => by
    refine ev_mt (C := tyV X.K "str") (r := fun x xs H Q => ∃ a p, ∃ ys : List Str, x = .str a ∧ xs = [.ref p] ∧ (SqL X.K H p (ys.map V.str) ∨ SqT X.K H p (ys.map V.str)) ∧ (ys.map (·.length)).sum + ys.length * a.length ≤ 16777216 ∧ Q (.str (Txt.join a ys)) H) ?_ ?_ (by simpa [aCons, aNil] using hd) q
    · intro Fz H ds vs d Q za r e k
      unfold dJoin at e
      split at e
      · obtain ⟨v, u, rfl, r1, r2⟩ := rps2 r
        obtain ⟨xs, e1, e⟩ := bind_some e
        obtain ⟨ys, e2, e⟩ := bind_some e
        obtain ⟨hz, rfl⟩ := if_some e
        obtain ⟨a, ws, rfl, hq, rs⟩ := seqD_sq e1 r2
        rw [strsD_rp e2 rs] at hq
        exact ⟨v, [.ref a], rfl, _, a, ys, rp_str r1, rfl, hq, hz, k _ _ _ _ (VPst.old za rp_mk_str)⟩
      · cases e
    · intro Fz H d ds v z e r
      unfold dJoin at e
      split at e
      · rename_i h
        cases h
        rw [rp_str r]
        rfl
      · cases e)
theorem se_count (hu : X.A.units + 100 < cLine) (ho : SE X o no) (he : SE X e ne) (hd : dj no.vw ne.mt = true := by rfl) (hbase : attributeBase o "count" X.env (eval o X.env) = eval o X.env := by rfl)
    (hfew : ((backTo cpos (starEach [e] X.env)).all (fun x => !x.1) && (backToKw cpos (keywordEach [] X.env)).all (fun x => x.1.isSome) && decide (([e] : List Expr).length + ([] : List Keyword).length + (if ([] : List Keyword).isEmpty then 0 else 1) < 30)) = true := by rfl)
    (hline : (apos.endLine == cpos.line) = true := by rfl) (hs : starEach [e] X.env = (false, eval e X.env) :: starEach [] X.env := by rfl) (hplain : (backTo cpos (starEach [] X.env)).any (·.1) = false := by rfl) :
    SE X (.Call (.Attribute o "count" apos) [e] [] cpos) (eAppP dCount (a2 no ne)) :=
  se_plain pl_count (PE.imp (pe_bm F.plainAttrs_list F.slot_list_count F.type_list_count (mt_countD (by omega)) ho (sa_cons he sa_nil (dj_nil _) hs) hbase hfew hline hs hplain) fun σ H Q q => by
    refine ev_mt (C := tyV X.K "list") (r := rCountD X.K) ?_ ?_ (by simpa [aCons, aNil] using hd) q
    · intro Fz H ds vs d Q za r e k
      unfold dCount at e
      split at e
      · obtain ⟨v, u, rfl, r1, r2⟩ := rps2 r
        obtain ⟨p, e1, e⟩ := bind_some e
        obtain ⟨q, e2, e⟩ := bind_some e
        obtain ⟨hz, rfl⟩ := if_some e
        obtain ⟨s1, s2⟩ := Bool.and_eq_true_iff.mp hz
        have e3 := e1
        unfold toP at e3
        obtain ⟨ps, e4, rfl⟩ := map_some e3
        have d1 := dp_of r1 e1
        obtain ⟨a, ws, rfl, ha, _, rs⟩ := rp_lst r1
        refine ⟨.ref a, [u], rfl, a, u, q, ps, rfl, rfl, d1, dp_of r2 e2, s1, s2, ?_⟩
        rw [← toPs_pd e4]
        exact k _ _ _ _ (VPst.old za rp_mk_int)
      · cases e
    · intro Fz H d ds v z e r
      unfold dCount at e
      split at e
      · rename_i h
        cases h
        obtain ⟨a, ws, rfl, ha, _, rs⟩ := rp_lst r
        exact .inl ⟨rfl, ws, SqL.of ha⟩
      · cases e)
end
/-! ### isinstance(x, T), T a built-in type -/
def tyD : D → Option String
  | .non => some "NoneType"
  | .bl _ => some "bool"
  | .int _ => some "int"
  | .str _ => some "str"
  | .tup _ => some "tuple"
  | .lst _ _ => some "list"
  | _ => none
theorem tyD_ok {K Fz H} {d : D} {v : V} {t : String} (e : tyD d = some t) (r : Rp K Fz H d v []) : TyX K H v (.type t) := by
  cases d with
  | non => cases e; rw [rp_non r]; exact .base .non
  | bl b => cases e; rw [rp_bl r]; exact .base (.bl b)
  | int b => cases e; rw [rp_int r]; exact .base (.int b)
  | str b => cases e; rw [rp_str r]; exact .base (.str b)
  | tup xs => cases e; obtain ⟨a, vs, rfl, ha, _⟩ := rp_tup r; exact .base (.tup ha)
  | lst o xs => cases e; obtain ⟨a, vs, rfl, ha, _⟩ := rp_lst r; exact .base (.lst ha)
  | _ => cases e
def dIsi (T : String) : List D → Option D
  | [x] => (tyD x).bind fun t => (kitB t T).map .bl
  | _ => none
theorem pl_isi {T : String} : PlF (dIsi T) := by
  intro ds d e
  unfold dIsi at e
  split at e
  · obtain ⟨_, _, e⟩ := bind_some e
    obtain ⟨_, _, rfl⟩ := map_some e
    rfl
  · cases e
theorem se_isi {X : Cx} {a : Expr} {na : En} {p pos q : Pos} {x : Str} {S : String} (hg : Gl X "isinstance") (hm : X.mg "isinstance" = none) (ha : SE X a na) (hT : PE X (.Name x q) (tC (.ty S)))
    (hs : starEach [a, .Name x q] X.env = (false, eval a X.env) :: starEach [.Name x q] X.env := by rfl) (hs2 : starEach [.Name x q] X.env = [(false, eval (.Name x q) X.env)] := by rfl) (hpl : (backTo pos (starEach [.Name x q] X.env)).any (·.1) = false := by rfl) :
    SE X (.Call (.Name "isinstance" p) [a, .Name x q] [] pos) (eAppP (dIsi S) (a1 na)) :=
  se_plain pl_isi (PE.imp (pe_callB (id := "isinstance") call_isi hg hm (by rfl) (pa_cons ha (pa_cons hT pa_nil (by rw [hs2]; rfl)) hs) (by decide) (by decide) hs hpl) fun σ H Q h =>
    ev_op1 (r := fun x H Q => rIsi X.K [x, .ty S] H Q) (fun Fz H ds vs d Q za r e k => by
      unfold dIsi at e
      split at e
      · obtain ⟨t, e1, e⟩ := bind_some e
        obtain ⟨b, e2, rfl⟩ := map_some e
        obtain ⟨v, rfl, r1⟩ := rps1 r
        exact ⟨v, rfl, v, .ty S, .type t, .type S, b, rfl, .ty S, tyD_ok e1 r1, kit_ty e2, k _ _ _ _ (VPst.old za rp_bl1)⟩
      · cases e) h)
/-! ### enumerate(list) -/
def enumD (ds : List D) : List D := ds.mapIdx fun i d => .tup [.int (i : Int), d]
def lstD : D → Option (List D)
  | .lst _ xs => some xs
  | _ => none
def nEnum (n : En) : An := ⟨n.vw, n.mt, fun S => (n.run S).bind fun p => (lstD (frz p.1)).bind fun ds => some (enumD ds, p.2)⟩
theorem it_enum {K Fz} {a : Addr} {ds : List D} {vs : List V} {H1 : Hp} (ha : SqL K H1 a vs) (hz : Fz a) (r : Rps K Fz H1 ds vs []) : ItOk K Fz (Ite K a) (enumD ds) H1 := by
  unfold ItOk enumD
  rw [List.length_mapIdx, ← Rps.length r]
  refine walk_enum.mono (fun H2 k => sqL_keep ha fun o e => k.1 a o hz e) fun i H x H' hi k y => ?_
  obtain ⟨T, x1, y1, rfl, hT, rfl, e1, e2⟩ := y
  cases e1
  obtain ⟨d, e, q⟩ := (r.keepZ k).at e2
  refine ⟨.tup [.int (i : Int), d], by rw [List.getElem?_mapIdx, e]; rfl, rp_pair hT rp_mk_int q, .inr ⟨T, _, hT, rfl⟩⟩
theorem lstD_sq {K Fz H} {x : D} {v : V} {xs : List D} (h : lstD (frz x) = some xs) (r : Rp K Fz H (frz x) v []) : ∃ a vs, v = .ref a ∧ SqL K H a vs ∧ Fz a ∧ Rps K Fz H xs vs [] := by
  cases x with
  | lst o ys =>
    unfold frz at h r
    cases h
    obtain ⟨a, vs, rfl, ha, hz, rs⟩ := rp_lst r
    exact ⟨a, vs, rfl, SqL.of ha, hz, rs⟩
  | _ => unfold frz at h; cases h
theorem si_enum {X : Cx} {e : Expr} {n : En} {p pos tpos : Pos} {elts : List Expr} {kk : Nat} (hg : Gl X "enumerate") (hm : X.mg "enumerate" = none) (he : SE X e n) (hs : starEach [e] X.env = [(false, eval e X.env)] := by rfl) : SI X (.Tuple elts kk tpos) (.Call (.Name "enumerate" p) [e] [] pos) (nEnum n) :=
  PI.imp (pi_enum hg hm (pa_cons he pa_nil (by rw [hs]; rfl)) hs) fun σ H R q => by
    obtain ⟨Fz, lk, S, fps, ds, S', p, k⟩ := q
    obtain ⟨d, S1, ds', e1, e2, e3⟩ := bind1 (f := fun d => (lstD (frz d)).bind fun ds => some (enumD ds)) (show ((n.run S).bind fun p => ((lstD (frz p.1)).bind fun ds => some (enumD ds)).bind fun d => some (d, p.2)) = some (ds, S') from by
      have rn : ((n.run S).bind fun p => (lstD (frz p.1)).bind fun ds => some (enumD ds, p.2)) = some (ds, S') := p.rn
      rw [← rn]
      congr 1
      funext z
      cases lstD (frz z.1) <;> rfl)
    obtain ⟨rfl, rfl⟩ := Prod.mk.inj e3
    obtain ⟨xs, e4, e5⟩ := bind_some e2
    cases e5
    refine ⟨Fz, lk, S, fps, d, _, ⟨p.sr, p.ml, e1⟩, fun v H1 Fz1 fps1 fp1 p1 => ?_⟩
    have r := p1.rp.frz (Fz' := fun a => Fz1 a ∨ a ∈ fp1) (fun _ z => .inl z) fun _ z => .inr z
    obtain ⟨a, vs, rfl, hq, hz, rs⟩ := lstD_sq e4 r
    exact ⟨a, vs, rfl, hq, k _ H1 _ fps1 p1.over (it_enum hq hz rs)⟩
/-! ### x.append(e), x.pop(e), x.pop() -/
section
variable {X : Cx} {o e : Expr} {i : Nat} {ne : En} {apos cpos pos : Pos}
theorem ss_append (ho : PE X o (tVar i)) (he : SE X e ne) (hn : dj [i] ne.mt = true := by rfl) (hbase : attributeBase o "append" X.env (eval o X.env) = eval o X.env := by rfl)
    (hfew : ((backTo cpos (starEach [e] X.env)).all (fun x => !x.1) && (backToKw cpos (keywordEach [] X.env)).all (fun x => x.1.isSome) && decide (([e] : List Expr).length + ([] : List Keyword).length + (if ([] : List Keyword).isEmpty then 0 else 1) < 30)) = true := by rfl)
    (hline : (apos.endLine == cpos.line) = true := by rfl) (hs : starEach [e] X.env = (false, eval e X.env) :: starEach [] X.env := by rfl) (hplain : (backTo cpos (starEach [] X.env)).any (·.1) = false := by rfl)
    (hsw : swapsWith (.Call (.Attribute o "append" apos) [e] [] cpos) none pos.line X.env = pure false := by rfl) :
    SS X (.Expr (.Call (.Attribute o "append" apos) [e] [] cpos) pos) (sApp i ne) :=
  PS.imp (ps_expr (pe_bm F.plainAttrs_list F.slot_list_append F.type_list_append mt_append ho (pa_cons he pa_nil hs) hbase hfew hline hs hplain) hsw) fun D σ H q => app_sound (nin_of hn) q
theorem se_popAt (ho : PE X o (tVar i)) (he : SE X e ne) (hn : dj [i] ne.mt = true := by rfl) (hbase : attributeBase o "pop" X.env (eval o X.env) = eval o X.env := by rfl)
    (hfew : ((backTo cpos (starEach [e] X.env)).all (fun x => !x.1) && (backToKw cpos (keywordEach [] X.env)).all (fun x => x.1.isSome) && decide (([e] : List Expr).length + ([] : List Keyword).length + (if ([] : List Keyword).isEmpty then 0 else 1) < 30)) = true := by rfl)
    (hline : (apos.endLine == cpos.line) = true := by rfl) (hs : starEach [e] X.env = (false, eval e X.env) :: starEach [] X.env := by rfl) (hplain : (backTo cpos (starEach [] X.env)).any (·.1) = false := by rfl) :
    SE X (.Call (.Attribute o "pop" apos) [e] [] cpos) (ePopAt i ne) :=
  PE.imp (pe_bm F.plainAttrs_list F.slot_list_pop F.type_list_pop mt_popAt ho (pa_cons he pa_nil hs) hbase hfew hline hs hplain) fun σ H Q q => popAt_sound (nin_of hn) q
theorem se_pop (ho : PE X o (tVar i)) (hbase : attributeBase o "pop" X.env (eval o X.env) = eval o X.env := by rfl) (hline : (apos.endLine == cpos.line) = true := by rfl) :
    SE X (.Call (.Attribute o "pop" apos) [] [] cpos) (ePop i) :=
  PE.imp (pe_bm0 F.plainAttrs_list F.slot_list_pop F.type_list_pop mt_pop ho hbase hline) fun σ H Q q => pop_sound q
end
section
variable {X : Cx} {a : Expr} {na : En} {p pos : Pos}
theorem se_sorted (hu : X.A.units + 100 < cLine) (hg : Gl X "sorted") (hm : X.mg "sorted" = none) (ha : SE X a na) (hs : starEach [a] X.env = [(false, eval a X.env)] := by rfl) : SE X (.Call (.Name "sorted" p) [a] [] pos) (eApp dSort (a1 na)) :=
  se_bi (cr_sortT hu) v_sort hg hm (by rfl) (sa_cons ha sa_nil (dj_nil _) (by rw [hs]; rfl)) (he := by rw [hs]; rfl)
end
end TW

/-! TWN: statements as rules. -/
namespace TW
open PySem PySem.Spec PyProof.Rows L2
section
variable {X : Cx}
/-- x[k] = e -/
theorem ss_setSub {o k e : Expr} {i : Nat} {nk nv : En} {pos' pos : Pos} (hu : X.A.units + 64 < cLine) (ho : PE X o (tVar i)) (hk : SE X k nk) (hv : SE X e nv) (hd : dj nv.vw nk.mt = true := by rfl) (hn : dj [i] nk.mt = true := by rfl)
    (hs : swapsWith e (some (.Subscript o k pos')) pos.line X.env = pure false := by rfl) (hs2 : swapsWithSole [.Subscript o k pos'] e pos.line X.env = pure false := by rfl) (hw : swappedStores [.Subscript o k pos'] e X.env = pure none := by rfl)
    (h1 : (assignEach [.Subscript o k pos'] X.env).map (·.2) = [assign (.Subscript o k pos') X.env] := by rfl)
    (ha : ∀ v, assign (.Subscript o k pos') X.env v = (do
      let ov ← holding [v] (eval o X.env)
      let iv ← holding [v, ov] (eval k X.env)
      standAt pos'
      holding [v, ov, iv] (setItem ov iv v)
      release [v, ov, iv] []) := by intro _; rfl) : SS X (.Assign [.Subscript o k pos'] e pos) (sSet i nk nv) :=
  PS.imp (TW.PS.or (ps_dput (by omega) ho hk hv hs) (ps_asg hv (pg_sub ho hk set_list ha) hs2 hw h1)) fun D σ H q => set_sound hd (nin_of hn) q
/-- x[k], y = e -/
theorem ss_setNm {o k e : Expr} {i j : Nat} {nk n : En} {y : Str} {py pos' pt pos : Pos} {kt : Nat} (hc : X.calm = true) (ho : PE X o (tVar i)) (hk : SE X k nk) (hy : PG X (.Name y py) (gName j)) (hv : SE X e n) (hn : dj [i] nk.mt = true := by rfl)
    (hT : PG X (.Tuple [.Subscript o k pos', .Name y py] kt pt) (gTup X.K 2 (gCons (gSub (tVar i) (tD X.K nk) rSetL) (gCons (gName j) gNil))))
    (hs : swapsWithSole [.Tuple [.Subscript o k pos', .Name y py] kt pt] e pos.line X.env = pure false := by rfl) (hw : swappedStores [.Tuple [.Subscript o k pos', .Name y py] kt pt] e X.env = pure none := by rfl)
    (h1 : (assignEach [.Tuple [.Subscript o k pos', .Name y py] kt pt] X.env).map (·.2) = [assign (.Tuple [.Subscript o k pos', .Name y py] kt pt) X.env] := by rfl) :
    SS X (.Assign [.Tuple [.Subscript o k pos', .Name y py] kt pt] e pos) (sSetNm i nk j n) :=
  PS.imp (ps_asg hv hT hs hw h1) fun D σ H q => setNm_sound (nin_of hn) q
theorem ss_par {i j : Nat} {x y : Str} {a b : Expr} {n : An} {px py pt pos : Pos} {kt k2 pt2} (hc : X.calm = true) (hN : X.N.Nodup) (hi : X.N[i]? = some x) (hj : X.N[j]? = some y) (hij : i ≠ j)
    (hx : X.env.scope.names.lookup x = some .local) (hy : X.env.scope.names.lookup y = some .local) (ha : SA X [a, b] n)
    (hw : swappedStores [.Tuple [.Name x px, .Name y py] kt pt] (.Tuple [a, b] k2 pt2) X.env = pure (some [x, y]) := by rfl)
    (hs : swapsWithSole [.Tuple [.Name x px, .Name y py] kt pt] (.Tuple [a, b] k2 pt2) pos.line X.env = pure false := by rfl) :
    SS X (.Assign [.Tuple [.Name x px, .Name y py] kt pt] (.Tuple [a, b] k2 pt2) pos) (sPar i j n) :=
  PS.imp (ps_par hc hN hi hj hij hx hy ha hw hs) fun D σ H q => par_sound q
theorem ss_forI {tg iter : Expr} {body : List Stmt} {t : Tg} {n : An} {b : Sn} {pos : Pos} (hp : PassesOwn (model X.prog X.w) X.A X.env X.xe) (hc : X.calm = true) (hi : SI X tg iter n) (hg : SG X tg t) (hb : SB X body b) (hd : dj n.vw (t.slots ++ b.mt) = true := by rfl)
    (hs : ∀ x, foldedSetIterable iter X.env x = pure x := by intro _; rfl) : SS X (.For tg iter body [] pos) (sFor t n b) :=
  ss_for hp hc hi hg hb hd fun _ _ _ h1 h2 h3 => ps_for hp hc h1 h2 h3 hs
end
theorem units1 {k : Nat} {A : Around} (r : Room k A) : A.units + 100 < cLine := by have := r.un; omega
/-- the name of a built-in type -/
theorem pe_bty {X : Cx} {x : Str} {S : String} {q : Pos} (hg : Gl X x) (hm : X.mg x = none) (hv : bootBuiltins x = some (.type S)) (hn : x ≠ "__name__" := by decide) (hdb : (x == ("__debug__" : Str)) = false := by decide) : PE X (.Name x q) (tC (.ty S)) := by
  refine ⟨fun pins s σ H Q I h => ?_⟩
  exact ld_blt I hg hm hv ⟨.ty S, H, I, rfl, h⟩ hn hdb
/-- the law at the script -/
theorem law_sp {K : PySem.W.Frag} {F : Fn} {H : Hp} {a : Addr} {ns : List Int} {E : XK} (hO : Only H) (hS : SqL K H a (ns.map V.int)) (h : ∃ o, F [.scr ns] = some (.bl true, o)) : spOf K [false] F [.ref a] H (fun v _ => v = .bl true) E := by
  obtain ⟨o, h⟩ := h
  refine ⟨fun b => H b ≠ none ∧ b = a, [.scr ns], fun _ => [], .bl true, o, rfl, rfl, ⟨rfl, fun i d e => ?_, fun _ _ => rfl, (fun _ _ _ z => nomatch z), (fun _ => List.nodup_nil), (fun _ _ z => nomatch z), (fun b z => ?_), (fun _ _ _ z => nomatch z)⟩, fun _ _ => rfl, h, fun v H' Fz' fps' fp _ q => rp_bl q.rp⟩
  · match i, e with
    | 0, e =>
      cases e
      refine ⟨.ref a, rfl, ?_⟩
      unfold Rp
      refine ⟨a, rfl, ?_, rfl⟩
      rcases hS with z | z
      · refine .inl ⟨⟨fun e => ?_, rfl⟩, z⟩
        obtain ⟨u, e2⟩ := rd_live z
        rw [e] at e2; cases e2
      · exact .inr z
  · cases e : H b with
    | none => exact (z.1 e).elim
    | some u => exact ⟨u, rfl⟩
end TW

/-! TWO: what a denotation does, backwards (plain: no program in sight). -/
namespace TW

def W {α : Type} (n : Nd α) (S : Stt) (P : α → Stt → Prop) : Prop := ∃ d S', n.run S = some (d, S') ∧ P d S'
def WS (n : Sn) (S : Stt) (N : Stt → Prop) (R : D → Stt → Prop) : Prop := ∃ o, n.run S = some o ∧ match o with
  | .nx S' => N S'
  | .rt d S' => R d S'
def WF (F : Fn) (ds : List D) (P : D → Stt → Prop) : Prop := ∃ d o, F ds = some (d, o) ∧ P d o
theorem W.mono {α : Type} {n : Nd α} {S : Stt} {P Q : α → Stt → Prop} (h : W n S P) (k : ∀ d S', P d S' → Q d S') : W n S Q := let ⟨d, S', e, p⟩ := h; ⟨d, S', e, k d S' p⟩
theorem WF.mono {F : Fn} {ds : List D} {P Q : D → Stt → Prop} (h : WF F ds P) (k : ∀ d o, P d o → Q d o) : WF F ds Q := let ⟨d, S', e, p⟩ := h; ⟨d, S', e, k d S' p⟩
theorem WS.mono {n : Sn} {S : Stt} {N N' : Stt → Prop} {R R' : D → Stt → Prop} (h : WS n S N R) (k : ∀ S', N S' → N' S') (l : ∀ d S', R d S' → R' d S') : WS n S N' R' := by
  obtain ⟨o, e, p⟩ := h
  refine ⟨o, e, ?_⟩
  cases o with
  | nx S' => exact k _ p
  | rt d S' => exact l _ _ p
section
variable {S : Stt} {P : D → Stt → Prop} {Q : List D → Stt → Prop} {T : Bool → Stt → Prop} {N : Stt → Prop} {R : D → Stt → Prop}
theorem w_var {i : Nat} {d : D} (h : S[i]? = some (some d)) (k : P (frz d) S) : W (eVar i) S P := ⟨frz d, S, by
  unfold eVar
  simp only [h], k⟩
theorem w_c {d : D} (k : P d S) : W (eC d) S P := ⟨d, S, rfl, k⟩
theorem w_nil (k : Q [] S) : W aNil S Q := ⟨[], S, rfl, k⟩
theorem w_cons {a : En} {b : An} (h : W a S fun d S1 => W b S1 fun ds S2 => Q (d :: ds) S2) : W (aCons a b) S Q := by
  obtain ⟨d, S1, e1, ds, S2, e2, k⟩ := h
  exact ⟨d :: ds, S2, by show ((a.run S).bind _) = _; rw [e1]; show ((b.run S1).bind _) = _; rw [e2]; rfl, k⟩
theorem w_app {f : List D → Option D} {n : An} (h : W n S fun ds S1 => ∃ d, f (frzs ds) = some d ∧ P d S1) : W (eApp f n) S P := by
  obtain ⟨ds, S1, e1, d, e2, k⟩ := h
  exact ⟨d, S1, by show ((n.run S).bind _) = _; rw [e1]; show ((f (frzs ds)).bind _) = _; rw [e2]; rfl, k⟩
theorem w_appP {f : List D → Option D} {n : An} (h : W n S fun ds S1 => ∃ d, f (frzs ds) = some d ∧ P d S1) : W (eAppP f n) S P := by
  obtain ⟨ds, S1, e1, d, e2, k⟩ := h
  exact ⟨d, S1, by show ((n.run S).bind _) = _; rw [e1]; show ((f (frzs ds)).bind _) = _; rw [e2]; rfl, k⟩
theorem w_app1 {f : List D → Option D} {a : En} (h : W a S fun d S1 => ∃ z, f [frz d] = some z ∧ P z S1) : W (eApp f (a1 a)) S P := w_app (w_cons (h.mono fun _ _ ⟨z, e, k⟩ => w_nil ⟨z, e, k⟩))
theorem w_app1P {f : List D → Option D} {a : En} (h : W a S fun d S1 => ∃ z, f [frz d] = some z ∧ P z S1) : W (eAppP f (a1 a)) S P := w_appP (w_cons (h.mono fun _ _ ⟨z, e, k⟩ => w_nil ⟨z, e, k⟩))
theorem w_app2 {f : List D → Option D} {a b : En} (h : W a S fun d S1 => W b S1 fun d2 S2 => ∃ z, f [frz d, frz d2] = some z ∧ P z S2) : W (eApp f (a2 a b)) S P := w_app (w_cons (h.mono fun _ _ h => w_cons (h.mono fun _ _ ⟨z, e, k⟩ => w_nil ⟨z, e, k⟩)))
theorem w_app2P {f : List D → Option D} {a b : En} (h : W a S fun d S1 => W b S1 fun d2 S2 => ∃ z, f [frz d, frz d2] = some z ∧ P z S2) : W (eAppP f (a2 a b)) S P := w_appP (w_cons (h.mono fun _ _ h => w_cons (h.mono fun _ _ ⟨z, e, k⟩ => w_nil ⟨z, e, k⟩)))
theorem w_val {n : En} (h : W n S fun d S1 => ∃ b, d = .bl b ∧ T b S1) : W (nVal n) S T := by
  obtain ⟨d, S1, e1, b, rfl, k⟩ := h
  exact ⟨b, S1, by show ((n.run S).bind _) = _; rw [e1]; rfl, k⟩
theorem w_not {n : Tn} (h : W n S fun b S1 => T (!b) S1) : W (nNot n) S T := by
  obtain ⟨b, S1, e1, k⟩ := h
  exact ⟨!b, S1, by show ((n.run S).bind _) = _; rw [e1]; rfl, k⟩
theorem w_and {n m : Tn} (h : W n S fun b S1 => if b then W m S1 T else T false S1) : W (nAnd n m) S T := by
  obtain ⟨b, S1, e1, k⟩ := h
  cases b with
  | true =>
    obtain ⟨c, S2, e2, k⟩ := (show W m S1 T from k)
    exact ⟨c, S2, by show ((n.run S).bind _) = _; rw [e1]; exact e2, k⟩
  | false => exact ⟨false, S1, by show ((n.run S).bind _) = _; rw [e1]; rfl, k⟩
theorem w_or {n m : Tn} (h : W n S fun b S1 => if b then T true S1 else W m S1 T) : W (nOr n m) S T := by
  obtain ⟨b, S1, e1, k⟩ := h
  cases b with
  | false =>
    obtain ⟨c, S2, e2, k⟩ := (show W m S1 T from k)
    exact ⟨c, S2, by show ((n.run S).bind _) = _; rw [e1]; exact e2, k⟩
  | true => exact ⟨true, S1, by show ((n.run S).bind _) = _; rw [e1]; rfl, k⟩
theorem w_eAnd {n m : En} (h : W n S fun d S1 => ∃ b, d = .bl b ∧ if b then W m S1 P else P (.bl false) S1) : W (eAnd n m) S P := by
  obtain ⟨d, S1, e1, b, rfl, k⟩ := h
  cases b with
  | true =>
    obtain ⟨c, S2, e2, k⟩ := (show W m S1 P from k)
    exact ⟨c, S2, by show ((n.run S).bind _) = _; rw [e1]; exact e2, k⟩
  | false => exact ⟨_, S1, by show ((n.run S).bind _) = _; rw [e1]; rfl, k⟩
theorem w_eOr {n m : En} (h : W n S fun d S1 => ∃ b, d = .bl b ∧ if b then P (.bl true) S1 else W m S1 P) : W (eOr n m) S P := by
  obtain ⟨d, S1, e1, b, rfl, k⟩ := h
  cases b with
  | false =>
    obtain ⟨c, S2, e2, k⟩ := (show W m S1 P from k)
    exact ⟨c, S2, by show ((n.run S).bind _) = _; rw [e1]; exact e2, k⟩
  | true => exact ⟨_, S1, by show ((n.run S).bind _) = _; rw [e1]; rfl, k⟩
theorem w_eNot {n : En} (h : W n S fun d S1 => ∃ b, d = .bl b ∧ P (.bl (!b)) S1) : W (eNot n) S P := by
  obtain ⟨d, S1, e1, b, rfl, k⟩ := h
  exact ⟨_, S1, by show ((n.run S).bind _) = _; rw [e1]; rfl, k⟩
theorem w_if {c : Tn} {n m : En} (h : W c S fun b S1 => if b then W n S1 P else W m S1 P) : W (eIf c n m) S P := by
  obtain ⟨b, S1, e1, k⟩ := h
  cases b with
  | true =>
    obtain ⟨z, S2, e2, k⟩ := (show W n S1 P from k)
    exact ⟨z, S2, by show ((c.run S).bind _) = _; rw [e1]; exact e2, k⟩
  | false =>
    obtain ⟨z, S2, e2, k⟩ := (show W m S1 P from k)
    exact ⟨z, S2, by show ((c.run S).bind _) = _; rw [e1]; exact e2, k⟩
theorem w_tup {n : An} (h : W n S fun ds S1 => ds.length ≤ 1000 ∧ P (.tup ds) S1) : W (eTup n) S P := by
  obtain ⟨ds, S1, e1, hl, k⟩ := h
  exact ⟨.tup ds, S1, by show ((n.run S).bind _) = _; rw [e1]; show ((if ds.length ≤ 1000 then _ else _ : Option D).bind _) = _; rw [if_pos hl]; rfl, k⟩
theorem w_lst {n : An} (h : W n S fun ds S1 => ds.length ≤ 1000 ∧ P (.lst true ds) S1) : W (eLst n) S P := by
  obtain ⟨ds, S1, e1, hl, k⟩ := h
  exact ⟨.lst true ds, S1, by show ((n.run S).bind _) = _; rw [e1]; show ((if ds.length ≤ 1000 then _ else _ : Option D).bind _) = _; rw [if_pos hl]; rfl, k⟩
/-! calls -/
theorem w_call {F : Fn} {m : Mn} (h : W m.nd S fun xs S1 => ∃ ds, fill m.rf xs S1 = some ds ∧ WF F ds fun d outs => ∃ S2, back m.rf outs S1 = some S2 ∧ P d S2) : W (eCall F m) S P := by
  obtain ⟨xs, S1, e1, ds, e2, d, outs, e3, S2, e4, k⟩ := h
  exact ⟨d, S2, by show ((m.nd.run S).bind _) = _; rw [e1]; show ((fill m.rf xs S1).bind _) = _; rw [e2]; show ((F ds).bind _) = _; rw [e3]; show ((back m.rf outs S1).bind _) = _; rw [e4]; rfl, k⟩
theorem w_mNil (k : Q [] S) : W mNil.nd S Q := ⟨[], S, rfl, k⟩
theorem w_mRef {j : Nat} {m : Mn} {t : D} (h : S[j]? = some (some t)) (k : W m.nd S fun ds S1 => Q (.non :: ds) S1) : W (mRef j m).nd S Q := by
  obtain ⟨ds, S1, e1, k⟩ := k
  exact ⟨_, S1, by
    unfold mRef
    simp only [h, e1]
    rfl, k⟩
theorem w_mVal {n : En} {m : Mn} (h : W n S fun d S1 => W m.nd S1 fun ds S2 => Q (d :: ds) S2) : W (mVal n m).nd S Q := w_cons h
/-! statements -/
theorem s_seq {a b : Sn} (h : WS a S (fun S1 => WS b S1 N R) R) : WS (sSeq a b) S N R := by
  obtain ⟨o, e, k⟩ := h
  cases o with
  | nx S1 =>
    obtain ⟨o2, e2, k⟩ := (show WS b S1 N R from k)
    exact ⟨o2, by show ((a.run S).bind _) = _; rw [e]; exact e2, k⟩
  | rt d S1 => exact ⟨.rt d S1, by show ((a.run S).bind _) = _; rw [e]; rfl, k⟩
theorem s_nil (k : N S) : WS sNil S N R := ⟨.nx S, rfl, k⟩
theorem s_asg {i : Nat} {n : En} (h : W n S fun d S1 => i < S1.length ∧ N ((bindS n.vw d S1).set i (some d))) : WS (sAsg i n) S N R := by
  obtain ⟨d, S1, e, hi, k⟩ := h
  exact ⟨.nx _, by show ((n.run S).bind _) = _; rw [e]; show (if i < S1.length then _ else _) = _; rw [if_pos hi], k⟩
theorem s_ret {n : En} (h : W n S fun d S1 => R d (bindS n.vw d S1)) : WS (sRet n) S N R := by
  obtain ⟨d, S1, e, k⟩ := h
  exact ⟨.rt d _, by show ((n.run S).bind _) = _; rw [e]; rfl, k⟩
theorem s_exp {n : En} (h : W n S fun d S1 => N S1) : WS (sExp n) S N R := by
  obtain ⟨d, S1, e, k⟩ := h
  exact ⟨.nx S1, by show ((n.run S).bind _) = _; rw [e]; rfl, k⟩
theorem s_if {c : Tn} {a b : Sn} (h : W c S fun t S1 => if t then WS a S1 N R else WS b S1 N R) : WS (sIf c a b) S N R := by
  obtain ⟨t, S1, e1, k⟩ := h
  cases t with
  | true =>
    obtain ⟨o, e2, k⟩ := (show WS a S1 N R from k)
    exact ⟨o, by show ((c.run S).bind _) = _; rw [e1]; exact e2, k⟩
  | false =>
    obtain ⟨o, e2, k⟩ := (show WS b S1 N R from k)
    exact ⟨o, by show ((c.run S).bind _) = _; rw [e1]; exact e2, k⟩
theorem s_par {i j : Nat} {n : An} (h : W n S fun ds S1 => ∃ d1 d2, ds = [d1, d2] ∧ (i < S1.length ∧ j < S1.length) ∧ N (((if noFs ds then S1 else frzAt n.vw S1).set i (some d1)).set j (some d2))) : WS (sPar i j n) S N R := by
  obtain ⟨ds, S1, e, d1, d2, rfl, hl, k⟩ := h
  exact ⟨.nx _, by show ((n.run S).bind _) = _; rw [e]; show (if i < S1.length ∧ j < S1.length then _ else _) = _; rw [if_pos hl], k⟩
theorem s_app {i : Nat} {n : En} {ds : List D} (hS : S[i]? = some (some (.lst true ds))) (h : W n S fun d S1 => (okB i n d = true ∧ ds.length < 100000) ∧ N ((bindS n.vw d S1).set i (some (.lst true (ds ++ [d]))))) : WS (sApp i n) S N R := by
  obtain ⟨d, S1, e, hb, k⟩ := h
  exact ⟨.nx _, by
    unfold sApp
    simp only [hS, e]
    show (if okB i n d = true ∧ ds.length < 100000 then _ else _) = _
    rw [if_pos hb], k⟩
theorem popAt_run {S1 : Stt} {i : Nat} {k : Int} {n : En} {ds : List D} (hS : S[i]? = some (some (.lst true ds))) (e : n.run S = some (.int k, S1)) : (ePopAt i n).run S = (if -1000000000 ≤ k ∧ k < 1000000000 then (L2.ixN ds.length k).bind fun j => (ds[j]?).bind fun d => some (d, S1.set i (some (.lst true (ds.eraseIdx j)))) else none) := by
  unfold ePopAt
  simp only [hS, e]
  rfl
theorem ixN_pos {n : Nat} {k : Int} (h : 0 ≤ k) (hk : k.toNat < n) : L2.ixN n k = some k.toNat := by
  unfold L2.ixN
  rw [if_pos h, if_pos (by omega)]
theorem w_popAt {i : Nat} {n : En} {ds : List D} (hS : S[i]? = some (some (.lst true ds))) (h : W n S fun d S1 => ∃ (k : Int) (x : D), d = .int k ∧ 0 ≤ k ∧ k < 1000000000 ∧ ds[k.toNat]? = some x ∧ P x (S1.set i (some (.lst true (ds.eraseIdx k.toNat))))) : W (ePopAt i n) S P := by
  obtain ⟨d, S1, e, k, x, rfl, h0, hk, hj, q⟩ := h
  have hix := ixN_pos h0 (List.getElem?_eq_some_iff.mp hj).1
  refine ⟨x, _, ?_, q⟩
  rw [popAt_run hS e, if_pos ⟨by omega, hk⟩, hix, Option.bind_some, hj, Option.bind_some]
end
/-! loops -/
theorem loop_inv {tg : Tg} {b : Sn} {R : D → Stt → Prop} (I : Nat → Stt → Prop) : ∀ (ds : List D) (k : Nat) (S : Stt), I k S → (∀ i d S, ds[i]? = some d → I (k + i) S → ∃ S1, tgSet tg d S = some S1 ∧ WS b S1 (fun S2 => I (k + i + 1) S2) R) →
    ∃ o, loop tg b ds S = some o ∧ match o with
      | .nx S' => I (k + ds.length) S'
      | .rt d S' => R d S'
  | [], k, S, h0, _ => ⟨.nx S, rfl, h0⟩
  | d :: ds, k, S, h0, hs => by
    obtain ⟨S1, e1, o, e2, p⟩ := hs 0 d S rfl h0
    cases o with
    | rt d' S' => exact ⟨.rt d' S', by show ((tgSet tg d S).bind _) = _; rw [e1]; show ((b.run S1).bind _) = _; rw [e2]; rfl, p⟩
    | nx S2 =>
      obtain ⟨o, e3, q⟩ := loop_inv I ds (k + 1) S2 p fun i d S hi hI => by
        have h := hs (i + 1) d S hi (by rw [show k + (i + 1) = k + 1 + i by omega]; exact hI)
        rw [show k + (i + 1) + 1 = k + 1 + i + 1 by omega] at h
        exact h
      refine ⟨o, by show ((tgSet tg d S).bind _) = _; rw [e1]; show ((b.run S1).bind _) = _; rw [e2]; exact e3, ?_⟩
      cases o with
      | nx S' => rw [show k + 1 + ds.length = k + (d :: ds).length by rw [List.length_cons]; omega] at q; exact q
      | rt d' S' => exact q
theorem s_for {tg : Tg} {n : An} {b : Sn} {S : Stt} {N : Stt → Prop} {R : D → Stt → Prop} (h : W n S fun ds S1 => ∃ I : Nat → Stt → Prop, I 0 (if noFs ds then S1 else frzAt n.vw S1) ∧ (∀ i d S, ds[i]? = some d → I i S → ∃ S1, tgSet tg d S = some S1 ∧ WS b S1 (fun S2 => I (i + 1) S2) R) ∧ ∀ S', I ds.length S' → N S') : WS (sFor tg n b) S N R := by
  obtain ⟨ds, S1, e, I, h0, hs, hn⟩ := h
  obtain ⟨o, e2, p⟩ := loop_inv I ds 0 _ h0 fun i d S hi hI => by
    have h := hs i d S hi (by rw [Nat.zero_add] at hI; exact hI)
    rw [Nat.zero_add]
    exact h
  refine ⟨o, by show ((n.run S).bind _) = _; rw [e]; exact e2, ?_⟩
  cases o with
  | nx S' => rw [Nat.zero_add] at p; exact hn _ p
  | rt d S' => exact p
theorem comp_inv {tg : Tg} {c : Tn} {e : En} (I : Nat → List D → Stt → Prop) : ∀ (ds : List D) (k : Nat) (acc : List D) (S : Stt), I k acc S →
    (∀ i d acc S, ds[i]? = some d → I (k + i) acc S → ∃ S1, tgSet tg d S = some S1 ∧ W c S1 fun b S2 => if b then W e S2 fun v S3 => I (k + i + 1) (acc ++ [frz v]) (wipeS tg.slots S3) else I (k + i + 1) acc (wipeS tg.slots S2)) →
    ∃ rs S', compL tg c e ds S = some (rs, S') ∧ I (k + ds.length) (acc ++ rs) S'
  | [], k, acc, S, h0, _ => ⟨[], S, rfl, by rw [List.append_nil]; exact h0⟩
  | d :: ds, k, acc, S, h0, hs => by
    obtain ⟨S1, e1, b, S2, e2, p⟩ := hs 0 d acc S rfl h0
    have step : ∀ i d acc S, ds[i]? = some d → I (k + 1 + i) acc S → ∃ S1, tgSet tg d S = some S1 ∧ W c S1 fun b S2 => if b then W e S2 fun v S3 => I (k + 1 + i + 1) (acc ++ [frz v]) (wipeS tg.slots S3) else I (k + 1 + i + 1) acc (wipeS tg.slots S2) := fun i d acc S hi hI => by
      have h := hs (i + 1) d acc S hi (by rw [show k + (i + 1) = k + 1 + i by omega]; exact hI)
      rw [show k + (i + 1) + 1 = k + 1 + i + 1 by omega] at h
      exact h
    have en : k + 1 + ds.length = k + (d :: ds).length := by rw [List.length_cons]; omega
    cases b with
    | false =>
      obtain ⟨rs, S', e3, q⟩ := comp_inv I ds (k + 1) acc _ p step
      exact ⟨rs, S', by show ((tgSet tg d S).bind _) = _; rw [e1]; show ((c.run S1).bind _) = _; rw [e2]; exact e3, by rw [← en]; exact q⟩
    | true =>
      obtain ⟨v, S3, e4, p⟩ := (show W e S2 _ from p)
      obtain ⟨rs, S', e3, q⟩ := comp_inv I ds (k + 1) _ _ p step
      refine ⟨frz v :: rs, S', by show ((tgSet tg d S).bind _) = _; rw [e1]; show ((c.run S1).bind _) = _; rw [e2]; show ((e.run S2).bind _) = _; rw [e4]; show ((compL tg c e ds _).bind _) = _; rw [e3]; rfl, ?_⟩
      rw [← en]
      rw [List.append_assoc] at q
      exact q
theorem w_comp {tg : Tg} {n : An} {c : Tn} {e : En} {S : Stt} {P : D → Stt → Prop} (h : W n S fun ds S1 => ds.length ≤ 100000 ∧ ∃ I : Nat → List D → Stt → Prop, I 0 [] (frzAt n.vw (wipeS tg.slots S1)) ∧
      (∀ i d acc S, ds[i]? = some d → I i acc S → ∃ S1, tgSet tg d S = some S1 ∧ W c S1 fun b S2 => if b then W e S2 fun v S3 => I (i + 1) (acc ++ [frz v]) (wipeS tg.slots S3) else I (i + 1) acc (wipeS tg.slots S2)) ∧
      ∀ rs S', I ds.length rs S' → ∃ S2, mergeS (c.mt ++ e.mt) tg.slots S1 S' = some S2 ∧ P (.lst true rs) S2) : W (eComp tg n c e) S P := by
  obtain ⟨ds, S1, e1, hl, I, h0, hs, hn⟩ := h
  obtain ⟨rs, S', e2, q⟩ := comp_inv I ds 0 [] _ h0 fun i d acc S hi hI => by
    have h := hs i d acc S hi (by rw [Nat.zero_add] at hI; exact hI)
    rw [Nat.zero_add]
    exact h
  rw [Nat.zero_add, List.nil_append] at q
  obtain ⟨S2, e3, k⟩ := hn rs S' q
  exact ⟨.lst true rs, S2, by show ((n.run S).bind _) = _; rw [e1]; show (if ds.length ≤ 100000 then _ else _) = _; rw [if_pos hl, e2]; show ((mergeS _ _ _ _).bind _) = _; rw [e3]; rfl, k⟩
/-! stores -/
section
variable {S : Stt} {N : Stt → Prop} {R : D → Stt → Prop}
theorem iteB {c : Bool} {A B : Prop} (h1 : c = true → A) (h2 : c = false → B) : if c = true then A else B := by
  cases c with
  | true => exact h1 rfl
  | false => exact h2 rfl
theorem s_setL {i : Nat} {nk nv : En} (hd : isDctS S[i]? = false) (h : W nv S fun d S1 => ∃ ds, S1[i]? = some (some (.lst true ds)) ∧ W nk S1 fun q S2 => ∃ k j, q = .int k ∧ L2.ixN ds.length k = some j ∧ okB i ⟨nv.vw ++ nk.vw, [], nv.run⟩ d = true ∧ N ((bindS (nv.vw ++ nk.vw) d S2).set i (some (.lst true (ds.set j d))))) : WS (sSet i nk nv) S N R := by
  obtain ⟨d, S1, e1, ds, hS, q, S2, e2, k, j, rfl, hj, hb, kk⟩ := h
  refine ⟨.nx _, ?_, kk⟩
  unfold sSet
  simp only [hd, Bool.false_eq_true, if_false]
  unfold sSetL
  simp only [e1, Option.bind_some, hS, e2, toI, hj, hb, if_true]
theorem s_setD {i : Nat} {nk nv : En} (hd : isDctS S[i]? = true) (h : W nv S fun d S1 => ∃ ks ds, S1[i]? = some (some (.dct true ks ds)) ∧ W nk S1 fun q S2 => ∃ z, putD ks ds q d = some z ∧ (okB i ⟨nv.vw ++ nk.vw, [], nv.run⟩ d = true ∧ ds.length < 100000) ∧ N ((bindS (nv.vw ++ nk.vw) d S2).set i (some (.dct true z.1 z.2)))) : WS (sSet i nk nv) S N R := by
  obtain ⟨d, S1, e1, ks, ds, hS, q, S2, e2, z, hz, hb, kk⟩ := h
  refine ⟨.nx _, ?_, kk⟩
  unfold sSet
  simp only [hd, if_true]
  unfold sSetD
  simp only [e1, Option.bind_some, hS, e2, hz]
  rw [if_pos hb]
theorem s_setNm {i y : Nat} {nk n : En} (h : W n S fun d S1 => ∃ d1 d2 ds, d = .tup [d1, d2] ∧ (plain d1 = true ∧ plain d2 = true) ∧ S1[i]? = some (some (.lst true ds)) ∧ W nk S1 fun q S2 => ∃ k j, q = .int k ∧ L2.ixN ds.length k = some j ∧ y < S2.length ∧ N ((S2.set i (some (.lst true (ds.set j d1)))).set y (some d2))) : WS (sSetNm i nk y n) S N R := by
  obtain ⟨d, S1, e1, d1, d2, ds, rfl, hp, hS, q, S2, e2, k, j, rfl, hj, hy, kk⟩ := h
  refine ⟨.nx _, ?_, kk⟩
  unfold sSetNm
  simp only [e1, Option.bind_some]
  rw [if_pos hp]
  simp only [hS, e2, Option.bind_some, toI, hj]
  rw [if_pos hy]
end
/-! sources -/
section
variable {S : Stt} {Q : List D → Stt → Prop}
theorem w_range {n : En} (h : W n S fun d S1 => ∃ j, d = .int j ∧ (-1000000000 ≤ j ∧ j < 1000000000) ∧ Q (rngD j.toNat) S1) : W (nRange n) S Q := by
  obtain ⟨d, S1, e, j, rfl, hj, k⟩ := h
  refine ⟨_, S1, ?_, k⟩
  unfold nRange
  simp only [e, Option.bind_some]
  rw [if_pos hj, Option.bind_some]
theorem w_iter {n : En} (h : W n S fun d S1 => ∃ ds, itemsD (frz d) = some ds ∧ Q ds S1) : W (nIter n) S Q := by
  obtain ⟨d, S1, e, ds, h2, k⟩ := h
  exact ⟨ds, S1, by show ((n.run S).bind _) = _; rw [e]; show ((itemsD (frz d)).bind _) = _; rw [h2]; rfl, k⟩
theorem w_enum {n : En} (h : W n S fun d S1 => ∃ ds, lstD (frz d) = some ds ∧ Q (enumD ds) S1) : W (nEnum n) S Q := by
  obtain ⟨d, S1, e, ds, h2, k⟩ := h
  exact ⟨_, S1, by show ((n.run S).bind _) = _; rw [e]; show ((lstD (frz d)).bind _) = _; rw [h2]; rfl, k⟩
theorem w_path {g : D → Option (List D)} {i : Nat} {cs : List Int} {t x : D} {ds : List D} (h : S[i]? = some (some t)) (h2 : pathD (frz t) cs = some x) (h3 : g x = some ds) (k : Q ds S) : W (nPath g i cs) S Q := by
  refine ⟨ds, S, ?_, k⟩
  unfold nPath
  simp only [h, h2, Option.bind_some, h3, Option.map_some]
theorem w_yes {T : Bool → Stt → Prop} (k : T true S) : W nYes S T := ⟨true, S, rfl, k⟩
end
theorem rng_at {n i : Nat} {d : D} (h : (rngD n)[i]? = some d) : i < n ∧ d = .int (i : Int) := by
  unfold rngD at h
  rw [List.getElem?_map] at h
  cases e : (List.range n)[i]? with
  | none => rw [e] at h; cases h
  | some j =>
    rw [e] at h
    cases h
    have hl : i < n := by
      have := (List.getElem?_eq_some_iff.mp e).1
      rwa [List.length_range] at this
    rw [List.getElem?_range hl] at e
    cases e
    exact ⟨hl, rfl⟩
theorem rng_len (n : Nat) : (rngD n).length = n := by
  unfold rngD
  rw [List.length_map, List.length_range]
/-- a comprehension whose test and value change nothing -/
theorem comp_pure {tg : Tg} {c : Tn} {e : En} {p : D → Bool} {f : D → D} {S : Stt} : ∀ (ds : List D), (∀ d ∈ ds, ∃ S1, tgSet tg d S = some S1 ∧ c.run S1 = some (p d, S1) ∧ (p d = true → ∃ v, e.run S1 = some (v, S1) ∧ frz v = f d) ∧ wipeS tg.slots S1 = S) → compL tg c e ds S = some ((ds.filter p).map f, S)
  | [], _ => rfl
  | d :: ds, h => by
    obtain ⟨S1, e1, e2, e3, e4⟩ := h d List.mem_cons_self
    have ih := comp_pure ds fun x hx => h x (List.mem_cons_of_mem _ hx)
    show ((tgSet tg d S).bind _) = _
    rw [e1]
    show ((c.run S1).bind _) = _
    rw [e2]
    cases hp : p d with
    | true =>
      obtain ⟨v, e5, e6⟩ := e3 hp
      show ((e.run S1).bind _) = _
      rw [e5]
      show ((compL tg c e ds (wipeS tg.slots S1)).bind _) = _
      rw [e4, ih, List.filter_cons_of_pos hp, List.map_cons, ← e6]
      rfl
    | false =>
      show (compL tg c e ds (wipeS tg.slots S1)) = _
      rw [e4, ih, List.filter_cons_of_neg (by rw [hp]; exact Bool.false_ne_true)]
theorem w_compP {tg : Tg} {n : An} {c : Tn} {e : En} {S : Stt} {P : D → Stt → Prop} (h : W n S fun ds S1 => ds.length ≤ 100000 ∧ ∃ (p : D → Bool) (f : D → D), (∀ d ∈ ds, ∃ S2, tgSet tg d (frzAt n.vw (wipeS tg.slots S1)) = some S2 ∧ c.run S2 = some (p d, S2) ∧ (p d = true → ∃ v, e.run S2 = some (v, S2) ∧ frz v = f d) ∧ wipeS tg.slots S2 = frzAt n.vw (wipeS tg.slots S1)) ∧
      ∃ S3, mergeS (c.mt ++ e.mt) tg.slots S1 (frzAt n.vw (wipeS tg.slots S1)) = some S3 ∧ P (.lst true ((ds.filter p).map f)) S3) : W (eComp tg n c e) S P := by
  obtain ⟨ds, S1, e1, hl, p, f, hs, S3, e3, k⟩ := h
  refine ⟨_, S3, ?_, k⟩
  show ((n.run S).bind _) = _
  rw [e1]
  show (if ds.length ≤ 100000 then _ else _) = _
  rw [if_pos hl, comp_pure ds hs]
  show ((mergeS _ _ _ _).bind _) = _
  rw [e3]
  rfl
theorem noFs_ints (l : List Nat) : noFs (l.map fun (i : Nat) => D.int (i : Int)) = true := by
  induction l with
  | nil => rfl
  | cons x l ih => show (noF (.int (x : Int)) && noFs (l.map fun (i : Nat) => D.int (i : Int))) = true; rw [ih]; rfl
/-- for over range(n) -/
theorem s_forR {tg : Tg} {n : En} {b : Sn} {S : Stt} {N : Stt → Prop} {R : D → Stt → Prop} (h : W n S fun d S1 => ∃ (j : Int) (I : Nat → Stt → Prop), d = .int j ∧ (-1000000000 ≤ j ∧ j < 1000000000) ∧ I 0 S1 ∧ (∀ i S, i < j.toNat → I i S → ∃ S1, tgSet tg (.int (i : Int)) S = some S1 ∧ WS b S1 (fun S2 => I (i + 1) S2) R) ∧ ∀ S', I j.toNat S' → N S') : WS (sFor tg (nRange n) b) S N R := by
  refine s_for (w_range (h.mono fun d S1 h => ?_))
  obtain ⟨j, I, rfl, hj, h0, hs, hn⟩ := h
  refine ⟨j, rfl, hj, I, ?_, fun i d S hd hI => ?_, fun S' h => hn S' (by rw [rng_len] at h; exact h)⟩
  · rw [if_pos (show noFs (rngD j.toNat) = true from noFs_ints _)]
    exact h0
  · obtain ⟨hi, rfl⟩ := rng_at hd
    exact hs i S hi hI
theorem ix0 {o : Bool} {x : D} {xs : List D} : dSub1 [.lst o (x :: xs), .int 0] = some x := by
  show L2.atI (x :: xs) 0 = _
  unfold L2.atI
  rw [ixN_pos (k := 0) (by decide) (by simp)]
  rfl
theorem putG_nd {κ α : Type} [DecidableEq κ] {kk : List κ} {ds : List α} {k : κ} {d : α} (h : kk.Nodup) : putG kk ds k d = if k ∈ kk then some (kk, ds.set (kk.idxOf k) d) else some (kk ++ [k], ds ++ [d]) := by
  unfold putG
  by_cases hm : k ∈ kk
  · rw [if_pos hm, if_pos hm, if_pos (List.nodup_iff_count.mp h k)]
  · rw [if_neg hm, if_neg hm]
/-! functions -/
theorem f_of {io : List Bool} {m : Nat} {b : Sn} {ds : List D} {P : D → Stt → Prop} (hl : ds.length = io.length) (h : WS b (ds.map some ++ List.replicate (m - ds.length) none) (fun S => P .non (mask io S)) fun d S => P d (mask io S)) : WF (fnOf io m b) ds P := by
  obtain ⟨o, e, k⟩ := h
  cases o with
  | nx S => exact ⟨.non, mask io S, by unfold fnOf; rw [if_pos hl, e]; rfl, k⟩
  | rt d S => exact ⟨d, mask io S, by unfold fnOf; rw [if_pos hl, e]; rfl, k⟩
end TW

/-! TWP: how long a shown tree is (plain). -/
namespace TW
open PySem
/-- shown in at most n signs, at most k deep -/
def Sh (d : D) (n k : Nat) : Prop := ∃ p, toQ d = some p ∧ p.showable = true ∧ p.depth ≤ k ∧ p.shown.length ≤ n
def Shs (xs : List D) (n k : Nat) : Prop := ∃ ps, toQs xs = some ps ∧ PyData.showableAll ps = true ∧ PyData.depthAll ps ≤ k ∧ (∀ t ∈ PyData.shownAll ps, t.length ≤ n) ∧ ps.length = xs.length
theorem Sh.int {i : Int} (h : i.natAbs < 1152921504606846976) : Sh (.int i) 61 0 := by
  have hl : i.natAbs.log2 < 60 := by
    rcases Nat.eq_zero_or_pos i.natAbs with z | z
    · rw [z]; decide
    · exact (Nat.log2_lt (by omega)).mpr (by omega)
  refine ⟨.int i, rfl, ?_, Nat.le_refl _, ?_⟩
  · show decide (i.natAbs.log2 < 1920) = true
    exact decide_eq_true (by omega)
  · show (Str.ofString (toString i)).length ≤ 61
    have h2 : (toString i).length ≤ 60 + 1 := int_text_length_le (by decide) hl
    rw [Str.ofString_eq_toList]
    show (((toString i).toList.map Char.toNat).toArray).size ≤ 61
    rw [List.size_toArray, List.length_map]
    exact h2
theorem Sh.str {x : Str} (h : ∀ c ∈ x.cps.toList, c < 4294967296) : Sh (.str x) (10 * x.length + 2) 0 := ⟨.str x, rfl, rfl, Nat.le_refl _, StrLaws.reprText_len x h⟩
theorem Sh.bl {b : Bool} : Sh (.bl b) 5 0 := ⟨.bool b, rfl, rfl, Nat.le_refl _, by cases b <;> decide⟩
theorem Sh.non : Sh .non 4 0 := ⟨.none, rfl, rfl, Nat.le_refl _, by decide⟩
theorem Sh.mono {d : D} {n m k j : Nat} (h : Sh d n k) (hn : n ≤ m) (hk : k ≤ j) : Sh d m j := let ⟨p, a, b, c, e⟩ := h; ⟨p, a, b, by omega, by omega⟩
theorem Shs.of : ∀ {xs : List D} {n k : Nat}, (∀ x ∈ xs, Sh x n k) → Shs xs n k
  | [], n, k, _ => ⟨[], rfl, rfl, Nat.zero_le _, (fun _ z => nomatch z), rfl⟩
  | x :: xs, n, k, h => by
    obtain ⟨p, a, b, c, e⟩ := h x List.mem_cons_self
    obtain ⟨ps, a', b', c', e', l⟩ := Shs.of fun y hy => h y (List.mem_cons_of_mem _ hy)
    refine ⟨p :: ps, ?_, ?_, ?_, ?_, by rw [List.length_cons, List.length_cons, l]⟩
    · show ((toQ x).bind fun p => (toQs xs).map (p :: ·)) = _
      rw [a, a']
      rfl
    · show (p.showable && PyData.showableAll ps) = true
      rw [b, b']
      rfl
    · show max p.depth (PyData.depthAll ps) ≤ k
      exact Nat.max_le.mpr ⟨c, c'⟩
    · intro t ht
      rcases List.mem_cons.mp (show t ∈ p.shown :: PyData.shownAll ps from ht) with z | z
      · rw [z]; exact e
      · exact e' t z
theorem sum_le_of : ∀ {ts : List Str} {n : Nat}, (∀ t ∈ ts, t.length ≤ n) → (ts.map (·.length)).sum ≤ ts.length * n
  | [], n, _ => Nat.zero_le _
  | t :: ts, n, h => by
    have h1 := h t List.mem_cons_self
    have h2 := sum_le_of fun u hu => h u (List.mem_cons_of_mem _ hu)
    rw [List.map_cons, List.sum_cons, List.length_cons, Nat.succ_mul]
    omega
theorem shownAll_len : ∀ ps : List PyData, (PyData.shownAll ps).length = ps.length
  | [] => rfl
  | p :: ps => by
    show (p.shown :: PyData.shownAll ps).length = _
    rw [List.length_cons, shownAll_len ps, List.length_cons]
theorem len_bd {a m n s : Nat} (h1 : s ≤ a * n) (h2 : a ≤ m) : s + 2 * a + 3 ≤ m * (n + 2) + 3 := by
  have := Nat.mul_le_mul_right (n + 2) h2
  rw [Nat.mul_add] at this
  omega
theorem Sh.tup {xs : List D} {n k m : Nat} (h : Shs xs n k) (hm : xs.length ≤ m) : Sh (.tup xs) (m * (n + 2) + 3) (k + 1) := by
  obtain ⟨ps, a, b, c, e, l⟩ := h
  refine ⟨.tuple ps, ?_, b, ?_, ?_⟩
  · show (toQs xs).map PyData.tuple = _
    rw [a]
    rfl
  · show PyData.depthAll ps + 1 ≤ _
    omega
  · show (tupleText (PyData.shownAll ps)).length ≤ _
    refine Nat.le_trans (tupleText_len_le _) (len_bd (sum_le_of e) ?_)
    rw [shownAll_len]
    omega
theorem Sh.lst {o : Bool} {xs : List D} {n k m : Nat} (h : Shs xs n k) (hm : xs.length ≤ m) : Sh (.lst o xs) (m * (n + 2) + 3) (k + 1) := by
  obtain ⟨ps, a, b, c, e, l⟩ := h
  refine ⟨.list ps, ?_, b, ?_, ?_⟩
  · show (toQs xs).map PyData.list = _
    rw [a]
    rfl
  · show PyData.depthAll ps + 1 ≤ _
    omega
  · show (listText (PyData.shownAll ps)).length ≤ _
    refine Nat.le_trans (listText_len_le _) (len_bd (sum_le_of e) ?_)
    rw [shownAll_len]
    omega
/-- keys, as trees -/
theorem toQs_keys : ∀ k : List L2.Key, toQs (k.map keyD) = some (k.map keyQ)
  | [] => rfl
  | x :: k => by
    show ((toQ (keyD x)).bind fun p => (toQs (k.map keyD)).map (p :: ·)) = _
    rw [toQs_keys k]
    cases x <;> rfl
theorem toQs_keysOf : ∀ ks : Kx, toQs (keysOf ks) = some (keysQ ks)
  | .inl kk => toQs_keys kk
  | .inr kk => by
    show toQs (kk.map fun k => D.tup (k.map keyD)) = some (kk.map fun k => PyData.tuple (k.map keyQ))
    induction kk with
    | nil => rfl
    | cons k kk ih =>
      show ((toQ (.tup (k.map keyD))).bind fun p => (toQs (kk.map fun k => D.tup (k.map keyD))).map (p :: ·)) = _
      rw [ih]
      show (((toQs (k.map keyD)).map PyData.tuple).bind _) = _
      rw [toQs_keys]
      rfl
theorem kv_bd : ∀ {kps ps : List PyData} {n m k j : Nat}, PyData.showableAll kps = true → PyData.showableAll ps = true → PyData.depthAll kps ≤ k → PyData.depthAll ps ≤ k → (∀ t ∈ PyData.shownAll kps, t.length ≤ n) → (∀ t ∈ PyData.shownAll ps, t.length ≤ m) →
    PyData.showableKv (kps.zip ps) = true ∧ PyData.depthKv (kps.zip ps) ≤ k ∧ ∀ t ∈ PyData.shownKv (kps.zip ps), t.length ≤ n + 2 + m
  | [], ps, _, _, _, _, _, _, _, _, _, _ => ⟨rfl, Nat.zero_le _, fun _ z => nomatch z⟩
  | p :: kps, [], _, _, _, _, _, _, _, _, _, _ => ⟨rfl, Nat.zero_le _, fun _ z => nomatch z⟩
  | p :: kps, q :: ps, n, m, k, j, h1, h2, h3, h4, h5, h6 => by
    have h1 : p.showable = true ∧ PyData.showableAll kps = true := by simpa [PyData.showableAll] using h1
    have h2 : q.showable = true ∧ PyData.showableAll ps = true := by simpa [PyData.showableAll] using h2
    have h3 : p.depth ≤ k ∧ PyData.depthAll kps ≤ k := Nat.max_le.mp h3
    have h4 : q.depth ≤ k ∧ PyData.depthAll ps ≤ k := Nat.max_le.mp h4
    have h5 : ∀ t ∈ p.shown :: PyData.shownAll kps, t.length ≤ n := h5
    have h6 : ∀ t ∈ q.shown :: PyData.shownAll ps, t.length ≤ m := h6
    obtain ⟨a, b, c⟩ := kv_bd (j := j) h1.2 h2.2 h3.2 h4.2 (fun t ht => h5 t (List.mem_cons_of_mem _ ht)) fun t ht => h6 t (List.mem_cons_of_mem _ ht)
    refine ⟨?_, ?_, ?_⟩
    · show (p.showable && q.showable && PyData.showableKv (kps.zip ps)) = true
      rw [h1.1, h2.1, a]
      rfl
    · show max (max p.depth q.depth) (PyData.depthKv (kps.zip ps)) ≤ k
      exact Nat.max_le.mpr ⟨Nat.max_le.mpr ⟨h3.1, h4.1⟩, b⟩
    · intro t ht
      rcases List.mem_cons.mp (show t ∈ (p.shown ++ ": " ++ q.shown) :: PyData.shownKv (kps.zip ps) from ht) with z | z
      · have e1 := h5 _ List.mem_cons_self
        have e2 := h6 _ List.mem_cons_self
        rw [z, strLen_append, strLen_append]
        show p.shown.length + 2 + q.shown.length ≤ _
        omega
      · exact c t z
theorem Sh.dct {o : Bool} {ks : Kx} {vs : List D} {n m k c : Nat} (h1 : Shs (keysOf ks) n k) (h2 : Shs vs m k) (hm : vs.length ≤ c) : Sh (.dct o ks vs) (c * (n + 2 + m + 2) + 3) (k + 1) := by
  obtain ⟨kps, a, b, c1, e, l⟩ := h1
  obtain ⟨ps, a', b', c', e', l'⟩ := h2
  rw [toQs_keysOf] at a
  cases a
  obtain ⟨q1, q2, q3⟩ := kv_bd (j := 0) b b' c1 c' e e'
  refine ⟨.dict ((keysQ ks).zip ps), ?_, q1, ?_, ?_⟩
  · show ((toQs vs).map fun ps => PyData.dict ((keysQ ks).zip ps)) = _
    rw [a']
    rfl
  · show PyData.depthKv _ + 1 ≤ _
    omega
  · show (dictText (PyData.shownKv _)).length ≤ _
    refine Nat.le_trans (dictText_len_le _) (len_bd (sum_le_of q3) ?_)
    rw [PyData.shownKv_length, List.length_zip]
    have := Nat.min_le_right (keysQ ks).length ps.length
    omega
theorem Shs.mono {d : List D} {n m k j : Nat} (h : Shs d n k) (hn : n ≤ m) (hk : k ≤ j) : Shs d m j := let ⟨p, a, b, c, e, f⟩ := h; ⟨p, a, b, by omega, fun t ht => Nat.le_trans (e t ht) hn, f⟩
/-- repr of a tuple without lists in it -/
theorem repr_ok {xs : List D} {n k : Nat} (h : Sh (.tup xs) n k) (hl : hasLs xs = false) (hn : n ≤ 10000000) (hk : k ≤ 64) : ∃ z, dRepr [.tup xs] = some (.str z) := by
  obtain ⟨p, a, b, c, e⟩ := h
  refine ⟨p.shown, ?_⟩
  show ((toQ (.tup xs)).bind fun p => if showOk (hasL (.tup xs)) p = true then some (D.str p.shown) else none) = _
  rw [a, Option.bind_some, if_pos]
  unfold showOk
  rw [show hasL (.tup xs) = hasLs xs from rfl, hl, b, decide_eq_true (show p.depth ≤ 64 by omega), decide_eq_true (show p.shown.length ≤ 10000000 by omega)]
  cases p.hasDict <;> rfl
end TW


namespace Law
open PySem PySem.Spec PyProof.Rows L2 TW
def top (i : Nat) : Stmt := PySem.Challenge.pw_endways_k81_ways_worth.main.body.getD i (.Pass ⟨0, 0, 0, 0⟩)
abbrev FnP (K : PySem.W.Frag) (x : Str) (st : Stmt) (f : Addr) (fd : FuncData) : Prop := FunD K x x (defArgs st) (defBody st) (defScope st) [] [] f fd
structure Al (K : PySem.W.Frag) (mg : Str → Option Value) : Prop where
  d__law_at : ∃ f fd, FnP K "_law_at" (top 4) f fd ∧ mg "_law_at" = some (.ref f)
  d__law_pot : ∃ f fd, FnP K "_law_pot" (top 5) f fd ∧ mg "_law_pot" = some (.ref f)
  d__law_take : ∃ f fd, FnP K "_law_take" (top 6) f fd ∧ mg "_law_take" = some (.ref f)
  d__law_drawn : ∃ f fd, FnP K "_law_drawn" (top 7) f fd ∧ mg "_law_drawn" = some (.ref f)
  d__law_names : ∃ f fd, FnP K "_law_names" (top 8) f fd ∧ mg "_law_names" = some (.ref f)
  d__law_prices : ∃ f fd, FnP K "_law_prices" (top 9) f fd ∧ mg "_law_prices" = some (.ref f)
  d__law_way : ∃ f fd, FnP K "_law_way" (top 11) f fd ∧ mg "_law_way" = some (.ref f)
  d_is_served : ∃ f fd, FnP K "is_served" (top 1) f fd ∧ mg "is_served" = some (.ref f)
  d_worth : ∃ f fd, FnP K "worth" (top 2) f fd ∧ mg "worth" = some (.ref f)
  d__law_told : ∃ f fd, FnP K "_law_told" (top 12) f fd ∧ mg "_law_told" = some (.ref f)
  d__law_due : ∃ f fd, FnP K "_law_due" (top 10) f fd ∧ mg "_law_due" = some (.ref f)
  d_law : ∃ f fd, FnP K "law" (top 13) f fd ∧ mg "law" = some (.ref f)
  b_len : mg "len" = none
  b_max : mg "max" = none
  b_divmod : mg "divmod" = none
  b_range : mg "range" = none
  b_enumerate : mg "enumerate" = none
  b_tuple : mg "tuple" = none
  b_list : mg "list" = none
  b_min : mg "min" = none
  b_sum : mg "sum" = none
  b_isinstance : mg "isinstance" = none
  b_int : mg "int" = none
  b_bool : mg "bool" = none
  b_sorted : mg "sorted" = none
  b_repr : mg "repr" = none
section
variable {P : Program} {w : World} {K : PySem.W.Frag} {mg : Str → Option Value} {base : Heap} {f : Addr} {fd : FuncData}
def b__law_at : Sn := sRet (eIf (nVal (eAppP dLt (a2 (eVar 1) (eAppP dLen (a1 (eVar 0)))))) (eApp dSub1 (a2 (eVar 0) (eVar 1))) (eC (.int 0)))
def F__law_at : Fn := fnOf [false, false] 2 b__law_at
theorem ok__law_at (al : Al K mg) (F : FnP K "_law_at" (top 4) f fd) : FnOk P w K mg base CX0 1 f fd ["_law_script", "_law_k"] (spOf K [false, false] F__law_at) := by
  have sc : FnScope ["_law_script", "_law_k"] ["_law_script", "_law_k"] (defScope (top 4)) := ⟨rfl, rfl, rfl, by decide +kernel, rfl, by decide +kernel, by decide +kernel⟩
  refine fn_ok (k := 0) F sc rfl (by decide) fun cdv A outer s H E hr => ?_
  have hu := hr.units
  have hu1 := units1 hr
  exact sb_one (ss_ret (se_if (st_lt  (se_var 1 (pv 1)) (se_len  rfl al.b_len (se_var 0 (pv 0)))) (se_sub1 hu (se_var 0 (pv 0)) (se_var 1 (pv 1)) (fun _ _ => rfl) (fun _ _ => rfl)) (se_c pe_int rfl)))
def b__law_pot : Sn := sSeq (sAsg 2 (eCall F__law_at (mVal (eVar 0) (mVal (eVar 1) (mNil))))) (sRet (eLst (aCons (eAppP dMax (aCons (eC (.int 0)) (aCons (eAppP dSub (a2 (eVar 2) (eAppP dPow (a2 (eC (.int 10)) (eC (.int 18)))))) (aNil)))) (aCons (eAppP dMod (a2 (eApp dAdd (a2 (eAppP dMod (a2 (eVar 2) (eC (.int 2147483629)))) (eAppP dMul (a2 (eC (.int 48271)) (eApp dAdd (a2 (eVar 1) (eC (.int 1)))))))) (eC (.int 2147483629)))) (aNil)))))
def F__law_pot : Fn := fnOf [false, false] 3 b__law_pot
theorem ok__law_pot (al : Al K mg) (F : FnP K "_law_pot" (top 5) f fd) : FnOk P w K mg base CX0 2 f fd ["_law_script", "_law_k"] (spOf K [false, false] F__law_pot) := by
  obtain ⟨f__law_at, fd__law_at, D__law_at, g__law_at⟩ := al.d__law_at
  have G__law_at := ok__law_at (P := P) (w := w) (base := base) al D__law_at
  have b__law_at : Binds K fd__law_at ["_law_script", "_law_k"] [] := D__law_at.bindsN fun _ _ _ _ _ _ us hl => match us, hl with | [_, _], _ => rfl
  have sc : FnScope ["_law_script", "_law_k", "_law_cell"] ["_law_script", "_law_k"] (defScope (top 5)) := ⟨rfl, rfl, rfl, by decide +kernel, rfl, by decide +kernel, by decide +kernel⟩
  refine fn_ok (k := 1) F sc rfl (by decide) fun cdv A outer s H E hr => ?_
  have hu := hr.units
  have hu1 := units1 hr
  exact sb_cons (ss_set (i := 2) sc.nd rfl (by first | exact Or.inl rfl | exact Or.inr rfl) (se_call G__law_at (hr.mono (by decide)) rfl g__law_at D__law_at.kp b__law_at (sm_val (se_var 0 (pv 0)) (sm_val (se_var 1 (pv 1)) (sm_nil))))) 
      (sb_one (ss_ret (se_lst (sa_cons (se_max rfl rfl al.b_max (sa_cons (se_c pe_int rfl) (sa_cons (se_sub (se_var 2 (pv 2)) (se_pow (se_c pe_int rfl) (se_c pe_int rfl))) (sa_nil)))) (sa_cons (se_mod (se_add (se_mod (se_var 2 (pv 2)) (se_c pe_int rfl)) (se_mul (se_c pe_int rfl) (se_add (se_var 1 (pv 1)) (se_c pe_int rfl)))) (se_c pe_int rfl)) (sa_nil))))))
def b__law_take : Sn := sSeq (sIf (nVal (eAppP dGt (a2 (eApp dSub1 (a2 (eVar 0) (eC (.int 0)))) (eC (.int 0))))) (sSeq (sSetNm 0 (eC (.int 0)) 2 (eApp dDivmod (aCons (eApp dSub1 (a2 (eVar 0) (eC (.int 0)))) (aCons (eVar 1) (aNil))))) (sRet (eVar 2))) (sNil)) (sSeq (sSet 0 (eC (.int 1)) (eAppP dMod (a2 (eApp dAdd (a2 (eAppP dMul (a2 (eApp dSub1 (a2 (eVar 0) (eC (.int 1)))) (eC (.int 39373)))) (eC (.int 7919)))) (eC (.int 2147483629))))) (sRet (eAppP dMod (a2 (eAppP dFdiv (a2 (eAppP dMod (a2 (eAppP dMul (a2 (eApp dSub1 (a2 (eVar 0) (eC (.int 1)))) (eApp dSub1 (a2 (eVar 0) (eC (.int 1)))))) (eC (.int 2147483563)))) (eC (.int 11)))) (eVar 1)))))
def F__law_take : Fn := fnOf [true, false] 3 b__law_take
theorem ok__law_take (al : Al K mg) (F : FnP K "_law_take" (top 6) f fd) : FnOk P w K mg base CX0 1 f fd ["_law_pot_here", "_law_total"] (spOf K [true, false] F__law_take) := by
  have sc : FnScope ["_law_pot_here", "_law_total", "_law_digit"] ["_law_pot_here", "_law_total"] (defScope (top 6)) := ⟨rfl, rfl, rfl, by decide +kernel, rfl, by decide +kernel, by decide +kernel⟩
  refine fn_ok (k := 0) F sc rfl (by decide) fun cdv A outer s H E hr => ?_
  have hu := hr.units
  have hu1 := units1 hr
  exact sb_cons (ss_if (st_gt  (se_sub1 hu (se_var 0 (pv 0)) (se_c pe_int rfl) (fun _ _ => rfl) (fun _ _ => rfl)) (se_c pe_int rfl)) (sb_cons (ss_setNm rfl (pv 0) (se_c pe_int rfl) (pg_name (i := 2) sc.nd rfl (by first | exact Or.inl rfl | exact Or.inr rfl)) (se_divmod  rfl al.b_divmod (sa_cons (se_sub1 hu (se_var 0 (pv 0)) (se_c pe_int rfl) (fun _ _ => rfl) (fun _ _ => rfl)) (sa_cons (se_var 1 (pv 1)) (sa_nil)))) (hT := pg_tup rfl (pgs_cons (pg_sub (pv 0) (se_c pe_int rfl) set_list) (pgs_cons (pg_name (i := 2) sc.nd rfl (by first | exact Or.inl rfl | exact Or.inr rfl)) pgs_nil)))) 
      (sb_one (ss_ret (se_var 2 (pv 2))))) (sb_nil)) 
      (sb_cons (ss_setSub hu (pv 0) (se_c pe_int rfl) (se_mod (se_add (se_mul (se_sub1 hu (se_var 0 (pv 0)) (se_c pe_int rfl) (fun _ _ => rfl) (fun _ _ => rfl)) (se_c pe_int rfl)) (se_c pe_int rfl)) (se_c pe_int rfl))) 
      (sb_one (ss_ret (se_mod (se_fdiv (se_mod (se_mul (se_sub1 hu (se_var 0 (pv 0)) (se_c pe_int rfl) (fun _ _ => rfl) (fun _ _ => rfl)) (se_sub1 hu (se_var 0 (pv 0)) (se_c pe_int rfl) (fun _ _ => rfl) (fun _ _ => rfl))) (se_c pe_int rfl)) (se_c pe_int rfl)) (se_var 1 (pv 1))))))
def b__law_drawn : Sn := sRet (eApp dSub1 (a2 (eVar 1) (eCall F__law_take (mRef 0 (mVal (eAppP dLen (a1 (eVar 1))) (mNil))))))
def F__law_drawn : Fn := fnOf [true, false] 2 b__law_drawn
theorem ok__law_drawn (al : Al K mg) (F : FnP K "_law_drawn" (top 7) f fd) : FnOk P w K mg base CX0 2 f fd ["_law_pot_here", "_law_some"] (spOf K [true, false] F__law_drawn) := by
  obtain ⟨f__law_take, fd__law_take, D__law_take, g__law_take⟩ := al.d__law_take
  have G__law_take := ok__law_take (P := P) (w := w) (base := base) al D__law_take
  have b__law_take : Binds K fd__law_take ["_law_pot_here", "_law_total"] [] := D__law_take.bindsN fun _ _ _ _ _ _ us hl => match us, hl with | [_, _], _ => rfl
  have sc : FnScope ["_law_pot_here", "_law_some"] ["_law_pot_here", "_law_some"] (defScope (top 7)) := ⟨rfl, rfl, rfl, by decide +kernel, rfl, by decide +kernel, by decide +kernel⟩
  refine fn_ok (k := 1) F sc rfl (by decide) fun cdv A outer s H E hr => ?_
  have hu := hr.units
  have hu1 := units1 hr
  exact sb_one (ss_ret (se_sub1 hu (se_var 1 (pv 1)) (se_call G__law_take (hr.mono (by decide)) rfl g__law_take D__law_take.kp b__law_take (sm_ref (pv 0) (sm_val (se_len  rfl al.b_len (se_var 1 (pv 1))) (sm_nil)))) (fun _ _ => rfl) (fun _ _ => rfl)))
def b__law_names : Sn := sSeq (sAsg 2 (eC (.str "abcdefghijklmnopqrstuvwxyz"))) (sSeq (sAsg 3 (eLst (aNil))) (sSeq (sFor (.nm 4) (nRange (eVar 1)) (sSeq (sAsg 5 (eApp dAdd (a2 (eC (.int 1)) (eAppP dMul (a2 (eCall F__law_take (mRef 0 (mVal (eC (.int 2)) (mNil)))) (eCall F__law_take (mRef 0 (mVal (eC (.int 8)) (mNil))))))))) (sSeq (sAsg 6 (eAppP dJoin (a2 (eC (.str "")) (eComp (.nm 7) (nRange (eVar 5)) (nYes) (eCall F__law_drawn (mRef 0 (mVal (eVar 2) (mNil)))))))) (sSeq (sIf (nVal (eAppP dInA (a2 (eVar 6) (eVar 3)))) (sAsg 6 (eApp dSub1 (a2 (eComp (.nm 8) (nPath anyG 2 []) (nVal (eAppP dNotInA (a2 (eApp dAdd (a2 (eApp dSl01 (a2 (eVar 6) (eC (.int 7)))) (eVar 8))) (eVar 3)))) (eApp dAdd (a2 (eApp dSl01 (a2 (eVar 6) (eC (.int 7)))) (eVar 8)))) (eC (.int 0))))) (sNil)) (sApp 3 (eVar 6)))))) (sRet (eVar 3))))
def F__law_names : Fn := fnOf [true, false] 9 b__law_names
theorem ok__law_names (al : Al K mg) (F : FnP K "_law_names" (top 8) f fd) : FnOk P w K mg base CX0 3 f fd ["_law_pot_here", "_law_total"] (spOf K [true, false] F__law_names) := by
  obtain ⟨f__law_take, fd__law_take, D__law_take, g__law_take⟩ := al.d__law_take
  have G__law_take := ok__law_take (P := P) (w := w) (base := base) al D__law_take
  have b__law_take : Binds K fd__law_take ["_law_pot_here", "_law_total"] [] := D__law_take.bindsN fun _ _ _ _ _ _ us hl => match us, hl with | [_, _], _ => rfl
  obtain ⟨f__law_drawn, fd__law_drawn, D__law_drawn, g__law_drawn⟩ := al.d__law_drawn
  have G__law_drawn := ok__law_drawn (P := P) (w := w) (base := base) al D__law_drawn
  have b__law_drawn : Binds K fd__law_drawn ["_law_pot_here", "_law_some"] [] := D__law_drawn.bindsN fun _ _ _ _ _ _ us hl => match us, hl with | [_, _], _ => rfl
  have sc : FnScope ["_law_pot_here", "_law_total", "_law_letters", "_law_found", "_law_k", "_law_long", "_law_name", "_law_j", "_law_letter"] ["_law_pot_here", "_law_total"] (defScope (top 8)) := ⟨rfl, rfl, rfl, by decide +kernel, rfl, by decide +kernel, by decide +kernel⟩
  refine fn_ok (k := 2) F sc rfl (by decide) fun cdv A outer s H E hr => ?_
  have hu := hr.units
  have hu1 := units1 hr
  exact sb_cons (ss_set (i := 2) sc.nd rfl (by first | exact Or.inl rfl | exact Or.inr rfl) (se_c pe_str rfl)) 
      (sb_cons (ss_set (i := 3) sc.nd rfl (by first | exact Or.inl rfl | exact Or.inr rfl) (se_lst (sa_nil))) 
      (sb_cons (ss_forI PassesOwn.never rfl (si_range rfl al.b_range (se_var 1 (pv 1))) (pg_name (i := 4) sc.nd rfl (by first | exact Or.inl rfl | exact Or.inr rfl)) (sb_cons (ss_set (i := 5) sc.nd rfl (by first | exact Or.inl rfl | exact Or.inr rfl) (se_add (se_c pe_int rfl) (se_mul (se_call G__law_take (hr.mono (by decide)) rfl g__law_take D__law_take.kp b__law_take (sm_ref (pv 0) (sm_val (se_c pe_int rfl) (sm_nil)))) (se_call G__law_take (hr.mono (by decide)) rfl g__law_take D__law_take.kp b__law_take (sm_ref (pv 0) (sm_val (se_c pe_int rfl) (sm_nil))))))) 
      (sb_cons (ss_set (i := 6) sc.nd rfl (by first | exact Or.inl rfl | exact Or.inr rfl) (se_join (se_c pe_str rfl) (se_comp rfl sc.nd (si_range rfl al.b_range (se_var 5 (pv 5))) (blkOk_by (own := [("_law_j", 7)]) (by rfl)) (fun _ _ _ _ _ => pg_name (i := 7) sc.nd rfl (by first | exact Or.inl rfl | exact Or.inr rfl)) (fun _ _ _ _ _ => sts_nil) (fun _ _ _ _ _ => se_call G__law_drawn (hr.mono (by decide)) rfl g__law_drawn D__law_drawn.kp b__law_drawn (sm_ref (pv 0) (sm_val (se_var 2 (pv 2)) (sm_nil))))))) 
      (sb_cons (ss_if (st_inA hu (se_var 6 (pv 6)) (se_var 3 (pv 3))) (sb_one (ss_set (i := 6) sc.nd rfl (by first | exact Or.inl rfl | exact Or.inr rfl) (se_sub1 hu (se_compP rfl sc.nd (pi_pany (pth_var (pv 2))) (blkOk_by (own := [("_law_letter", 8)]) (by rfl)) (fun _ _ _ _ _ => pg_name (i := 8) sc.nd rfl (by first | exact Or.inl rfl | exact Or.inr rfl)) (fun _ _ _ _ _ => sts_one (st_notInA hu (se_add (se_sl01 (se_var 6 (pv 6)) (se_c pe_int rfl)) (se_var 8 (pv 8))) (se_var 3 (pv 3)))) (fun _ _ _ _ _ => se_add (se_sl01 (se_var 6 (pv 6)) (se_c pe_int rfl)) (se_var 8 (pv 8)))) (se_c pe_int rfl) (fun _ _ => rfl) (fun _ _ => rfl)))) (sb_nil)) 
      (sb_one (ss_append (pv 3) (se_var 6 (pv 6)))))))) 
      (sb_one (ss_ret (se_var 3 (pv 3))))))
def b__law_prices : Sn := sSeq (sAsg 2 (eDnew true)) (sSeq (sFor (.nm 3) (nRange (eCall F__law_take (mRef 0 (mVal (eC (.int 9)) (mNil))))) (sSeq (sAsg 4 (eApp dAdd (a2 (eC (.int 1)) (eCall F__law_take (mRef 0 (mVal (eAppP dSub (a2 (eAppP dShl (a2 (eC (.int 1)) (eAppP dLen (a1 (eVar 1))))) (eC (.int 2)))) (mNil))))))) (sSeq (sAsg 5 (eApp dTup (a1 (eComp (.tp [6, 7]) (nEnum (eVar 1)) (nVal (eAppP dEq (a2 (eAppP dAnd (a2 (eAppP dShr (a2 (eVar 4) (eVar 6))) (eC (.int 1)))) (eC (.int 1))))) (eVar 7))))) (sSet 2 (eVar 5) (eCall F__law_drawn (mRef 0 (mVal (eLst (aCons (eC (.int 0)) (aCons (eC (.int 1)) (aCons (eCall F__law_take (mRef 0 (mVal (eC (.int 9)) (mNil)))) (aCons (eCall F__law_take (mRef 0 (mVal (eApp dAdd (a2 (eAppP dPow (a2 (eC (.int 10)) (eC (.int 12)))) (eC (.int 1)))) (mNil)))) (aNil)))))) (mNil)))))))) (sRet (eVar 2)))
def F__law_prices : Fn := fnOf [true, false] 8 b__law_prices
theorem ok__law_prices (al : Al K mg) (F : FnP K "_law_prices" (top 9) f fd) : FnOk P w K mg base CX0 3 f fd ["_law_pot_here", "_law_ends"] (spOf K [true, false] F__law_prices) := by
  obtain ⟨f__law_take, fd__law_take, D__law_take, g__law_take⟩ := al.d__law_take
  have G__law_take := ok__law_take (P := P) (w := w) (base := base) al D__law_take
  have b__law_take : Binds K fd__law_take ["_law_pot_here", "_law_total"] [] := D__law_take.bindsN fun _ _ _ _ _ _ us hl => match us, hl with | [_, _], _ => rfl
  obtain ⟨f__law_drawn, fd__law_drawn, D__law_drawn, g__law_drawn⟩ := al.d__law_drawn
  have G__law_drawn := ok__law_drawn (P := P) (w := w) (base := base) al D__law_drawn
  have b__law_drawn : Binds K fd__law_drawn ["_law_pot_here", "_law_some"] [] := D__law_drawn.bindsN fun _ _ _ _ _ _ us hl => match us, hl with | [_, _], _ => rfl
  have sc : FnScope ["_law_pot_here", "_law_ends", "_law_found", "_law_k", "_law_bits", "_law_lot", "_law_j", "_law_name"] ["_law_pot_here", "_law_ends"] (defScope (top 9)) := ⟨rfl, rfl, rfl, by decide +kernel, rfl, by decide +kernel, by decide +kernel⟩
  refine fn_ok (k := 2) F sc rfl (by decide) fun cdv A outer s H E hr => ?_
  have hu := hr.units
  have hu1 := units1 hr
  exact sb_cons (ss_set (i := 2) sc.nd rfl (by first | exact Or.inl rfl | exact Or.inr rfl) (se_dnewT)) 
      (sb_cons (ss_forI PassesOwn.never rfl (si_range rfl al.b_range (se_call G__law_take (hr.mono (by decide)) rfl g__law_take D__law_take.kp b__law_take (sm_ref (pv 0) (sm_val (se_c pe_int rfl) (sm_nil))))) (pg_name (i := 3) sc.nd rfl (by first | exact Or.inl rfl | exact Or.inr rfl)) (sb_cons (ss_set (i := 4) sc.nd rfl (by first | exact Or.inl rfl | exact Or.inr rfl) (se_add (se_c pe_int rfl) (se_call G__law_take (hr.mono (by decide)) rfl g__law_take D__law_take.kp b__law_take (sm_ref (pv 0) (sm_val (se_sub (se_shl (se_c pe_int rfl) (se_len  rfl al.b_len (se_var 1 (pv 1)))) (se_c pe_int rfl)) (sm_nil)))))) 
      (sb_cons (ss_set (i := 5) sc.nd rfl (by first | exact Or.inl rfl | exact Or.inr rfl) (se_tuple  rfl al.b_tuple (se_comp rfl sc.nd (si_enum rfl al.b_enumerate (se_var 1 (pv 1))) (blkOk_by (own := [("_law_j", 6), ("_law_name", 7)]) (by rfl)) (fun _ _ _ _ _ => pg_tup rfl (pgs_cons (pg_name (i := 6) sc.nd rfl (by first | exact Or.inl rfl | exact Or.inr rfl)) (pgs_cons (pg_name (i := 7) sc.nd rfl (by first | exact Or.inl rfl | exact Or.inr rfl)) (pgs_nil)))) (fun _ _ _ _ _ => sts_one (st_eq hu (se_band (se_shr (se_var 4 (pv 4)) (se_var 6 (pv 6))) (se_c pe_int rfl)) (se_c pe_int rfl))) (fun _ _ _ _ _ => se_var 7 (pv 7))))) 
      (sb_one (ss_setSub hu (pv 2) (se_var 5 (pv 5)) (se_call G__law_drawn (hr.mono (by decide)) rfl g__law_drawn D__law_drawn.kp b__law_drawn (sm_ref (pv 0) (sm_val (se_lst (sa_cons (se_c pe_int rfl) (sa_cons (se_c pe_int rfl) (sa_cons (se_call G__law_take (hr.mono (by decide)) rfl g__law_take D__law_take.kp b__law_take (sm_ref (pv 0) (sm_val (se_c pe_int rfl) (sm_nil)))) (sa_cons (se_call G__law_take (hr.mono (by decide)) rfl g__law_take D__law_take.kp b__law_take (sm_ref (pv 0) (sm_val (se_add (se_pow (se_c pe_int rfl) (se_c pe_int rfl)) (se_c pe_int rfl)) (sm_nil)))) (sa_nil)))))) (sm_nil))))))))) 
      (sb_one (ss_ret (se_var 2 (pv 2)))))
def b__law_way : Sn := sSeq (sAsg 3 (eApp dList (a1 (eVar 1)))) (sSeq (sAsg 4 (ePopAt 3 (eCall F__law_take (mRef 0 (mVal (eAppP dLen (a1 (eVar 3))) (mNil)))))) (sSeq (sAsg 5 (eCall F__law_drawn (mRef 0 (mVal (eVar 3) (mNil))))) (sSeq (sAsg 6 (eApp dList (a1 (eVar 2)))) (sSeq (sAsg 7 (eLst (aNil))) (sSeq (sFor (.nm 8) (nRange (eCall F__law_take (mRef 0 (mVal (eApp dAdd (a2 (eAppP dLen (a1 (eVar 2))) (eC (.int 1)))) (mNil))))) (sApp 7 (ePopAt 6 (eCall F__law_take (mRef 0 (mVal (eAppP dLen (a1 (eVar 6))) (mNil))))))) (sRet (eApp dTup (a1 (eApp dAdd (a2 (eApp dAdd (a2 (eLst (aCons (eAppP dMin (aCons (eVar 4) (aCons (eVar 5) (aNil)))) (aNil))) (eVar 7))) (eLst (aCons (eAppP dMax (aCons (eVar 4) (aCons (eVar 5) (aNil)))) (aNil)))))))))))))
def F__law_way : Fn := fnOf [true, false, false] 9 b__law_way
theorem ok__law_way (al : Al K mg) (F : FnP K "_law_way" (top 11) f fd) : FnOk P w K mg base CX0 3 f fd ["_law_pot_here", "_law_ends", "_law_middles"] (spOf K [true, false, false] F__law_way) := by
  obtain ⟨f__law_drawn, fd__law_drawn, D__law_drawn, g__law_drawn⟩ := al.d__law_drawn
  have G__law_drawn := ok__law_drawn (P := P) (w := w) (base := base) al D__law_drawn
  have b__law_drawn : Binds K fd__law_drawn ["_law_pot_here", "_law_some"] [] := D__law_drawn.bindsN fun _ _ _ _ _ _ us hl => match us, hl with | [_, _], _ => rfl
  obtain ⟨f__law_take, fd__law_take, D__law_take, g__law_take⟩ := al.d__law_take
  have G__law_take := ok__law_take (P := P) (w := w) (base := base) al D__law_take
  have b__law_take : Binds K fd__law_take ["_law_pot_here", "_law_total"] [] := D__law_take.bindsN fun _ _ _ _ _ _ us hl => match us, hl with | [_, _], _ => rfl
  have sc : FnScope ["_law_pot_here", "_law_ends", "_law_middles", "_law_left", "_law_one", "_law_other", "_law_rest", "_law_passed", "_law_k"] ["_law_pot_here", "_law_ends", "_law_middles"] (defScope (top 11)) := ⟨rfl, rfl, rfl, by decide +kernel, rfl, by decide +kernel, by decide +kernel⟩
  refine fn_ok (k := 2) F sc rfl (by decide) fun cdv A outer s H E hr => ?_
  have hu := hr.units
  have hu1 := units1 hr
  exact sb_cons (ss_set (i := 3) sc.nd rfl (by first | exact Or.inl rfl | exact Or.inr rfl) (se_list  rfl al.b_list (se_var 1 (pv 1)))) 
      (sb_cons (ss_set (i := 4) sc.nd rfl (by first | exact Or.inl rfl | exact Or.inr rfl) (se_popAt (pv 3) (se_call G__law_take (hr.mono (by decide)) rfl g__law_take D__law_take.kp b__law_take (sm_ref (pv 0) (sm_val (se_len  rfl al.b_len (se_var 3 (pv 3))) (sm_nil)))))) 
      (sb_cons (ss_set (i := 5) sc.nd rfl (by first | exact Or.inl rfl | exact Or.inr rfl) (se_call G__law_drawn (hr.mono (by decide)) rfl g__law_drawn D__law_drawn.kp b__law_drawn (sm_ref (pv 0) (sm_val (se_var 3 (pv 3)) (sm_nil))))) 
      (sb_cons (ss_set (i := 6) sc.nd rfl (by first | exact Or.inl rfl | exact Or.inr rfl) (se_list  rfl al.b_list (se_var 2 (pv 2)))) 
      (sb_cons (ss_set (i := 7) sc.nd rfl (by first | exact Or.inl rfl | exact Or.inr rfl) (se_lst (sa_nil))) 
      (sb_cons (ss_forI PassesOwn.never rfl (si_range rfl al.b_range (se_call G__law_take (hr.mono (by decide)) rfl g__law_take D__law_take.kp b__law_take (sm_ref (pv 0) (sm_val (se_add (se_len  rfl al.b_len (se_var 2 (pv 2))) (se_c pe_int rfl)) (sm_nil))))) (pg_name (i := 8) sc.nd rfl (by first | exact Or.inl rfl | exact Or.inr rfl)) (sb_one (ss_append (pv 7) (se_popAt (pv 6) (se_call G__law_take (hr.mono (by decide)) rfl g__law_take D__law_take.kp b__law_take (sm_ref (pv 0) (sm_val (se_len  rfl al.b_len (se_var 6 (pv 6))) (sm_nil)))))))) 
      (sb_one (ss_ret (se_tuple  rfl al.b_tuple (se_add (se_add (se_lst (sa_cons (se_min rfl rfl al.b_min (sa_cons (se_var 4 (pv 4)) (sa_cons (se_var 5 (pv 5)) (sa_nil)))) (sa_nil))) (se_var 7 (pv 7))) (se_lst (sa_cons (se_max rfl rfl al.b_max (sa_cons (se_var 4 (pv 4)) (sa_cons (se_var 5 (pv 5)) (sa_nil)))) (sa_nil))))))))))))
def b_is_served : Sn := sRet (eAppP dNe (a2 (eAppP dInA (a2 (eApp dSub1 (a2 (eVar 1) (eC (.int 0)))) (eVar 0))) (eAppP dInA (a2 (eApp dSub1 (a2 (eVar 1) (eAppP dNeg (a1 (eC (.int 1)))))) (eVar 0)))))
def F_is_served : Fn := fnOf [false, false] 2 b_is_served
theorem ok_is_served (al : Al K mg) (F : FnP K "is_served" (top 1) f fd) : FnOk P w K mg base CX0 1 f fd ["crowd", "way"] (spOf K [false, false] F_is_served) := by
  have sc : FnScope ["crowd", "way"] ["crowd", "way"] (defScope (top 1)) := ⟨rfl, rfl, rfl, by decide +kernel, rfl, by decide +kernel, by decide +kernel⟩
  refine fn_ok (k := 0) F sc rfl (by decide) fun cdv A outer s H E hr => ?_
  have hu := hr.units
  have hu1 := units1 hr
  exact sb_one (ss_ret (se_ne hu (se_inA hu (se_sub1 hu (se_var 1 (pv 1)) (se_c pe_int rfl) (fun _ _ => rfl) (fun _ _ => rfl)) (se_var 0 (pv 0))) (se_inA hu (se_sub1 hu (se_var 1 (pv 1)) (se_neg (se_c pe_int rfl)) (fun _ _ => rfl) (fun _ _ => rfl)) (se_var 0 (pv 0)))))
def b_worth : Sn := sRet (eAppP dSum (a1 (eComp (.tp [2, 3]) (nPath itemsG 0 []) (nVal (eCall F_is_served (mVal (eVar 2) (mVal (eVar 1) (mNil))))) (eVar 3))))
def F_worth : Fn := fnOf [false, false] 4 b_worth
theorem ok_worth (al : Al K mg) (F : FnP K "worth" (top 2) f fd) : FnOk P w K mg base CX0 2 f fd ["prices", "way"] (spOf K [false, false] F_worth) := by
  obtain ⟨f_is_served, fd_is_served, D_is_served, g_is_served⟩ := al.d_is_served
  have G_is_served := ok_is_served (P := P) (w := w) (base := base) al D_is_served
  have b_is_served : Binds K fd_is_served ["crowd", "way"] [] := D_is_served.bindsN fun _ _ _ _ _ _ us hl => match us, hl with | [_, _], _ => rfl
  have sc : FnScope ["prices", "way", "crowd", "price"] ["prices", "way"] (defScope (top 2)) := ⟨rfl, rfl, rfl, by decide +kernel, rfl, by decide +kernel, by decide +kernel⟩
  refine fn_ok (k := 1) F sc rfl (by decide) fun cdv A outer s H E hr => ?_
  have hu := hr.units
  have hu1 := units1 hr
  exact sb_one (ss_ret (se_sum rfl rfl al.b_sum (se_compP rfl sc.nd (pi_pitems (pth_var (pv 0))) (blkOk_by (own := [("crowd", 2), ("price", 3)]) (by rfl)) (fun _ _ _ _ _ => pg_tup rfl (pgs_cons (pg_name (i := 2) sc.nd rfl (by first | exact Or.inl rfl | exact Or.inr rfl)) (pgs_cons (pg_name (i := 3) sc.nd rfl (by first | exact Or.inl rfl | exact Or.inr rfl)) (pgs_nil)))) (fun _ _ _ _ _ => sts_one (st_val (se_call G_is_served (hr.mono (by decide)) rfl g_is_served D_is_served.kp b_is_served (sm_val (se_var 2 (pv 2)) (sm_val (se_var 1 (pv 1)) (sm_nil)))))) (fun _ _ _ _ _ => se_var 3 (pv 3)))))
def b__law_told : Sn := sSeq (sAsg 3 (eCall F_worth (mVal (eVar 0) (mVal (eVar 1) (mNil))))) (sRet (eAnd (eAppP (dIsi "int") (a1 (eVar 3))) (eAnd (eNot (eAppP (dIsi "bool") (a1 (eVar 3)))) (eAppP dEq (a2 (eVar 3) (eVar 2))))))
def F__law_told : Fn := fnOf [false, false, false] 4 b__law_told
theorem ok__law_told (al : Al K mg) (F : FnP K "_law_told" (top 12) f fd) : FnOk P w K mg base CX0 3 f fd ["_law_prices_here", "_law_way_here", "_law_due_here"] (spOf K [false, false, false] F__law_told) := by
  obtain ⟨f_worth, fd_worth, D_worth, g_worth⟩ := al.d_worth
  have G_worth := ok_worth (P := P) (w := w) (base := base) al D_worth
  have b_worth : Binds K fd_worth ["prices", "way"] [] := D_worth.bindsN fun _ _ _ _ _ _ us hl => match us, hl with | [_, _], _ => rfl
  have sc : FnScope ["_law_prices_here", "_law_way_here", "_law_due_here", "_law_found"] ["_law_prices_here", "_law_way_here", "_law_due_here"] (defScope (top 12)) := ⟨rfl, rfl, rfl, by decide +kernel, rfl, by decide +kernel, by decide +kernel⟩
  refine fn_ok (k := 2) F sc rfl (by decide) fun cdv A outer s H E hr => ?_
  have hu := hr.units
  have hu1 := units1 hr
  exact sb_cons (ss_set (i := 3) sc.nd rfl (by first | exact Or.inl rfl | exact Or.inr rfl) (se_call G_worth (hr.mono (by decide)) rfl g_worth D_worth.kp b_worth (sm_val (se_var 0 (pv 0)) (sm_val (se_var 1 (pv 1)) (sm_nil))))) 
      (sb_one (ss_ret (se_and (se_isi (S := "int") rfl al.b_isinstance (se_var 3 (pv 3)) (pe_bty rfl al.b_int (by rfl))) (se_and (se_not (se_isi (S := "bool") rfl al.b_isinstance (se_var 3 (pv 3)) (pe_bty rfl al.b_bool (by rfl)))) (se_one (se_eq hu (se_var 3 (pv 3)) (se_var 2 (pv 2))))))))
def b__law_due : Sn := sSeq (sAsg 2 (eC (.int 0))) (sSeq (sFor (.nm 3) (nPath anyG 0 []) (sIf (nVal (eAppP dEq (a2 (eAppP dCount (a2 (eLst (aCons (eAppP dInA (a2 (eApp dSub1 (a2 (eVar 1) (eC (.int 0)))) (eVar 3))) (aCons (eAppP dInA (a2 (eApp dSub1 (a2 (eVar 1) (eAppP dNeg (a1 (eC (.int 1)))))) (eVar 3))) (aNil)))) (eC (.bl true)))) (eC (.int 1))))) (sAsg 2 (eApp dAdd (a2 (eVar 2) (eApp dSub1 (a2 (eVar 0) (eVar 3)))))) (sNil))) (sRet (eVar 2)))
def F__law_due : Fn := fnOf [false, false] 4 b__law_due
theorem ok__law_due (al : Al K mg) (F : FnP K "_law_due" (top 10) f fd) : FnOk P w K mg base CX0 1 f fd ["_law_prices_here", "_law_way_here"] (spOf K [false, false] F__law_due) := by
  have sc : FnScope ["_law_prices_here", "_law_way_here", "_law_found", "_law_lot"] ["_law_prices_here", "_law_way_here"] (defScope (top 10)) := ⟨rfl, rfl, rfl, by decide +kernel, rfl, by decide +kernel, by decide +kernel⟩
  refine fn_ok (k := 0) F sc rfl (by decide) fun cdv A outer s H E hr => ?_
  have hu := hr.units
  have hu1 := units1 hr
  exact sb_cons (ss_set (i := 2) sc.nd rfl (by first | exact Or.inl rfl | exact Or.inr rfl) (se_c pe_int rfl)) 
      (sb_cons (ss_forP PassesOwn.never rfl (pi_pany (pth_var (pv 0))) (pg_name (i := 3) sc.nd rfl (by first | exact Or.inl rfl | exact Or.inr rfl)) (sb_one (ss_if (st_eq hu (se_count hu1 (se_lst (sa_cons (se_inA hu (se_sub1 hu (se_var 1 (pv 1)) (se_c pe_int rfl) (fun _ _ => rfl) (fun _ _ => rfl)) (se_var 3 (pv 3))) (sa_cons (se_inA hu (se_sub1 hu (se_var 1 (pv 1)) (se_neg (se_c pe_int rfl)) (fun _ _ => rfl) (fun _ _ => rfl)) (se_var 3 (pv 3))) (sa_nil)))) (se_c pe_bl rfl)) (se_c pe_int rfl)) (sb_one (ss_set (i := 2) sc.nd rfl (by first | exact Or.inl rfl | exact Or.inr rfl) (se_add (se_var 2 (pv 2)) (se_sub1 hu (se_var 0 (pv 0)) (se_var 3 (pv 3)) (fun _ _ => rfl) (fun _ _ => rfl))))) (sb_nil)))) 
      (sb_one (ss_ret (se_var 2 (pv 2)))))
def b_law : Sn := sSeq (sFor (.nm 1) (nRange (eAppP dMax (aCons (eC (.int 1)) (aCons (eAppP dMin (aCons (eAppP dLen (a1 (eVar 0))) (aCons (eC (.int 10)) (aNil)))) (aNil))))) (sSeq (sAsg 2 (eCall F__law_pot (mVal (eVar 0) (mVal (eVar 1) (mNil))))) (sSeq (sAsg 3 (eApp dAdd (a2 (eC (.int 2)) (eCall F__law_take (mRef 2 (mVal (eC (.int 5)) (mNil))))))) (sSeq (sAsg 4 (eCall F__law_names (mRef 2 (mVal (eApp dAdd (a2 (eVar 3) (eCall F__law_take (mRef 2 (mVal (eC (.int 5)) (mNil)))))) (mNil))))) (sSeq (sPar 5 6 (aCons (eApp dSort (a1 (eApp dSl01 (a2 (eVar 4) (eVar 3))))) (aCons (eApp dSl10 (a2 (eVar 4) (eVar 3))) (aNil)))) (sSeq (sPar 7 8 (aCons (eCall F__law_prices (mRef 2 (mVal (eVar 5) (mNil)))) (aCons (eCall F__law_prices (mRef 2 (mVal (eVar 5) (mNil)))) (aNil)))) (sSeq (sAsg 9 (eAppP dRepr (a1 (eTup (aCons (eVar 7) (aCons (eVar 8) (aNil))))))) (sSeq (sFor (.nm 10) (nRange (eApp dAdd (a2 (eC (.int 1)) (eCall F__law_take (mRef 2 (mVal (eC (.int 6)) (mNil))))))) (sSeq (sAsg 11 (eCall F__law_way (mRef 2 (mVal (eVar 5) (mVal (eVar 6) (mNil)))))) (sFor (.nm 12) (nIter (eTup (aCons (eVar 7) (aCons (eVar 8) (aCons (eVar 7) (aCons (eDnew true) (aNil))))))) (sIf (nNot (nVal (eCall F__law_told (mVal (eVar 12) (mVal (eVar 11) (mVal (eCall F__law_due (mVal (eVar 12) (mVal (eVar 11) (mNil)))) (mNil))))))) (sRet (eC (.bl false))) (sNil))))) (sIf (nVal (eAppP dNe (a2 (eAppP dRepr (a1 (eTup (aCons (eVar 7) (aCons (eVar 8) (aNil)))))) (eVar 9)))) (sRet (eC (.bl false))) (sNil)))))))))) (sRet (eC (.bl true)))
def F_law : Fn := fnOf [false] 13 b_law
theorem ok_law (al : Al K mg) (F : FnP K "law" (top 13) f fd) : FnG P w K mg base CX0 4 f fd ["_law_script"] (spOf K [false] F_law) := by
  obtain ⟨f__law_pot, fd__law_pot, D__law_pot, g__law_pot⟩ := al.d__law_pot
  have G__law_pot := ok__law_pot (P := P) (w := w) (base := base) al D__law_pot
  have b__law_pot : Binds K fd__law_pot ["_law_script", "_law_k"] [] := D__law_pot.bindsN fun _ _ _ _ _ _ us hl => match us, hl with | [_, _], _ => rfl
  obtain ⟨f__law_names, fd__law_names, D__law_names, g__law_names⟩ := al.d__law_names
  have G__law_names := ok__law_names (P := P) (w := w) (base := base) al D__law_names
  have b__law_names : Binds K fd__law_names ["_law_pot_here", "_law_total"] [] := D__law_names.bindsN fun _ _ _ _ _ _ us hl => match us, hl with | [_, _], _ => rfl
  obtain ⟨f__law_take, fd__law_take, D__law_take, g__law_take⟩ := al.d__law_take
  have G__law_take := ok__law_take (P := P) (w := w) (base := base) al D__law_take
  have b__law_take : Binds K fd__law_take ["_law_pot_here", "_law_total"] [] := D__law_take.bindsN fun _ _ _ _ _ _ us hl => match us, hl with | [_, _], _ => rfl
  obtain ⟨f__law_prices, fd__law_prices, D__law_prices, g__law_prices⟩ := al.d__law_prices
  have G__law_prices := ok__law_prices (P := P) (w := w) (base := base) al D__law_prices
  have b__law_prices : Binds K fd__law_prices ["_law_pot_here", "_law_ends"] [] := D__law_prices.bindsN fun _ _ _ _ _ _ us hl => match us, hl with | [_, _], _ => rfl
  obtain ⟨f__law_way, fd__law_way, D__law_way, g__law_way⟩ := al.d__law_way
  have G__law_way := ok__law_way (P := P) (w := w) (base := base) al D__law_way
  have b__law_way : Binds K fd__law_way ["_law_pot_here", "_law_ends", "_law_middles"] [] := D__law_way.bindsN fun _ _ _ _ _ _ us hl => match us, hl with | [_, _, _], _ => rfl
  obtain ⟨f__law_told, fd__law_told, D__law_told, g__law_told⟩ := al.d__law_told
  have G__law_told := ok__law_told (P := P) (w := w) (base := base) al D__law_told
  have b__law_told : Binds K fd__law_told ["_law_prices_here", "_law_way_here", "_law_due_here"] [] := D__law_told.bindsN fun _ _ _ _ _ _ us hl => match us, hl with | [_, _, _], _ => rfl
  obtain ⟨f__law_due, fd__law_due, D__law_due, g__law_due⟩ := al.d__law_due
  have G__law_due := ok__law_due (P := P) (w := w) (base := base) al D__law_due
  have b__law_due : Binds K fd__law_due ["_law_prices_here", "_law_way_here"] [] := D__law_due.bindsN fun _ _ _ _ _ _ us hl => match us, hl with | [_, _], _ => rfl
  have sc : FnScope ["_law_script", "_law_k", "_law_pot_here", "_law_total", "_law_names_here", "_law_ends", "_law_middles", "_law_prices_here", "_law_besides", "_law_kept", "_law_turn", "_law_way_here", "_law_some"] ["_law_script"] (defScope (top 13)) := ⟨rfl, rfl, rfl, by decide +kernel, rfl, by decide +kernel, by decide +kernel⟩
  refine fnG_ok (k := 3) F sc rfl (by decide) fun cdv A outer s H E hr hgs => ?_
  have hu := hr.units
  have hu1 := units1 hr
  exact sb_cons (ss_forI PassesOwn.never rfl (si_range rfl al.b_range (se_max rfl rfl al.b_max (sa_cons (se_c pe_int rfl) (sa_cons (se_min rfl rfl al.b_min (sa_cons (se_len  rfl al.b_len (se_var 0 (pv 0))) (sa_cons (se_c pe_int rfl) (sa_nil)))) (sa_nil))))) (pg_name (i := 1) sc.nd rfl (by first | exact Or.inl rfl | exact Or.inr rfl)) (sb_cons (ss_set (i := 2) sc.nd rfl (by first | exact Or.inl rfl | exact Or.inr rfl) (se_call G__law_pot (hr.mono (by decide)) rfl g__law_pot D__law_pot.kp b__law_pot (sm_val (se_var 0 (pv 0)) (sm_val (se_var 1 (pv 1)) (sm_nil))))) 
      (sb_cons (ss_set (i := 3) sc.nd rfl (by first | exact Or.inl rfl | exact Or.inr rfl) (se_add (se_c pe_int rfl) (se_call G__law_take (hr.mono (by decide)) rfl g__law_take D__law_take.kp b__law_take (sm_ref (pv 2) (sm_val (se_c pe_int rfl) (sm_nil)))))) 
      (sb_cons (ss_set (i := 4) sc.nd rfl (by first | exact Or.inl rfl | exact Or.inr rfl) (se_call G__law_names (hr.mono (by decide)) rfl g__law_names D__law_names.kp b__law_names (sm_ref (pv 2) (sm_val (se_add (se_var 3 (pv 3)) (se_call G__law_take (hr.mono (by decide)) rfl g__law_take D__law_take.kp b__law_take (sm_ref (pv 2) (sm_val (se_c pe_int rfl) (sm_nil))))) (sm_nil))))) 
      (sb_cons (ss_par (i := 5) (j := 6) rfl sc.nd rfl rfl (by decide) rfl rfl (sa_cons (se_sorted hu1 rfl al.b_sorted (se_sl01 (se_var 4 (pv 4)) (se_var 3 (pv 3)))) (sa_cons (se_sl10 (se_var 4 (pv 4)) (se_var 3 (pv 3))) (sa_nil)))) 
      (sb_cons (ss_par (i := 7) (j := 8) rfl sc.nd rfl rfl (by decide) rfl rfl (sa_cons (se_call G__law_prices (hr.mono (by decide)) rfl g__law_prices D__law_prices.kp b__law_prices (sm_ref (pv 2) (sm_val (se_var 5 (pv 5)) (sm_nil)))) (sa_cons (se_call G__law_prices (hr.mono (by decide)) rfl g__law_prices D__law_prices.kp b__law_prices (sm_ref (pv 2) (sm_val (se_var 5 (pv 5)) (sm_nil)))) (sa_nil)))) 
      (sb_cons (ss_set (i := 9) sc.nd rfl (by first | exact Or.inl rfl | exact Or.inr rfl) (se_repr hgs hu1 rfl al.b_repr (se_tup (sa_cons (se_var 7 (pv 7)) (sa_cons (se_var 8 (pv 8)) (sa_nil)))))) 
      (sb_cons (ss_forI PassesOwn.never rfl (si_range rfl al.b_range (se_add (se_c pe_int rfl) (se_call G__law_take (hr.mono (by decide)) rfl g__law_take D__law_take.kp b__law_take (sm_ref (pv 2) (sm_val (se_c pe_int rfl) (sm_nil)))))) (pg_name (i := 10) sc.nd rfl (by first | exact Or.inl rfl | exact Or.inr rfl)) (sb_cons (ss_set (i := 11) sc.nd rfl (by first | exact Or.inl rfl | exact Or.inr rfl) (se_call G__law_way (hr.mono (by decide)) rfl g__law_way D__law_way.kp b__law_way (sm_ref (pv 2) (sm_val (se_var 5 (pv 5)) (sm_val (se_var 6 (pv 6)) (sm_nil)))))) 
      (sb_one (ss_forI PassesOwn.never rfl (si_iter (se_tup (sa_cons (se_var 7 (pv 7)) (sa_cons (se_var 8 (pv 8)) (sa_cons (se_var 7 (pv 7)) (sa_cons (se_dnewT) (sa_nil))))))) (pg_name (i := 12) sc.nd rfl (by first | exact Or.inl rfl | exact Or.inr rfl)) (sb_one (ss_if (st_not (st_val (se_call G__law_told (hr.mono (by decide)) rfl g__law_told D__law_told.kp b__law_told (sm_val (se_var 12 (pv 12)) (sm_val (se_var 11 (pv 11)) (sm_val (se_call G__law_due (hr.mono (by decide)) rfl g__law_due D__law_due.kp b__law_due (sm_val (se_var 12 (pv 12)) (sm_val (se_var 11 (pv 11)) (sm_nil)))) (sm_nil))))))) (sb_one (ss_ret (se_c pe_bl rfl))) (sb_nil))))))) 
      (sb_one (ss_if (st_ne hu (se_repr hgs hu1 rfl al.b_repr (se_tup (sa_cons (se_var 7 (pv 7)) (sa_cons (se_var 8 (pv 8)) (sa_nil))))) (se_var 9 (pv 9))) (sb_one (ss_ret (se_c pe_bl rfl))) (sb_nil))))))))))) 
      (sb_one (ss_ret (se_c pe_bl rfl)))
end
end Law
namespace Law
open TW
/-- a pot -/
def potD (a b : Int) : D := .lst true [.int a, .int b]
def PotOk (a b : Int) : Prop := 0 ≤ a ∧ 0 ≤ b ∧ b < 2147483629
theorem log_ok {i n : Int} (h : 0 < n) (h2 : n < 36893488147419103232) : cDiv i n = true := by
  unfold cDiv
  rw [Bool.and_eq_true_iff]
  refine ⟨decide_eq_true h, decide_eq_true ?_⟩
  have h3 : n.natAbs.log2 < 65 := (Nat.log2_lt (by omega)).mpr (by omega)
  omega
theorem dI2_ok {C : Int → Int → Bool} {g : Int → Int → Int} {a b : Int} (h : C a b = true) : dI2 C g [.int a, .int b] = some (.int (g a b)) := by
  show (if C a b = true then _ else _) = _
  rw [if_pos h]
theorem mul_ok {a b : Int} (h : b.natAbs < 18446744073709551616) : cMul a b = true := by
  unfold cMul
  rw [Bool.or_eq_true_iff]
  exact .inr (decide_eq_true h)
theorem pos_ok {a b : Int} (h : 0 < b) : cPos a b = true := decide_eq_true h
theorem take_spec {a b n : Int} (hp : PotOk a b) (hn : 0 < n) (hn2 : n < 36893488147419103232) : WF F__law_take [potD a b, .int n] fun d o => ∃ r a' b', d = .int r ∧ (0 ≤ r ∧ r < n) ∧ PotOk a' b' ∧ o = [some (potD a' b'), none] := by
  have hd : cDiv a n = true := log_ok hn hn2
  obtain ⟨ha, hb, hb2⟩ := hp
  refine f_of rfl ?_
  unfold b__law_take
  refine s_seq (s_if (w_val (w_app2P (w_app2 (w_var rfl (w_c ⟨.int a, rfl, ?_⟩))))))
  refine w_c ⟨_, rfl, _, rfl, iteB (fun hpos => ?_) fun hpos => ?_⟩
  · refine s_seq (s_setNm (w_app (w_cons (w_app2 (w_var rfl (w_c ⟨.int a, rfl, ?_⟩))))))
    refine w_cons (w_var rfl (w_nil ⟨.tup [.int (a / n), .int (a % n)], ?_, ?_⟩))
    · show (if cDiv a n = true then _ else _) = _
      rw [if_pos hd]
    · refine ⟨_, _, [.int a, .int b], rfl, ⟨rfl, rfl⟩, rfl, w_c ⟨0, 0, rfl, rfl, (show (2 : Nat) < 3 by decide), ?_⟩⟩
      refine s_ret (w_var rfl ?_)
      exact ⟨a % n, a / n, b, rfl, ⟨Int.emod_nonneg _ (by omega), Int.emod_lt_of_pos _ hn⟩, ⟨Int.ediv_nonneg ha (by omega), hb, hb2⟩, rfl⟩
  · have hz : a = 0 := by have := of_decide_eq_false hpos; omega
    refine s_nil (s_seq (s_setL rfl (w_app2P (w_app2 (w_app2P (w_app2 (w_var rfl (w_c ⟨.int b, rfl, ?_⟩))))))))
    refine w_c ⟨.int (b * 39373), dI2_ok (mul_ok (by decide)), w_c ⟨.int (b * 39373 + 7919), rfl, ?_⟩⟩
    refine w_c ⟨.int ((b * 39373 + 7919) % 2147483629), dI2_ok rfl, [.int a, .int b], rfl, w_c ⟨1, 1, rfl, rfl, rfl, ?_⟩⟩
    have h1 : 0 ≤ (b * 39373 + 7919) % 2147483629 := Int.emod_nonneg _ (by omega)
    have h2 : (b * 39373 + 7919) % 2147483629 < 2147483629 := Int.emod_lt_of_pos _ (by omega)
    generalize (b * 39373 + 7919) % 2147483629 = c at h1 h2
    refine s_ret (w_app2P (w_app2P (w_app2P (w_app2P (w_app2 (w_var rfl (w_c ⟨.int c, rfl, ?_⟩)))))))
    refine w_app2 (w_var rfl (w_c ⟨.int c, rfl, .int (c * c), dI2_ok (mul_ok (by omega)), ?_⟩))
    refine w_c ⟨.int (c * c % 2147483563), dI2_ok rfl, w_c ⟨.int (c * c % 2147483563 / 11), dI2_ok (log_ok (by omega) (by omega)), ?_⟩⟩
    refine w_var rfl ⟨.int (c * c % 2147483563 / 11 % n), dI2_ok (pos_ok hn), ?_⟩
    exact ⟨c * c % 2147483563 / 11 % n, a, c, rfl, ⟨Int.emod_nonneg _ (by omega), Int.emod_lt_of_pos _ hn⟩, ⟨ha, h1, h2⟩, rfl⟩
theorem w_takeE {e : En} {j : Nat} {S : Stt} {P : D → Stt → Prop} {t : D} (hS : S[j]? = some (some t)) (h : W e S fun d S1 => ∃ n a b, d = .int n ∧ S1[j]? = some (some (potD a b)) ∧ PotOk a b ∧ 0 < n ∧ n < 36893488147419103232 ∧ ∀ r a' b', 0 ≤ r → r < n → PotOk a' b' → P (.int r) (S1.set j (some (potD a' b')))) :
    W (eCall F__law_take (mRef j (mVal e mNil))) S P := by
  refine w_call (w_mRef hS (w_mVal (h.mono fun d S1 h => ?_)))
  obtain ⟨n, a, b, rfl, h1, h2, h3, h4, k⟩ := h
  refine w_mNil ⟨[potD a b, .int n], ?_, (take_spec h2 h3 h4).mono fun d o h => ?_⟩
  · show (match S1[j]? with
      | some (some t) => (fill [none] [.int n] S1).map (t :: ·)
      | _ => none) = _
    rw [h1]
    rfl
  · obtain ⟨r, a', b', rfl, ⟨q1, q2⟩, q3, rfl⟩ := h
    exact ⟨_, rfl, k r a' b' q1 q2 q3⟩
theorem w_take {n : Int} {j : Nat} {S : Stt} {P : D → Stt → Prop} {a b : Int} (hS : S[j]? = some (some (potD a b))) (hp : PotOk a b) (hn : 0 < n) (hn2 : n < 36893488147419103232) (k : ∀ r a' b', 0 ≤ r → r < n → PotOk a' b' → P (.int r) (S.set j (some (potD a' b')))) :
    W (eCall F__law_take (mRef j (mVal (eC (.int n)) mNil))) S P := w_takeE hS (w_c ⟨n, a, b, rfl, hS, hp, hn, hn2, k⟩)
theorem at_spec {ns : List Int} {k : Int} (hk : 0 ≤ k) : WF F__law_at [.scr ns, .int k] fun d o => ∃ v, d = .int v ∧ o = [none, none] := by
  refine f_of rfl ?_
  unfold b__law_at
  refine s_ret (w_if (w_val (w_app2P (w_var rfl (w_app1P (w_var rfl ⟨.int (ns.length : Int), rfl, .bl (decide (k < (ns.length : Int))), rfl, _, rfl, iteB (fun h => ?_) fun h => ?_⟩))))))
  · have h := of_decide_eq_true h
    have hl : k.toNat < ns.length := by omega
    refine w_app2 (w_var rfl (w_var rfl ⟨.int ns[k.toNat], ?_, ns[k.toNat], rfl, rfl⟩))
    show (L2.atI ns k).map D.int = _
    unfold L2.atI
    rw [ixN_pos hk hl, Option.bind_some, List.getElem?_eq_getElem hl]
    rfl
  · exact w_c ⟨0, rfl, rfl⟩
theorem pot_spec {ns : List Int} {k : Int} (hk : 0 ≤ k) (hk2 : k < 1000) : WF F__law_pot [.scr ns, .int k] fun d o => ∃ a b, d = potD a b ∧ PotOk a b ∧ o = [none, none] := by
  refine f_of rfl ?_
  unfold b__law_pot
  refine s_seq (s_asg (w_call (w_mVal (w_var rfl (w_mVal (w_var rfl (w_mNil ⟨[.scr ns, .int k], rfl, (at_spec hk).mono fun d o h => ?_⟩)))))))
  obtain ⟨v, rfl, rfl⟩ := h
  refine ⟨_, rfl, (show (2 : Nat) < 3 by decide), ?_⟩
  refine s_ret (w_lst (w_cons (w_appP (w_cons (w_c (w_cons (w_app2P (w_var rfl (w_app2P (w_c (w_c ⟨.int (10 ^ 18), rfl, .int (v - 10 ^ 18), rfl, w_nil ⟨_, rfl, ?_⟩⟩)))))))))))
  refine w_cons (w_app2P (w_app2 (w_app2P (w_var rfl (w_c ⟨.int (v % 2147483629), dI2_ok rfl, ?_⟩)))))
  refine w_app2P (w_c (w_app2 (w_var rfl (w_c ⟨.int (k + 1), rfl, .int (48271 * (k + 1)), dI2_ok (mul_ok (by omega)), .int (v % 2147483629 + 48271 * (k + 1)), rfl, ?_⟩))))
  refine w_c ⟨.int ((v % 2147483629 + 48271 * (k + 1)) % 2147483629), dI2_ok rfl, w_nil ⟨(show (2 : Nat) ≤ 1000 by decide), _, _, rfl, ⟨?_, Int.emod_nonneg _ (by omega), Int.emod_lt_of_pos _ (by omega)⟩, rfl⟩⟩
  split <;> omega
theorem ixD_list {o : Bool} {xs : List D} {k : Int} (h0 : 0 ≤ k) (hk : k < (xs.length : Int)) : ∃ x, xs[k.toNat]? = some x ∧ dSub1 [.lst o xs, .int k] = some x := by
  have hl : k.toNat < xs.length := by omega
  refine ⟨xs[k.toNat], List.getElem?_eq_getElem hl, ?_⟩
  show L2.atI xs k = _
  unfold L2.atI
  rw [ixN_pos h0 hl, Option.bind_some, List.getElem?_eq_getElem hl]
theorem frzs_len : ∀ xs : List D, (frzs xs).length = xs.length
  | [] => rfl
  | x :: xs => by show (frz x :: frzs xs).length = _; rw [List.length_cons, frzs_len xs, List.length_cons]
theorem plain_noF {x : D} (h : plain x = true) : noF x = true := by
  cases x <;> first | rfl | cases h
theorem plain_frz {x : D} (h : plain x = true) : frz x = x := by
  cases x <;> first | rfl | cases h
theorem frzs_plain : ∀ {xs : List D}, xs.all plain = true → frzs xs = xs
  | [], _ => rfl
  | x :: xs, h => by
    rw [List.all_cons, Bool.and_eq_true_iff] at h
    show frz x :: frzs xs = _
    rw [plain_frz h.1, frzs_plain h.2]
theorem noFs_plain : ∀ {xs : List D}, xs.all plain = true → noFs xs = true
  | [], _ => rfl
  | x :: xs, h => by
    rw [List.all_cons, Bool.and_eq_true_iff] at h
    show (noF x && noFs xs) = true
    rw [plain_noF h.1, noFs_plain h.2]
    rfl
/-- drawn from t -/
theorem drawn_spec {a b m : Int} {t : D} {Good : D → Prop} (hp : PotOk a b) (ht : frz t = t) (hl : dLen [t] = some (.int m)) (h0 : 0 < m) (h1 : m < 36893488147419103232) (hx : ∀ k, 0 ≤ k → k < m → ∃ x, dSub1 [t, .int k] = some x ∧ plain x = true ∧ Good x) :
    WF F__law_drawn [potD a b, t] fun d o => ∃ a' b', Good d ∧ plain d = true ∧ PotOk a' b' ∧ o = [some (potD a' b'), none] := by
  refine f_of rfl ?_
  unfold b__law_drawn
  refine s_ret (w_app2 (w_var rfl (w_takeE rfl (w_app1P (w_var rfl ⟨.int m, by rw [ht, ht]; exact hl, m, a, b, rfl, rfl, hp, h0, h1, fun r a' b' q1 q2 q3 => ?_⟩)))))
  obtain ⟨x, e, px, gx⟩ := hx r q1 q2
  refine ⟨x, by rw [ht, ht]; exact e, a', b', gx, px, q3, ?_⟩
  unfold bindS
  rw [if_pos (plain_noF px)]
  rfl
theorem w_drawnE {e : En} {j : Nat} {S : Stt} {P : D → Stt → Prop} {t0 : D} (hS : S[j]? = some (some t0)) (h : W e S fun d S1 => ∃ (m a b : Int) (t : D) (Good : D → Prop), frz d = t ∧ frz t = t ∧ S1[j]? = some (some (potD a b)) ∧ PotOk a b ∧ dLen [t] = some (.int m) ∧ 0 < m ∧ m < 36893488147419103232 ∧ (∀ k, 0 ≤ k → k < m → ∃ x, dSub1 [t, .int k] = some x ∧ plain x = true ∧ Good x) ∧
      ∀ x a' b', Good x → plain x = true → PotOk a' b' → P x (S1.set j (some (potD a' b')))) :
    W (eCall F__law_drawn (mRef j (mVal e mNil))) S P := by
  refine w_call (w_mRef hS (w_mVal (h.mono fun d S1 h => ?_)))
  obtain ⟨m, a, b, t, Good, e1, e2, h1, h2, h3, h4, h5, h6, k⟩ := h
  refine w_mNil ⟨[potD a b, t], ?_, (drawn_spec h2 e2 h3 h4 h5 h6).mono fun d o h => ?_⟩
  · show (match S1[j]? with
      | some (some t) => (fill [none] [d] S1).map (t :: ·)
      | _ => none) = _
    rw [h1]
    show some [potD a b, frz d] = _
    rw [e1]
  · obtain ⟨a', b', q1, q2, q3, rfl⟩ := h
    exact ⟨_, rfl, k d a' b' q1 q2 q3⟩
/-! ### texts -/
/-- a small letter -/
def Lt (c : Nat) : Prop := 97 ≤ c ∧ c ≤ 122
/-- a name -/
structure Nm (x : PySem.Str) : Prop where
  pos : 1 ≤ x.length
  le : x.length ≤ 8
  let_ : ∀ c ∈ x.cps.toList, Lt c
def txs (ss : List PySem.Str) : List D := ss.map D.str
theorem txs_plain (ss : List PySem.Str) : (txs ss).all plain = true := by
  unfold txs
  rw [List.all_map]
  exact List.all_eq_true.mpr fun _ _ => rfl
theorem inP_txs (x : PySem.Str) : ∀ ss : List PySem.Str, inP (.str x) (txs ss) = decide (x ∈ ss)
  | [] => rfl
  | y :: ss => by
    show ((y == x) || inP (.str x) (txs ss)) = _
    rw [inP_txs x ss]
    by_cases h : y = x
    · simp [h]
    · have h' : ¬ x = y := fun z => h z.symm
      simp [h, h']
theorem in_txs {x : PySem.Str} {ss : List PySem.Str} {o : Bool} : dInA [.str x, .lst o (txs ss)] = some (.bl (decide (x ∈ ss))) := by
  show (Option.map _ (inD (.str x) (.lst o (txs ss)))) = _
  have : inD (.str x) (.lst o (txs ss)) = some (decide (x ∈ ss)) := by
    show (if plain (.str x) && (txs ss).all plain then some (inP (.str x) (txs ss)) else none) = _
    rw [txs_plain, inP_txs]
    rfl
  rw [this]
  rfl
theorem notIn_txs {x : PySem.Str} {ss : List PySem.Str} {o : Bool} : dNotInA [.str x, .lst o (txs ss)] = some (.bl (!decide (x ∈ ss))) := by
  show (Option.map _ (inD (.str x) (.lst o (txs ss)))) = _
  have : inD (.str x) (.lst o (txs ss)) = some (decide (x ∈ ss)) := by
    show (if plain (.str x) && (txs ss).all plain then some (inP (.str x) (txs ss)) else none) = _
    rw [txs_plain, inP_txs]
    rfl
  rw [this]
  rfl
/-! ### names -/
abbrev LET : PySem.Str := "abcdefghijklmnopqrstuvwxyz"
/-- one sign -/
def sgn (c : Nat) : PySem.Str := ⟨#[c]⟩
theorem let_lt : ∀ c ∈ LET.cps.toList, Lt c := by
  have : ∀ c ∈ LET.cps.toList, 97 ≤ c ∧ c ≤ 122 := by decide
  exact this
theorem let_len : dLen [.str LET] = some (.int 26) := rfl
theorem let_at (k : Int) (h0 : 0 ≤ k) (hk : k < 26) : ∃ x, dSub1 [.str LET, .int k] = some x ∧ plain x = true ∧ ∃ c, x = .str (sgn c) ∧ Lt c := by
  have hl : k.toNat < LET.cps.toList.length := by
    have : LET.cps.toList.length = 26 := rfl
    omega
  refine ⟨.str (sgn LET.cps.toList[k.toNat]), ?_, rfl, _, rfl, let_lt _ (List.getElem_mem hl)⟩
  show (if LET.length ≤ 100000 then (L2.atI LET.cps.toList k).map fun c => D.str ⟨#[c]⟩ else none) = _
  rw [if_pos (by decide)]
  unfold L2.atI
  rw [ixN_pos h0 hl, Option.bind_some, List.getElem?_eq_getElem hl]
  rfl
theorem sj : ∀ cs : List Nat, (PySem.Str.join "" (cs.map sgn)).cps.toList = cs
  | [] => rfl
  | [c] => rfl
  | c :: d :: cs => by
    have ih := sj (d :: cs)
    show ((sgn c ++ "" ++ PySem.Str.join "" ((d :: cs).map sgn)) : PySem.Str).cps.toList = _
    show ((#[c] ++ #[] ++ (PySem.Str.join "" ((d :: cs).map sgn)).cps) : Array Nat).toList = _
    rw [Array.toList_append, ih]
    rfl
theorem tj (cs : List Nat) : (PySem.Txt.join "" (cs.map sgn)).cps.toList = cs := by
  rw [TL.join_eq]
  exact sj cs
theorem tj_len (cs : List Nat) : (PySem.Txt.join "" (cs.map sgn)).length = cs.length := by
  show (PySem.Txt.join "" (cs.map sgn)).cps.size = _
  rw [← Array.length_toList, tj]
def st9 (a b n : Int) (ss : List PySem.Str) (x4 x5 x6 x7 x8 : Option D) : Stt := [some (potD a b), some (.int n), some (.str LET), some (.lst true (txs ss)), x4, x5, x6, x7, x8]
def signs (cs : List Nat) : List D := cs.map fun c => .str (sgn c)
theorem strsD_signs : ∀ cs : List Nat, strsD (signs cs) = some (cs.map sgn)
  | [] => rfl
  | c :: cs => by
    show (strsD (signs cs)).map (sgn c :: ·) = _
    rw [strsD_signs cs]
    rfl
theorem signs_plain (cs : List Nat) : (signs cs).all plain = true := by
  unfold signs
  rw [List.all_map]
  exact List.all_eq_true.mpr fun _ _ => rfl
theorem signs_sum : ∀ cs : List Nat, ((cs.map sgn).map (·.length)).sum = cs.length
  | [] => rfl
  | c :: cs => by
    rw [List.map_cons, List.map_cons, List.sum_cons, signs_sum cs, List.length_cons]
    show 1 + cs.length = _
    omega
theorem join_signs {cs : List Nat} (h : cs.length ≤ 1000) : dJoin [.str "", .lst false (signs cs)] = some (.str (PySem.Txt.join "" (cs.map sgn))) := by
  unfold dJoin
  simp only [seqD, Option.bind_some, strsD_signs]
  rw [if_pos ?_]
  rw [signs_sum]
  show cs.length + (cs.map sgn).length * 0 ≤ _
  omega
/-- the random name -/
theorem name_spec {a b n m : Int} {ss : List PySem.Str} {x4 x6 x7 x8 : Option D} {P : D → Stt → Prop} (hp : PotOk a b) (h1 : 0 ≤ m) (h2 : m ≤ 8)
    (k : ∀ (cs : List Nat) (a' b' : Int), cs.length = m.toNat → (∀ c ∈ cs, Lt c) → PotOk a' b' → P (.str (PySem.Txt.join "" (cs.map sgn))) (st9 a' b' n ss x4 (some (.int m)) x6 none x8)) :
    W (eAppP dJoin (a2 (eC (.str "")) (eComp (.nm 7) (nRange (eVar 5)) (nYes) (eCall F__law_drawn (mRef 0 (mVal (eVar 2) (mNil))))))) (st9 a b n ss x4 (some (.int m)) x6 x7 x8) P := by
  refine w_app2P (w_c (w_comp (w_range (w_var rfl ⟨m, rfl, by omega, by rw [rng_len]; omega, ?_⟩))))
  refine ⟨fun i acc S => ∃ (cs : List Nat) (a' b' : Int), acc = signs cs ∧ cs.length = i ∧ (∀ c ∈ cs, Lt c) ∧ PotOk a' b' ∧ S = st9 a' b' n ss x4 (some (.int m)) x6 none x8, ⟨[], a, b, rfl, rfl, (fun _ z => nomatch z), hp, rfl⟩, ?_, ?_⟩
  · rintro i d acc S hd ⟨cs, a', b', rfl, rfl, hcs, hp', rfl⟩
    refine ⟨_, rfl, w_yes (w_drawnE rfl (w_var rfl ⟨26, a', b', .str LET, fun x => ∃ c, x = .str (sgn c) ∧ Lt c, rfl, rfl, rfl, hp', let_len, by decide, by decide, let_at, ?_⟩))⟩
    rintro x a2 b2 ⟨c, rfl, hc⟩ _ hp2
    exact ⟨cs ++ [c], a2, b2, by unfold signs; rw [List.map_append]; rfl, by simp, fun u hu => (List.mem_append.mp hu).elim (hcs u) (fun z => by rw [List.mem_singleton.mp z]; exact hc), hp2, rfl⟩
  · rintro rs S' ⟨cs, a', b', rfl, hl, hcs, hp', rfl⟩
    rw [rng_len] at hl
    refine ⟨st9 a' b' n ss x4 (some (.int m)) x6 none x8, rfl, ?_⟩
    refine ⟨.str (PySem.Txt.join "" (cs.map sgn)), ?_, k cs a' b' hl hcs hp'⟩
    show dJoin [.str "", .lst false (frzs (signs cs))] = _
    rw [frzs_plain (signs_plain cs)]
    exact join_signs (by omega)
theorem run_of {α : Type} {n : Nd α} {S : Stt} {v : α} (h : W n S fun d S' => d = v ∧ S' = S) : n.run S = some (v, S) := by
  obtain ⟨d, S', e, rfl, rfl⟩ := h
  exact e
theorem pigeon {α : Type} [DecidableEq α] : ∀ (l ss : List α), l.Nodup → (∀ x ∈ l, x ∈ ss) → l.length ≤ ss.length
  | [], ss, _, _ => Nat.zero_le _
  | x :: l, ss, hn, h => by
    obtain ⟨h1, h2⟩ := List.nodup_cons.mp hn
    have hx := h x List.mem_cons_self
    have := pigeon l (ss.erase x) h2 fun y hy => by
      have hy2 := h y (List.mem_cons_of_mem _ hy)
      have hne : y ≠ x := fun e => h1 (by rw [← e]; exact hy)
      exact (List.mem_erase_of_ne hne).mpr hy2
    rw [List.length_erase_of_mem hx] at this
    have hpos : 0 < ss.length := List.length_pos_of_mem hx
    rw [List.length_cons]
    omega
theorem app_sgn (x : PySem.Str) (c : Nat) : (x ++ sgn c).cps.toList = x.cps.toList ++ [c] := by
  show (x.cps ++ #[c]).toList = _
  rw [Array.toList_append]
theorem app_inj {x : PySem.Str} {c d : Nat} (h : x ++ sgn c = x ++ sgn d) : c = d := by
  have h2 := congrArg (fun z : PySem.Str => z.cps.toList) h
  simp only [app_sgn] at h2
  have h3 := List.append_cancel_left h2
  simpa using h3
theorem nodup_map_of {α β : Type} {f : α → β} (hf : ∀ a b, f a = f b → a = b) : ∀ {l : List α}, l.Nodup → (l.map f).Nodup
  | [], _ => List.nodup_nil
  | a :: l, h => by
    obtain ⟨h1, h2⟩ := List.nodup_cons.mp h
    rw [List.map_cons]
    refine List.nodup_cons.mpr ⟨fun hm => ?_, nodup_map_of hf h2⟩
    obtain ⟨b, hb, e⟩ := List.mem_map.mp hm
    exact h1 (hf b a e ▸ hb)
theorem free_letter (x : PySem.Str) {ss : List PySem.Str} (h : ss.length < 26) : ∃ c ∈ LET.cps.toList, x ++ sgn c ∉ ss := by
  by_cases hc : ∃ c ∈ LET.cps.toList, x ++ sgn c ∉ ss
  · exact hc
  · have hn : (LET.cps.toList.map fun c => x ++ sgn c).Nodup := nodup_map_of (fun a b e => app_inj e) (by decide)
    have := pigeon _ ss hn fun y hy => by
      obtain ⟨c, hcm, rfl⟩ := List.mem_map.mp hy
      exact Classical.byContradiction fun z => hc ⟨c, hcm, z⟩
    rw [List.length_map] at this
    have : LET.cps.toList.length = 26 := rfl
    omega
theorem cut_len (x : PySem.Str) : (L2.cutS x none (some 7)).length ≤ 7 := by
  show (L2.cutS x none (some 7)).cps.size ≤ 7
  unfold L2.cutS
  simp only [List.size_toArray, List.length_take, HT.sIx_none, List.drop_zero]
  have : HT.sIx x.length x.length (some 7) ≤ 7 := by
    have := HT.sIx_nat x.length x.length 7
    rw [show ((7 : Nat) : Int) = 7 from rfl] at this
    rw [this]
    exact Nat.min_le_left _ _
  omega
theorem cut_mem {x : PySem.Str} {c : Nat} (h : c ∈ (L2.cutS x none (some 7)).cps.toList) : c ∈ x.cps.toList := by
  unfold L2.cutS at h
  simp only at h
  exact List.mem_of_mem_drop (List.mem_of_mem_take h)
theorem app_len (x : PySem.Str) (c : Nat) : (x ++ sgn c).length = x.length + 1 := by
  show (x.cps ++ #[c]).size = x.cps.size + 1
  simp
/-- another name, where the first is taken -/
theorem other_spec {a b n : Int} {ss : List PySem.Str} {x : PySem.Str} {x4 x5 x7 x8 : Option D} {P : D → Stt → Prop} (hx : Nm x) (hl : ss.length < 26)
    (k : ∀ y : PySem.Str, y ∉ ss → Nm y → P (.str y) (st9 a b n ss x4 x5 (some (.str x)) x7 none)) :
    W (eApp dSub1 (a2 (eComp (.nm 8) (nPath anyG 2 []) (nVal (eAppP dNotInA (a2 (eApp dAdd (a2 (eApp dSl01 (a2 (eVar 6) (eC (.int 7)))) (eVar 8))) (eVar 3)))) (eApp dAdd (a2 (eApp dSl01 (a2 (eVar 6) (eC (.int 7)))) (eVar 8)))) (eC (.int 0)))) (st9 a b n ss x4 x5 (some (.str x)) x7 x8) P := by
  have hc := cut_len x
  have hx8 := hx.le
  have hcl : ∀ c ∈ (L2.cutS x none (some 7)).cps.toList, Lt c := fun c h => hx.let_ c (cut_mem h)
  generalize hz : L2.cutS x none (some 7) = z at hc hcl
  have hcut : dSl01 [.str x, .int 7] = some (.str z) := by
    show (if x.length ≤ 100000 then some (D.str (L2.cutS x none (some 7))) else none) = _
    rw [if_pos (by omega), hz]
  refine w_app2 (w_compP (w_path rfl rfl rfl ⟨(by decide : (chrs LET).length ≤ 100000), fun d => match d with
    | .str y => !decide (z ++ y ∈ ss)
    | _ => false, fun d => match d with
    | .str y => .str (z ++ y)
    | d => d, ?_, st9 a b n ss x4 x5 (some (.str x)) x7 none, rfl, ?_⟩))
  · intro d hd
    obtain ⟨c, hcm, rfl⟩ := List.mem_map.mp hd
    have hadd : dAdd [.str z, .str (sgn c)] = some (.str (z ++ sgn c)) := by
      show (if z.length + (sgn c).length ≤ 100000 then some (D.str (z ++ sgn c)) else none) = _
      rw [if_pos (by show z.length + 1 ≤ _; omega)]
    refine ⟨st9 a b n ss x4 x5 (some (.str x)) x7 (some (.str (sgn c))), rfl, ?_, fun _ => ⟨.str (z ++ sgn c), ?_, rfl⟩, rfl⟩
    · refine run_of (w_val (w_app2P (w_app2 (w_app2 (w_var rfl (w_c ⟨.str z, hcut, w_var rfl ⟨.str (z ++ sgn c), hadd, w_var rfl ⟨.bl (!decide (z ++ sgn c ∈ ss)), ?_, _, rfl, rfl, rfl⟩⟩⟩))))))
      show dNotInA [.str (z ++ sgn c), .lst false (frzs (frzs (txs ss)))] = _
      rw [frzs_plain (txs_plain ss), frzs_plain (txs_plain ss)]
      exact notIn_txs
    · exact run_of (w_app2 (w_app2 (w_var rfl (w_c ⟨.str z, hcut, w_var rfl ⟨.str (z ++ sgn c), hadd, rfl, rfl⟩⟩))))
  · obtain ⟨c, hcm, hcs⟩ := free_letter z hl
    have hmem : D.str (sgn c) ∈ chrs LET := List.mem_map.mpr ⟨c, hcm, rfl⟩
    generalize hp : (fun d : D => match d with
      | .str y => !decide (z ++ y ∈ ss)
      | _ => false) = p
    have hf : D.str (sgn c) ∈ (chrs LET).filter p := List.mem_filter.mpr ⟨hmem, by rw [← hp]; show (!decide (z ++ sgn c ∈ ss)) = true; rw [decide_eq_false hcs]; rfl⟩
    cases hL : (chrs LET).filter p with
    | nil => rw [hL] at hf; cases hf
    | cons d0 r =>
      have h0 : d0 ∈ (chrs LET).filter p := by rw [hL]; exact List.mem_cons_self
      obtain ⟨h1, h2⟩ := List.mem_filter.mp h0
      obtain ⟨c0, hc0, rfl⟩ := List.mem_map.mp h1
      rw [← hp] at h2
      have h3 : z ++ sgn c0 ∉ ss := by
        intro hm
        have h2 : (!decide (z ++ sgn c0 ∈ ss)) = true := h2
        rw [decide_eq_true hm] at h2
        cases h2
      refine w_c ⟨.str (z ++ sgn c0), ix0, k _ h3 ⟨by rw [app_len]; omega, by rw [app_len]; omega, fun u hu => ?_⟩⟩
      rw [app_sgn] at hu
      rcases List.mem_append.mp hu with h | h
      · exact hcl u h
      · rw [List.mem_singleton.mp h]
        exact let_lt c0 hc0
/-- the loop's state -/
def NamesI (n : Int) (i : Nat) (S : Stt) : Prop := ∃ (ss : List PySem.Str) (a b : Int) (x4 x5 x6 x7 x8 : Option D), ss.length = i ∧ ss.Nodup ∧ (∀ x ∈ ss, Nm x) ∧ PotOk a b ∧ S = st9 a b n ss x4 x5 x6 x7 x8
theorem txs_app (ss : List PySem.Str) (x : PySem.Str) : txs ss ++ [.str x] = txs (ss ++ [x]) := by
  unfold txs
  rw [List.map_append]
  rfl
theorem names_spec {a b n : Int} (hp : PotOk a b) (h0 : 0 ≤ n) (h1 : n ≤ 25) : WF F__law_names [potD a b, .int n] fun d o => ∃ (ss : List PySem.Str) (a' b' : Int), d = .lst false (txs ss) ∧ ss.length = n.toNat ∧ ss.Nodup ∧ (∀ x ∈ ss, Nm x) ∧ PotOk a' b' ∧ o = [some (potD a' b'), none] := by
  refine f_of rfl ?_
  unfold b__law_names
  refine s_seq (s_asg (w_c ⟨(show (2 : Nat) < 9 by decide), ?_⟩))
  refine s_seq (s_asg (w_lst (w_nil ⟨(show (0 : Nat) ≤ 1000 by decide), (show (3 : Nat) < 9 by decide), ?_⟩)))
  refine s_seq (s_forR (w_var rfl ⟨n, NamesI n, rfl, by omega, ⟨[], a, b, none, none, none, none, none, rfl, List.nodup_nil, (fun _ z => nomatch z), hp, rfl⟩, ?_, ?_⟩))
  · rintro i S hin ⟨ss, a, b, x4, x5, x6, x7, x8, hi, hnd, h8, hp, rfl⟩
    refine ⟨st9 a b n ss (some (.int (i : Int))) x5 x6 x7 x8, rfl, ?_⟩
    refine s_seq (s_asg (w_app2 (w_c (w_app2P (w_take rfl hp (by decide) (by decide) fun r1 a1 b1 p1 p2 hp1 => w_take rfl hp1 (by decide) (by decide) fun r2 a2 b2 q1 q2 hp2 => ?_)))))
    have hr : 0 ≤ r1 * r2 ∧ r1 * r2 ≤ 7 := by
      have : r1 = 0 ∨ r1 = 1 := by omega
      rcases this with rfl | rfl <;> omega
    refine ⟨.int (r1 * r2), dI2_ok (mul_ok (by omega)), .int (1 + r1 * r2), rfl, (show (5 : Nat) < 9 by decide), ?_⟩
    obtain ⟨m, hm⟩ : ∃ m, m = 1 + r1 * r2 := ⟨_, rfl⟩
    rw [← hm]
    have fin : ∀ (y : PySem.Str) (a b : Int) (x5 x7 x8 : Option D), PotOk a b → y ∉ ss → Nm y → WS (sApp 3 (eVar 6)) (st9 a b n ss (some (.int (i : Int))) x5 (some (.str y)) x7 x8) (fun S2 => NamesI n (i + 1) S2) (fun d S => ∃ (ss : List PySem.Str) (a' b' : Int), d = .lst false (txs ss) ∧ ss.length = n.toNat ∧ ss.Nodup ∧ (∀ x ∈ ss, Nm x) ∧ PotOk a' b' ∧ mask [true, false] S = [some (potD a' b'), none]) := by
      intro y a b x5 x7 x8 hp hy hy8
      refine s_app (ds := txs ss) rfl (w_var rfl ⟨⟨rfl, by unfold txs; rw [List.length_map]; omega⟩, ?_⟩)
      refine ⟨ss ++ [y], a, b, some (.int (i : Int)), x5, some (.str y), x7, x8, by rw [List.length_append, hi]; rfl, ?_, ?_, hp, ?_⟩
      · exact List.nodup_append.mpr ⟨hnd, by simp, fun u hu v hv e => by
          have : v = y := by simpa using hv
          subst this
          subst e
          exact hy hu⟩
      · intro u hu
        rcases List.mem_append.mp hu with z | z
        · exact h8 u z
        · have : u = y := by simpa using z
          rw [this]; exact hy8
      · unfold st9
        rw [← txs_app]
        rfl
    refine s_seq (s_asg (name_spec (m := m) hp2 (by omega) (by omega) fun cs a3 b3 hcs hlt hp3 => ⟨(show (6 : Nat) < 9 by decide), ?_⟩))
    have hnm : Nm (PySem.Txt.join "" (cs.map sgn)) := ⟨by rw [tj_len]; omega, by rw [tj_len]; omega, fun c h => hlt c (by rw [tj] at h; exact h)⟩
    generalize PySem.Txt.join "" (cs.map sgn) = x at hnm
    refine s_seq (s_if (w_val (w_app2P (w_var rfl (w_var rfl ⟨.bl (decide (x ∈ ss)), ?_, _, rfl, iteB (fun hx => ?_) fun hx => ?_⟩)))))
    · show dInA [.str x, .lst false (frzs (frzs (txs ss)))] = _
      rw [frzs_plain (txs_plain ss), frzs_plain (txs_plain ss)]
      exact in_txs
    · exact s_asg (other_spec hnm (by omega) fun y hy hy8 => ⟨(show (6 : Nat) < 9 by decide), fin y _ _ _ _ _ hp3 hy hy8⟩)
    · exact s_nil (fin x _ _ _ _ _ hp3 (of_decide_eq_false hx) hnm)
  · rintro S' ⟨ss, a, b, x4, x5, x6, x7, x8, hi, hnd, h8, hp, rfl⟩
    refine s_ret (w_var rfl ⟨ss, a, b, ?_, hi, hnd, h8, hp, rfl⟩)
    show D.lst false (frzs (txs ss)) = _
    rw [frzs_plain (txs_plain ss)]
/-! ### prices -/
abbrev Lot := List L2.Key
def lotOf (l : List PySem.Str) : Lot := l.map Sum.inr
def LotOk (k : Lot) : Prop := ∃ l : List PySem.Str, k = lotOf l ∧ l.length ≤ 6 ∧ ∀ x ∈ l, Nm x
structure PrOk (ks : List Lot) (vs : List Int) : Prop where
  len : ks.length = vs.length
  nd : ks.Nodup
  few : ks.length ≤ 8
  lots : ∀ k ∈ ks, LotOk k
  vals : ∀ v ∈ vs, 0 ≤ v ∧ v ≤ 1000000000000
theorem toKeys_txs : ∀ l : List PySem.Str, toKeys (txs l) = some (lotOf l)
  | [] => rfl
  | x :: l => by
    show ((toKey (.str x)).bind fun k => (toKeys (txs l)).map (k :: ·)) = _
    rw [toKeys_txs l]
    rfl
theorem put_ok {ks : List Lot} {vs : List Int} {l : List PySem.Str} {v : Int} {i : Nat} (h : PrOk ks vs) (hi : ks.length ≤ i) (hl : LotOk (lotOf l)) (hv : 0 ≤ v ∧ v ≤ 1000000000000) (h8 : i + 1 ≤ 8) :
    ∃ ks' vs', putD (.inr ks) (vs.map D.int) (.tup (txs l)) (.int v) = some (.inr ks', vs'.map D.int) ∧ PrOk ks' vs' ∧ ks'.length ≤ i + 1 := by
  have e : putD (.inr ks) (vs.map D.int) (.tup (txs l)) (.int v) = (putG ks (vs.map D.int) (lotOf l) (.int v)).map fun r => ((.inr r.1 : Kx), r.2) := by
    show ((toKeys (txs l)).bind fun q => (putG ks (vs.map D.int) q (.int v)).map fun r => ((.inr r.1 : Kx), r.2)) = _
    rw [toKeys_txs]
    rfl
  rw [e]
  by_cases hm : lotOf l ∈ ks
  · refine ⟨ks, vs.set (@List.idxOf _ instBEqOfDecidableEq (lotOf l) ks) v, ?_, ⟨by rw [List.length_set]; exact h.len, h.nd, h.few, h.lots, fun u hu => ?_⟩, by omega⟩
    · rw [putG_nd h.nd, if_pos hm, List.map_set]
      rfl
    · rcases List.mem_or_eq_of_mem_set hu with z | z
      · exact h.vals u z
      · rw [z]; exact hv
  · refine ⟨ks ++ [lotOf l], vs ++ [v], ?_, ⟨by rw [List.length_append, List.length_append, h.len]; rfl, ?_, by rw [List.length_append]; show ks.length + 1 ≤ 8; omega, fun k hk => ?_, fun u hu => ?_⟩, by rw [List.length_append]; show ks.length + 1 ≤ _; omega⟩
    · rw [putG_nd h.nd, if_neg hm, List.map_append]
      rfl
    · exact List.nodup_append.mpr ⟨h.nd, by simp, fun u hu w hw e => by
        have : w = lotOf l := by simpa using hw
        rw [e, this] at hu
        exact hm hu⟩
    · rcases List.mem_append.mp hk with z | z
      · exact h.lots k z
      · have : k = lotOf l := by simpa using z
        rw [this]; exact hl
    · rcases List.mem_append.mp hu with z | z
      · exact h.vals u z
      · have : u = v := by simpa using z
        rw [this]; exact hv
theorem enum_mem {ss : List PySem.Str} {d : D} (h : d ∈ enumD (txs ss)) : ∃ (i : Nat) (x : PySem.Str), d = .tup [.int (i : Int), .str x] ∧ x ∈ ss ∧ i < ss.length := by
  unfold enumD at h
  obtain ⟨i, hi, e⟩ := List.mem_mapIdx.mp h
  have hl : i < ss.length := by
    have : (txs ss).length = ss.length := by unfold txs; rw [List.length_map]
    omega
  refine ⟨i, ss[i], ?_, List.getElem_mem hl, hl⟩
  have e2 : (txs ss)[i]'hi = D.str (ss[i]'hl) := List.getElem_map _
  rw [← e, e2]
theorem enum_len (ds : List D) : (enumD ds).length = ds.length := by
  unfold enumD
  rw [List.length_mapIdx]
def snd2 : D → D
  | .tup [_, d] => d
  | d => d
theorem sub_txs {ss : List PySem.Str} : ∀ (L : List D), (∀ d ∈ L, ∃ (i : Nat) (x : PySem.Str), d = .tup [.int (i : Int), .str x] ∧ x ∈ ss ∧ i < ss.length) → ∃ l : List PySem.Str, L.map snd2 = txs l ∧ l.length = L.length ∧ ∀ x ∈ l, x ∈ ss
  | [], _ => ⟨[], rfl, rfl, fun _ z => nomatch z⟩
  | d :: L, h => by
    obtain ⟨i, x, rfl, hx, _⟩ := h d List.mem_cons_self
    obtain ⟨l, e, hl, hm⟩ := sub_txs L fun d hd => h d (List.mem_cons_of_mem _ hd)
    refine ⟨x :: l, ?_, by rw [List.length_cons, List.length_cons, hl], fun y hy => ?_⟩
    · rw [List.map_cons, e]
      rfl
    · rcases List.mem_cons.mp hy with z | z
      · rw [z]; exact hx
      · exact hm y z
def st8 (a b : Int) (ss : List PySem.Str) (ks : List Lot) (vs : List Int) (x3 x4 x5 x6 x7 : Option D) : Stt := [some (potD a b), some (.lst false (txs ss)), some (.dct true (.inr ks) (vs.map D.int)), x3, x4, x5, x6, x7]
theorem nn_ok {a b : Int} (h : 0 ≤ b) : cNn a b = true := decide_eq_true h
/-- the lot of some bits -/
theorem lot_spec {a b bits : Int} {ss : List PySem.Str} {ks : List Lot} {vs : List Int} {x3 x5 x6 x7 : Option D} {P : D → Stt → Prop} (h6 : ss.length ≤ 6)
    (k : ∀ l : List PySem.Str, l.length ≤ ss.length → (∀ x ∈ l, x ∈ ss) → P (.tup (txs l)) (st8 a b ss ks vs x3 (some (.int bits)) x5 none none)) :
    W (eApp dTup (a1 (eComp (.tp [6, 7]) (nEnum (eVar 1)) (nVal (eAppP dEq (a2 (eAppP dAnd (a2 (eAppP dShr (a2 (eVar 4) (eVar 6))) (eC (.int 1)))) (eC (.int 1))))) (eVar 7)))) (st8 a b ss ks vs x3 (some (.int bits)) x5 x6 x7) P := by
  have hfz : frzs (txs ss) = txs ss := frzs_plain (txs_plain ss)
  refine w_app1 (w_compP (w_enum (w_var rfl ⟨txs ss, ?_, ?_⟩)))
  · show lstD (.lst false (frzs (frzs (txs ss)))) = _
    rw [hfz, hfz]
    rfl
  · have hS : frzAt (nEnum (eVar 1)).vw (wipeS (Tg.tp [6, 7]).slots (st8 a b ss ks vs x3 (some (.int bits)) x5 x6 x7)) = st8 a b ss ks vs x3 (some (.int bits)) x5 none none := by
      show [some (potD a b), some (.lst false (frzs (txs ss))), some (.dct true (.inr ks) (vs.map D.int)), x3, some (.int bits), x5, none, none] = _
      rw [hfz]
      rfl
    rw [hS]
    refine ⟨by rw [enum_len]; unfold txs; rw [List.length_map]; omega, fun d => match d with
      | .tup [.int i, _] => decide (PySem.Builtin.bitAnd (bits / 2 ^ i.toNat) 1 = 1)
      | _ => false, snd2, fun d hd => ?_, st8 a b ss ks vs x3 (some (.int bits)) x5 none none, rfl, ?_⟩
    · obtain ⟨i, x, rfl, hx, hi⟩ := enum_mem hd
      refine ⟨st8 a b ss ks vs x3 (some (.int bits)) x5 (some (.int (i : Int))) (some (.str x)), rfl, ?_, fun _ => ⟨.str x, rfl, rfl⟩, rfl⟩
      refine run_of (w_val (w_app2P (w_app2P (w_app2P (w_var rfl (w_var rfl ⟨.int (bits / 2 ^ i), ?_, w_c ⟨.int (PySem.Builtin.bitAnd (bits / 2 ^ i) 1), rfl, w_c ⟨.bl (decide (PySem.Builtin.bitAnd (bits / 2 ^ i) 1 = 1)), rfl, _, rfl, rfl, rfl⟩⟩⟩))))))
      exact dI2_ok (nn_ok (by omega))
    · obtain ⟨l, e, hl, hm⟩ := sub_txs ((enumD (txs ss)).filter fun d => match d with
        | .tup [.int i, _] => decide (PySem.Builtin.bitAnd (bits / 2 ^ i.toNat) 1 = 1)
        | _ => false) fun d hd => enum_mem (List.mem_filter.mp hd).1
      rw [e]
      refine ⟨.tup (txs l), ?_, k l ?_ hm⟩
      · show dTup [.lst false (frzs (txs l))] = _
        rw [frzs_plain (txs_plain l)]
        rfl
      · rw [hl]
        refine Nat.le_trans (List.length_filter_le _ _) ?_
        rw [enum_len]
        unfold txs
        rw [List.length_map]
        exact Nat.le_refl _
theorem bindS_of {vw : List Nat} {d : D} {S : Stt} (h : noF d = true) : bindS vw d S = S := by
  unfold bindS
  rw [if_pos h]
theorem ints_plain (vs : List Int) : (vs.map D.int).all plain = true := by
  rw [List.all_map]
  exact List.all_eq_true.mpr fun _ _ => rfl
def PricesI (ss : List PySem.Str) (i : Nat) (S : Stt) : Prop := ∃ (ks : List Lot) (vs : List Int) (a b : Int) (x3 x4 x5 x6 x7 : Option D), PrOk ks vs ∧ ks.length ≤ i ∧ PotOk a b ∧ S = st8 a b ss ks vs x3 x4 x5 x6 x7
def IntOk (x : D) : Prop := ∃ v : Int, x = .int v ∧ 0 ≤ v ∧ v ≤ 1000000000000
theorem four_at {r s : Int} (hr : 0 ≤ r ∧ r ≤ 1000000000000) (hs : 0 ≤ s ∧ s ≤ 1000000000000) (k : Int) (h0 : 0 ≤ k) (hk : k < 4) : ∃ x, dSub1 [.lst false [.int 0, .int 1, .int r, .int s], .int k] = some x ∧ plain x = true ∧ IntOk x := by
  have : k = 0 ∨ k = 1 ∨ k = 2 ∨ k = 3 := by omega
  rcases this with rfl | rfl | rfl | rfl
  · exact ⟨.int 0, rfl, rfl, 0, rfl, by decide, by decide⟩
  · exact ⟨.int 1, rfl, rfl, 1, rfl, by decide, by decide⟩
  · exact ⟨.int r, rfl, rfl, r, rfl, hr.1, hr.2⟩
  · exact ⟨.int s, rfl, rfl, s, rfl, hs.1, hs.2⟩
theorem prices_spec {a b : Int} {ss : List PySem.Str} (hp : PotOk a b) (h2 : 2 ≤ ss.length) (h6 : ss.length ≤ 6) (h8 : ∀ x ∈ ss, Nm x) :
    WF F__law_prices [potD a b, .lst false (txs ss)] fun d o => ∃ (ks : List Lot) (vs : List Int) (a' b' : Int), d = .dct false (.inr ks) (vs.map D.int) ∧ PrOk ks vs ∧ PotOk a' b' ∧ o = [some (potD a' b'), none] := by
  have hfz : frzs (txs ss) = txs ss := frzs_plain (txs_plain ss)
  refine f_of rfl ?_
  unfold b__law_prices
  refine s_seq (s_asg ⟨_, _, rfl, (show (2 : Nat) < 8 by decide), ?_⟩)
  refine s_seq (s_forR (w_take rfl hp (by decide) (by decide) fun r a1 b1 p1 p2 hp1 => ⟨r, PricesI ss, rfl, by omega, ⟨[], [], a1, b1, none, none, none, none, none, ⟨rfl, List.nodup_nil, by decide, (fun _ z => nomatch z), (fun _ z => nomatch z)⟩, Nat.le_refl _, hp1, rfl⟩, ?_, ?_⟩))
  · rintro i S hin ⟨ks, vs, a, b, x3, x4, x5, x6, x7, hk, hi, hp, rfl⟩
    refine ⟨st8 a b ss ks vs (some (.int (i : Int))) x4 x5 x6 x7, rfl, ?_⟩
    have hpow : (2 : Int) ^ ss.length ≥ 4 ∧ (2 : Int) ^ ss.length ≤ 64 := by
      have : ss.length = 2 ∨ ss.length = 3 ∨ ss.length = 4 ∨ ss.length = 5 ∨ ss.length = 6 := by omega
      rcases this with h | h | h | h | h <;> rw [h] <;> decide
    have hlen : dLen [.lst false (frzs (frzs (txs ss)))] = some (.int (ss.length : Int)) := by
      rw [hfz, hfz]
      show some (D.int ((txs ss).length : Int)) = _
      unfold txs
      rw [List.length_map]
    refine s_seq (s_asg (w_app2 (w_c (w_takeE rfl (w_app2P (w_app2P (w_c (w_app1P (w_var rfl ⟨.int (ss.length : Int), hlen, .int (1 * 2 ^ ss.length), ?_, w_c ⟨.int (1 * 2 ^ ss.length - 2), rfl, _, a, b, rfl, rfl, hp, by omega, by omega, fun r1 a1 b1 q1 q2 hp1 => ⟨.int (1 + r1), rfl, (show (4 : Nat) < 8 by decide), ?_⟩⟩⟩)))))))))
    · exact dI2_ok (by unfold cPow; simp; omega)
    · refine s_seq (s_asg (lot_spec h6 fun l hl hm => ⟨(show (5 : Nat) < 8 by decide), ?_⟩))
      rw [bindS_of (d := .tup (txs l)) (noFs_plain (txs_plain l))]
      have hlt : frzs (txs l) = txs l := frzs_plain (txs_plain l)
      refine s_setD rfl (w_drawnE rfl (w_lst (w_cons (w_c (w_cons (w_c (w_cons (w_take rfl hp1 (by decide) (by decide) fun r2 a2 b2 u1 u2 hp2 => ?_))))))))
      refine w_cons (w_takeE rfl (w_app2 (w_app2P (w_c (w_c ⟨.int (10 ^ 12), rfl, w_c ⟨.int (10 ^ 12 + 1), rfl, _, a2, b2, rfl, rfl, hp2, by decide, by decide, fun r3 a3 b3 v1 v2 hp3 => w_nil ⟨(show (4 : Nat) ≤ 1000 by decide), ?_⟩⟩⟩)))))
      refine ⟨4, a3, b3, .lst false [.int 0, .int 1, .int r2, .int r3], IntOk, rfl, rfl, rfl, hp3, rfl, by decide, by decide, four_at ⟨u1, by omega⟩ ⟨v1, by omega⟩, ?_⟩
      rintro x a4 b4 ⟨v, rfl, w1, w2⟩ _ hp4
      obtain ⟨ks', vs', e, hk', hl'⟩ := put_ok hk hi ⟨l, rfl, by omega, fun x hx => h8 x (hm x hx)⟩ ⟨w1, w2⟩ (show i + 1 ≤ 8 by omega)
      refine ⟨.inr ks, vs.map D.int, rfl, w_var rfl ⟨(.inr ks', vs'.map D.int), ?_, ⟨rfl, ?_⟩, ?_⟩⟩
      · show putD (.inr ks) (vs.map D.int) (.tup (frzs (txs l))) (.int v) = _
        rw [hlt]
        exact e
      · rw [List.length_map, ← hk.len]
        have := hk.few
        omega
      · exact ⟨ks', vs', a4, b4, some (.int (i : Int)), some (.int (1 + r1)), some (.tup (txs l)), none, none, hk', hl', hp4, rfl⟩
  · rintro S' ⟨ks, vs, a, b, x3, x4, x5, x6, x7, hk, hi, hp, rfl⟩
    refine s_ret (w_var rfl ⟨ks, vs, a, b, ?_, hk, hp, ?_⟩)
    · show D.dct false (.inr ks) (frzs (vs.map D.int)) = _
      rw [frzs_plain (ints_plain vs)]
    · rfl
/-! ### worth and due -/
/-- is served -/
def srv (x y : PySem.Str) (l : List PySem.Str) : Bool := decide (x ∈ l) != decide (y ∈ l)
/-- the texts of a lot -/
def txOf : Lot → List PySem.Str
  | [] => []
  | .inr x :: l => x :: txOf l
  | _ :: l => txOf l
theorem txOf_lot : ∀ l : List PySem.Str, txOf (lotOf l) = l
  | [] => rfl
  | x :: l => by show x :: txOf (lotOf l) = _; rw [txOf_lot l]
theorem in_txsT {x : PySem.Str} {ss : List PySem.Str} : dInA [.str x, .tup (txs ss)] = some (.bl (decide (x ∈ ss))) := by
  show (Option.map _ (inD (.str x) (.tup (txs ss)))) = _
  have : inD (.str x) (.tup (txs ss)) = some (decide (x ∈ ss)) := by
    show (if plain (.str x) && (txs ss).all plain then some (inP (.str x) (txs ss)) else none) = _
    rw [txs_plain, inP_txs]
    rfl
  rw [this]
  rfl
/-- a way: its two ends, what lies between -/
def wayOf (x : PySem.Str) (m : List PySem.Str) (y : PySem.Str) : List PySem.Str := x :: (m ++ [y])
theorem way0 {x y : PySem.Str} {m : List PySem.Str} : dSub1 [.tup (txs (wayOf x m y)), .int 0] = some (.str x) := by
  show L2.atI (txs (wayOf x m y)) 0 = _
  unfold L2.atI
  rw [ixN_pos (k := 0) (by decide) (by unfold txs wayOf; simp)]
  rfl
theorem way1 {x y : PySem.Str} {m : List PySem.Str} : dSub1 [.tup (txs (wayOf x m y)), .int (-1)] = some (.str y) := by
  show L2.atI (txs (wayOf x m y)) (-1) = _
  have hl : (txs (wayOf x m y)).length = m.length + 2 := by unfold txs wayOf; simp
  unfold L2.atI
  have : L2.ixN (txs (wayOf x m y)).length (-1) = some (m.length + 1) := by
    rw [hl]
    unfold L2.ixN
    rw [if_neg (by decide), if_pos (by omega)]
    congr 1
    omega
  rw [this, Option.bind_some]
  unfold txs wayOf
  rw [List.map_cons, List.getElem?_cons_succ, List.map_append, List.getElem?_append_right (by rw [List.length_map]; exact Nat.le_refl _), List.length_map, Nat.sub_self]
  rfl
theorem ne_bl {a b : Bool} : dNe [.bl a, .bl b] = some (.bl (a != b)) := by
  cases a <;> cases b <;> rfl
theorem served_spec {x y : PySem.Str} {m l : List PySem.Str} : F_is_served [.tup (txs l), .tup (txs (wayOf x m y))] = some (.bl (srv x y l), [none, none]) := by
  have h1 : frzs (txs l) = txs l := frzs_plain (txs_plain l)
  have h2 : frzs (txs (wayOf x m y)) = txs (wayOf x m y) := frzs_plain (txs_plain _)
  have h : WF F_is_served [.tup (txs l), .tup (txs (wayOf x m y))] fun d o => d = .bl (srv x y l) ∧ o = [none, none] := by
    refine f_of rfl ?_
    unfold b_is_served
    refine s_ret (w_app2P (w_app2P (w_app2 (w_var rfl (w_c ⟨.str x, ?_, w_var rfl ⟨.bl (decide (x ∈ l)), ?_, ?_⟩⟩)))))
    · show dSub1 [.tup (frzs (frzs (txs (wayOf x m y)))), .int 0] = _
      rw [h2, h2]
      exact way0
    · show dInA [.str x, .tup (frzs (frzs (txs l)))] = _
      rw [h1, h1]
      exact in_txsT
    · refine w_app2P (w_app2 (w_var rfl (w_app1P (w_c ⟨.int (-1), rfl, .str y, ?_, w_var rfl ⟨.bl (decide (y ∈ l)), ?_, .bl (srv x y l), ?_, rfl, rfl⟩⟩))))
      · show dSub1 [.tup (frzs (frzs (txs (wayOf x m y)))), .int (-1)] = _
        rw [h2, h2]
        exact way1
      · show dInA [.str y, .tup (frzs (frzs (txs l)))] = _
        rw [h1, h1]
        exact in_txsT
      · exact ne_bl
  obtain ⟨d, o, e, rfl, rfl⟩ := h
  exact e
def prD (o : Bool) (ks : List Lot) (vs : List Int) : D := .dct o (.inr ks) (vs.map D.int)
def worthL (x y : PySem.Str) (ks : List Lot) (vs : List Int) : List Int := ((ks.zip vs).filter fun p => srv x y (txOf p.1)).map (·.2)
theorem key_txs (l : List PySem.Str) : (lotOf l).map keyD = txs l := by
  unfold lotOf txs
  rw [List.map_map]
  rfl
def unS : D → Option PySem.Str
  | .str x => some x
  | _ => none
theorem unS_txs : ∀ l : List PySem.Str, (txs l).filterMap unS = l
  | [] => rfl
  | x :: l => by
    show (D.str x :: txs l).filterMap unS = _
    rw [List.filterMap_cons]
    show x :: (txs l).filterMap unS = _
    rw [unS_txs l]
/-- an item is served -/
def pItem (x y : PySem.Str) : D → Bool
  | .tup [.tup ts, _] => srv x y (ts.filterMap unS)
  | _ => false
def itemsL (ks : List Lot) (vs : List Int) : List D := (keysOf (.inr ks)).zipWith (fun k v => .tup [k, v]) (vs.map D.int)
theorem items_mem {d : D} : ∀ {ks : List Lot} {vs : List Int}, (∀ k ∈ ks, LotOk k) → d ∈ itemsL ks vs → ∃ (l : List PySem.Str) (v : Int), d = .tup [.tup (txs l), .int v]
  | [], vs, _, h => by
    unfold itemsL at h
    simp [keysOf] at h
  | k :: ks, [], _, h => by
    unfold itemsL at h
    simp [keysOf] at h
  | k :: ks, v :: vs, hk, h => by
    rcases List.mem_cons.mp (show d ∈ .tup [.tup (k.map keyD), .int v] :: itemsL ks vs from h) with z | z
    · obtain ⟨l, e, _⟩ := hk k List.mem_cons_self
      refine ⟨l, v, ?_⟩
      rw [z, e, key_txs]
    · exact items_mem (fun k hk' => hk k (List.mem_cons_of_mem _ hk')) z
theorem items_worth {x y : PySem.Str} : ∀ {ks : List Lot} {vs : List Int}, (∀ k ∈ ks, LotOk k) → ((itemsL ks vs).filter (pItem x y)).map snd2 = (worthL x y ks vs).map D.int
  | [], vs, _ => by
    unfold itemsL worthL
    simp [keysOf]
  | k :: ks, [], _ => by
    unfold itemsL worthL
    simp [keysOf]
  | k :: ks, v :: vs, hk => by
    obtain ⟨l, e, _⟩ := hk k List.mem_cons_self
    have ih := items_worth (x := x) (y := y) (ks := ks) (vs := vs) fun k hk' => hk k (List.mem_cons_of_mem _ hk')
    have e1 : itemsL (k :: ks) (v :: vs) = .tup [.tup (txs l), .int v] :: itemsL ks vs := by
      show .tup [.tup (k.map keyD), .int v] :: itemsL ks vs = _
      rw [e, key_txs]
    have e2 : pItem x y (.tup [.tup (txs l), .int v]) = srv x y l := by
      show srv x y ((txs l).filterMap unS) = _
      rw [unS_txs]
    have e3 : worthL x y (k :: ks) (v :: vs) = if srv x y l = true then v :: worthL x y ks vs else worthL x y ks vs := by
      unfold worthL
      rw [List.zip_cons_cons, List.filter_cons, e, txOf_lot]
      split <;> rfl
    rw [e1, e3, List.filter_cons, e2]
    split
    · rw [List.map_cons, ih]
      rfl
    · exact ih
theorem intsD_map : ∀ ns : List Int, intsD (ns.map D.int) = some ns
  | [] => rfl
  | n :: ns => by
    show (intsD (ns.map D.int)).map (n :: ·) = _
    rw [intsD_map ns]
    rfl
theorem worth_spec {x y : PySem.Str} {m : List PySem.Str} {ks : List Lot} {vs : List Int} (h : PrOk ks vs) : F_worth [prD false ks vs, .tup (txs (wayOf x m y))] = some (.int (worthL x y ks vs).sum, [none, none]) := by
  have hv : frzs (vs.map D.int) = vs.map D.int := frzs_plain (ints_plain vs)
  have hw : frzs (txs (wayOf x m y)) = txs (wayOf x m y) := frzs_plain (txs_plain _)
  have hh : WF F_worth [prD false ks vs, .tup (txs (wayOf x m y))] fun d o => d = .int (worthL x y ks vs).sum ∧ o = [none, none] := by
    refine f_of rfl ?_
    unfold b_worth
    refine s_ret (w_app1P (w_compP (w_path (ds := itemsL ks vs) rfl rfl ?_ ?_)))
    · show some ((keysOf (.inr ks)).zipWith (fun k v => D.tup [k, v]) (frzs (vs.map D.int))) = _
      rw [hv]
      rfl
    · have hS : frzAt (nPath itemsG 0 []).vw (wipeS (Tg.tp [2, 3]).slots (List.map some [prD false ks vs, .tup (txs (wayOf x m y))] ++ List.replicate (4 - [prD false ks vs, .tup (txs (wayOf x m y))].length) none)) = [some (prD false ks vs), some (.tup (txs (wayOf x m y))), none, none] := by
        show [some (D.dct false (.inr ks) (frzs (vs.map D.int))), some (D.tup (txs (wayOf x m y))), none, none] = _
        rw [hv]
        rfl
      rw [hS]
      refine ⟨?_, pItem x y, snd2, fun d hd => ?_, [some (prD false ks vs), some (.tup (txs (wayOf x m y))), none, none], rfl, ?_⟩
      · unfold itemsL
        rw [List.length_zipWith, List.length_map, show (keysOf (.inr ks)).length = ks.length from List.length_map _]
        have := h.few
        omega
      · obtain ⟨l, v, rfl⟩ := items_mem h.lots hd
        have hl : frzs (txs l) = txs l := frzs_plain (txs_plain l)
        refine ⟨[some (prD false ks vs), some (.tup (txs (wayOf x m y))), some (.tup (txs l)), some (.int v)], rfl, ?_, fun _ => ⟨.int v, rfl, rfl⟩, rfl⟩
        refine run_of (w_val (w_call (w_mVal (w_var rfl (w_mVal (w_var rfl (w_mNil ⟨[.tup (txs l), .tup (txs (wayOf x m y))], ?_, _, _, served_spec, _, rfl, _, rfl, ?_, rfl⟩)))))))
        · show some [D.tup (frzs (frzs (txs l))), D.tup (frzs (frzs (txs (wayOf x m y))))] = _
          rw [hl, hl, hw, hw]
        · show srv x y l = srv x y ((txs l).filterMap unS)
          rw [unS_txs]
      · rw [items_worth h.lots]
        refine ⟨.int (worthL x y ks vs).sum, ?_, rfl, rfl⟩
        show dSum [.lst false (frzs ((worthL x y ks vs).map D.int))] = _
        rw [frzs_plain (ints_plain _)]
        show (intsD _).map _ = _
        rw [intsD_map]
        rfl
  obtain ⟨d, o, e, rfl, rfl⟩ := hh
  exact e
end Law

namespace Law
open TW
theorem getG_at {κ α : Type} [DecidableEq κ] : ∀ {kk : List κ} {vs : List α} {i : Nat} {k : κ} {v : α}, kk.Nodup → kk[i]? = some k → vs[i]? = some v → getG kk vs k = some v
  | [], _, _, _, _, _, h, _ => by cases h
  | k0 :: kk, [], _, _, _, _, _, h => by cases h
  | k0 :: kk, v0 :: vs, 0, k, v, _, h1, h2 => by
    cases h1
    cases h2
    show (if k0 = k0 then some v0 else _) = _
    rw [if_pos rfl]
  | k0 :: kk, v0 :: vs, i + 1, k, v, hn, h1, h2 => by
    obtain ⟨n1, n2⟩ := List.nodup_cons.mp hn
    have hne : ¬ k0 = k := fun e => n1 (by rw [e]; exact List.mem_of_getElem? h1)
    show (if k0 = k then some v0 else getG kk vs k) = _
    rw [if_neg hne]
    exact getG_at n2 h1 h2
theorem count2 (p q : Bool) : dCount [.lst false [.bl p, .bl q], .bl true] = some (.int (if p then (if q then 2 else 1) else (if q then 1 else 0))) := by
  cases p <;> cases q <;> rfl
theorem worth_take {x y : PySem.Str} {ks : List Lot} {vs : List Int} {i : Nat} {k : Lot} {v : Int} (h1 : ks[i]? = some k) (h2 : vs[i]? = some v) : worthL x y (ks.take (i + 1)) (vs.take (i + 1)) = worthL x y (ks.take i) (vs.take i) ++ if srv x y (txOf k) = true then [v] else [] := by
  have hk : i < ks.length := (List.getElem?_eq_some_iff.mp h1).1
  have hv : i < vs.length := (List.getElem?_eq_some_iff.mp h2).1
  unfold worthL
  rw [List.take_succ, h1, List.take_succ, h2, List.zip_append (by rw [List.length_take, List.length_take]; omega), List.filter_append, List.map_append]
  congr 1
  show List.map _ (List.filter _ [(k, v)]) = _
  rw [List.filter_cons]
  split <;> rfl
end Law

namespace Law
open TW
theorem get_price {ks : List Lot} {vs : List Int} {l : List PySem.Str} {v : Int} {i : Nat} (hn : ks.Nodup) (h1 : ks[i]? = some (lotOf l)) (h2 : vs[i]? = some v) : dSub1 [prD false ks vs, .tup (txs l)] = some (.int v) := by
  show (((toKeys (txs l)).map fun q => getG ks (vs.map D.int) q).bind id) = _
  rw [toKeys_txs]
  show getG ks (vs.map D.int) (lotOf l) = _
  exact getG_at hn h1 (by rw [List.getElem?_map, h2]; rfl)
theorem frz_prD (o : Bool) (ks : List Lot) (vs : List Int) : frz (prD o ks vs) = prD false ks vs := by
  show D.dct false (.inr ks) (frzs (vs.map D.int)) = _
  rw [frzs_plain (ints_plain vs)]
  rfl
theorem frz_way (l : List PySem.Str) : frz (.tup (txs l)) = .tup (txs l) := by
  show D.tup (frzs (txs l)) = _
  rw [frzs_plain (txs_plain l)]
theorem frz_lst (o : Bool) (l : List PySem.Str) : frz (.lst o (txs l)) = .lst false (txs l) := by
  show D.lst false (frzs (txs l)) = _
  rw [frzs_plain (txs_plain l)]
theorem count_srv {x y : PySem.Str} {l : List PySem.Str} : decide ((if decide (x ∈ l) = true then (if decide (y ∈ l) = true then 2 else 1) else (if decide (y ∈ l) = true then 1 else 0) : Int) = 1) = srv x y l := by
  unfold srv
  cases decide (x ∈ l) <;> cases decide (y ∈ l) <;> rfl
theorem due_spec {x y : PySem.Str} {m : List PySem.Str} {ks : List Lot} {vs : List Int} (h : PrOk ks vs) : F__law_due [prD false ks vs, .tup (txs (wayOf x m y))] = some (.int (worthL x y ks vs).sum, [none, none]) := by
  have hh : WF F__law_due [prD false ks vs, .tup (txs (wayOf x m y))] fun d o => d = .int (worthL x y ks vs).sum ∧ o = [none, none] := by
    refine f_of rfl ?_
    unfold b__law_due
    refine s_seq (s_asg (w_c ⟨(show (2 : Nat) < 4 by decide), ?_⟩))
    refine s_seq (s_for (w_path (ds := keysOf (.inr ks)) rfl rfl rfl ⟨fun i S => ∃ x3, S = [some (prD false ks vs), some (.tup (txs (wayOf x m y))), some (.int (worthL x y (ks.take i) (vs.take i)).sum), x3], ⟨none, ?_⟩, ?_, ?_⟩))
    · split
      · rfl
      · show [some (frz (prD false ks vs)), some (.tup (txs (wayOf x m y))), some (.int 0), none] = _
        rw [frz_prD]
        rfl
    · rintro i d S hd ⟨x3, rfl⟩
      obtain ⟨k, hk, rfl⟩ : ∃ k, ks[i]? = some k ∧ d = .tup (k.map keyD) := by
        have hd : (ks.map fun k => D.tup (k.map keyD))[i]? = some d := hd
        rw [List.getElem?_map] at hd
        cases e : ks[i]? with
        | none => rw [e] at hd; cases hd
        | some k => rw [e] at hd; cases hd; exact ⟨k, rfl, rfl⟩
      obtain ⟨l, rfl, _, _⟩ := h.lots k (List.mem_of_getElem? hk)
      have hi : i < vs.length := by
        have := (List.getElem?_eq_some_iff.mp hk).1
        have := h.len
        omega
      obtain ⟨v, hv⟩ : ∃ v, vs[i]? = some v := ⟨vs[i], List.getElem?_eq_getElem hi⟩
      rw [key_txs]
      have hw := worth_take (x := x) (y := y) hk hv
      rw [txOf_lot] at hw
      refine ⟨_, rfl, s_if <| w_val <| w_app2P <| w_app2P <| w_lst <| w_cons <| w_app2P <| w_app2 <| w_var rfl <| w_c ⟨.str x, ?_, w_var rfl ⟨.bl (decide (x ∈ l)), ?_, w_cons <| w_app2P <| w_app2 <| w_var rfl <| w_app1P <| w_c ⟨.int (-1), rfl, .str y, ?_, w_var rfl ⟨.bl (decide (y ∈ l)), ?_, w_nil ⟨(show (2 : Nat) ≤ 1000 by decide), w_c ⟨_, count2 _ _, w_c ⟨_, rfl, _, rfl, ?_⟩⟩⟩⟩⟩⟩⟩⟩
      · rw [frz_way, frz_way]; exact way0
      · rw [frz_way, frz_way]; exact in_txsT
      · rw [frz_way, frz_way]; exact way1
      · rw [frz_way, frz_way]; exact in_txsT
      · rw [count_srv]
        refine iteB (fun hs => ?_) fun hs => ?_
        · rw [if_pos hs] at hw
          refine s_asg (w_app2 (w_var rfl (w_app2 (w_var rfl (w_var rfl ⟨.int v, ?_, .int ((worthL x y (ks.take i) (vs.take i)).sum + v), rfl, (show (2 : Nat) < 4 by decide), ⟨some (.tup (txs l)), ?_⟩⟩)))))
          · rw [frz_prD, frz_prD, frz_way, frz_way]
            exact get_price h.nd hk hv
          · rw [hw, List.sum_append]
            show _ = [_, _, some (D.int ((worthL x y (ks.take i) (vs.take i)).sum + [v].sum)), _]
            rw [show [v].sum = v from by simp]
            rfl
        · rw [hs] at hw
          refine s_nil ⟨some (.tup (txs l)), ?_⟩
          rw [hw]
          show _ = [_, _, some (D.int (worthL x y (ks.take i) (vs.take i) ++ []).sum), _]
          rw [List.append_nil]
          rfl
    · rintro S ⟨x3, rfl⟩
      refine s_ret (w_var rfl ⟨?_, rfl⟩)
      rw [show (keysOf (.inr ks)).length = ks.length from List.length_map _, List.take_length, h.len, List.take_length]
      rfl
  obtain ⟨d, o, e, rfl, rfl⟩ := hh
  exact e
theorem told_spec {x y : PySem.Str} {m : List PySem.Str} {ks : List Lot} {vs : List Int} (h : PrOk ks vs) : F__law_told [prD false ks vs, .tup (txs (wayOf x m y)), .int (worthL x y ks vs).sum] = some (.bl true, [none, none, none]) := by
  have hh : WF F__law_told [prD false ks vs, .tup (txs (wayOf x m y)), .int (worthL x y ks vs).sum] fun d o => d = .bl true ∧ o = [none, none, none] := by
    refine f_of rfl ?_
    unfold b__law_told
    refine s_seq (s_asg (w_call (w_mVal (w_var rfl (w_mVal (w_var rfl (w_mNil ⟨[prD false ks vs, .tup (txs (wayOf x m y))], ?_, _, _, worth_spec h, _, rfl, (show (3 : Nat) < 4 by decide), ?_⟩)))))))
    · show some [frz (frz (prD false ks vs)), frz (frz (.tup (txs (wayOf x m y))))] = _
      rw [frz_prD, frz_prD, frz_way, frz_way]
    · generalize (worthL x y ks vs).sum = q
      refine s_ret (w_eAnd (w_app1P (w_var rfl ⟨_, rfl, _, rfl, ?_⟩)))
      refine w_eAnd (w_eNot (w_app1P (w_var rfl ⟨_, rfl, _, rfl, _, rfl, ?_⟩)))
      refine w_app2P (w_var rfl (w_var rfl ⟨.bl true, ?_, rfl, rfl⟩))
      show some (D.bl (decide (q = q))) = _
      rw [decide_eq_true rfl]
  obtain ⟨d, o, e, rfl, rfl⟩ := hh
  exact e
end Law

namespace Law
open TW
theorem len_txs {o : Bool} {l : List PySem.Str} : dLen [.lst o (txs l)] = some (.int (l.length : Int)) := by
  show some (D.int ((txs l).length : Int)) = _
  unfold txs
  rw [List.length_map]
theorem txs_len (l : List PySem.Str) : (txs l).length = l.length := List.length_map _
theorem txs_at {l : List PySem.Str} {k : Int} (h0 : 0 ≤ k) (hk : k < (l.length : Int)) : ∃ x, (txs l)[k.toNat]? = some (.str x) ∧ l[k.toNat]? = some x ∧ x ∈ l := by
  have hl : k.toNat < l.length := by omega
  refine ⟨l[k.toNat], ?_, List.getElem?_eq_getElem hl, List.getElem_mem hl⟩
  unfold txs
  rw [List.getElem?_map, List.getElem?_eq_getElem hl]
  rfl
theorem txs_erase (l : List PySem.Str) (j : Nat) : (txs l).eraseIdx j = txs (l.eraseIdx j) := by
  unfold txs
  induction l generalizing j with
  | nil => rfl
  | cons x l ih =>
    cases j with
    | zero => rfl
    | succ j => rw [List.map_cons, List.eraseIdx_cons_succ, List.eraseIdx_cons_succ, List.map_cons, ih]
theorem noF_lst (l : List PySem.Str) : noF (.lst true (txs l)) = true := noFs_plain (txs_plain l)
theorem drawn_txs {o : Bool} {l : List PySem.Str} : ∀ k : Int, 0 ≤ k → k < (l.length : Int) → ∃ x, dSub1 [.lst o (txs l), .int k] = some x ∧ plain x = true ∧ ∃ z, x = .str z ∧ z ∈ l := by
  intro k h0 hk
  obtain ⟨x, h1, h2⟩ := ixD_list (o := o) (xs := txs l) h0 (by rw [txs_len]; exact hk)
  obtain ⟨z, h3, _, h4⟩ := txs_at h0 hk
  rw [h3] at h1
  cases h1
  exact ⟨_, h2, rfl, z, rfl, h4⟩
def wst (a b : Int) (es ms left : List PySem.Str) (x4 x5 x6 x7 x8 : Option D) : Stt := [some (potD a b), some (.lst false (txs es)), some (.lst false (txs ms)), some (.lst true (txs left)), x4, x5, x6, x7, x8]
theorem way_spec {a b : Int} {es ms : List PySem.Str} (hp : PotOk a b) (h2 : 2 ≤ es.length) (h6 : es.length ≤ 6) (h4 : ms.length ≤ 4) :
    WF F__law_way [potD a b, .lst false (txs es), .lst false (txs ms)] fun d o => ∃ (x y : PySem.Str) (m : List PySem.Str) (a' b' : Int), d = .tup (txs (wayOf x m y)) ∧ PotOk a' b' ∧ o = [some (potD a' b'), none, none] := by
  refine f_of rfl ?_
  unfold b__law_way
  refine s_seq <| s_asg <| w_app1 <| w_var rfl ⟨.lst true (txs es), ?_, (show (3 : Nat) < 9 by decide), ?_⟩
  · rw [frz_lst, frz_lst]; rfl
  rw [bindS_of (noF_lst es)]
  refine s_seq <| s_asg <| w_popAt (ds := txs es) rfl <| w_takeE rfl <| w_app1P <| w_var rfl ⟨.int (es.length : Int), ?_, (es.length : Int), a, b, rfl, rfl, hp, by omega, by omega, fun r1 a1 b1 p1 p2 hp1 => ?_⟩
  · rw [frz_lst, frz_lst]; exact len_txs
  obtain ⟨x, hx, _, _⟩ := txs_at p1 p2
  refine ⟨r1, .str x, rfl, p1, by omega, hx, (show (4 : Nat) < 9 by decide), ?_⟩
  rw [bindS_of (d := .str x) rfl, txs_erase]
  have hle : (es.eraseIdx r1.toNat).length = es.length - 1 := List.length_eraseIdx_of_lt (by omega)
  generalize es.eraseIdx r1.toNat = left at hle
  refine s_seq <| s_asg <| w_drawnE rfl <| w_var rfl ⟨(left.length : Int), a1, b1, .lst false (txs left), fun x => ∃ z, x = .str z ∧ z ∈ left, ?_, ?_, rfl, hp1, len_txs, by omega, by omega, drawn_txs, ?_⟩
  · rw [frz_lst, frz_lst]
  · rw [frz_lst]
  rintro _ a2 b2 ⟨y, rfl, _⟩ _ hp2
  refine ⟨(show (5 : Nat) < 9 by decide), ?_⟩
  rw [bindS_of (d := .str y) rfl]
  refine s_seq <| s_asg <| w_app1 <| w_var rfl ⟨.lst true (txs ms), ?_, (show (6 : Nat) < 9 by decide), ?_⟩
  · rw [frz_lst, frz_lst]; rfl
  rw [bindS_of (noF_lst ms)]
  refine s_seq <| s_asg <| w_lst <| w_nil ⟨(show (0 : Nat) ≤ 1000 by decide), (show (7 : Nat) < 9 by decide), ?_⟩
  refine s_seq <| s_forR <| w_takeE rfl <| w_app2 <| w_app1P <| w_var rfl ⟨.int (ms.length : Int), ?_, w_c ⟨.int ((ms.length : Int) + 1), rfl, _, a2, b2, rfl, rfl, hp2, by omega, by omega, fun r2 a3 b3 q1 q2 hp3 => ⟨r2, fun i S => ∃ (a b : Int) (rest m : List PySem.Str) (x8 : Option D), PotOk a b ∧ rest.length + i = ms.length ∧ m.length = i ∧ S = wst a b es ms left (some (.str x)) (some (.str y)) (some (.lst true (txs rest))) (some (.lst true (txs m))) x8, rfl, by omega, ⟨a3, b3, ms, [], none, hp3, rfl, rfl, rfl⟩, ?_, ?_⟩⟩⟩
  · rw [frz_lst, frz_lst]; exact len_txs
  · rintro i S hi ⟨a, b, rest, m, x8, hp, hr, hm, rfl⟩
    refine ⟨_, rfl, s_app (ds := txs m) rfl <| w_popAt (ds := txs rest) rfl <| w_takeE rfl <| w_app1P <| w_var rfl ⟨.int (rest.length : Int), ?_, (rest.length : Int), a, b, rfl, rfl, hp, by omega, by omega, fun r3 a4 b4 u1 u2 hp4 => ?_⟩⟩
    · rw [frz_lst, frz_lst]; exact len_txs
    · obtain ⟨z, hz, _, _⟩ := txs_at u1 u2
      refine ⟨r3, .str z, rfl, u1, by omega, hz, ⟨rfl, by rw [txs_len]; omega⟩, a4, b4, rest.eraseIdx r3.toNat, m ++ [z], some (.int (i : Int)), hp4, ?_, by rw [List.length_append, hm]; rfl, ?_⟩
      · rw [List.length_eraseIdx_of_lt (by omega)]
        omega
      · rw [bindS_of (d := .str z) rfl, txs_erase, txs_app]
        rfl
  · rintro S ⟨a, b, rest, m, x8, hp, hr, hm, rfl⟩
    have hm4 : m.length ≤ 4 := by omega
    refine s_ret <| w_app1 <| w_app2 <| w_app2 <| w_lst <| w_cons <| w_appP <| w_cons <| w_var rfl <| w_cons <| w_var rfl <| w_nil ⟨_, rfl, w_nil ⟨(show (1 : Nat) ≤ 1000 by decide), w_var rfl ⟨.lst true (.str (if y.cps.toList < x.cps.toList then y else x) :: txs m), ?_, w_lst <| w_cons <| w_appP <| w_cons <| w_var rfl <| w_cons <| w_var rfl <| w_nil ⟨_, rfl, w_nil ⟨(show (1 : Nat) ≤ 1000 by decide), ?_⟩⟩⟩⟩⟩
    · rw [frz_lst, frz_lst]
      show (if [D.str (if y.cps.toList < x.cps.toList then y else x)].length + (txs m).length ≤ 100000 then some (D.lst true ([D.str (if y.cps.toList < x.cps.toList then y else x)] ++ txs m)) else none) = _
      rw [if_pos (by rw [txs_len]; show 1 + m.length ≤ _; omega)]
      rfl
    · generalize (if y.cps.toList < x.cps.toList then y else x) = u
      generalize (if x.cps.toList < y.cps.toList then y else x) = v
      refine ⟨.lst true (txs (wayOf u m v)), ?_, .tup (txs (wayOf u m v)), ?_, u, v, m, a, b, rfl, hp, ?_⟩
      · show (if (frzs (D.str u :: txs m)).length + 1 ≤ 100000 then some (D.lst true (frzs (D.str u :: txs m) ++ [D.str v])) else none) = _
        rw [frzs_plain (xs := D.str u :: txs m) (txs_plain (u :: m)), if_pos (by rw [List.length_cons, txs_len]; omega)]
        unfold wayOf
        show some (D.lst true (D.str u :: (txs m ++ [D.str v]))) = some (D.lst true (D.str u :: txs (m ++ [v])))
        rw [txs_app]
      · rw [frz_lst]
        rfl
      · rw [bindS_of (d := .tup (txs (wayOf u m v))) (noFs_plain (txs_plain _))]
        rfl
/-! ### sorted names -/
theorem perm_txs {xs : List D} {l : List PySem.Str} (h : xs.Perm (txs l)) : ∃ l', xs = txs l' ∧ l'.Perm l := by
  have e : xs = txs (xs.filterMap unS) := by
    have : ∀ xs : List D, (∀ d ∈ xs, ∃ x, d = .str x) → xs = txs (xs.filterMap unS) := by
      intro xs
      induction xs with
      | nil => intro _; rfl
      | cons d xs ih =>
        intro h
        obtain ⟨x, rfl⟩ := h d List.mem_cons_self
        have := ih fun d hd => h d (List.mem_cons_of_mem _ hd)
        rw [List.filterMap_cons]
        show D.str x :: xs = D.str x :: txs (xs.filterMap unS)
        rw [← this]
    refine this xs fun d hd => ?_
    obtain ⟨x, _, e⟩ := List.mem_map.mp (h.mem_iff.mp hd)
    exact ⟨x, e.symm⟩
  refine ⟨xs.filterMap unS, e, ?_⟩
  have := h.filterMap unS
  rw [unS_txs] at this
  exact this
theorem ok_txs (l : List PySem.Str) : okSort (txs l) = true := by
  unfold okSort
  simp only [Bool.and_eq_true, Bool.or_eq_true, List.all_eq_true, decide_eq_true_eq]
  refine ⟨⟨⟨fun d hd => ?_, fun d hd e he => ?_⟩, .inr fun d hd => ?_⟩, fun d hd => ?_⟩
  · obtain ⟨x, _, rfl⟩ := List.mem_map.mp hd; rfl
  · obtain ⟨x, _, rfl⟩ := List.mem_map.mp hd
    obtain ⟨y, _, rfl⟩ := List.mem_map.mp he
    rfl
  · obtain ⟨x, _, rfl⟩ := List.mem_map.mp hd; rfl
  · obtain ⟨x, _, rfl⟩ := List.mem_map.mp hd; exact Nat.zero_le _
theorem sort_txs (o : Bool) (l : List PySem.Str) : ∃ l', dSort [.lst o (txs l)] = some (.lst true (txs l')) ∧ l'.Perm l := by
  obtain ⟨l', e, hp⟩ := perm_txs (List.mergeSort_perm (txs l) leD)
  refine ⟨l', ?_, hp⟩
  show (if okSort (txs l) = true then some (D.lst true (sortD (txs l))) else none) = _
  rw [if_pos (ok_txs l)]
  show some (D.lst true ((txs l).mergeSort leD)) = _
  rw [e]
theorem sl01_txs {o : Bool} {l : List PySem.Str} {k : Nat} : dSl01 [.lst o (txs l), .int (k : Int)] = some (.lst true (txs (l.take k))) := by
  show some (D.lst true (cutL (txs l) none (some (k : Int)))) = _
  unfold cutL
  rw [HT.sIx_none, List.drop_zero, HT.sIx_nat, Nat.sub_zero]
  unfold txs
  rw [← List.map_take, List.length_map]
  congr 3
  rcases Nat.le_total k l.length with h | h
  · rw [Nat.min_eq_left h]
  · rw [Nat.min_eq_right h, List.take_length, List.take_of_length_le h]
theorem sl10_txs {o : Bool} {l : List PySem.Str} {k : Nat} : dSl10 [.lst o (txs l), .int (k : Int)] = some (.lst true (txs (l.drop k))) := by
  show some (D.lst true (cutL (txs l) (some (k : Int)) none)) = _
  unfold cutL
  rw [HT.sIx_nat, HT.sIx_none]
  unfold txs
  rw [← List.map_drop, ← List.map_take, List.length_map]
  congr 3
  rcases Nat.le_total k l.length with h | h
  · rw [Nat.min_eq_left h, List.take_of_length_le (by rw [List.length_drop]; exact Nat.le_refl _)]
  · rw [Nat.min_eq_right h, List.drop_of_length_le (Nat.le_refl _), List.drop_of_length_le h, List.take_nil]
end Law

namespace Law
open TW
def S13 (ns : List Int) (x1 x2 x3 x4 x5 x6 x7 x8 x9 x10 x11 x12 : Option D) : Stt := [some (.scr ns), x1, x2, x3, x4, x5, x6, x7, x8, x9, x10, x11, x12]
theorem sh_name {x : PySem.Str} (h : Nm x) : Sh (.str x) 82 0 := (Sh.str fun c hc => by have := (h.let_ c hc).2; omega).mono (by have := h.le; omega) (Nat.le_refl _)
theorem sh_pr {ks : List Lot} {vs : List Int} (h : PrOk ks vs) : Sh (prD false ks vs) 5000 2 := by
  have h1 : Shs (keysOf (.inr ks)) 507 1 := Shs.of fun d hd => by
    obtain ⟨k, hk, rfl⟩ := List.mem_map.mp hd
    obtain ⟨l, rfl, hl, hn⟩ := h.lots k hk
    rw [key_txs]
    refine Sh.tup (n := 82) (m := 6) (Shs.of fun d hd => ?_) (by rw [txs_len]; exact hl)
    obtain ⟨x, hx, rfl⟩ := List.mem_map.mp hd
    exact sh_name (hn x hx)
  have h2 : Shs (vs.map D.int) 61 1 := Shs.of fun d hd => by
    obtain ⟨v, hv, rfl⟩ := List.mem_map.mp hd
    have := h.vals v hv
    exact (Sh.int (by omega)).mono (Nat.le_refl _) (Nat.zero_le _)
  exact (Sh.dct (c := 8) h1 h2 (by rw [List.length_map, ← h.len]; exact h.few)).mono (by decide) (Nat.le_refl _)
theorem hasL_ints : ∀ vs : List Int, hasLs (vs.map D.int) = false
  | [] => rfl
  | v :: vs => by show (hasL (.int v) || hasLs (vs.map D.int)) = false; rw [hasL_ints vs]; rfl
theorem repr_two {ks ks' : List Lot} {vs vs' : List Int} (h : PrOk ks vs) (h' : PrOk ks' vs') : ∃ z, dRepr [.tup [prD false ks vs, prD false ks' vs']] = some (.str z) := by
  refine repr_ok (Sh.tup (n := 5000) (k := 2) (m := 2) (Shs.of fun d hd => ?_) (Nat.le_refl _)) ?_ (by decide) (by decide)
  · rcases List.mem_cons.mp hd with z | z
    · rw [z]; exact sh_pr h
    · rw [List.mem_singleton.mp z]; exact sh_pr h'
  · show (hasLs (vs.map D.int) || (hasLs (vs'.map D.int) || false)) = false
    rw [hasL_ints, hasL_ints]
    rfl
theorem pr0 : PrOk [] [] := ⟨rfl, List.nodup_nil, by decide, (fun _ z => nomatch z), (fun _ z => nomatch z)⟩
theorem four_mem {α : Type} {a b c d x : α} {i : Nat} (h : [a, b, c, d][i]? = some x) : x = a ∨ x = b ∨ x = c ∨ x = d := by
  have := List.mem_of_getElem? h
  simpa using this
/-- one way, asked by all prices -/
theorem way_asked {ns : List Int} {x1 x2 x3 x4 x5 x6 x9 x10 x12 : Option D} {x y : PySem.Str} {m : List PySem.Str} {ks ks' : List Lot} {vs vs' : List Int} {N : Stt → Prop} {R : D → Stt → Prop} (h : PrOk ks vs) (h' : PrOk ks' vs')
    (k : ∀ x12, N (S13 ns x1 x2 x3 x4 x5 x6 (some (prD false ks vs)) (some (prD false ks' vs')) x9 x10 (some (.tup (txs (wayOf x m y)))) x12)) :
    WS (sFor (.nm 12) (nIter (eTup (aCons (eVar 7) (aCons (eVar 8) (aCons (eVar 7) (aCons (eDnew true) (aNil))))))) (sIf (nNot (nVal (eCall F__law_told (mVal (eVar 12) (mVal (eVar 11) (mVal (eCall F__law_due (mVal (eVar 12) (mVal (eVar 11) (mNil)))) (mNil))))))) (sRet (eC (.bl false))) (sNil)))
      (S13 ns x1 x2 x3 x4 x5 x6 (some (prD false ks vs)) (some (prD false ks' vs')) x9 x10 (some (.tup (txs (wayOf x m y)))) x12) N R := by
  refine s_for <| w_iter <| w_tup <| w_cons <| w_var rfl <| w_cons <| w_var rfl <| w_cons <| w_var rfl <| w_cons ⟨_, _, rfl, w_nil ⟨(show (4 : Nat) ≤ 1000 by decide), [prD false ks vs, prD false ks' vs', prD false ks vs, prD false [] []], ?_, fun _ S => ∃ x12, S = S13 ns x1 x2 x3 x4 x5 x6 (some (prD false ks vs)) (some (prD false ks' vs')) x9 x10 (some (.tup (txs (wayOf x m y)))) x12, ⟨x12, ?_⟩, ?_, ?_⟩⟩
  · show some [frz (frz (prD false ks vs)), frz (frz (prD false ks' vs')), frz (frz (prD false ks vs)), prD false [] []] = _
    rw [frz_prD, frz_prD, frz_prD, frz_prD]
  · split
    · rfl
    · show [some (.scr ns), x1, x2, x3, x4, x5, x6, some (frz (prD false ks vs)), some (frz (prD false ks' vs')), x9, x10, some (.tup (txs (wayOf x m y))), x12] = _
      rw [frz_prD, frz_prD]
      rfl
  · rintro i d S hd ⟨x12, rfl⟩
    obtain ⟨ks, vs, rfl, h⟩ : ∃ ks vs, d = prD false ks vs ∧ PrOk ks vs := by
      rcases four_mem hd with z | z | z | z
      · exact ⟨ks, vs, z, h⟩
      · exact ⟨ks', vs', z, h'⟩
      · exact ⟨ks, vs, z, h⟩
      · exact ⟨[], [], z, pr0⟩
    refine ⟨_, rfl, s_if ⟨false, _, ?_, ⟨_, rfl, some (prD false ks vs), rfl⟩⟩⟩
    refine run_of ?_
    refine w_not <| w_val <| w_call <| w_mVal <| w_var rfl <| w_mVal <| w_var rfl <| w_mVal <| w_call <| w_mVal <| w_var rfl <| w_mVal <| w_var rfl <| w_mNil ⟨[prD false ks vs, .tup (txs (wayOf x m y))], ?_, _, _, due_spec h, _, rfl, w_mNil ⟨[prD false ks vs, .tup (txs (wayOf x m y)), .int (worthL x y ks vs).sum], ?_, _, _, told_spec h, _, rfl, true, rfl, rfl, rfl⟩⟩
    · show some [frz (frz (prD false ks vs)), frz (frz (.tup (txs (wayOf x m y))))] = _
      rw [frz_prD, frz_prD, frz_way, frz_way]
    · show some [frz (frz (prD false ks vs)), frz (frz (.tup (txs (wayOf x m y)))), D.int _] = _
      rw [frz_prD, frz_prD, frz_way, frz_way]
  · rintro S ⟨x12, rfl⟩
    exact k x12
theorem law_true (ns : List Int) (hl : ns.length ≤ 63) : ∃ o, F_law [.scr ns] = some (.bl true, o) := by
  have hh : WF F_law [.scr ns] fun d o => d = .bl true := by
    refine f_of rfl ?_
    unfold b_law
    refine s_seq <| s_forR <| w_appP <| w_cons <| w_c <| w_cons <| w_appP <| w_cons <| w_app1P <| w_var rfl ⟨.int (ns.length : Int), rfl, w_cons <| w_c <| w_nil ⟨_, rfl, w_nil ⟨_, rfl, _, fun _ S => ∃ x1 x2 x3 x4 x5 x6 x7 x8 x9 x10 x11 x12, S = S13 ns x1 x2 x3 x4 x5 x6 x7 x8 x9 x10 x11 x12, rfl, ?_, ⟨none, none, none, none, none, none, none, none, none, none, none, none, rfl⟩, ?_, ?_⟩⟩⟩
    · split <;> split <;> omega
    · rintro i S hi ⟨x1, x2, x3, x4, x5, x6, x7, x8, x9, x10, x11, x12, rfl⟩
      have hi10 : i < 10 := by
        revert hi
        split <;> split <;> omega
      refine ⟨_, rfl, s_seq <| s_asg <| w_call <| w_mVal <| w_var rfl <| w_mVal <| w_var rfl <| w_mNil ⟨[.scr ns, .int (i : Int)], rfl, (pot_spec (by omega) (by omega)).mono fun d o h => ?_⟩⟩
      obtain ⟨a, b, rfl, hp, rfl⟩ := h
      refine ⟨_, rfl, (show (2 : Nat) < 13 by decide), ?_⟩
      refine (show WS _ (S13 ns (some (.int (i : Int))) (some (potD a b)) x3 x4 x5 x6 x7 x8 x9 x10 x11 x12) _ _ from ?_)
      refine s_seq <| s_asg <| w_app2 <| w_c <| w_take rfl hp (by decide) (by decide) fun r1 a1 b1 p1 p2 hp1 => ⟨.int (2 + r1), rfl, (show (3 : Nat) < 13 by decide), ?_⟩
      obtain ⟨t, ht⟩ : ∃ t : Nat, 2 + r1 = (t : Int) := ⟨(2 + r1).toNat, by omega⟩
      rw [ht]
      have ht2 : 2 ≤ t ∧ t ≤ 6 := by omega
      refine (show WS _ (S13 ns (some (.int (i : Int))) (some (potD a1 b1)) (some (.int (t : Int))) x4 x5 x6 x7 x8 x9 x10 x11 x12) _ _ from ?_)
      refine s_seq <| s_asg <| w_call <| w_mRef rfl <| w_mVal <| w_app2 <| w_var rfl <| w_take rfl hp1 (by decide) (by decide) fun r2 a2 b2 q1 q2 hp2 => ⟨.int ((t : Int) + r2), rfl, w_mNil ⟨[potD a2 b2, .int ((t : Int) + r2)], rfl, (names_spec hp2 (by omega) (by omega)).mono fun d o h => ?_⟩⟩
      obtain ⟨ss, a3, b3, rfl, hsl, hnd, hnm, hp3, rfl⟩ := h
      refine ⟨_, rfl, (show (4 : Nat) < 13 by decide), ?_⟩
      refine (show WS _ (S13 ns (some (.int (i : Int))) (some (potD a3 b3)) (some (.int (t : Int))) (some (.lst false (txs ss))) x5 x6 x7 x8 x9 x10 x11 x12) _ _ from ?_)
      obtain ⟨es, hes, hperm⟩ := sort_txs false (ss.take t)
      refine s_seq <| s_par <| w_cons <| w_app1 <| w_app2 <| w_var rfl <| w_var rfl ⟨.lst true (txs (ss.take t)), ?_, .lst true (txs es), ?_, w_cons <| w_app2 <| w_var rfl <| w_var rfl ⟨.lst true (txs (ss.drop t)), ?_, w_nil ⟨_, _, rfl, ⟨(show (5 : Nat) < 13 by decide), (show (6 : Nat) < 13 by decide)⟩, ?_⟩⟩⟩
      · rw [frz_lst, frz_lst]; exact sl01_txs
      · rw [frz_lst]; exact hes
      · rw [frz_lst, frz_lst]; exact sl10_txs
      generalize hms : ss.drop t = ms
      have hel : es.length = t := by rw [hperm.length_eq, List.length_take]; omega
      have hml : ms.length ≤ 4 := by rw [← hms, List.length_drop]; omega
      have hen : ∀ x ∈ es, Nm x := fun x hx => hnm x (List.mem_of_mem_take (hperm.mem_iff.mp hx))
      rw [if_pos (show noFs [D.lst true (txs es), .lst true (txs ms)] = true by
        show (noF (D.lst true (txs es)) && (noF (D.lst true (txs ms)) && true)) = true
        rw [noF_lst, noF_lst]
        rfl)]
      refine (show WS _ (S13 ns (some (.int (i : Int))) (some (potD a3 b3)) (some (.int (t : Int))) (some (.lst false (txs ss))) (some (.lst true (txs es))) (some (.lst true (txs ms))) x7 x8 x9 x10 x11 x12) _ _ from ?_)
      refine s_seq <| s_par <| w_cons <| w_call <| w_mRef rfl <| w_mVal <| w_var rfl <| w_mNil ⟨[potD a3 b3, .lst false (txs es)], ?_, (prices_spec hp3 (by omega) (by omega) hen).mono fun d o h => ?_⟩
      · show some [potD a3 b3, frz (frz (.lst true (txs es)))] = _
        rw [frz_lst, frz_lst]
      obtain ⟨ks, vs, a4, b4, rfl, hpr, hp4, rfl⟩ := h
      refine ⟨_, rfl, w_cons <| w_call <| w_mRef rfl <| w_mVal <| w_var rfl <| w_mNil ⟨[potD a4 b4, .lst false (txs es)], ?_, (prices_spec hp4 (by omega) (by omega) hen).mono fun d o h => ?_⟩⟩
      · show some [potD a4 b4, frz (frz (.lst true (txs es)))] = _
        rw [frz_lst, frz_lst]
      obtain ⟨ks', vs', a5, b5, rfl, hpr', hp5, rfl⟩ := h
      refine ⟨_, rfl, w_nil ⟨_, _, rfl, ⟨(show (7 : Nat) < 13 by decide), (show (8 : Nat) < 13 by decide)⟩, ?_⟩⟩
      rw [if_neg (show ¬ noFs [D.dct false (.inr ks) (vs.map D.int), D.dct false (.inr ks') (vs'.map D.int)] = true from Bool.false_ne_true)]
      obtain ⟨z, hz⟩ := repr_two hpr hpr'
      have hst : ∀ x : D, (frzAt (aCons (eCall F__law_prices (mRef 2 (mVal (eVar 5) (mNil)))) (aCons (eCall F__law_prices (mRef 2 (mVal (eVar 5) (mNil)))) (aNil))).vw (S13 ns (some (.int (i : Int))) (some (potD a5 b5)) (some (.int (t : Int))) (some (.lst false (txs ss))) (some (.lst true (txs es))) (some (.lst true (txs ms))) x7 x8 x9 x10 x11 x12)) = S13 ns (some (.int (i : Int))) (some (potD a5 b5)) (some (.int (t : Int))) (some (.lst false (txs ss))) (some (.lst false (txs es))) (some (.lst true (txs ms))) x7 x8 x9 x10 x11 x12 := by
        intro _
        show [some (D.scr ns), some (D.int (i : Int)), some (potD a5 b5), some (.int (t : Int)), some (.lst false (txs ss)), some (frz (.lst true (txs es))), some (.lst true (txs ms)), x7, x8, x9, x10, x11, x12] = _
        rw [frz_lst]
        rfl
      refine (show WS _ (((frzAt _ (S13 ns (some (.int (i : Int))) (some (potD a5 b5)) (some (.int (t : Int))) (some (.lst false (txs ss))) (some (.lst true (txs es))) (some (.lst true (txs ms))) x7 x8 x9 x10 x11 x12)).set 7 (some (prD false ks vs))).set 8 (some (prD false ks' vs'))) _ _ from ?_)
      rw [hst .non]
      refine (show WS _ (S13 ns (some (.int (i : Int))) (some (potD a5 b5)) (some (.int (t : Int))) (some (.lst false (txs ss))) (some (.lst false (txs es))) (some (.lst true (txs ms))) (some (prD false ks vs)) (some (prD false ks' vs')) x9 x10 x11 x12) _ _ from ?_)
      refine s_seq <| s_asg <| w_app1P <| w_tup <| w_cons <| w_var rfl <| w_cons <| w_var rfl <| w_nil ⟨(show (2 : Nat) ≤ 1000 by decide), .str z, ?_, (show (9 : Nat) < 13 by decide), ?_⟩
      · show dRepr [.tup [frz (frz (prD false ks vs)), frz (frz (prD false ks' vs'))]] = _
        rw [frz_prD, frz_prD, frz_prD, frz_prD]
        exact hz
      refine (show WS _ (S13 ns (some (.int (i : Int))) (some (potD a5 b5)) (some (.int (t : Int))) (some (.lst false (txs ss))) (some (.lst false (txs es))) (some (.lst true (txs ms))) (some (prD false ks vs)) (some (prD false ks' vs')) (some (.str z)) x10 x11 x12) _ _ from ?_)
      refine s_seq <| s_forR <| w_app2 <| w_c <| w_take rfl hp5 (by decide) (by decide) fun r3 a6 b6 u1 u2 hp6 => ⟨.int (1 + r3), rfl, 1 + r3, fun _ S => ∃ a b x10 x11 x12, PotOk a b ∧ S = S13 ns (some (.int (i : Int))) (some (potD a b)) (some (.int (t : Int))) (some (.lst false (txs ss))) (some (.lst false (txs es))) (some (.lst true (txs ms))) (some (prD false ks vs)) (some (prD false ks' vs')) (some (.str z)) x10 x11 x12, rfl, by omega, ⟨a6, b6, x10, x11, x12, hp6, rfl⟩, ?_, ?_⟩
      · rintro j S hj ⟨a, b, x10, x11, x12, hp, rfl⟩
        refine ⟨_, rfl, s_seq <| s_asg <| w_call <| w_mRef rfl <| w_mVal <| w_var rfl <| w_mVal <| w_var rfl <| w_mNil ⟨[potD a b, .lst false (txs es), .lst false (txs ms)], ?_, (way_spec hp (by omega) (by omega) hml).mono fun d o h => ?_⟩⟩
        · show some [potD a b, frz (frz (.lst false (txs es))), frz (frz (.lst true (txs ms)))] = _
          rw [frz_lst, frz_lst, frz_lst, frz_lst]
        obtain ⟨x, y, m, a7, b7, rfl, hp7, rfl⟩ := h
        refine ⟨_, rfl, (show (11 : Nat) < 13 by decide), ?_⟩
        rw [bindS_of (d := .tup (txs (wayOf x m y))) (noFs_plain (txs_plain _))]
        exact way_asked hpr hpr' fun x12 => ⟨a7, b7, _, _, x12, hp7, rfl⟩
      · rintro S ⟨a, b, x10, x11, x12, hp, rfl⟩
        refine s_if <| w_val <| w_app2P <| w_app1P <| w_tup <| w_cons <| w_var rfl <| w_cons <| w_var rfl <| w_nil ⟨(show (2 : Nat) ≤ 1000 by decide), .str z, ?_, w_var rfl ⟨.bl (!decide (z = z)), rfl, _, rfl, ?_⟩⟩
        · show dRepr [.tup [frz (frz (prD false ks vs)), frz (frz (prD false ks' vs'))]] = _
          rw [frz_prD, frz_prD, frz_prD, frz_prD]
          exact hz
        · rw [decide_eq_true rfl]
          exact s_nil ⟨_, _, _, _, _, _, _, _, _, _, _, _, rfl⟩
    · rintro S ⟨x1, x2, x3, x4, x5, x6, x7, x8, x9, x10, x11, x12, rfl⟩
      exact s_ret <| w_c rfl
  obtain ⟨d, o, e, rfl⟩ := hh
  exact ⟨o, e⟩
end Law

namespace Law
open PySem PySem.Spec PyProof.Rows L2 TW
def d4 : He.DefD := ⟨("_law_at", none), "_law_at", "_law_at", defArgs (top 4), defBody (top 4), defScope (top 4), [], []⟩
def d5 : He.DefD := ⟨("_law_pot", none), "_law_pot", "_law_pot", defArgs (top 5), defBody (top 5), defScope (top 5), [], []⟩
def d6 : He.DefD := ⟨("_law_take", none), "_law_take", "_law_take", defArgs (top 6), defBody (top 6), defScope (top 6), [], []⟩
def d7 : He.DefD := ⟨("_law_drawn", none), "_law_drawn", "_law_drawn", defArgs (top 7), defBody (top 7), defScope (top 7), [], []⟩
def d8 : He.DefD := ⟨("_law_names", none), "_law_names", "_law_names", defArgs (top 8), defBody (top 8), defScope (top 8), [], []⟩
def d9 : He.DefD := ⟨("_law_prices", none), "_law_prices", "_law_prices", defArgs (top 9), defBody (top 9), defScope (top 9), [], []⟩
def d11 : He.DefD := ⟨("_law_way", none), "_law_way", "_law_way", defArgs (top 11), defBody (top 11), defScope (top 11), [], []⟩
def d1 : He.DefD := ⟨("is_served", none), "is_served", "is_served", defArgs (top 1), defBody (top 1), defScope (top 1), [], []⟩
def d2 : He.DefD := ⟨("worth", none), "worth", "worth", defArgs (top 2), defBody (top 2), defScope (top 2), [], []⟩
def d12 : He.DefD := ⟨("_law_told", none), "_law_told", "_law_told", defArgs (top 12), defBody (top 12), defScope (top 12), [], []⟩
def d10 : He.DefD := ⟨("_law_due", none), "_law_due", "_law_due", defArgs (top 10), defBody (top 10), defScope (top 10), [], []⟩
def d13 : He.DefD := ⟨("law", none), "law", "law", defArgs (top 13), defBody (top 13), defScope (top 13), [], []⟩
def fn : List He.DefD := [d4, d5, d6, d7, d8, d9, d11, d1, d2, d12, d10, d13]
def fa : List He.Fa := [.glo "_law_at", .glo "_law_pot", .glo "_law_take", .glo "_law_drawn", .glo "_law_names", .glo "_law_prices", .glo "_law_way", .glo "is_served", .glo "worth", .glo "_law_told", .glo "_law_due", .glo "law", .free "len", .free "max", .free "divmod", .free "range", .free "enumerate", .free "tuple", .free "list", .free "min", .free "sum", .free "isinstance", .free "int", .free "bool", .free "sorted", .free "repr"]
def loose0 : List PySem.Str := ["is_served", "worth", "_law_at", "_law_pot", "_law_take", "_law_drawn", "_law_names", "_law_prices", "_law_due", "_law_way", "_law_told"]
def loose : List PySem.Str := loose0
abbrev R : PySem.W.OpenRow := PySem.W.OpenLaw.row PySem.Challenge.rw_endways_k81_ways_worth
abbrev hk : PySem.W.Hook := He.hookD 4 fa fn
def ob (s : PySem.W.SharedT) : He.AlD := He.obsDG 4 fa fn (HandSHeadRun.getT s)
theorem ob_eq (s : PySem.W.SharedT) : ob s = hk.obs s.abs := He.obsDG_eq (HandSHeadRun.getT_eq s)
theorem run (w : World) : HandSHeadRun.RunEq R (PySem.W.view R.prog [13]) hk ob 4000 loose w := by
  intro os
  kernel_rfl
theorem says {K : PySem.W.Frag} {h : Heap} {mg : Str → Option Value} (X : K.In h) (G : h.Ns mainGlobals mg) (c : He.SaysD fa fn K) : Al K mg :=
  ⟨
    (let ⟨fd, F⟩ := c.def_ 0 (d := d4) rfl; ⟨_, fd, F, He.glo_ok X G (c.fact 0 (f := .glo "_law_at") rfl)⟩),
    (let ⟨fd, F⟩ := c.def_ 1 (d := d5) rfl; ⟨_, fd, F, He.glo_ok X G (c.fact 1 (f := .glo "_law_pot") rfl)⟩),
    (let ⟨fd, F⟩ := c.def_ 2 (d := d6) rfl; ⟨_, fd, F, He.glo_ok X G (c.fact 2 (f := .glo "_law_take") rfl)⟩),
    (let ⟨fd, F⟩ := c.def_ 3 (d := d7) rfl; ⟨_, fd, F, He.glo_ok X G (c.fact 3 (f := .glo "_law_drawn") rfl)⟩),
    (let ⟨fd, F⟩ := c.def_ 4 (d := d8) rfl; ⟨_, fd, F, He.glo_ok X G (c.fact 4 (f := .glo "_law_names") rfl)⟩),
    (let ⟨fd, F⟩ := c.def_ 5 (d := d9) rfl; ⟨_, fd, F, He.glo_ok X G (c.fact 5 (f := .glo "_law_prices") rfl)⟩),
    (let ⟨fd, F⟩ := c.def_ 6 (d := d11) rfl; ⟨_, fd, F, He.glo_ok X G (c.fact 6 (f := .glo "_law_way") rfl)⟩),
    (let ⟨fd, F⟩ := c.def_ 7 (d := d1) rfl; ⟨_, fd, F, He.glo_ok X G (c.fact 7 (f := .glo "is_served") rfl)⟩),
    (let ⟨fd, F⟩ := c.def_ 8 (d := d2) rfl; ⟨_, fd, F, He.glo_ok X G (c.fact 8 (f := .glo "worth") rfl)⟩),
    (let ⟨fd, F⟩ := c.def_ 9 (d := d12) rfl; ⟨_, fd, F, He.glo_ok X G (c.fact 9 (f := .glo "_law_told") rfl)⟩),
    (let ⟨fd, F⟩ := c.def_ 10 (d := d10) rfl; ⟨_, fd, F, He.glo_ok X G (c.fact 10 (f := .glo "_law_due") rfl)⟩),
    (let ⟨fd, F⟩ := c.def_ 11 (d := d13) rfl; ⟨_, fd, F, He.glo_ok X G (c.fact 11 (f := .glo "law") rfl)⟩),
    He.free_ok X G (c.fact 12 (f := .free "len") rfl),
    He.free_ok X G (c.fact 13 (f := .free "max") rfl),
    He.free_ok X G (c.fact 14 (f := .free "divmod") rfl),
    He.free_ok X G (c.fact 15 (f := .free "range") rfl),
    He.free_ok X G (c.fact 16 (f := .free "enumerate") rfl),
    He.free_ok X G (c.fact 17 (f := .free "tuple") rfl),
    He.free_ok X G (c.fact 18 (f := .free "list") rfl),
    He.free_ok X G (c.fact 19 (f := .free "min") rfl),
    He.free_ok X G (c.fact 20 (f := .free "sum") rfl),
    He.free_ok X G (c.fact 21 (f := .free "isinstance") rfl),
    He.free_ok X G (c.fact 22 (f := .free "int") rfl),
    He.free_ok X G (c.fact 23 (f := .free "bool") rfl),
    He.free_ok X G (c.fact 24 (f := .free "sorted") rfl),
    He.free_ok X G (c.fact 25 (f := .free "repr") rfl)⟩
end Law
open PySem PySem.W PySem.Calls PyProof.Rows
theorem PySem.Challenge.cw_endways_k81_ways_worth_holds : PySem.Challenge.rw_endways_k81_ways_worth.Holds := by
  w_on; o_law
  refine HandSHeadRun.head_any (r := OpenLaw.row PySem.Challenge.rw_endways_k81_ways_worth) (q := view (OpenLaw.row PySem.Challenge.rw_endways_k81_ways_worth).prog [13]) (H := Law.hk) (ob := Law.ob) (M := 4000) (loose := Law.loose) (d := HandSHeadRun.topDef (OpenLaw.row PySem.Challenge.rw_endways_k81_ways_worth).prog 13) (kwd := []) Law.ob_eq
    (by kernel_rfl) (fun s => by kernel_rfl) Law.run (by kernel_rfl) (by kernel_rfl) (by kernel_rfl) (by rfl) (by first | assumption | decide +kernel) (by decide +kernel) ⟨rfl, rfl, rfl, rfl, rfl, by decide +kernel⟩ ?hw ?hc
  case hw => w_witness2
  case hc =>
    refine TW.walk_ofG (l := PySem.Challenge.rw_endways_k81_ways_worth) (n := 63) (k := 4) (x := "_law_script") (CX := L2.CX0) rfl (by decide) (by kernel_rfl) ⟨rfl, by decide, by decide⟩ ?F (fun _ _ _ _ z => z)
    intro w mg fa h Y G hmg0
    obtain ⟨K, KX, c⟩ := Y
    have hmg : mg ("law" : PySem.Str) = some (.ref fa) := by
      have e : (HandSHeadRun.topDef (OpenLaw.row PySem.Challenge.rw_endways_k81_ways_worth).prog 13).name = ("law" : PySem.Str) := by kernel_rfl
      rw [← e]
      exact hmg0
    have al := Law.says KX G c
    obtain ⟨f, fd, F, gf⟩ := al.d_law
    have e := hmg.symm.trans gf
    cases e
    have b := L2.FunD.bindsA (ps := ["_law_script"]) F fun _ _ _ _ _ _ us hl => match us, hl with | [_], _ => rfl
    exact ⟨K, fd, _, KX, fun s v => b s [v] rfl, fun H a ns hl hO hS => TW.law_sp hO hS (Law.law_true ns hl), fun base _ _ => Law.ok_law al F⟩
