import PyProof.Rows.All
import Wide.All
import OpenK.AllK
import Wide.FinOn
import HandS.ForMost
import HandS.Wide
import HandS.Evl
import HandS.Zip
import KE.GoesEnumKw
import KE.KUnpackStar
import HandS.SortInts
import HandS.TupAny
import HandS.RaiseMore
import PyProof.SliceList
import HandS.Exc
import HandS.ExcOwn
import HandS.WordsExc
import HandS.CallSlots
import HandS.Defaults
import HandS.MakeKwOnly
import HandS.TupMul
import KE.KTupSum
import HandS.Codes
import HandS.SetBool
import HandS.Strs
import HandS.Walk
import HandS.IsInst
import HandS.Ends
import HandS.HeadHook1
import HandS.HeadHook2
import HandS.HeadHook3
import HandS.MakeKw
import HandS.CallLocal
import HandS.HeadHook4
import HandS.Head0
import HandS.Head1
import HandS.Head2
import HandS.HeadEnd
import PySem.Challenge.RW_crowdsay_k43_questions_by_hand
set_option Elab.async false
set_option linter.all false
set_option maxRecDepth 100000
/-! Cs1: data trees, what they stand for in the abstract heap. -/
namespace Cs
open PySem L2

/-- data trees; a flag true: a node that may change and that nobody else holds -/
inductive D where
  | undef | non | bl (b : Bool) | int (i : Int) | str (x : Str)
  | tup (xs : List D) | lst (o : Bool) (xs : List D) | lkd (xs : List D)
  | dK (o : Bool) (ks : List Key) (xs : List D)
  | dT (o : Bool) (ks : List (List Key)) (xs : List D)
  | ins (o : Bool) (C : Str) (fs : List Str) (xs : List D)
  | glb (x : Str)
  | own (o : Addr → HO)

mutual
def frz : D → D
  | .tup xs => .tup (frzs xs)
  | .lst _ xs => .lst false (frzs xs)
  | .lkd xs => .lkd (frzs xs)
  | .dK _ ks xs => .dK false ks (frzs xs)
  | .dT _ ks xs => .dT false ks (frzs xs)
  | .ins _ C fs xs => .ins false C fs (frzs xs)
  | .undef => .undef
  | .non => .non
  | .bl b => .bl b
  | .int i => .int i
  | .str x => .str x
  | .glb x => .glb x
  | .own _ => .undef
def frzs : List D → List D
  | [] => []
  | d :: ds => frz d :: frzs ds
end
mutual
def isFz : D → Bool
  | .tup xs => isFzs xs
  | .lst o xs => !o && isFzs xs
  | .lkd xs => isFzs xs
  | .dK o _ xs => !o && isFzs xs
  | .dT o _ xs => !o && isFzs xs
  | .ins o _ _ xs => !o && isFzs xs
  | .undef => false
  | .non => true
  | .bl _ => true
  | .int _ => true
  | .str _ => true
  | .glb _ => true
  | .own _ => false
def isFzs : List D → Bool
  | [] => true
  | d :: ds => isFz d && isFzs ds
end
mutual
/-- nothing within is missing -/
def full : D → Bool
  | .tup xs => fulls xs
  | .lst _ xs => fulls xs
  | .lkd xs => fulls xs
  | .dK _ _ xs => fulls xs
  | .dT _ _ xs => fulls xs
  | .ins _ _ _ xs => fulls xs
  | .undef => false
  | .non => true
  | .bl _ => true
  | .int _ => true
  | .str _ => true
  | .glb _ => true
  | .own _ => false
def fulls : List D → Bool
  | [] => true
  | d :: ds => full d && fulls ds
end

section
variable (K : PySem.W.Frag) (mg : Str → Option Value)
mutual
/-- v stands for d: frozen nodes lie in Hf, the others in H, at fp -/
def Rp (Hf H : Hp) : D → V → List Addr → Prop
  | .undef, _, fp => fp = []
  | .non, v, fp => v = .non ∧ fp = []
  | .bl b, v, fp => v = .bl b ∧ fp = []
  | .int i, v, fp => v = .int i ∧ fp = []
  | .str x, v, fp => v = .str x ∧ fp = []
  | .tup ds, v, fp => fp = [] ∧ ∃ a vs, v = .ref a ∧ SqT K Hf a vs ∧ Rps Hf H ds vs []
  | .lst false ds, v, fp => fp = [] ∧ ∃ a vs, v = .ref a ∧ Hf a = some (.lst vs) ∧ Rps Hf H ds vs []
  | .lkd ds, v, fp => fp = [] ∧ ∃ a vs, v = .ref a ∧ SqL K Hf a vs ∧ Rps Hf H ds vs []
  | .lst true ds, v, fp => ∃ a vs f, v = .ref a ∧ fp = a :: f ∧ H a = some (.lst vs) ∧ Rps Hf H ds vs f
  | .dK false ks ds, v, fp => fp = [] ∧ ∃ a vs, v = .ref a ∧ Rd Hf a (.dK (ks.zip vs)) ∧ ks.length = vs.length ∧ Rps Hf H ds vs []
  | .dK true ks ds, v, fp => ∃ a vs f, v = .ref a ∧ fp = a :: f ∧ H a = some (.dK (ks.zip vs)) ∧ ks.length = vs.length ∧ Rps Hf H ds vs f
  | .dT false ks ds, v, fp => fp = [] ∧ ∃ a vs, v = .ref a ∧ Rd Hf a (.dT (ks.zip vs)) ∧ ks.length = vs.length ∧ Rps Hf H ds vs []
  | .dT true ks ds, v, fp => ∃ a vs f, v = .ref a ∧ fp = a :: f ∧ H a = some (.dT (ks.zip vs)) ∧ ks.length = vs.length ∧ Rps Hf H ds vs f
  | .ins false C fs ds, v, fp => fp = [] ∧ ∃ a dx CA vs, v = .ref a ∧ mg C = some (.ref CA) ∧ Hf a = some (.ins CA dx (fs.zip vs)) ∧ fs.length = vs.length ∧ Rps Hf H ds vs []
  | .ins true C fs ds, v, fp => ∃ a dx CA vs f, v = .ref a ∧ fp = a :: f ∧ mg C = some (.ref CA) ∧ H a = some (.ins CA dx (fs.zip vs)) ∧ fs.length = vs.length ∧ Rps Hf H ds vs f
  | .glb x, v, fp => fp = [] ∧ ∃ a, v = .ref a ∧ mg x = some (.ref a)
  | .own o, v, fp => ∃ a, v = .ref a ∧ fp = [a] ∧ H a = some (o a)
def Rps (Hf H : Hp) : List D → List V → List Addr → Prop
  | [], vs, fp => vs = [] ∧ fp = []
  | d :: ds, vs, fp => ∃ v vs' f1 f2, vs = v :: vs' ∧ fp = f1 ++ f2 ∧ Rp Hf H d v f1 ∧ Rps Hf H ds vs' f2
end
end

section
variable {K : PySem.W.Frag} {mg : Str → Option Value} {Hf Hf' H H' : Hp}

theorem Ex.seqT {a : Addr} {vs : List V} (e : Evl.Ex Hf Hf') (h : SqT K Hf a vs) : SqT K Hf' a vs := Evl.ex_t e h
mutual
/-- the frozen part may grow; the owned part may change elsewhere -/
theorem Rp.mv (e : Evl.Ex Hf Hf') : ∀ (d : D) {v : V} {fp : List Addr}, (∀ a ∈ fp, H' a = H a) → Rp K mg Hf H d v fp → Rp K mg Hf' H' d v fp
  | .undef, _, _, _, h => h
  | .non, _, _, _, h => h
  | .bl _, _, _, _, h => h
  | .int _, _, _, _, h => h
  | .str _, _, _, _, h => h
  | .glb _, _, _, _, h => h
  | .own _, _, _, hl, ⟨a, h1, h2, h3⟩ => by
    subst h2
    exact ⟨a, h1, rfl, (hl a List.mem_cons_self).trans h3⟩
  | .tup ds, _, _, _, ⟨h0, a, vs, h1, h2, h3⟩ => ⟨h0, a, vs, h1, Evl.ex_t e h2, Rps.mv e ds (fun _ q => nomatch q) h3⟩
  | .lst false ds, _, _, _, ⟨h0, a, vs, h1, h2, h3⟩ => ⟨h0, a, vs, h1, e _ _ h2, Rps.mv e ds (fun _ q => nomatch q) h3⟩
  | .lkd ds, _, _, _, ⟨h0, a, vs, h1, h2, h3⟩ => ⟨h0, a, vs, h1, Evl.ex_l e h2, Rps.mv e ds (fun _ q => nomatch q) h3⟩
  | .lst true ds, _, _, hl, ⟨a, vs, f, h1, h2, h3, h4⟩ => by
    subst h2
    exact ⟨a, vs, f, h1, rfl, (hl a List.mem_cons_self).trans h3, Rps.mv e ds (fun b hb => hl b (List.mem_cons_of_mem _ hb)) h4⟩
  | .dK false _ ds, _, _, _, ⟨h0, a, vs, h1, h2, h3, h4⟩ => ⟨h0, a, vs, h1, Evl.ex_rd e h2, h3, Rps.mv e ds (fun _ q => nomatch q) h4⟩
  | .dK true _ ds, _, _, hl, ⟨a, vs, f, h1, h2, h3, h4, h5⟩ => by
    subst h2
    exact ⟨a, vs, f, h1, rfl, (hl a List.mem_cons_self).trans h3, h4, Rps.mv e ds (fun b hb => hl b (List.mem_cons_of_mem _ hb)) h5⟩
  | .dT false _ ds, _, _, _, ⟨h0, a, vs, h1, h2, h3, h4⟩ => ⟨h0, a, vs, h1, Evl.ex_rd e h2, h3, Rps.mv e ds (fun _ q => nomatch q) h4⟩
  | .dT true _ ds, _, _, hl, ⟨a, vs, f, h1, h2, h3, h4, h5⟩ => by
    subst h2
    exact ⟨a, vs, f, h1, rfl, (hl a List.mem_cons_self).trans h3, h4, Rps.mv e ds (fun b hb => hl b (List.mem_cons_of_mem _ hb)) h5⟩
  | .ins false _ _ ds, _, _, _, ⟨h0, a, dx, CA, vs, h1, h2, h3, h4, h5⟩ => ⟨h0, a, dx, CA, vs, h1, h2, e _ _ h3, h4, Rps.mv e ds (fun _ q => nomatch q) h5⟩
  | .ins true _ _ ds, _, _, hl, ⟨a, dx, CA, vs, f, h1, h2, h3, h4, h5, h6⟩ => by
    subst h2
    exact ⟨a, dx, CA, vs, f, h1, rfl, h3, (hl a List.mem_cons_self).trans h4, h5, Rps.mv e ds (fun b hb => hl b (List.mem_cons_of_mem _ hb)) h6⟩
theorem Rps.mv (e : Evl.Ex Hf Hf') : ∀ (ds : List D) {vs : List V} {fp : List Addr}, (∀ a ∈ fp, H' a = H a) → Rps K mg Hf H ds vs fp → Rps K mg Hf' H' ds vs fp
  | [], _, _, _, h => h
  | d :: ds, _, _, hl, ⟨v, vs', f1, f2, h1, h2, h3, h4⟩ => by
    subst h2
    exact ⟨v, vs', f1, f2, h1, rfl, Rp.mv e d (fun a ha => hl a (List.mem_append_left _ ha)) h3, Rps.mv e ds (fun a ha => hl a (List.mem_append_right _ ha)) h4⟩
end
mutual
/-- what is owned stands -/
theorem Rp.dom : ∀ (d : D) {v : V} {fp : List Addr}, Rp K mg Hf H d v fp → ∀ a ∈ fp, ∃ o, H a = some o
  | .undef, _, _, h, a, ha => by rw [show _ = _ from h] at ha; cases ha
  | .non, _, _, h, a, ha => by rw [h.2] at ha; cases ha
  | .bl _, _, _, h, a, ha => by rw [h.2] at ha; cases ha
  | .int _, _, _, h, a, ha => by rw [h.2] at ha; cases ha
  | .str _, _, _, h, a, ha => by rw [h.2] at ha; cases ha
  | .glb _, _, _, h, a, ha => by rw [h.1] at ha; cases ha
  | .own _, _, _, ⟨b, h1, h2, h3⟩, a, ha => by
    rw [h2] at ha
    exact ⟨_, (List.mem_singleton.mp ha) ▸ h3⟩
  | .tup ds, _, _, h, a, ha => by rw [h.1] at ha; cases ha
  | .lst false ds, _, _, h, a, ha => by rw [h.1] at ha; cases ha
  | .lkd ds, _, _, h, a, ha => by rw [h.1] at ha; cases ha
  | .lst true ds, _, _, ⟨b, vs, f, h1, h2, h3, h4⟩, a, ha => by
    rw [h2] at ha
    rcases List.mem_cons.mp ha with q | q
    · exact ⟨_, q ▸ h3⟩
    · exact Rps.dom ds h4 a q
  | .dK false _ ds, _, _, h, a, ha => by rw [h.1] at ha; cases ha
  | .dK true _ ds, _, _, ⟨b, vs, f, h1, h2, h3, h4, h5⟩, a, ha => by
    rw [h2] at ha
    rcases List.mem_cons.mp ha with q | q
    · exact ⟨_, q ▸ h3⟩
    · exact Rps.dom ds h5 a q
  | .dT false _ ds, _, _, h, a, ha => by rw [h.1] at ha; cases ha
  | .dT true _ ds, _, _, ⟨b, vs, f, h1, h2, h3, h4, h5⟩, a, ha => by
    rw [h2] at ha
    rcases List.mem_cons.mp ha with q | q
    · exact ⟨_, q ▸ h3⟩
    · exact Rps.dom ds h5 a q
  | .ins false _ _ ds, _, _, h, a, ha => by rw [h.1] at ha; cases ha
  | .ins true _ _ ds, _, _, ⟨b, dx, CA, vs, f, h1, h2, h3, h4, h5, h6⟩, a, ha => by
    rw [h2] at ha
    rcases List.mem_cons.mp ha with q | q
    · exact ⟨_, q ▸ h4⟩
    · exact Rps.dom ds h6 a q
theorem Rps.dom : ∀ (ds : List D) {vs : List V} {fp : List Addr}, Rps K mg Hf H ds vs fp → ∀ a ∈ fp, ∃ o, H a = some o
  | [], _, _, h, a, ha => by rw [h.2] at ha; cases ha
  | d :: ds, _, _, ⟨v, vs', f1, f2, h1, h2, h3, h4⟩, a, ha => by
    rw [h2] at ha
    rcases List.mem_append.mp ha with q | q
    · exact Rp.dom d h3 a q
    · exact Rps.dom ds h4 a q
end
mutual
/-- frozen: what was owned goes over to the frozen part -/
theorem Rp.frz (e : Evl.Ex Hf Hf') : ∀ (d : D) {v : V} {fp : List Addr}, (∀ a ∈ fp, ∀ o, H a = some o → Hf' a = some o) → Rp K mg Hf H d v fp → Rp K mg Hf' H' (frz d) v []
  | .undef, _, _, _, h => rfl
  | .non, _, _, _, h => ⟨h.1, rfl⟩
  | .bl _, _, _, _, h => ⟨h.1, rfl⟩
  | .int _, _, _, _, h => ⟨h.1, rfl⟩
  | .str _, _, _, _, h => ⟨h.1, rfl⟩
  | .glb _, _, _, _, h => ⟨rfl, h.2⟩
  | .own _, _, _, _, h => rfl
  | .tup ds, _, _, _, ⟨h0, a, vs, h1, h2, h3⟩ => ⟨rfl, a, vs, h1, Evl.ex_t e h2, Rps.frz e ds (fun _ q => absurd q List.not_mem_nil) h3⟩
  | .lst false ds, _, _, _, ⟨h0, a, vs, h1, h2, h3⟩ => ⟨rfl, a, vs, h1, e _ _ h2, Rps.frz e ds (fun _ q => absurd q List.not_mem_nil) h3⟩
  | .lkd ds, _, _, _, ⟨h0, a, vs, h1, h2, h3⟩ => ⟨rfl, a, vs, h1, Evl.ex_l e h2, Rps.frz e ds (fun _ q => absurd q List.not_mem_nil) h3⟩
  | .lst true ds, _, _, hl, ⟨a, vs, f, h1, h2, h3, h4⟩ => by
    subst h2
    exact ⟨rfl, a, vs, h1, hl a List.mem_cons_self _ h3, Rps.frz e ds (fun b hb => hl b (List.mem_cons_of_mem _ hb)) h4⟩
  | .dK false _ ds, _, _, _, ⟨h0, a, vs, h1, h2, h3, h4⟩ => ⟨rfl, a, vs, h1, Evl.ex_rd e h2, h3, Rps.frz e ds (fun _ q => absurd q List.not_mem_nil) h4⟩
  | .dK true _ ds, _, _, hl, ⟨a, vs, f, h1, h2, h3, h4, h5⟩ => by
    subst h2
    exact ⟨rfl, a, vs, h1, .inl (hl a List.mem_cons_self _ h3), h4, Rps.frz e ds (fun b hb => hl b (List.mem_cons_of_mem _ hb)) h5⟩
  | .dT false _ ds, _, _, _, ⟨h0, a, vs, h1, h2, h3, h4⟩ => ⟨rfl, a, vs, h1, Evl.ex_rd e h2, h3, Rps.frz e ds (fun _ q => absurd q List.not_mem_nil) h4⟩
  | .dT true _ ds, _, _, hl, ⟨a, vs, f, h1, h2, h3, h4, h5⟩ => by
    subst h2
    exact ⟨rfl, a, vs, h1, .inl (hl a List.mem_cons_self _ h3), h4, Rps.frz e ds (fun b hb => hl b (List.mem_cons_of_mem _ hb)) h5⟩
  | .ins false _ _ ds, _, _, _, ⟨h0, a, dx, CA, vs, h1, h2, h3, h4, h5⟩ => ⟨rfl, a, dx, CA, vs, h1, h2, e _ _ h3, h4, Rps.frz e ds (fun _ q => absurd q List.not_mem_nil) h5⟩
  | .ins true _ _ ds, _, _, hl, ⟨a, dx, CA, vs, f, h1, h2, h3, h4, h5, h6⟩ => by
    subst h2
    exact ⟨rfl, a, dx, CA, vs, h1, h3, hl a List.mem_cons_self _ h4, h5, Rps.frz e ds (fun b hb => hl b (List.mem_cons_of_mem _ hb)) h6⟩
theorem Rps.frz (e : Evl.Ex Hf Hf') : ∀ (ds : List D) {vs : List V} {fp : List Addr}, (∀ a ∈ fp, ∀ o, H a = some o → Hf' a = some o) → Rps K mg Hf H ds vs fp → Rps K mg Hf' H' (frzs ds) vs []
  | [], _, _, _, h => ⟨h.1, rfl⟩
  | d :: ds, _, _, hl, ⟨v, vs', f1, f2, h1, h2, h3, h4⟩ => by
    subst h2
    exact ⟨v, vs', [], [], h1, rfl, Rp.frz e d (fun a ha => hl a (List.mem_append_left _ ha)) h3, Rps.frz e ds (fun a ha => hl a (List.mem_append_right _ ha)) h4⟩
end
mutual
/-- a frozen one owns nothing, and says nothing of H -/
theorem Rp.fz : ∀ (d : D) {v : V} {fp : List Addr}, isFz d = true → Rp K mg Hf H d v fp → fp = [] ∧ ∀ H', Rp K mg Hf H' d v []
  | .undef, _, _, z, h => nomatch z
  | .non, _, _, _, h => ⟨h.2, fun _ => ⟨h.1, rfl⟩⟩
  | .bl _, _, _, _, h => ⟨h.2, fun _ => ⟨h.1, rfl⟩⟩
  | .int _, _, _, _, h => ⟨h.2, fun _ => ⟨h.1, rfl⟩⟩
  | .str _, _, _, _, h => ⟨h.2, fun _ => ⟨h.1, rfl⟩⟩
  | .glb _, _, _, _, h => ⟨h.1, fun _ => ⟨rfl, h.2⟩⟩
  | .own _, _, _, z, _ => nomatch z
  | .tup ds, _, _, z, ⟨h0, a, vs, h1, h2, h3⟩ => ⟨h0, fun H' => ⟨rfl, a, vs, h1, h2, (Rps.fz ds z h3).2 H'⟩⟩
  | .lst false ds, _, _, z, ⟨h0, a, vs, h1, h2, h3⟩ => ⟨h0, fun H' => ⟨rfl, a, vs, h1, h2, (Rps.fz ds z h3).2 H'⟩⟩
  | .lst true ds, _, _, z, _ => nomatch z
  | .lkd ds, _, _, z, ⟨h0, a, vs, h1, h2, h3⟩ => ⟨h0, fun H' => ⟨rfl, a, vs, h1, h2, (Rps.fz ds z h3).2 H'⟩⟩
  | .dK false _ ds, _, _, z, ⟨h0, a, vs, h1, h2, h3, h4⟩ => ⟨h0, fun H' => ⟨rfl, a, vs, h1, h2, h3, (Rps.fz ds z h4).2 H'⟩⟩
  | .dK true _ ds, _, _, z, _ => nomatch z
  | .dT false _ ds, _, _, z, ⟨h0, a, vs, h1, h2, h3, h4⟩ => ⟨h0, fun H' => ⟨rfl, a, vs, h1, h2, h3, (Rps.fz ds z h4).2 H'⟩⟩
  | .dT true _ ds, _, _, z, _ => nomatch z
  | .ins false _ _ ds, _, _, z, ⟨h0, a, dx, CA, vs, h1, h2, h3, h4, h5⟩ => ⟨h0, fun H' => ⟨rfl, a, dx, CA, vs, h1, h2, h3, h4, (Rps.fz ds z h5).2 H'⟩⟩
  | .ins true _ _ ds, _, _, z, _ => nomatch z
theorem Rps.fz : ∀ (ds : List D) {vs : List V} {fp : List Addr}, isFzs ds = true → Rps K mg Hf H ds vs fp → fp = [] ∧ ∀ H', Rps K mg Hf H' ds vs []
  | [], _, _, _, h => ⟨h.2, fun _ => ⟨h.1, rfl⟩⟩
  | d :: ds, _, _, z, ⟨v, vs', f1, f2, h1, h2, h3, h4⟩ => by
    have z' : isFz d = true ∧ isFzs ds = true := by simpa [isFzs] using z
    obtain ⟨e1, q1⟩ := Rp.fz d z'.1 h3
    obtain ⟨e2, q2⟩ := Rps.fz ds z'.2 h4
    subst e1; subst e2
    exact ⟨h2, fun H' => ⟨v, vs', [], [], h1, rfl, q1 H', q2 H'⟩⟩
end
mutual
theorem isFz_frz : ∀ d : D, full d = true → isFz (frz d) = true
  | .own _, z => nomatch z
  | .undef, z => nomatch z
  | .non, _ => rfl
  | .bl _, _ => rfl
  | .int _, _ => rfl
  | .str _, _ => rfl
  | .glb _, _ => rfl
  | .tup ds, z => isFzs_frzs ds z
  | .lst _ ds, z => isFzs_frzs ds z
  | .lkd ds, z => isFzs_frzs ds z
  | .dK _ _ ds, z => isFzs_frzs ds z
  | .dT _ _ ds, z => isFzs_frzs ds z
  | .ins _ _ _ ds, z => isFzs_frzs ds z
theorem isFzs_frzs : ∀ ds : List D, fulls ds = true → isFzs (frzs ds) = true
  | [], _ => rfl
  | d :: ds, z => by
    have z' : full d = true ∧ fulls ds = true := by simpa [fulls] using z
    show (isFz (frz d) && isFzs (frzs ds)) = true
    rw [isFz_frz d z'.1, isFzs_frzs ds z'.2]; rfl
end
mutual
theorem frz_fz : ∀ d : D, isFz d = true → frz d = d
  | .own _, z => nomatch z
  | .undef, z => rfl
  | .non, _ => rfl
  | .bl _, _ => rfl
  | .int _, _ => rfl
  | .str _, _ => rfl
  | .glb _, _ => rfl
  | .tup ds, z => congrArg D.tup (frzs_fz ds z)
  | .lst false ds, z => congrArg (D.lst false) (frzs_fz ds z)
  | .lkd ds, z => congrArg D.lkd (frzs_fz ds z)
  | .lst true ds, z => nomatch z
  | .dK false ks ds, z => congrArg (D.dK false ks) (frzs_fz ds z)
  | .dK true _ ds, z => nomatch z
  | .dT false ks ds, z => congrArg (D.dT false ks) (frzs_fz ds z)
  | .dT true _ ds, z => nomatch z
  | .ins false C fs ds, z => congrArg (D.ins false C fs) (frzs_fz ds z)
  | .ins true _ _ ds, z => nomatch z
theorem frzs_fz : ∀ ds : List D, isFzs ds = true → frzs ds = ds
  | [], _ => rfl
  | d :: ds, z => by
    have z' : isFz d = true ∧ isFzs ds = true := by simpa [isFzs] using z
    show frz d :: frzs ds = d :: ds
    rw [frz_fz d z'.1, frzs_fz ds z'.2]
end
mutual
theorem full_fz : ∀ d : D, isFz d = true → full d = true
  | .own _, z => nomatch z
  | .undef, z => nomatch z
  | .non, _ => rfl
  | .bl _, _ => rfl
  | .int _, _ => rfl
  | .str _, _ => rfl
  | .glb _, _ => rfl
  | .tup ds, z => fulls_fz ds z
  | .lst false ds, z => fulls_fz ds z
  | .lkd ds, z => fulls_fz ds z
  | .lst true ds, z => nomatch z
  | .dK false ks ds, z => fulls_fz ds z
  | .dK true _ ds, z => nomatch z
  | .dT false ks ds, z => fulls_fz ds z
  | .dT true _ ds, z => nomatch z
  | .ins false C fs ds, z => fulls_fz ds z
  | .ins true _ _ ds, z => nomatch z
theorem fulls_fz : ∀ ds : List D, isFzs ds = true → fulls ds = true
  | [], _ => rfl
  | d :: ds, z => by
    have z' : isFz d = true ∧ isFzs ds = true := by simpa [isFzs] using z
    show (full d && fulls ds) = true
    rw [full_fz d z'.1, fulls_fz ds z'.2]; rfl
end
theorem isFzs_all : ∀ {ds : List D}, isFzs ds = true ↔ ∀ d ∈ ds, isFz d = true
  | [] => by simp [isFzs]
  | d :: ds => by simp [isFzs, isFzs_all (ds := ds)]
theorem fulls_all : ∀ {ds : List D}, fulls ds = true ↔ ∀ d ∈ ds, full d = true
  | [] => by simp [fulls]
  | d :: ds => by simp [fulls, fulls_all (ds := ds)]
theorem frzs_map : ∀ ds : List D, frzs ds = ds.map frz
  | [] => rfl
  | d :: ds => by
    show frz d :: frzs ds = frz d :: ds.map frz
    rw [frzs_map ds]
theorem Rps.len : ∀ {ds : List D} {vs : List V} {fp : List Addr}, Rps K mg Hf H ds vs fp → ds.length = vs.length
  | [], _, _, h => by rw [h.1]; rfl
  | d :: ds, _, _, ⟨v, vs', f1, f2, h1, h2, h3, h4⟩ => by
    subst h1
    rw [List.length_cons, List.length_cons, Rps.len h4]
/-- frozen: by pairs -/
def Fz (K : PySem.W.Frag) (mg : Str → Option Value) (Hf : Hp) (d : D) (v : V) : Prop := isFz d = true ∧ ∀ H, Rp K mg Hf H d v []
theorem Rp.toFz {d : D} {v : V} {fp : List Addr} (z : isFz d = true) (h : Rp K mg Hf H d v fp) : Fz K mg Hf d v := ⟨z, (Rp.fz d z h).2⟩
theorem Rps.get : ∀ {ds : List D} {vs : List V} {fp : List Addr} {i : Nat} {d : D}, Rps K mg Hf H ds vs fp → ds[i]? = some d → ∃ v f, vs[i]? = some v ∧ Rp K mg Hf H d v f
  | [], _, _, _, _, _, e => nomatch e
  | d :: ds, _, _, 0, _, ⟨v, vs', f1, f2, h1, h2, h3, h4⟩, e => by
    subst h1
    cases e
    exact ⟨v, f1, rfl, h3⟩
  | d :: ds, _, _, i + 1, d', ⟨v, vs', f1, f2, h1, h2, h3, h4⟩, e => by
    subst h1
    obtain ⟨v', f, q1, q2⟩ := Rps.get (i := i) (d := d') h4 (by simpa using e)
    exact ⟨v', f, by simpa using q1, q2⟩
/-- all frozen, by pairs -/
inductive Fzs (K : PySem.W.Frag) (mg : Str → Option Value) (Hf : Hp) : List D → List V → Prop
  | nil : Fzs K mg Hf [] []
  | cons {d : D} {v : V} {ds : List D} {vs : List V} : Fz K mg Hf d v → Fzs K mg Hf ds vs → Fzs K mg Hf (d :: ds) (v :: vs)
theorem Rps.toFzs : ∀ {ds : List D} {vs : List V} {fp : List Addr}, isFzs ds = true → Rps K mg Hf H ds vs fp → Fzs K mg Hf ds vs
  | [], _, _, _, h => by rw [h.1]; exact .nil
  | d :: ds, _, _, z, ⟨v, vs', f1, f2, h1, h2, h3, h4⟩ => by
    subst h1
    have z' : isFz d = true ∧ isFzs ds = true := by simpa [isFzs] using z
    exact .cons (h3.toFz z'.1) (Rps.toFzs z'.2 h4)
theorem Fzs.rps : ∀ {ds : List D} {vs : List V}, Fzs K mg Hf ds vs → Rps K mg Hf H ds vs []
  | _, _, .nil => ⟨rfl, rfl⟩
  | _, _, .cons h t => ⟨_, _, [], [], rfl, rfl, h.2 H, t.rps⟩
theorem Fzs.fzs : ∀ {ds : List D} {vs : List V}, Fzs K mg Hf ds vs → isFzs ds = true
  | _, _, .nil => rfl
  | _, _, .cons h t => by
    show (isFz _ && isFzs _) = true
    rw [h.1, t.fzs]; rfl
theorem Fzs.len : ∀ {ds : List D} {vs : List V}, Fzs K mg Hf ds vs → ds.length = vs.length
  | _, _, .nil => rfl
  | _, _, .cons h t => by rw [List.length_cons, List.length_cons, t.len]
theorem Fz.mv {d : D} {v : V} (e : Evl.Ex Hf Hf') (h : Fz K mg Hf d v) : Fz K mg Hf' d v := ⟨h.1, fun H => Rp.mv e d (fun _ q => nomatch q) (h.2 H)⟩
theorem Fzs.mv : ∀ {ds : List D} {vs : List V}, Evl.Ex Hf Hf' → Fzs K mg Hf ds vs → Fzs K mg Hf' ds vs
  | _, _, _, .nil => .nil
  | _, _, e, .cons h t => .cons (h.mv e) (t.mv e)
theorem Fzs.append : ∀ {ds es : List D} {vs ws : List V}, Fzs K mg Hf ds vs → Fzs K mg Hf es ws → Fzs K mg Hf (ds ++ es) (vs ++ ws)
  | _, _, _, _, .nil, t => t
  | _, _, _, _, .cons h r, t => .cons h (r.append t)
theorem Fzs.get : ∀ {ds : List D} {vs : List V} {i : Nat} {d : D}, Fzs K mg Hf ds vs → ds[i]? = some d → ∃ v, vs[i]? = some v ∧ Fz K mg Hf d v
  | _, _, _, _, .nil, e => by simp at e
  | _, _, 0, _, .cons h t, e => by
    simp at e; subst e
    exact ⟨_, rfl, h⟩
  | _, _, i + 1, d, .cons h t, e => by
    obtain ⟨v, q1, q2⟩ := Fzs.get (i := i) (d := d) t (by simpa using e)
    exact ⟨v, by simpa using q1, q2⟩
theorem Fzs.take : ∀ {ds : List D} {vs : List V} (n : Nat), Fzs K mg Hf ds vs → Fzs K mg Hf (ds.take n) (vs.take n)
  | _, _, 0, _ => .nil
  | _, _, _ + 1, .nil => .nil
  | _, _, n + 1, .cons h t => .cons h (t.take n)
theorem Fzs.drop : ∀ {ds : List D} {vs : List V} (n : Nat), Fzs K mg Hf ds vs → Fzs K mg Hf (ds.drop n) (vs.drop n)
  | _, _, 0, h => h
  | _, _, _ + 1, .nil => .nil
  | _, _, n + 1, .cons h t => t.drop n
end
end Cs
/-! Zs1: zip(.., strict=True) of lists and tuples, at the library's level. -/
namespace Cs
open PySem
open PySem.Sem (wp)
/-- a list | a tuple at l -/
def Src (p : Bool) (h : Heap) (l : Addr) (xs : Array Value) : Prop := match p with
  | true => h.IsList l xs
  | false => h.IsTuple l xs
/-- its iterator at i, k of its things drawn -/
def Drw (p : Bool) (h : Heap) (i l : Addr) (k : Nat) : Prop := match p with
  | true => h.IsListIter i l k
  | false => h.IsTupleIter i l k
theorem Src.but {p : Bool} {h h' : Heap} {l c : Addr} {xs : Array Value} (x : Src p h l xs) (k : Heap.ExtBut c h h') (n : l ≠ c) : Src p h' l xs := by
  cases p with
  | true => exact Heap.IsList.extBut x k n
  | false => exact Heap.IsTuple.extBut x k n
theorem Drw.but {p : Bool} {h h' : Heap} {i l c : Addr} {k : Nat} (x : Drw p h i l k) (e : Heap.ExtBut c h h') (n : i ≠ c) : Drw p h' i l k := by
  cases p with
  | true => exact Heap.IsListIter.extBut x e n
  | false => exact Heap.IsTupleIter.extBut x e n
theorem Drw.onto {p : Bool} {h h' : Heap} {i l : Addr} {k : Nat} (x : Drw p h i l k) (e : ∀ o, h.get? i = some o → h'.get? i = some o) : Drw p h' i l k := by
  cases p with
  | true => exact Heap.IsListIter.at x e
  | false => exact Heap.IsTupleIter.at x e
theorem Drw.obj {p : Bool} {h : Heap} {i l : Addr} {k : Nat} (x : Drw p h i l k) : ∃ o, h.get? i = some o ∧ ∀ v, o.data ≠ .cell v := by
  cases p with
  | true =>
    obtain ⟨o, e, _, d⟩ := x
    exact ⟨o, e, fun v q => by rw [d] at q; cases q⟩
  | false =>
    obtain ⟨o, e, _, d⟩ := x
    exact ⟨o, e, fun v q => by rw [d] at q; cases q⟩
section
variable {prog : Program} {w : World} {A : Around} {E : Value → Shared → Prop} {s : Shared}
theorem drw_item {p : Bool} {i l : Addr} {k : Nat} {xs : Array Value} {x : Value} {Q : Option Value → Shared → Prop} (hi : Drw p s.heap i l k) (hl : Src p s.heap l xs) (hx : xs[k]? = some x)
    (hQ : ∀ h', Drw p h' i l (k + 1) → Heap.SameBut i s.heap h' → Q (some x) { s with heap := h' }) : wpAny (model prog w) A (Builtin.SmallTypes.nextOrEnd (.ref i)) Q E s := by
  unfold Builtin.SmallTypes.nextOrEnd
  cases p with
  | true => exact wpAny_bind (wpAny_attempt (wpAny_nextOf_list_item hi hl hx fun h' a b => wpAny_pure (hQ h' a b)))
  | false => exact wpAny_bind (wpAny_attempt (RZ.nextOf_tuple_item hi hl hx fun h' a b => wpAny_pure (hQ h' a b)))
theorem drw_end {p : Bool} {i l : Addr} {k : Nat} {xs : Array Value} {Q : Option Value → Shared → Prop} (hh : A.handled = none) (hi : Drw p s.heap i l k) (hl : Src p s.heap l xs) (hx : xs[k]? = none)
    (hQ : ∀ h', Heap.ExtBut i s.heap h' → Q none { s with heap := h' }) : wpAny (model prog w) A (Builtin.SmallTypes.nextOrEnd (.ref i)) Q E s := by
  unfold Builtin.SmallTypes.nextOrEnd
  have fin : ∀ h' e, Heap.ExtBut i s.heap h' → (∃ o, h'.get? e = some o ∧ o.cls = .type "StopIteration") → wpAny (model prog w) A (do if ← isInstance (.ref e) (.type "StopIteration") then pure none else throw (.ref e)) Q E { s with heap := h' } := fun h' e hk ⟨o, ho, hc⟩ =>
    wpAny_bind (wpAny_isInstance (T := "StopIteration") (b := true) ⟨o, ho, hc⟩ isSubtype_stop (wpAny_pure (hQ h' hk)))
  cases p with
  | true => exact wpAny_bind (wpAny_attempt (wpAny_nextOf_list_end hh hi hl hx fin))
  | false => exact wpAny_bind (wpAny_attempt (RZ.nextOf_tuple_end hh hi hl hx fin))
end
/-- the zip object, strict -/
abbrev IsZs (h : Heap) (z TI TO : Addr) (f0 : Value) : Prop :=
  h.get? z = some { cls := .type "zip", dict := none, data := .fields #[f0, .bool false, .bool true, .ref TI, .ref TO], slots := #[] }
section
variable {prog : Program} {w : World} {A : Around} {E : Value → Shared → Prop} {s : Shared} {p q : Bool} {z TI TO i1 i2 l1 l2 : Addr} {k1 k2 : Nat} {xs ys : Array Value} {x y a b : Value}
/-- what a turn leaves alone -/
def Spared (z TO i1 i2 : Addr) (h h' : Heap) : Prop := ∀ c o, c ≠ z → c ≠ TO → c ≠ i1 → c ≠ i2 → h.get? c = some o → h'.get? c = some o
theorem zs_item {Q : Value → Shared → Prop} (D : ZipApart z TI TO i1 i2 l1 l2) (hz : IsZs s.heap z TI TO .none) (hTI : IsPair s.heap TI (.ref i1) (.ref i2)) (hTO : IsPair s.heap TO a b)
    (h1 : Drw p s.heap i1 l1 k1) (h2 : Drw q s.heap i2 l2 k2) (hl1 : Src p s.heap l1 xs) (hl2 : Src q s.heap l2 ys) (hx : xs[k1]? = some x) (hy : ys[k2]? = some y)
    (hQ : ∀ h', IsZs h' z TI TO (rawInt s.heap.objs.size) → IsPair h' TO x y → Drw p h' i1 l1 (k1 + 1) → Drw q h' i2 l2 (k2 + 1) → IsPair h' s.heap.objs.size x y → h'.objs.size = s.heap.objs.size + 1 → Spared z TO i1 i2 s.heap h' → Q (.ref s.heap.objs.size) { s with heap := h' }) :
    wpAny (model prog w) A (Builtin.«zip.__next__» ⟨[.ref z], []⟩) (fun fin s' => ∃ v, fin = .done (.ret v) ∧ Q v s') E s := by
  show wpAny _ _ (field (.ref z) 2 >>= _) _ _ _
  refine wpAny_bind (wpAny_field hz rfl (x := .bool true) rfl ?_)
  show wpAny _ _ (field (.ref z) 3 >>= _) _ _ _
  refine wpAny_bind (wpAny_field hz rfl (x := .ref TI) rfl (wpAny_bind (wpAny_seqItems hTI rfl ?_)))
  show wpAny _ _ (Builtin.SmallTypes.ownedTupleIsFree (.ref z) >>= _) _ _ _
  refine wpAny_bind ?_
  unfold Builtin.SmallTypes.ownedTupleIsFree
  refine wpAny_bind (wpAny_field hz rfl (x := .none) rfl (wpAny_pure ?_))
  simp only [if_true]
  refine wpAny_bind (wpAny_rule (wpAny_bind (wpAny_field hz rfl (x := .ref TO) rfl (wpAny_bind (wpAny_setField_rec hz (by simp) fun ha za sa => ?_)))))
  replace za : IsZs ha z TI TO .ellipsis := za
  refine wpAny_bind ?_
  simp only [List.zipIdx_cons, List.zipIdx_nil, List.forIn_cons, List.forIn_nil]
  refine wpAny_bind (wpAny_bind (wpAny_onRaise ?_))
  show wpAny _ _ (Builtin.SmallTypes.nextOrEnd (.ref i1)) _ _ _
  refine drw_item (h1.but sa.extBut D.i1z) (hl1.but sa.extBut D.l1z) hx fun hb d1 sb => ?_
  have oB : IsPair hb TO a b := sb.extBut _ _ D.TOi1 (sa.extBut _ _ D.TOz hTO)
  refine wpAny_bind (wpAny_seqItems oB rfl (wpAny_bind (wpAny_updateSeq_pair oB fun hc oC sc => ?_)))
  replace oC : IsPair hc TO x b := oC
  refine wpAny_bind (wpAny_letGo (wpAny_pure ?_))
  refine wpAny_bind (wpAny_bind (wpAny_onRaise ?_))
  show wpAny _ _ (Builtin.SmallTypes.nextOrEnd (.ref i2)) _ _ _
  refine drw_item (((h2.but sa.extBut D.i2z).but sb.extBut D.i12.symm).but sc.extBut D.TOi2.symm) (((hl2.but sa.extBut D.l2z).but sb.extBut D.l2i1).but sc.extBut D.l2TO) hy fun hd d2 sd => ?_
  have oD : IsPair hd TO x b := sd.extBut _ _ D.TOi2 oC
  refine wpAny_bind (wpAny_seqItems oD rfl (wpAny_bind (wpAny_updateSeq_pair oD fun he oE se => ?_)))
  replace oE : IsPair he TO x y := oE
  refine wpAny_bind (wpAny_letGo (wpAny_pure (wpAny_pure ?_)))
  refine wpAny_bind (wpAny_seqItems oE rfl (wpAny_bind (wpAny_newTuple ?_)))
  have size : he.objs.size = s.heap.objs.size := by rw [se.1, sd.1, sc.1, sb.1, sa.1]
  have zE : IsZs he z TI TO .ellipsis := se.extBut _ _ D.TOz.symm (sd.extBut _ _ D.i2z.symm (sc.extBut _ _ D.TOz.symm (sb.extBut _ _ D.i1z.symm za)))
  have spared : Spared z TO i1 i2 s.heap he := fun c o c1 c2 c3 c4 e => se.extBut _ _ c2 (sd.extBut _ _ c4 (sc.extBut _ _ c2 (sb.extBut _ _ c3 (sa.extBut _ _ c1 e))))
  have dE1 : Drw p he i1 l1 (k1 + 1) := ((d1.but sc.extBut D.TOi1.symm).but sd.extBut D.i12).but se.extBut D.TOi1.symm
  have dE2 : Drw q he i2 l2 (k2 + 1) := d2.but se.extBut D.TOi2.symm
  have zlt : z < he.objs.size := Heap.lt_size zE
  show wpAny _ _ (Builtin.SmallTypes.ownedTupleHandOut (.ref z) (.ref he.objs.size) >>= _) _ _ _
  refine wpAny_bind ?_
  unfold Builtin.SmallTypes.ownedTupleHandOut
  have zF : IsZs (he.push { cls := .type "tuple", data := .seq #[x, y] }) z TI TO .ellipsis := Heap.get?_push_of_some _ zE
  refine wpAny_bind (wpAny_setField_rec zF (by simp) fun hg zG sg => ?_)
  replace zG : IsZs hg z TI TO (rawInt he.objs.size) := zG
  refine wpAny_setField_rec zG (by simp) fun hj zJ sj => ?_
  replace zJ : IsZs hj z TI TO (rawInt he.objs.size) := zJ
  have up : ∀ c o, c ≠ z → he.get? c = some o → hj.get? c = some o := fun c o c1 e => sj.extBut _ _ c1 (sg.extBut _ _ c1 (Heap.get?_push_of_some _ e))
  have tJ : IsPair hj he.objs.size x y := sj.extBut _ _ (Nat.ne_of_gt zlt) (sg.extBut _ _ (Nat.ne_of_gt zlt) (Heap.get?_push_size _ rfl))
  have sizeJ : hj.objs.size = he.objs.size + 1 := by rw [sj.1, sg.1, Heap.size_push]
  rw [size] at zJ tJ sizeJ
  refine wpAny_pure ⟨_, rfl, ?_⟩
  show Q (.ref he.objs.size) _
  rw [size]
  exact hQ hj zJ (up _ _ D.TOz oE) (dE1.onto fun o e => up _ o D.i1z e) (dE2.onto fun o e => up _ o D.i2z e) tJ sizeJ fun c o c1 c2 c3 c4 e => up c o c1 (spared c o c1 c2 c3 c4 e)
theorem zs_end {Q : Fin → Shared → Prop} (hh : A.handled = none) (D : ZipApart z TI TO i1 i2 l1 l2) (hz : IsZs s.heap z TI TO .none) (hTI : IsPair s.heap TI (.ref i1) (.ref i2))
    (h1 : Drw p s.heap i1 l1 k1) (h2 : Drw q s.heap i2 l2 k2) (hl1 : Src p s.heap l1 xs) (hl2 : Src q s.heap l2 ys) (hx : xs[k1]? = none) (hy : ys[k2]? = none)
    (hE : ∀ h' e, Spared z TO i1 i2 s.heap h' → (∃ o, h'.get? e = some o ∧ o.cls = .type "StopIteration") → E (.ref e) { s with heap := h' }) :
    wpAny (model prog w) A (Builtin.«zip.__next__» ⟨[.ref z], []⟩) Q E s := by
  show wpAny _ _ (field (.ref z) 2 >>= _) _ _ _
  refine wpAny_bind (wpAny_field hz rfl (x := .bool true) rfl ?_)
  show wpAny _ _ (field (.ref z) 3 >>= _) _ _ _
  refine wpAny_bind (wpAny_field hz rfl (x := .ref TI) rfl (wpAny_bind (wpAny_seqItems hTI rfl ?_)))
  show wpAny _ _ (Builtin.SmallTypes.ownedTupleIsFree (.ref z) >>= _) _ _ _
  refine wpAny_bind ?_
  unfold Builtin.SmallTypes.ownedTupleIsFree
  refine wpAny_bind (wpAny_field hz rfl (x := .none) rfl (wpAny_pure ?_))
  simp only [if_true]
  refine wpAny_bind (wpAny_rule (wpAny_bind (wpAny_field hz rfl (x := .ref TO) rfl (wpAny_bind (wpAny_setField_rec hz (by simp) fun ha za sa => ?_)))))
  replace za : IsZs ha z TI TO .ellipsis := za
  refine wpAny_bind ?_
  simp only [List.zipIdx_cons, List.zipIdx_nil, List.forIn_cons, List.forIn_nil]
  refine wpAny_bind (wpAny_bind (wpAny_onRaise ?_))
  show wpAny _ _ (Builtin.SmallTypes.nextOrEnd (.ref i1)) _ _ _
  refine drw_end hh (h1.but sa.extBut D.i1z) (hl1.but sa.extBut D.l1z) hx fun hb sb => ?_
  have zB : IsZs hb z TI TO .ellipsis := sb _ _ D.i1z.symm za
  refine wpAny_bind (wpAny_setField_rec zB (by simp) fun hc zC sc => ?_)
  refine wpAny_bind ?_
  change wpAny _ _ (Bind.bind _ _) _ _ _
  refine wpAny_bind ?_
  simp only [List.drop_succ_cons, List.drop_zero, List.zipIdx_cons, List.zipIdx_nil, List.forIn_cons, List.forIn_nil]
  have kd : Drw q hc i2 l2 k2 := ((h2.but sa.extBut D.i2z).but sb D.i12.symm).but sc.extBut D.i2z
  have ks : Src q hc l2 ys := ((hl2.but sa.extBut D.l2z).but sb D.l2i1).but sc.extBut D.l2z
  refine wpAny_bind (wpAny_bind (drw_end hh kd ks hy fun hd sd => ?_))
  refine wpAny_pure ?_
  refine wpAny_pure ?_
  refine wpAny_bind (wpAny_rule ?_)
  unfold Builtin.SmallTypes.stopIteration
  refine wpAny_bind ?_
  simp only [newExc, newTuple]
  refine wpAny_bind (wpAny_newObj_type ?_ (by size_fits))
  refine wpAny_bind (m := firstArgMember _ _) (wpAny_of_eq (a := Value.none) (by first | rfl | (simp only [firstArgMember]; rfl)) ?_)
  refine wpAny_newObj_type ?_ (by size_fits)
  simp only [raiseNew]
  refine wpAny_bind (wpAny_handled ?_)
  rw [hh]
  refine wpAny_bind (wpAny_pure (wpAny_throw ?_))
  refine hE _ _ (fun c o c1 c2 c3 c4 e => Heap.get?_push_of_some _ (Heap.get?_push_of_some _ (sd _ _ c4 (sc.extBut _ _ c1 (sb _ _ c3 (sa.extBut _ _ c1 e)))))) ⟨_, Heap.get?_push_size _ rfl, rfl⟩
theorem zs_next_item {Q : Option Value → Shared → Prop} (D : ZipApart z TI TO i1 i2 l1 l2) (hz : IsZs s.heap z TI TO .none) (hTI : IsPair s.heap TI (.ref i1) (.ref i2)) (hTO : IsPair s.heap TO a b)
    (h1 : Drw p s.heap i1 l1 k1) (h2 : Drw q s.heap i2 l2 k2) (hl1 : Src p s.heap l1 xs) (hl2 : Src q s.heap l2 ys) (hx : xs[k1]? = some x) (hy : ys[k2]? = some y)
    (hQ : ∀ h', IsZs h' z TI TO (rawInt s.heap.objs.size) → IsPair h' TO x y → Drw p h' i1 l1 (k1 + 1) → Drw q h' i2 l2 (k2 + 1) → IsPair h' s.heap.objs.size x y → h'.objs.size = s.heap.objs.size + 1 → Spared z TO i1 i2 s.heap h' → Q (some (.ref s.heap.objs.size)) { s with heap := h' }) :
    wpAny (model prog w) A (pyNext (.ref z)) Q E s := by
  have hT : s.TypeIs (.ref z) "zip" := ⟨_, hz, rfl⟩
  unfold pyNext
  refine wpAny_bind (wpAny_attempt (wpAny_callSpecial?_slot (name := Str.ofString "__next__") hT F.slot_zip_next (wpAny_call_entry F.slot_zip_next hT F.entry_zip_next ?_ (F.args_zip_next_1 _))))
  exact zs_item D hz hTI hTO h1 h2 hl1 hl2 hx hy fun h' a1 a2 a3 a4 a5 a6 a7 => wpAny_pure (hQ h' a1 a2 a3 a4 a5 a6 a7)
theorem zs_next_end {Q : Option Value → Shared → Prop} (hh : A.handled = none) (D : ZipApart z TI TO i1 i2 l1 l2) (hz : IsZs s.heap z TI TO .none) (hTI : IsPair s.heap TI (.ref i1) (.ref i2))
    (h1 : Drw p s.heap i1 l1 k1) (h2 : Drw q s.heap i2 l2 k2) (hl1 : Src p s.heap l1 xs) (hl2 : Src q s.heap l2 ys) (hx : xs[k1]? = none) (hy : ys[k2]? = none)
    (hQ : ∀ h', Spared z TO i1 i2 s.heap h' → Q none { s with heap := h' }) : wpAny (model prog w) A (pyNext (.ref z)) Q E s := by
  have hT : s.TypeIs (.ref z) "zip" := ⟨_, hz, rfl⟩
  unfold pyNext
  refine wpAny_bind (wpAny_attempt (wpAny_callSpecial?_slot (name := Str.ofString "__next__") hT F.slot_zip_next (wpAny_call_entry F.slot_zip_next hT F.entry_zip_next ?_ (F.args_zip_next_1 _))))
  refine zs_end hh D hz hTI h1 h2 hl1 hl2 hx hy fun h' e hk he => ?_
  obtain ⟨o, ho, hc⟩ := he
  exact wpAny_bind (wpAny_isInstance (T := "StopIteration") (b := true) ⟨o, ho, hc⟩ isSubtype_stop (wpAny_pure (hQ _ hk)))
theorem zs_let {elts : List Expr} {n : Nat} {pos : Pos} {T : Addr} {Q : Unit → Shared → Prop} (hz : IsZs s.heap z TI TO (rawInt T)) (hQ : ∀ h', IsZs h' z TI TO .none → Heap.SameBut z s.heap h' → Q () { s with heap := h' }) :
    wpAny (model prog w) A (letOwnedTupleGo (.Tuple elts n pos) (.ref z) (.ref T)) Q E s := by
  unfold letOwnedTupleGo
  refine wpAny_bind (wpAny_load hz ?_)
  change wpAny _ _ (if (_ && (#[rawInt T, .bool false, .bool true, .ref TI, .ref TO] : Array Value)[0]? == some (rawInt T)) = true then _ else _) Q E s
  rw [if_pos (by simp)]
  refine wpAny_bind (wpAny_rule ?_)
  show wpAny _ _ (setField (.ref z) 0 .none) Q E s
  exact wpAny_setField_rec hz (by simp) fun h' hz' hs' => hQ h' hz' hs'
theorem zs_iter {f0 : Value} {Q : Value → Shared → Prop} (hz : IsZs s.heap z TI TO f0) (h : Q (.ref z) s) : wpAny (model prog w) A (pyIter (.ref z)) Q E s := by
  have hT : s.TypeIs (.ref z) "zip" := ⟨_, hz, rfl⟩
  refine wpAny_pyIter_slot hT F.slot_zip_iter (wpAny_call_entry F.slot_zip_iter hT F.entry_zip_iter ?_ (F.args_zip_iter_1 _))
  show wpAny _ _ (ret (.ref z)) _ _ s
  exact wpAny_pure ⟨_, rfl, "zip", _, hT, F.slot_zip_next.lookup, h⟩
end
end Cs
/-! Zs2: zip(a, b, strict=True) is made. -/
namespace Cs
open PySem
open PySem.Sem (wp)
theorem zs_typeCall (a b v : Value) : checkTypeCall "zip" ⟨[a, b], [(Str.ofString "strict", v)]⟩ = pure () := by kernel_rfl
theorem zs_newCall (a b v : Value) : checkBuiltinCall "zip.__new__" ⟨[.type "zip", a, b], [(Str.ofString "strict", v)]⟩ = pure () := by kernel_rfl
theorem zs_init (obj a b v : Value) : argsOk "object.__init__" ⟨[obj, a, b], [(Str.ofString "strict", v)]⟩ := by unfold argsOk; kernel_rfl
/-- the iterators' objects, the heaps one behind the other -/
def itO (p : Bool) (l : Addr) : Obj := { cls := .type (match p with | true => "list_iterator" | false => "tuple_iterator"), data := .fields #[.ref l, .int 0 0] }
abbrev zA (p : Bool) (l1 : Addr) (h : Heap) : Heap := h.push (itO p l1)
abbrev zB (p q : Bool) (l1 l2 : Addr) (h : Heap) : Heap := (zA p l1 h).push (itO q l2)
abbrev zC (p q : Bool) (l1 l2 : Addr) (h : Heap) : Heap := (zB p q l1 l2 h).push { cls := .type "tuple", data := .seq #[.ref h.objs.size, .ref (zA p l1 h).objs.size] }
abbrev zD (p q : Bool) (l1 l2 : Addr) (h : Heap) : Heap := (zC p q l1 l2 h).push { cls := .type "tuple", data := .seq #[.none, .none] }
abbrev zE (p q : Bool) (l1 l2 : Addr) (h : Heap) : Heap := (zD p q l1 l2 h).push { cls := .type "zip", data := .fields #[.none, .bool false, .bool true, .ref (zB p q l1 l2 h).objs.size, .ref (zC p q l1 l2 h).objs.size] }
theorem Src.push {p : Bool} {h : Heap} {l : Addr} {xs : Array Value} (x : Src p h l xs) (o : Obj) : Src p (h.push o) l xs := by
  cases p with
  | true => exact Heap.IsList.push x _
  | false => exact Heap.IsTuple.push x _
theorem src_iter {prog : Program} {w : World} {A : Around} {E : Value → Shared → Prop} {s : Shared} {p : Bool} {l : Addr} {xs : Array Value} {Q : Value → Shared → Prop} (hl : Src p s.heap l xs) (h : Q (.ref s.heap.objs.size) { s with heap := s.heap.push (itO p l) }) : wpAny (model prog w) A (pyIter (.ref l)) Q E s := by
  cases p with
  | true => exact wpAny_pyIter_list hl h
  | false => exact wpAny_pyIter_tuple hl h
theorem zs_new (p q : Bool) (l1 l2 : Addr) (xs ys : Array Value) :
    Meets (Builtin.«zip.__new__» ⟨[.type "zip", .ref l1, .ref l2], [(Str.ofString "strict", .bool true)]⟩) (fun _ R s => Src p s.heap l1 xs ∧ Src q s.heap l2 ys ∧ R (.ok (.ret (.ref (zD p q l1 l2 s.heap).objs.size))) { s with heap := zE p q l1 l2 s.heap }) :=
  .of_wp fun prog w A R s h => by
    obtain ⟨hp, g, d, tk, os⟩ := s; obtain ⟨hl1, hl2, h⟩ := h
    have hsub := sub_zip
    have q1 : ∀ {A' : Around} {E : Value → Shared → Prop} {Q : Value → Shared → Prop}, Q (.ref hp.objs.size) ⟨hp.push (itO p l1), g, d, tk, os⟩ → wpAny (model prog w) A' (pyIter (.ref l1)) Q E ⟨hp, g, d, tk, os⟩ := fun z => src_iter hl1 z
    have q2 : ∀ {A' : Around} {E : Value → Shared → Prop} {Q : Value → Shared → Prop}, Q (.ref (hp.push (itO p l1)).objs.size) ⟨(hp.push (itO p l1)).push (itO q l2), g, d, tk, os⟩ → wpAny (model prog w) A' (pyIter (.ref l2)) Q E ⟨hp.push (itO p l1), g, d, tk, os⟩ := fun z => src_iter (s := ⟨hp.push (itO p l1), g, d, tk, os⟩) (hl2.push _) z
    have e2 : (Str.ofString "strict" != ("strict" : Str)) = false := by decide +kernel
    wp_walk using q1, q2
    exact ⟨_, rfl, h⟩
theorem itO_drw {p : Bool} {l i : Addr} {h : Heap} (e : h.get? i = some (itO p l)) : Drw p h i l 0 := by
  cases p with
  | true => exact ⟨_, e, rfl, rfl⟩
  | false => exact ⟨_, e, rfl, rfl⟩
theorem call_zs {prog : Program} {w : World} {A : Around} {E : Value → Shared → Prop} {s : Shared} {p q : Bool} {l1 l2 : Addr} {xs ys : Array Value} {Q : Value → Shared → Prop} (hl1 : Src p s.heap l1 xs) (hl2 : Src q s.heap l2 ys)
    (h : ∀ h', IsZs h' (s.heap.objs.size + 4) (s.heap.objs.size + 2) (s.heap.objs.size + 3) .none → IsPair h' (s.heap.objs.size + 2) (.ref s.heap.objs.size) (.ref (s.heap.objs.size + 1)) → IsPair h' (s.heap.objs.size + 3) .none .none →
      Drw p h' s.heap.objs.size l1 0 → Drw q h' (s.heap.objs.size + 1) l2 0 → (∀ c o, s.heap.get? c = some o → h'.get? c = some o) → Q (.ref (s.heap.objs.size + 4)) { s with heap := h' }) :
    wpAny (model prog w) A (call (.type "zip") [.ref l1, .ref l2] [(Str.ofString "strict", .bool true)]) Q E s := by
  refine callType_newKw F.called_zip (by decide) (zs_typeCall _ _ _) (zs_newCall _ _ _) (fun obj => zs_init obj _ _ _) F.entry_zip_new (zs_new p q l1 l2 xs ys) ⟨hl1, hl2, ?_⟩
  have n1 : (zA p l1 s.heap).objs.size = s.heap.objs.size + 1 := Heap.size_push ..
  have n2 : (zB p q l1 l2 s.heap).objs.size = s.heap.objs.size + 2 := by rw [Heap.size_push, n1]
  have n3 : (zC p q l1 l2 s.heap).objs.size = s.heap.objs.size + 3 := by rw [Heap.size_push, n2]
  have n4 : (zD p q l1 l2 s.heap).objs.size = s.heap.objs.size + 4 := by rw [Heap.size_push, n3]
  have up : ∀ {h : Heap} {o : Obj} {c : Addr} {u : Obj}, h.get? c = some u → (h.push o).get? c = some u := fun e => Heap.get?_push_of_some _ e
  have g5 : (zE p q l1 l2 s.heap).get? (zD p q l1 l2 s.heap).objs.size = some _ := Heap.get?_push_size _ rfl
  have g4 : (zE p q l1 l2 s.heap).get? (zC p q l1 l2 s.heap).objs.size = some _ := up (Heap.get?_push_size _ rfl)
  have g3 : (zE p q l1 l2 s.heap).get? (zB p q l1 l2 s.heap).objs.size = some _ := up (up (Heap.get?_push_size _ rfl))
  have g2 : (zE p q l1 l2 s.heap).get? (zA p l1 s.heap).objs.size = some (itO q l2) := up (up (up (Heap.get?_push_size _ rfl)))
  have g1 : (zE p q l1 l2 s.heap).get? s.heap.objs.size = some (itO p l1) := up (up (up (up (Heap.get?_push_size _ rfl))))
  show _ ∧ _
  rw [n2, n3, n4] at g5
  rw [n1, n2] at g3
  rw [n3] at g4
  rw [n1] at g2
  rw [n4]
  exact ⟨⟨_, g5, rfl⟩, h _ g5 g3 g4 (itO_drw g1) (itO_drw g2) fun c o e => up (up (up (up (up e))))⟩
end Cs
/-! Zs3: a loop over zip(a, b, strict=True). -/
namespace Cs
open PySem L2
/-- a list | a tuple as it stands -/
def SqB (p : Bool) (K : PySem.W.Frag) (H : Hp) (a : Addr) (xs : List V) : Prop := match p with
  | true => SqL K H a xs
  | false => SqT K H a xs
theorem SqB.src {X : Cx} {pins : List (Addr × Obj)} {σ : L2.St} {H : Hp} {s : Shared} {p : Bool} {a : Addr} {xs : List V} (I : Inv X pins σ H s) (h : SqB p X.K H a xs) : ∃ its : List Value, Vals xs its ∧ Src p s.heap a its.toArray := by
  cases p with
  | true =>
    obtain ⟨its, rv, pl, _⟩ := I.list h
    exact ⟨its, rv, pl.isList⟩
  | false =>
    obtain ⟨its, rv, pl, _⟩ := I.tuple h
    exact ⟨its, rv, pl⟩
theorem SqB.inj {X : Cx} {pins : List (Addr × Obj)} {σ : L2.St} {H : Hp} {s : Shared} {p : Bool} {a : Addr} {xs ys : List V} (I : Inv X pins σ H s) (h : SqB p X.K H a xs) (h' : SqB p X.K H a ys) : xs = ys := by
  cases p with
  | true => exact I.list_inj h h'
  | false => exact I.tuple_inj h h'
theorem Src.lt {p : Bool} {h : Heap} {l : Addr} {xs : Array Value} (x : Src p h l xs) : l < h.objs.size := by
  cases p with
  | true => obtain ⟨o, e, _⟩ := x; exact Heap.lt_size e
  | false => obtain ⟨o, e, _⟩ := x; exact Heap.lt_size e
/-- the pairs, of two of one length -/
def ItS (p q : Bool) (K : PySem.W.Frag) (a b : Addr) : It :=
  ⟨fun i H => ∃ (xs ys : List V) (x y : V), SqB p K H a xs ∧ SqB q K H b ys ∧ xs[i]? = some x ∧ ys[i]? = some y,
   fun i H v H' => ∃ T x y, v = .ref T ∧ H T = none ∧ H' = upd H T (.tup [x, y]) ∧ (∀ xs, SqB p K H a xs → xs[i]? = some x) ∧ ∀ ys, SqB q K H b ys → ys[i]? = some y,
   fun i H => ∃ xs ys : List V, SqB p K H a xs ∧ SqB q K H b ys ∧ xs.length ≤ i ∧ ys.length ≤ i⟩
theorem turn_zs {P : Program} {w : World} {K : PySem.W.Frag} {elts : List Expr} {kk : Nat} {tpos : Pos} {p q : Bool} {a b z TI TO i1 i2 : Addr} (D : ZipApart z TI TO i1 i2 a b) :
    Turn P w K (.Tuple elts kk tpos) (ItS p q K a b) [z, TI, TO, i1, i2] z (fun i h => IsZs h z TI TO .none ∧ IsPair h TI (.ref i1) (.ref i2) ∧ (∃ x y, IsPair h TO x y) ∧ Drw p h i1 a i ∧ Drw q h i2 b i) where
  mem := by simp
  obj := fun i h ⟨hz, hTI, ⟨x, y, hTO⟩, h1, h2⟩ c hc => by
    simp only [List.mem_cons, List.not_mem_nil, or_false] at hc
    rcases hc with rfl | rfl | rfl | rfl | rfl
    · exact ⟨_, hz, fun v q => nomatch q⟩
    · exact ⟨_, hTI, fun v q => nomatch q⟩
    · exact ⟨_, hTO, fun v q => nomatch q⟩
    · exact h1.obj
    · exact h2.obj
  keep := fun i h h' ⟨hz, hTI, ⟨x, y, hTO⟩, h1, h2⟩ k => ⟨k z (by simp) _ hz, k TI (by simp) _ hTI, ⟨x, y, k TO (by simp) _ hTO⟩, h1.onto fun o e => k i1 (by simp) o e, h2.onto fun o e => k i2 (by simp) o e⟩
  item := by
    intro X hP hw hK hc i pins s σ H E I hf ⟨hz, hTI, ⟨x0, y0, hTO⟩, h1, h2⟩ ⟨xs, ys, x, y, sx, sy, hx, hy⟩
    subst hP hw hK
    obtain ⟨us, ru, s1⟩ := sx.src I
    obtain ⟨ws, rw', s2⟩ := sy.src I
    obtain ⟨u, eu, vu⟩ := ru.get hx
    obtain ⟨t, et, vt⟩ := rw'.get hy
    have zlt : z < s.heap.objs.size := Heap.lt_size hz
    refine zs_next_item D hz hTI hTO h1 h2 s1 s2 (x := u) (y := t) (by simpa using eu) (by simpa using et) fun h' z' o' d1 d2 hT hsz hk => ?_
    refine ⟨_, rfl, zs_let (s := { s with heap := h' }) z' fun h'' z'' sb => ?_⟩
    have hT2 : h''.get? s.heap.objs.size = some { cls := .type "tuple", data := .seq #[u, t] } := (sb.2 _ (Nat.ne_of_gt zlt)).trans hT
    have new : ObjOk X.prog X.w (upd H s.heap.objs.size (.tup [x, y])) h'' s.heap.objs.size (.tup [x, y]) := ⟨by show 2 ≤ sizeLine; decide, [u, t], .cons vu (.cons vt .nil), ⟨_, hT2, rfl, _, rfl⟩⟩
    have old : ∀ c o, c ∉ [z, TI, TO, i1, i2] → s.heap.get? c = some o → h''.get? c = some o := fun c o hb e => by
      simp only [List.mem_cons, List.not_mem_nil, or_false, not_or] at hb
      exact (sb.2 c hb.1).trans (hk c o hb.1 hb.2.2.1 hb.2.2.2.1 hb.2.2.2.2 e)
    have I1 : Inv X pins σ (upd H s.heap.objs.size (.tup [x, y])) { s with heap := h'' } := I.turnedNew (t' := s.toks) (ch := [z, TI, TO, i1, i2]) old hf (Nat.le_refl _) new
    refine ⟨.ref s.heap.objs.size, _, I1, rfl, ⟨_, x, y, rfl, I.hok.fresh (Nat.le_refl _), rfl, fun l hl => by rw [SqB.inj I hl sx]; exact hx, fun l hl => by rw [SqB.inj I hl sy]; exact hy⟩, ⟨z'', ?_, ⟨u, t, ?_⟩, ?_, ?_⟩, fun c hcm => ?_⟩
    · exact (sb.2 _ D.TIz).trans (hk _ _ D.TIz D.TITO D.TIi1 D.TIi2 hTI)
    · exact (sb.2 _ D.TOz).trans o'
    · exact d1.onto fun o e => (sb.2 _ D.i1z).trans e
    · exact d2.onto fun o e => (sb.2 _ D.i2z).trans e
    · have clt : c < s.heap.objs.size := by
        simp only [List.mem_cons, List.not_mem_nil, or_false] at hcm
        rcases hcm with rfl | rfl | rfl | rfl | rfl
        · exact zlt
        · exact Heap.lt_size hTI
        · exact Heap.lt_size hTO
        · obtain ⟨_, e, _⟩ := h1.obj; exact Heap.lt_size e
        · obtain ⟨_, e, _⟩ := h2.obj; exact Heap.lt_size e
      rw [upd_ne (Nat.ne_of_lt clt)]
      exact (hf c hcm).1
  done := by
    intro X hP hw hK hc i pins s σ H E I hf ⟨hz, hTI, ⟨x0, y0, hTO⟩, h1, h2⟩ ⟨xs, ys, sx, sy, e1, e2⟩
    subst hP hw hK
    obtain ⟨us, ru, s1⟩ := sx.src I
    obtain ⟨ws, rw', s2⟩ := sy.src I
    have n1 := ru.length
    have n2 := rw'.length
    refine zs_next_end (I.ok.hd hc) D hz hTI h1 h2 s1 s2 (by simp; omega) (by simp; omega) fun h' hk => ⟨rfl, ?_⟩
    refine I.turnedL (t' := s.toks) (ch := [z, TI, TO, i1, i2]) (fun c o hb e => ?_) hf
    simp only [List.mem_cons, List.not_mem_nil, or_false, not_or] at hb
    exact hk c o hb.1 hb.2.2.1 hb.2.2.2.1 hb.2.2.2.2 e
  self := fun A i s Q E st h => zs_iter st.1 h
/-- a call of a built-in class by keywords -/
theorem callWith_typeK {M : Model} {A : Around} {E : Value → Shared → Prop} {s : Shared} {env : PySem.Env} {pos : Pos} {T : String} {e : Expr} {rest : List Expr} {kws : List Keyword} {Q : Value → Shared → Prop}
    (h : wpAny M A (spliced (backTo pos (starEach (e :: rest) env))) (fun vs s₁ => wpAny M A (evalAll ((backToKw pos (keywordEach kws env)).map (·.2))) (fun kvs s₂ => wpAny M A (call (.type T) vs (((backToKw pos (keywordEach kws env)).filterMap (·.1)).zip kvs)) Q E s₂) E s₁) E s)
    (he : backTo pos (starEach (e :: rest) env) = (false, eval e env) :: backTo pos (starEach rest env)) (hpl : (backTo pos (starEach (e :: rest) env)).any (·.1) = false)
    (hall : (backToKw pos (keywordEach kws env)).all (·.1.isSome) = true) (hkw : (backToKw pos (keywordEach kws env)).any (·.1.isNone) = false) :
    wpAny M A (callWith pos (.type T) [] (backTo pos (starEach (e :: rest) env)) (backToKw pos (keywordEach kws env))) Q E s := by
  have a : wpAny M A (evalArgs (.type T) true (backTo pos (starEach (e :: rest) env)) (backToKw pos (keywordEach kws env))) (fun a s₁ => wpAny M A (call (.type T) ([] ++ a.pos) a.kw) Q E s₁) E s := by
    rw [he] at h ⊢
    exact PyProof.Rows.evalArgs_kwB hall h
  unfold callWith
  refine wpAny_bind (wpAny_holding (wpAny_mono a (fun a s₁ h₁ => wpAny_bind (wpAny_standAt ?_)) fun _ _ x => x))
  simp only [hpl, hkw, Bool.or_false]
  refine wpAny_bind (wpAny_pure ?_)
  exact wpAny_bind (wpAny_mono h₁ (fun r s₂ hr => wpAny_bind (wpAny_holding (wpAny_point (wpAny_pure hr)))) fun _ _ x => x)
def iZs (K : PySem.W.Frag) (ta : TA) : TI := fun σ H R => ta σ H fun vs H1 => ∃ p q a b xs ys, vs = [.ref a, .ref b] ∧ SqB p K H1 a xs ∧ SqB q K H1 b ys ∧ R (ItS p q K a b) H1
theorem pi_zs {X : Cx} {e e2 : Expr} {ta : TA} {p pos tpos kp cp : Pos} {elts : List Expr} {kk j : Nat} (hg : Gl X "zip") (hm : X.mg "zip" = none) (ha : PA X [e, e2] ta) (hs : starEach [e, e2] X.env = (false, eval e X.env) :: starEach [e2] X.env) (hpl : (backTo pos (starEach [e2] X.env)).any (·.1) = false) :
    PI X (.Tuple elts kk tpos) (.Call (.Name "zip" p) [e, e2] [⟨some "strict", .Constant (.bool true) j cp, kp⟩] pos) (iZs X.K ta) := by
  refine ⟨fun pins s σ H R I h => ?_⟩
  refine wpAny_Call_Name_kw (ld_blt I hg hm PyProof.Rows.boot_zip (callWith_typeK (thn (ha.run pos pins s σ H _ I h) fun us s1 ⟨vs, H1, I1, r1, q1⟩ => ?_) (by rw [hs]; rfl) (by rw [hs]; exact hpl) rfl rfl))
  refine thn ((pk_cons (nm := some "strict") (kpos := kp) (pe_bl (X := X) (b := true) (j := j) (pos := cp)) pk_nil).run pos pins s1 σ H1 (fun zs H2 => zs = [.bl true] ∧ H2 = H1) I1 ⟨rfl, rfl⟩) fun ks s2 ⟨zs, H2, I2, r2, e1, e2⟩ => ?_
  subst e1; subst e2
  cases r2 with
  | cons rb rr =>
    cases rr
    cases rb
    obtain ⟨p, q, a, b, xs, ys, ex, sx, sy, q1⟩ := q1
    subst ex
    cases r1 with
    | cons ra rr =>
      cases rr with
      | cons rb rr =>
        cases rr
        cases ra
        cases rb
        obtain ⟨us, ru, sa⟩ := sx.src I2
        obtain ⟨ws, rw', sb⟩ := sy.src I2
        refine call_zs sa sb fun h' hz hTI hTO h1 h2 hk => zs_iter hz ?_
        have I3 : Inv X pins σ _ { s2 with heap := h' } := I2.kept (t' := s2.toks) hk
        refine ⟨s2.heap.objs.size + 4, [s2.heap.objs.size + 4, s2.heap.objs.size + 2, s2.heap.objs.size + 3, s2.heap.objs.size, s2.heap.objs.size + 1], _, _, _, rfl, I3, turn_zs (PySem.W.ktu_apart s2.heap.objs.size a b sa.lt sb.lt), ⟨hz, hTI, ⟨_, _, hTO⟩, h1, h2⟩, fun c hcm => ?_, q1⟩
        have hle : s2.heap.objs.size ≤ c := by
          simp only [List.mem_cons, List.not_mem_nil, or_false] at hcm
          rcases hcm with rfl | rfl | rfl | rfl | rfl
          · exact Nat.le_add_right _ _
          · exact Nat.le_add_right _ _
          · exact Nat.le_add_right _ _
          · exact Nat.le_refl _
          · exact Nat.le_add_right _ _
        exact I2.fpOk hle (I2.hok.fresh hle)
end Cs
/-! St1: a, *b, c = a list or a tuple. -/
namespace Cs
open PySem PyProof.Rows
section
variable {prog : Program} {w : World} {A : Around} {E : Value → Shared → Prop} {s : Shared} {env : PySem.Env}
abbrev lstO (vs : List Value) : Obj := { cls := .type "list", data := .seq vs.toArray }
def itr (p : Bool) (l : Addr) : Obj := { cls := .type (match p with | true => "list_iterator" | false => "tuple_iterator"), data := .fields #[.ref l, .int 0 0] }
theorem star_items {p : Bool} {l : Addr} {its : Array Value} {n i : Nat} {Q : List Value → Shared → Prop} (hl : Src p s.heap l its) (hh : A.handled = none) (hi : i < n) (hn : n ≤ its.size + 1) (hz : its.size ≤ sizeLine)
    (h : ∀ (h2 : Heap) (tk : Nat), (∀ b o, s.heap.get? b = some o → h2.get? b = some o) → Q (its.toList.take i ++ [.ref h2.objs.size] ++ (its.toList.drop i).drop (its.size + 1 - n)) { s with heap := h2.push (lstO ((its.toList.drop i).take (its.size + 1 - n))), toks := tk }) :
    wpAny (model prog w) A (unpackItems (.ref l) n (some i)) Q E s := by
  have lt : l < s.heap.objs.size := by
    cases p with
    | true => obtain ⟨o, e, _⟩ := hl; exact Heap.lt_size e
    | false => obtain ⟨o, e, _⟩ := hl; exact Heap.lt_size e
  have ne : l ≠ s.heap.objs.size := Nat.ne_of_lt lt
  have l1 : (its.toList.take i).length = i := by rw [List.length_take, Array.length_toList]; omega
  have l2 : (its.toList.drop i).length = its.size - i := by rw [List.length_drop, Array.length_toList]
  have l3 : (its.toList.drop i).length - (n - 1 - i) = its.size + 1 - n := by rw [l2]; omega
  have fin : ∀ (h1 : Heap), (∀ b o, b ≠ s.heap.objs.size → (s.heap.push (itr p l)).get? b = some o → h1.get? b = some o) → ∀ (h2 : Heap) (tk : Nat), (∀ b o, b ≠ s.heap.objs.size → h1.get? b = some o → h2.get? b = some o) →
      wpAny (model prog w) A (do
        if (its.toList.drop i).length < n - 1 - i then
          rule "unpack.star.too-few"
          raiseError "ValueError" s!"not enough values to unpack (expected at least {n - 1}, got {i + (its.toList.drop i).length})"
        let mid := (its.toList.drop i).length - (n - 1 - i)
        return its.toList.take i ++ [← newList ((its.toList.drop i).take mid)] ++ (its.toList.drop i).drop mid) Q E { s with heap := h2, toks := tk } := fun h1 k1 h2 tk k2 => by
    rw [if_neg (by rw [l2]; omega)]
    dsimp only
    rw [l3]
    refine wpAny_bind (wpAny_newList ?_ (by rw [List.length_take, l2]; omega))
    refine wpAny_pure (h h2 tk fun b o e => ?_)
    have nb : b ≠ s.heap.objs.size := Nat.ne_of_lt (Heap.lt_size e)
    exact k2 b o nb (k1 b o nb (Heap.get?_push_of_some _ e))
  unfold unpackItems
  refine wpAny_bind ?_
  unfold notIterableAtAll
  cases p with
  | true =>
    refine wpAny_bind (wpAny_specialOf (Heap.IsList.typeIs hl) slot_list_iter.lookup ?_)
    refine wpAny_pure ?_
    simp only [Bool.false_eq_true, if_false]
    refine wpAny_bind (wpAny_holding (wpAny_pyIter_list hl ?_))
    refine wpAny_bind (wpAny_holding (PySem.W.kun_draw ne i 0 _ _ ⟨_, Heap.get?_push_size _ rfl, rfl, rfl⟩ (Heap.IsList.push hl _) (by omega) fun h1 it1 s1 => ?_))
    have li : h1.IsList l its := (Heap.IsList.push hl _).extBut s1.extBut ne
    rw [Nat.zero_add] at it1
    rw [List.drop_zero, if_neg (show ¬ ((its.toList.take i).length < i) by rw [l1]; omega)]
    have e1 := it1
    obtain ⟨oi, hoi, _⟩ := e1
    have e2 := li
    obtain ⟨ol, hol, _⟩ := e2
    refine wpAny_bind (wpAny_holding (PySem.W.kun_collect (s := { s with heap := h1 }) (T := "list_iterator") (.inr (.inr (.inl rfl))) (Walks.list (A := A.in1) hh s.heap.objs.size l ne its) (fun j u st => st.1.typeIs) (k := i) (by omega) ⟨it1, li⟩ (Heap.lt_size hoi) (Heap.lt_size hol) (fun h2 tk k2 => ?_) hz))
    exact fin h1 (fun b o nb e => s1.extBut b o nb e) h2 tk k2
  | false =>
    refine wpAny_bind (wpAny_specialOf (Heap.IsTuple.typeIs hl) slot_tuple_iter.lookup ?_)
    refine wpAny_pure ?_
    simp only [Bool.false_eq_true, if_false]
    refine wpAny_bind (wpAny_holding (iter_tuple hl ?_))
    refine wpAny_bind (wpAny_holding (draw_tuple ne i 0 _ _ ⟨_, Heap.get?_push_size _ rfl, rfl, rfl⟩ (Heap.IsTuple.push hl _) (by omega) fun h1 it1 s1 => ?_))
    have li : h1.IsTuple l its := (Heap.IsTuple.push hl _).extBut s1.extBut ne
    rw [Nat.zero_add] at it1
    rw [List.drop_zero, if_neg (show ¬ ((its.toList.take i).length < i) by rw [l1]; omega)]
    have e1 := it1
    obtain ⟨oi, hoi, _⟩ := e1
    have e2 := li
    obtain ⟨ol, hol, _⟩ := e2
    refine wpAny_bind (wpAny_holding (PySem.W.kun_collect (s := { s with heap := h1 }) (T := "tuple_iterator") (.inr (.inr (.inr rfl))) (Walks.tuple (A := A.in1) hh s.heap.objs.size l ne its) (fun j u st => st.1.typeIs) (k := i) (by omega) ⟨it1, li⟩ (Heap.lt_size hoi) (Heap.lt_size hol) (fun h2 tk k2 => ?_) hz))
    exact fin h1 (fun b o nb e => s1.extBut b o nb e) h2 tk k2
theorem star_asg {p : Bool} {elts : List Expr} {kk : Nat} {pos : Pos} {l : Addr} {its : Array Value} {n i : Nat} {Q : Unit → Shared → Prop} (hl : Src p s.heap l its) (hh : A.handled = none) (hlen : (assignEach elts env).length = n) (hst : (assignEach elts env).findIdx? (·.1) = some i) (hi : i < n) (hn : n ≤ its.size + 1) (hz : its.size ≤ sizeLine)
    (h : ∀ (h2 : Heap) (tk : Nat), (∀ b o, s.heap.get? b = some o → h2.get? b = some o) → wpAny (model prog w) A (assignInOrder ((assignEach elts env).map (·.2)) (its.toList.take i ++ [.ref h2.objs.size] ++ (its.toList.drop i).drop (its.size + 1 - n))) Q E { s with heap := h2.push (lstO ((its.toList.drop i).take (its.size + 1 - n))), toks := tk }) :
    wpAny (model prog w) A (PySem.assign (.Tuple elts kk pos) env (.ref l)) Q E s := by
  rw [assign_Tuple]
  refine wpAny_bind (wpAny_standAt ?_)
  unfold unpack
  rw [hlen, hst]
  exact wpAny_bind (wpAny_holding (star_items hl hh hi hn hz h))
end
end Cs
/-! St2: targets that take a list or a tuple apart. -/
namespace Cs
open PySem L2
section
variable {X : Cx} {es : List Expr} {k n i : Nat} {t : TGs} {pos : Pos}
theorem SqB.len {X : Cx} {pins : List (Addr × Obj)} {σ : L2.St} {H : Hp} {s : Shared} {p : Bool} {a : Addr} {xs : List V} (I : Inv X pins σ H s) (h : SqB p X.K H a xs) : xs.length ≤ sizeLine := by
  cases p with
  | true =>
    obtain ⟨_, _, _, z⟩ := I.list h
    exact z
  | false =>
    obtain ⟨_, _, _, z⟩ := I.tuple h
    exact z
def gAll (K : PySem.W.Frag) (n : Nat) (t : TGs) : TG := fun v σ H Q => ∃ p a xs, v = .ref a ∧ SqB p K H a xs ∧ xs.length = n ∧ t xs σ H Q
theorem pg_all (hc : X.calm = true) (h : PGs X es t) (hn : (assignEach es X.env).length = n) (hst : (assignEach es X.env).findIdx? (·.1) = none) : PG X (.Tuple es k pos) (gAll X.K n t) := by
  refine ⟨fun pins s σ H v u Q I r hw => ?_⟩
  obtain ⟨p, a, xs, e1, hq, hl, hw⟩ := hw
  subst e1
  cases r
  cases p with
  | false =>
    obtain ⟨its, rv, ht, hz⟩ := I.tuple hq
    refine PyProof.Rows.assign_Tuple_tuple (I.ok.hd hc) ht (by simp [hn, ← hl, rv.length]) hst fun h' hx => ?_
    have I1 : Inv X pins σ H { s with heap := h' } := I.kept (t' := s.toks) fun b o e => hx b o (Nat.ne_of_lt (Heap.lt_size e)) e
    exact h.run pins _ σ H xs _ Q I1 (by simpa using rv) hw
  | true =>
    obtain ⟨its, rv, ht, hz⟩ := I.list hq
    have hsz : its.toArray.size = n := by rw [List.size_toArray, ← rv.length, hl]
    rw [PyProof.Rows.assign_Tuple]
    refine wpAny_bind (wpAny_standAt ?_)
    unfold unpack
    rw [hn, hst, ← hsz]
    refine wpAny_bind (wpAny_holding (PySem.W.kun_itemsOf (I.ok.hd hc) ht.isList fun h' hx => ?_))
    have I1 : Inv X pins σ H { s with heap := h' } := I.kept (t' := s.toks) fun b o e => hx b o (Nat.ne_of_lt (Heap.lt_size e)) e
    exact h.run pins _ σ H xs _ Q I1 (by simpa using rv) hw
def gStar (K : PySem.W.Frag) (n i : Nat) (t : TGs) : TG := fun v σ H Q => ∃ p a xs, v = .ref a ∧ SqB p K H a xs ∧ i < n ∧ n ≤ xs.length + 1 ∧
  ∀ L, H L = none → t (xs.take i ++ [.ref L] ++ (xs.drop i).drop (xs.length + 1 - n)) σ (upd H L (.lst ((xs.drop i).take (xs.length + 1 - n)))) Q
theorem vals_take : ∀ (m : Nat) {vs : List V} {us : List Value}, Vals vs us → Vals (vs.take m) (us.take m)
  | 0, _, _, _ => .nil
  | m + 1, _, _, .nil => .nil
  | m + 1, _, _, .cons r t => .cons r (vals_take m t)
theorem vals_drop : ∀ (m : Nat) {vs : List V} {us : List Value}, Vals vs us → Vals (vs.drop m) (us.drop m)
  | 0, _, _, r => r
  | m + 1, _, _, .nil => .nil
  | m + 1, _, _, .cons r t => vals_drop m t
theorem vals_app : ∀ {vs ws : List V} {us ts : List Value}, Vals vs us → Vals ws ts → Vals (vs ++ ws) (us ++ ts)
  | _, _, _, _, .nil, r => r
  | _, _, _, _, .cons r t, q => .cons r (vals_app t q)
theorem pg_star (hc : X.calm = true) (h : PGs X es t) (hn : (assignEach es X.env).length = n) (hst : (assignEach es X.env).findIdx? (·.1) = some i) : PG X (.Tuple es k pos) (gStar X.K n i t) := by
  refine ⟨fun pins s σ H v u Q I r hw => ?_⟩
  obtain ⟨p, a, xs, e1, hq, hi, hle, hw⟩ := hw
  subst e1
  cases r
  obtain ⟨its, rv, hs⟩ := hq.src I
  have hz := hq.len I
  have hsz : its.toArray.size = xs.length := by rw [List.size_toArray, ← rv.length]
  refine star_asg hs (I.ok.hd hc) hn hst hi (by rw [hsz]; exact hle) (by rw [hsz]; exact hz) fun h2 tk hk => ?_
  have I1 : Inv X pins σ H { s with heap := h2, toks := tk } := I.kept hk
  have hf : H h2.objs.size = none := I1.hok.fresh (Nat.le_refl _)
  rw [hsz]
  have rm : Vals ((xs.drop i).take (xs.length + 1 - n)) ((its.drop i).take (xs.length + 1 - n)) := vals_take _ (vals_drop _ rv)
  have I2 : Inv X pins σ (upd H h2.objs.size (.lst ((xs.drop i).take (xs.length + 1 - n)))) { s with heap := h2.push (lstO ((its.drop i).take (xs.length + 1 - n))), toks := tk } := by
    refine I1.laid (t' := tk) (fun b u e => Heap.get?_push_of_some _ e) (Nat.le_refl _) ?_
    refine ⟨?_, (its.drop i).take (xs.length + 1 - n), 0, rm, Heap.get?_push_size _ rfl⟩
    rw [List.length_take, List.length_drop]
    omega
  refine h.run pins _ σ _ _ _ Q I2 ?_ (hw _ hf)
  exact vals_app (vals_app (vals_take _ rv) (.cons rfl .nil)) (vals_drop _ (vals_drop _ rv))
end
end Cs
/-! Cs2: the state: roots, each with what it owns. -/
namespace Cs
open PySem L2
abbrev Roots := List (D × V)
section
variable (K : PySem.W.Frag) (mg : Str → Option Value)
def Rr (Hf H : Hp) : Roots → List Addr → Prop
  | [], fp => fp = []
  | (d, v) :: rs, fp => ∃ f1 f2, fp = f1 ++ f2 ∧ Rp K mg Hf H d v f1 ∧ Rr Hf H rs f2
structure Stt (Hf H : Hp) (fp : List Addr) (rs : Roots) : Prop where
  ex : Evl.Ex Hf H
  rr : Rr K mg Hf H rs fp
  nd : fp.Nodup
  dj : ∀ a ∈ fp, Hf a = none
def St (H : Hp) (rs : Roots) : Prop := ∃ Hf fp, Stt K mg Hf H fp rs
end
section
variable {K : PySem.W.Frag} {mg : Str → Option Value} {Hf Hf' H H' : Hp} {rs rs' : Roots} {d e : D} {v w : V} {fp : List Addr}
theorem Rr.mv (e : Evl.Ex Hf Hf') : ∀ {rs : Roots} {fp : List Addr}, (∀ a ∈ fp, H' a = H a) → Rr K mg Hf H rs fp → Rr K mg Hf' H' rs fp
  | [], _, _, h => h
  | (d, v) :: rs, _, hl, ⟨f1, f2, h1, h2, h3⟩ => by
    subst h1
    exact ⟨f1, f2, rfl, Rp.mv e d (fun a ha => hl a (List.mem_append_left _ ha)) h2, Rr.mv e (fun a ha => hl a (List.mem_append_right _ ha)) h3⟩
theorem Rr.dom : ∀ {rs : Roots} {fp : List Addr}, Rr K mg Hf H rs fp → ∀ a ∈ fp, ∃ o, H a = some o
  | [], _, h, a, ha => by rw [show _ = _ from h] at ha; cases ha
  | (d, v) :: rs, _, ⟨f1, f2, h1, h2, h3⟩, a, ha => by
    rw [h1] at ha
    rcases List.mem_append.mp ha with q | q
    · exact Rp.dom d h2 a q
    · exact Rr.dom h3 a q
/-- fewer roots -/
theorem Rr.sub : ∀ {rs rs' : Roots} {fp : List Addr}, List.Sublist rs' rs → Rr K mg Hf H rs fp → ∃ fp', List.Sublist fp' fp ∧ Rr K mg Hf H rs' fp'
  | _, _, _, .slnil, h => ⟨_, .refl _, h⟩
  | _, _, _, .cons _ s, ⟨f1, f2, h1, h2, h3⟩ => by
    subst h1
    obtain ⟨g, q1, q2⟩ := Rr.sub s h3
    exact ⟨g, q1.trans (List.sublist_append_right _ _), q2⟩
  | _, _, _, .cons_cons _ s, ⟨f1, f2, h1, h2, h3⟩ => by
    subst h1
    obtain ⟨g, q1, q2⟩ := Rr.sub s h3
    exact ⟨f1 ++ g, List.Sublist.append (.refl _) q1, f1, g, rfl, h2, q2⟩
/-- in another order -/
theorem Rr.perm : ∀ {rs rs' : Roots}, List.Perm rs rs' → ∀ {fp : List Addr}, Rr K mg Hf H rs fp → ∃ fp', List.Perm fp fp' ∧ Rr K mg Hf H rs' fp' := fun {rs rs'} p => by
  induction p with
  | nil => intro fp h; exact ⟨fp, .refl _, h⟩
  | cons x _ ih =>
    rintro fp ⟨f1, f2, h1, h2, h3⟩
    subst h1
    obtain ⟨g, q1, q2⟩ := ih h3
    exact ⟨f1 ++ g, List.Perm.append_left _ q1, f1, g, rfl, h2, q2⟩
  | swap x y l =>
    rintro fp ⟨f1, f2, h1, h2, f3, f4, h3, h4, h5⟩
    subst h1; subst h3
    refine ⟨f3 ++ (f1 ++ f4), ?_, f3, _, rfl, h4, f1, f4, rfl, h2, h5⟩
    rw [← List.append_assoc, ← List.append_assoc]
    exact List.Perm.append_right _ List.perm_append_comm
  | trans _ _ ih1 ih2 =>
    intro fp h
    obtain ⟨g, q1, q2⟩ := ih1 h
    obtain ⟨g', q3, q4⟩ := ih2 q2
    exact ⟨g', q1.trans q3, q4⟩
theorem St.sub (s : List.Sublist rs' rs) : St K mg H rs → St K mg H rs' := fun ⟨Hf, fp, ex, rr, nd, dj⟩ => by
  obtain ⟨g, q1, q2⟩ := rr.sub s
  exact ⟨Hf, g, ex, q2, q1.nodup nd, fun a ha => dj a (q1.subset ha)⟩
theorem St.perm (p : List.Perm rs rs') : St K mg H rs → St K mg H rs' := fun ⟨Hf, fp, ex, rr, nd, dj⟩ => by
  obtain ⟨g, q1, q2⟩ := rr.perm p
  exact ⟨Hf, g, ex, q2, q1.nodup_iff.mp nd, fun a ha => dj a (q1.mem_iff.mpr ha)⟩
theorem St.drop (h : St K mg H ((d, v) :: rs)) : St K mg H rs := h.sub (List.sublist_cons_self _ _)
theorem St.drop2 {r q : D × V} (h : St K mg H (r :: q :: rs)) : St K mg H (r :: rs) := h.sub ((List.sublist_cons_self _ _).cons_cons _)
theorem St.swap {r q : D × V} (h : St K mg H (r :: q :: rs)) : St K mg H (q :: r :: rs) := h.perm (List.Perm.swap _ _ _)
/-- a root that owns nothing and asks nothing -/
theorem Stt.add (s : Stt K mg Hf H fp rs) (h : Rp K mg Hf H d v []) : Stt K mg Hf H fp ((d, v) :: rs) := ⟨s.ex, ⟨[], fp, rfl, h, s.rr⟩, s.nd, s.dj⟩
theorem St.con (h : ∀ Hf H, Rp K mg Hf H d v []) : St K mg H rs → St K mg H ((d, v) :: rs) := fun ⟨Hf, fp, s⟩ => ⟨Hf, fp, s.add (h Hf H)⟩
theorem St.int (i : Int) (h : St K mg H rs) : St K mg H ((.int i, .int i) :: rs) := h.con fun _ _ => ⟨rfl, rfl⟩
theorem St.bl (b : Bool) (h : St K mg H rs) : St K mg H ((.bl b, .bl b) :: rs) := h.con fun _ _ => ⟨rfl, rfl⟩
theorem St.str (x : Str) (h : St K mg H rs) : St K mg H ((.str x, .str x) :: rs) := h.con fun _ _ => ⟨rfl, rfl⟩
theorem St.non (h : St K mg H rs) : St K mg H ((.non, .non) :: rs) := h.con fun _ _ => ⟨rfl, rfl⟩
theorem St.undef (v : V) (h : St K mg H rs) : St K mg H ((.undef, v) :: rs) := h.con fun _ _ => rfl
/-- what stands at a root -/
theorem Rr.mem : ∀ {rs : Roots} {fp : List Addr}, Rr K mg Hf H rs fp → (d, v) ∈ rs → ∃ f, Rp K mg Hf H d v f ∧ List.Sublist f fp
  | [], _, _, h => nomatch h
  | (e, w) :: rs, _, ⟨f1, f2, h1, h2, h3⟩, hm => by
    subst h1
    rcases List.mem_cons.mp hm with q | q
    · cases q
      exact ⟨f1, h2, List.sublist_append_left _ _⟩
    · obtain ⟨f, r, s⟩ := h3.mem q
      exact ⟨f, r, s.trans (List.sublist_append_right _ _)⟩
/-- a frozen root once more -/
theorem St.dup (z : isFz d = true) (hm : (d, v) ∈ rs) : St K mg H rs → St K mg H ((d, v) :: rs) := fun ⟨Hf, fp, s⟩ => by
  obtain ⟨f, r, _⟩ := s.rr.mem hm
  exact ⟨Hf, fp, s.add ((Rp.fz d z r).2 H)⟩
/-- the frozen part takes up what is at f -/
noncomputable def grow (Hf H : Hp) (f : List Addr) : Hp := fun a => if a ∈ f then H a else Hf a
theorem grow_ex {f : List Addr} (dj : ∀ a ∈ f, Hf a = none) : Evl.Ex Hf (grow Hf H f) := fun a o e => by
  unfold grow
  rw [if_neg fun h => by rw [dj a h] at e; cases e]
  exact e
theorem grow_in {f : List Addr} (ex : Evl.Ex Hf H) : Evl.Ex (grow Hf H f) H := fun a o e => by
  unfold grow at e
  by_cases h : a ∈ f
  · rw [if_pos h] at e; exact e
  · rw [if_neg h] at e; exact ex a o e
theorem grow_at {f : List Addr} : ∀ a ∈ f, ∀ o, H a = some o → grow Hf H f a = some o := fun a h o e => by
  unfold grow; rw [if_pos h]; exact e
theorem grow_out {f : List Addr} {a : Addr} (h : a ∉ f) : grow Hf H f a = Hf a := by unfold grow; rw [if_neg h]
/-- the first root is frozen -/
theorem St.freeze : St K mg H ((d, v) :: rs) → St K mg H ((frz d, v) :: rs) := fun ⟨Hf, fp, ex, ⟨f1, f2, h1, h2, h3⟩, nd, dj⟩ => by
  subst h1
  have dj1 : ∀ a ∈ f1, Hf a = none := fun a ha => dj a (List.mem_append_left _ ha)
  obtain ⟨n1, n2, n3⟩ := List.nodup_append.mp nd
  refine ⟨grow Hf H f1, f2, grow_in ex, ⟨[], f2, rfl, Rp.frz (grow_ex dj1) d grow_at h2, h3.mv (grow_ex dj1) fun _ _ => rfl⟩, n2, fun a ha => ?_⟩
  rw [grow_out fun h => n3 a h a ha rfl]
  exact dj a (List.mem_append_right _ ha)
/-- a new frozen object -/
theorem Stt.newF {p : Addr} {o : HO} (s : Stt K mg Hf H fp rs) (hp : H p = none) : Stt K mg (upd Hf p o) (upd H p o) fp rs ∧ Evl.Ex Hf (upd Hf p o) ∧ Hf p = none := by
  have hf : Hf p = none := Evl.fresh_back s.ex hp
  have hx : Evl.Ex Hf (upd Hf p o) := Evl.Ex.new hf
  have hn : ∀ a ∈ fp, a ≠ p := fun a ha q => by
    obtain ⟨u, e⟩ := s.rr.dom a ha
    rw [q, hp] at e; cases e
  refine ⟨⟨fun a u e => ?_, s.rr.mv hx fun a ha => upd_ne (hn a ha), s.nd, fun a ha => ?_⟩, hx, hf⟩
  · by_cases q : a = p
    · subst q
      rw [upd_same] at e ⊢
      exact e
    · rw [upd_ne q] at e ⊢
      exact s.ex a u e
  · rw [upd_ne (hn a ha)]
    exact s.dj a ha
/-- a new object that the state does not speak of -/
theorem Stt.newU {p : Addr} {o : HO} (s : Stt K mg Hf H fp rs) (hp : H p = none) : Stt K mg Hf (upd H p o) fp rs := by
  have hn : ∀ a ∈ fp, a ≠ p := fun a ha q => by
    obtain ⟨u, e⟩ := s.rr.dom a ha
    rw [q, hp] at e; cases e
  exact ⟨s.ex.trans (Evl.Ex.new hp), s.rr.mv (Evl.Ex.refl _) fun a ha => upd_ne (hn a ha), s.nd, s.dj⟩
theorem St.newU {p : Addr} {o : HO} (hp : H p = none) : St K mg H rs → St K mg (upd H p o) rs := fun ⟨Hf, fp, s⟩ => ⟨Hf, fp, s.newU hp⟩
/-- a new tuple of frozen things -/
theorem Stt.newT {p : Addr} {ds : List D} {vs : List V} (s : Stt K mg Hf H fp rs) (hp : H p = none) (z : Fzs K mg Hf ds vs) : St K mg (upd H p (.tup vs)) ((.tup ds, .ref p) :: rs) := by
  obtain ⟨s', hx, hf⟩ := s.newF (o := .tup vs) hp
  exact ⟨_, _, s'.add ⟨rfl, p, vs, rfl, .inl (.inl upd_same), (z.mv hx).rps⟩⟩
/-- a new list of frozen things, frozen -/
theorem Stt.newLF {p : Addr} {ds : List D} {vs : List V} (s : Stt K mg Hf H fp rs) (hp : H p = none) (z : Fzs K mg Hf ds vs) : St K mg (upd H p (.lst vs)) ((.lst false ds, .ref p) :: rs) := by
  obtain ⟨s', hx, hf⟩ := s.newF (o := .lst vs) hp
  exact ⟨_, _, s'.add ⟨rfl, p, vs, rfl, upd_same, (z.mv hx).rps⟩⟩
/-- a new list of frozen things, owned -/
theorem Stt.newL {p : Addr} {ds : List D} {vs : List V} (s : Stt K mg Hf H fp rs) (hp : H p = none) (z : Fzs K mg Hf ds vs) : St K mg (upd H p (.lst vs)) ((.lst true ds, .ref p) :: rs) := by
  have s' := s.newU (o := .lst vs) hp
  have hf : Hf p = none := Evl.fresh_back s.ex hp
  have hn : p ∉ fp := fun ha => by
    obtain ⟨u, e⟩ := s.rr.dom p ha
    rw [hp] at e; cases e
  exact ⟨Hf, p :: fp, s'.ex, ⟨[p], fp, rfl, ⟨p, vs, [], rfl, rfl, upd_same, z.rps⟩, s'.rr⟩, List.nodup_cons.mpr ⟨hn, s.nd⟩, fun a ha => by
    rcases List.mem_cons.mp ha with q | q
    · rw [q]; exact hf
    · exact s.dj a q⟩
theorem Rr.split : ∀ {ds : List D} {vs : List V} {fp : List Addr}, ds.length = vs.length → Rr K mg Hf H (ds.zip vs ++ rs) fp → ∃ f1 f2, fp = f1 ++ f2 ∧ Rps K mg Hf H ds vs f1 ∧ Rr K mg Hf H rs f2
  | [], [], fp, _, h => ⟨[], fp, rfl, ⟨rfl, rfl⟩, h⟩
  | d :: ds, v :: vs, fp, e, ⟨f1, f2, h1, h2, h3⟩ => by
    obtain ⟨g1, g2, q1, q2, q3⟩ := Rr.split (ds := ds) (vs := vs) (by simpa using e) h3
    subst q1; subst h1
    exact ⟨f1 ++ g1, g2, by rw [List.append_assoc], ⟨v, vs, f1, g1, rfl, rfl, h2, q2⟩, q3⟩
  | [], _ :: _, _, e, _ => by simp at e
  | _ :: _, [], _, e, _ => by simp at e
theorem Rr.join : ∀ {ds : List D} {vs : List V} {f1 f2 : List Addr}, Rps K mg Hf H ds vs f1 → Rr K mg Hf H rs f2 → Rr K mg Hf H (ds.zip vs ++ rs) (f1 ++ f2)
  | [], _, _, _, h, r => by
    obtain ⟨rfl, rfl⟩ := h
    exact r
  | d :: ds, _, _, f2, ⟨v, vs', g1, g2, h1, h2, h3, h4⟩, r => by
    subst h1; subst h2
    exact ⟨g1, g2 ++ f2, by rw [List.append_assoc], h3, Rr.join h4 r⟩
/-- a new list of the first roots, whatever they own -/
theorem St.newL {p : Addr} {ds : List D} {vs : List V} (e : ds.length = vs.length) (hp : H p = none) : St K mg H (ds.zip vs ++ rs) → St K mg (upd H p (.lst vs)) ((.lst true ds, .ref p) :: rs) := fun ⟨Hf, fp, s⟩ => by
  have s' := s.newU (o := .lst vs) hp
  have hf : Hf p = none := Evl.fresh_back s.ex hp
  have hn : p ∉ fp := fun ha => by
    obtain ⟨u, e⟩ := s.rr.dom p ha
    rw [hp] at e; cases e
  obtain ⟨f1, f2, q1, q2, q3⟩ := s'.rr.split e
  subst q1
  exact ⟨Hf, p :: (f1 ++ f2), s'.ex, ⟨p :: f1, f2, rfl, ⟨p, vs, f1, rfl, rfl, upd_same, q2⟩, q3⟩, List.nodup_cons.mpr ⟨hn, s.nd⟩, fun a ha => by
    rcases List.mem_cons.mp ha with q | q
    · rw [q]; exact hf
    · exact s.dj a q⟩
/-- the first roots frozen, all -/
theorem St.freezes : ∀ {ds : List D} {vs : List V} {rs : Roots}, ds.length = vs.length → St K mg H (ds.zip vs ++ rs) → St K mg H ((frzs ds).zip vs ++ rs)
  | [], _, _, _, h => h
  | d :: ds, [], _, e, _ => by simp at e
  | d :: ds, v :: vs, rs, e, h => by
    have e' : ds.length = vs.length := by simpa using e
    have h1 : St K mg H (ds.zip vs ++ ((frz d, v) :: rs)) := (St.freeze h).perm (List.perm_middle.symm)
    have h2 := St.freezes e' h1
    exact h2.perm List.perm_middle
theorem St.newT {p : Addr} {ds : List D} {vs : List V} (e : ds.length = vs.length) (z : isFzs ds = true) (hp : H p = none) : St K mg H (ds.zip vs ++ rs) → St K mg (upd H p (.tup vs)) ((.tup ds, .ref p) :: rs) := fun ⟨Hf, fp, s⟩ => by
  obtain ⟨f1, f2, q1, q2, q3⟩ := s.rr.split e
  have q4 := (Rps.fz ds z q2).1
  subst q4
  have s2 : Stt K mg Hf H fp rs := ⟨s.ex, by rw [q1]; exact q3, s.nd, s.dj⟩
  exact s2.newT hp (q2.toFzs z)
/-- an owned list at the first root is stored anew: g tells what becomes of its items, given further roots -/
theorem St.lstW {ds es : List D} {ws : List V} {rs2 : Roots} (h : St K mg H ((.lst true ds, v) :: rs))
    (step : ∀ (Hf : Hp) (vs : List V) (fp : List Addr), Rr K mg Hf H (ds.zip vs ++ rs) fp → ds.length = vs.length → ∃ fp', List.Sublist fp' fp ∧ es.length = ws.length ∧ Rr K mg Hf H (es.zip ws ++ rs2) fp') :
    ∃ a, v = .ref a ∧ St K mg (upd H a (.lst ws)) ((.lst true es, v) :: rs2) := by
  obtain ⟨Hf, fp, ex, ⟨f1, f2, h1, ⟨a, vs, f, rfl, h2, h3, h4⟩, h5⟩, nd, dj⟩ := h
  subst h1; subst h2
  obtain ⟨fp', sl, el, rr⟩ := step Hf vs (f ++ f2) (Rr.join h4 h5) h4.len
  have nd' : (a :: (f ++ f2)).Nodup := nd
  obtain ⟨n1, n2⟩ := List.nodup_cons.mp nd'
  have ha : Hf a = none := dj a List.mem_cons_self
  have hl : ∀ b ∈ fp', upd H a (.lst ws) b = H b := fun b hb => upd_ne fun q => n1 (by rw [← q]; exact sl.subset hb)
  have rr' := rr.mv (H' := upd H a (.lst ws)) (Evl.Ex.refl Hf) hl
  obtain ⟨g1, g2, q1, q2, q3⟩ := rr'.split el
  subst q1
  refine ⟨a, rfl, Hf, a :: (g1 ++ g2), fun b o e => ?_, ⟨a :: g1, g2, rfl, ⟨a, ws, g1, rfl, rfl, upd_same, q2⟩, q3⟩, List.nodup_cons.mpr ⟨fun hb => n1 (sl.subset hb), sl.nodup n2⟩, fun b hb => ?_⟩
  · have hb : b ≠ a := fun q => by rw [q, ha] at e; cases e
    rw [upd_ne hb]
    exact ex b o e
  · rcases List.mem_cons.mp hb with q | q
    · rw [q]; exact ha
    · exact dj b (List.mem_cons_of_mem _ (sl.subset q))
end
end Cs
/-! Cs3: the compact language and its evaluator. -/
namespace Cs
open PySem L2
abbrev Env := List D

/-! ### values -/
mutual
/-- as the library's data -/
def toP : D → Option PyData
  | .non => some .none
  | .bl b => some (.bool b)
  | .int i => some (.int i)
  | .str x => some (.str x)
  | .tup xs => (toPs xs).map .tuple
  | .lst _ xs => (toPs xs).map .list
  | .lkd xs => (toPs xs).map .list
  | _ => none
def toPs : List D → Option (List PyData)
  | [] => some []
  | d :: ds => match toP d, toPs ds with
    | some p, some ps => some (p :: ps)
    | _, _ => none
end
def szOk (n : Nat) : Bool := decide (n ≤ sizeLine)
def mulOk (i j : Int) : Bool := decide (-(2 ^ 64) < i ∧ i < 2 ^ 64) || (decide (-(2 ^ 64) < j ∧ j < 2 ^ 64) || decide (i.natAbs.log2 + j.natAbs.log2 < 1000000))
def dvOk (j : Int) : Bool := decide (j ≠ 0) && decide (j.natAbs.log2 < 9000)
def flr (i j : Int) : Int := if 0 < j then i / j else i.fdiv j
def rst (i j : Int) : Int := if 0 < j then i % j else i.fmod j
def intsOf : List D → Option (List Int)
  | [] => some []
  | .int i :: ds => (intsOf ds).map (i :: ·)
  | _ => none
def blsOf : List D → Option (List Bool)
  | [] => some []
  | .bl b :: ds => (blsOf ds).map (b :: ·)
  | _ => none
def strsOf : List D → Option (List Str)
  | [] => some []
  | .str x :: ds => (strsOf ds).map (x :: ·)
  | _ => none
def seqOf : D → Option (List D)
  | .lst _ xs => some xs
  | .lkd xs => some xs
  | .tup xs => some xs
  | _ => none
def guardL (b : Bool) (d : D) : Option D := if b then some d else none
def binD (op : Operator) (x y : D) : Option D :=
  match op, x, y with
  | .Add, .int i, .int j => some (.int (i + j))
  | .Add, .str a, .str b => guardL (szOk (a.length + b.length)) (.str (a ++ b))
  | .Add, .tup xs, .tup ys => guardL (szOk (xs.length + ys.length) && (isFzs xs && isFzs ys)) (.tup (xs ++ ys))
  | .Add, .lst _ xs, .lst _ ys => guardL (szOk (xs.length + ys.length) && (isFzs xs && isFzs ys)) (.lst true (xs ++ ys))
  | .Sub, .int i, .int j => some (.int (i - j))
  | .Mult, .int i, .int j => guardL (mulOk i j) (.int (i * j))
  | .Mult, .tup xs, .int k => if decide (k = 1) then guardL (isFzs xs) (.tup xs) else guardL (isFzs xs && (!xs.isEmpty && (decide (2 ≤ k ∧ k ≤ 1000) && decide (xs.length ≤ 1000)))) (.tup (List.replicate k.toNat xs).flatten)
  | .Mult, .lst _ xs, .int k => guardL (isFzs xs && (decide (0 ≤ k ∧ k ≤ 1000) && decide (xs.length ≤ 1000))) (.lst true (List.replicate k.toNat xs).flatten)
  | .FloorDiv, .int i, .int j => guardL (dvOk j) (.int (flr i j))
  | .Mod, .int i, .int j => guardL (decide (j ≠ 0)) (.int (rst i j))
  | .Pow, .int i, .int j => guardL (decide (0 ≤ j ∧ j ≤ 1000000 ∧ i.natAbs < 2 ^ 64)) (.int (i ^ j.toNat))
  | .BitXor, .int i, .int j => some (.int (Builtin.bitXor i j))
  | _, _, _ => none
def eqD (x y : D) : Option Bool := match toP x, toP y with
  | some p, some q => if SeqAt.shaped p && SeqAt.shaped q then some (PyData.eqv p q) else none
  | _, _ => none
def flatD : D → Bool
  | .non => true
  | .bl _ => true
  | .int _ => true
  | .str _ => true
  | _ => false
def flatE : D → D → Bool
  | .non, .non => true
  | .bl a, .bl b => a == b
  | .bl a, .int b => (if a then 1 else 0) == b
  | .int a, .bl b => a == (if b then 1 else 0)
  | .int a, .int b => a == b
  | .str a, .str b => a == b
  | _, _ => false
def inD (x y : D) : Option Bool := match x, y with
  | .str a, .str b => some (!(Builtin.Str.occurrences b a 0 b.length 1).isEmpty)
  | x, y => match seqOf y with
    | some ds => if flatD x && ds.all flatD then some (ds.any fun e => flatE e x) else none
    | none => none
def isN : D → Option Bool
  | .undef => none
  | .non => some true
  | _ => some false
def cmpD (op : CmpOp) (x y : D) : Option Bool :=
  match op with
  | .Lt => match x, y with | .int i, .int j => some (decide (i < j)) | _, _ => none
  | .LtE => match x, y with | .int i, .int j => some (decide (i ≤ j)) | _, _ => none
  | .Gt => match x, y with | .int i, .int j => some (decide (j < i)) | _, _ => none
  | .GtE => match x, y with | .int i, .int j => some (decide (j ≤ i)) | _, _ => none
  | .Eq => eqD x y
  | .NotEq => (eqD x y).map (!·)
  | .In => inD x y
  | .NotIn => (inD x y).map (!·)
  | .Is => match y with
    | .non => isN x
    | _ => none
  | .IsNot => match y with
    | .non => (isN x).map (!·)
    | _ => none
def trD : D → Option Bool
  | .non => some false
  | .bl b => some b
  | .int i => some (i != 0)
  | .str y => if szOk y.length then some ((y.length : Int) != 0) else none
  | .lst _ xs => some !xs.isEmpty
  | .lkd xs => some !xs.isEmpty
  | .tup xs => some !xs.isEmpty
  | _ => none
def fzO (o : Option D) : Option D := match o with
  | some d => if isFz d then some d else none
  | none => none
def idxD (x y : D) : Option D :=
  match y with
  | .int i => match x with
    | .lst _ xs => fzO (atI xs i)
    | .lkd xs => fzO (atI xs i)
    | .tup xs => fzO (atI xs i)
    | .str z => if szOk z.length then (atI z.cps.toList i).map fun c => .str ⟨#[c]⟩ else none
    | _ => none
  | _ => none
def cutD (xs : List D) (lo hi : Option Int) : List D := (xs.drop (HT.sIx xs.length 0 lo)).take (HT.sIx xs.length xs.length hi - HT.sIx xs.length 0 lo)
def slcD (x : D) (lo hi : Option Int) : Option D := match x with
  | .lst _ xs => guardL (isFzs xs) (.lst true (cutD xs lo hi))
  | .lkd xs => guardL (isFzs xs) (.lst true (cutD xs lo hi))
  | .tup xs => guardL (isFzs xs) (.tup (cutD xs lo hi))
  | .str z => guardL (szOk z.length) (.str (PySem.Txt.slice z lo hi))
  | _ => none
/-- the items of a slice with a step -/
def pickL {α : Type} (xs : List α) (lo hi : Option Int) (k : Int) : List α :=
  (sliceRange (sliceBounds lo hi (some k) xs.length).1 (sliceBounds lo hi (some k) xs.length).2.1 (sliceBounds lo hi (some k) xs.length).2.2).filterMap (xs[·]?)
def slkD (k : Int) (x : D) (lo hi : Option Int) : Option D := match x with
  | .lst _ xs => guardL (isFzs xs && decide ((pickL xs lo hi k).length ≤ xs.length)) (.lst true (pickL xs lo hi k))
  | .lkd xs => guardL (isFzs xs && decide ((pickL xs lo hi k).length ≤ xs.length)) (.lst true (pickL xs lo hi k))
  | _ => none
inductive BI where | len | abs | min1 | max1 | min2 | max2 | sum | sorted | all | any | list | tuple | int | str | repr | bool
  deriving DecidableEq
def minL : List Int → Option Int
  | [] => none
  | i :: is => some (is.foldl (fun a b => if b < a then b else a) i)
def maxL : List Int → Option Int
  | [] => none
  | i :: is => some (is.foldl (fun a b => if a < b then b else a) i)
def nList : D → Option (List D)
  | .lst _ xs => some xs
  | .lkd xs => some xs
  | _ => none
def biD (b : BI) (ds : List D) : Option D :=
  match b, ds with
  | .len, [.str x] => guardL (szOk x.length) (.int x.length)
  | .len, [d] => (seqOf d).map fun xs => .int xs.length
  | .abs, [.int i] => some (.int (if i < 0 then -i else i))
  | .min2, [.int i, .int j] => some (.int (if j < i then j else i))
  | .max2, [.int i, .int j] => some (.int (if j > i then j else i))
  | .min1, [d] => match nList d with
    | some xs => match intsOf xs with
      | some ns => (minL ns).map .int
      | none => none
    | none => none
  | .max1, [d] => match nList d with
    | some xs => match intsOf xs with
      | some ns => (maxL ns).map .int
      | none => none
    | none => none
  | .sum, [.tup xs] => (intsOf xs).map fun ns => .int ns.sum
  | .sum, [d] => match nList d with
    | some xs => (intsOf xs).map fun ns => .int ns.sum
    | none => none
  | .sorted, [d] => match nList d with
    | some xs => (intsOf xs).map fun ns => .lst true ((ns.mergeSort (· ≤ ·)).map .int)
    | none => none
  | .all, [d] => match nList d with
    | some xs => (blsOf xs).map fun bs => .bl (bs.all id)
    | none => none
  | .any, [d] => match nList d with
    | some xs => (blsOf xs).map fun bs => .bl (bs.any id)
    | none => none
  | .list, [d] => match seqOf d with
    | some xs => guardL (isFzs xs) (.lst true xs)
    | none => none
  | .tuple, [.tup xs] => guardL (isFzs xs) (.tup xs)
  | .tuple, [d] => match nList d with
    | some xs => guardL (isFzs xs) (.tup xs)
    | none => none
  | .int, [.int i] => some (.int i)
  | .int, [.bl b] => some (.int (if b then 1 else 0))
  | .bool, [.int i] => some (.bl (i != 0))
  | .bool, [.bl b] => some (.bl b)
  | .str, [.int i] => guardL (decide (i.natAbs.log2 < 1920)) (.str (toString i))
  | .repr, [.int i] => guardL (decide (i.natAbs.log2 < 1920)) (.str (toString i))
  | .repr, [.non] => some (.str "None")
  | .repr, [.bl b] => some (.str (if b then "True" else "False"))
  | .str, [.str x] => some (.str x)
  | _, _ => none

/-! ### types -/
inductive TN where | bool | int | str | tuple | list
  deriving DecidableEq
def isD (T : TN) : D → Option Bool
  | .non => some false
  | .bl _ => some (decide (T = .bool) || decide (T = .int))
  | .int _ => some (decide (T = .int))
  | .str _ => some (decide (T = .str))
  | .tup _ => some (decide (T = .tuple))
  | .lst _ _ => some (decide (T = .list))
  | .lkd _ => some (decide (T = .list))
  | _ => none
/-! ### how a call's values go to the parameters: a written one, or a default -/
inductive Cn where | int (i : Int) | bl (b : Bool) | str (x : Str) | non
  deriving DecidableEq
def Cn.d : Cn → D
  | .int i => .int i
  | .bl b => .bl b
  | .str x => .str x
  | .non => .non
def Cn.v : Cn → V
  | .int i => .int i
  | .bl b => .bl b
  | .str x => .str x
  | .non => .non
abbrev Plan := List (Option Cn)
def mrg {α : Type} (c : Cn → α) : Plan → List α → Option (List α)
  | [], [] => some []
  | none :: p, a :: as => (mrg c p as).map (a :: ·)
  | some k :: p, as => (mrg c p as).map (c k :: ·)
  | _, _ => none
/-- the written ones again -/
def unm {α : Type} : Plan → List α → List α
  | none :: p, d :: ds => d :: unm p ds
  | some _ :: p, _ :: ds => unm p ds
  | _, _ => []
/-- a call's form: the entry, how many values by place, the keywords, the plan -/
structure Shp where
  f : Str
  n : Nat
  ks : List Str
  pl : Plan
/-! ### outcomes -/
/-- an error: its class, its fields -/
structure Exn where
  C : Str
  fs : List Str
  xs : List D
inductive R (α : Type) where
  | ok (a : α)
  | exc (x : Exn) (ρ : Env)
  | fail
def R.bind {α β : Type} (r : R α) (f : α → R β) : R β := match r with
  | .ok a => f a
  | .exc x ρ => .exc x ρ
  | .fail => .fail
def R.map {α β : Type} (f : α → β) (r : R α) : R β := match r with
  | .ok a => .ok (f a)
  | .exc x ρ => .exc x ρ
  | .fail => .fail
def R.of {α : Type} (o : Option α) : R α := match o with
  | some a => .ok a
  | none => .fail
/-- what lets no error out -/
def R.mute {α : Type} (r : R α) : R α := match r with
  | .ok a => .ok a
  | _ => .fail
def R.thn {α : Type} (r : R α) (P : α → Prop) (E : Exn → Env → Prop) : Prop := match r with
  | .ok a => P a
  | .exc x ρ => E x ρ
  | .fail => False
theorem R.thn_bind {α β : Type} {r : R α} {f : α → R β} {P : β → Prop} {E : Exn → Env → Prop} : (r.bind f).thn P E = r.thn (fun a => (f a).thn P E) E := by cases r <;> rfl
theorem R.thn_map {α β : Type} {r : R α} {f : α → β} {P : β → Prop} {E : Exn → Env → Prop} : (r.map f).thn P E = r.thn (fun a => P (f a)) E := by cases r <;> rfl
theorem R.thn.mono {α : Type} {r : R α} {P P' : α → Prop} {E E' : Exn → Env → Prop} (h : r.thn P E) (hp : ∀ a, P a → P' a) (he : ∀ x ρ, E x ρ → E' x ρ) : r.thn P' E' := by
  cases r with
  | ok a => exact hp a h
  | exc x ρ => exact he x ρ h
  | fail => exact h
theorem R.thn_of {α : Type} {o : Option α} {P : α → Prop} {E : Exn → Env → Prop} (h : (R.of o).thn P E) : ∃ a, o = some a ∧ P a := by
  cases o with
  | none => exact h.elim
  | some a => exact ⟨a, rfl, h⟩
theorem R.thn_mute {α : Type} {r : R α} {P : α → Prop} {E : Exn → Env → Prop} (h : r.mute.thn P E) : ∃ a, r = .ok a ∧ P a := by
  cases r with
  | ok a => exact ⟨a, rfl, h⟩
  | exc x ρ => exact h.elim
  | fail => exact h.elim

/-! ### the language -/
mutual
inductive CE
  | var (i : Nat) | mv (i : Nat) | int (i : Int) | str (x : Str) | bl (b : Bool) | non
  | con (x : Str) | glb (x : Str)
  | tup (es : CEs) | lst (es : CEs)
  | bin (op : Operator) (a b : CE) | neg (a : CE)
  | cmp (op : CmpOp) (a b : CE)
  | chain (op op' : CmpOp) (a b c : CE)
  | andv (a b : CE) | orv (a b : CE) | notv (a : CE)
  | ifx (t : CT) (a b : CE)
  | idx (a b : CE) | slc (a : CE) (lo hi : CO) | slk (a : CE) (lo hi : CO) (k : Int)
  | call (f : Str) (as : CEs)
  | fld (e : CE) (f : Str) | meth (o : CE) (m : Str) (as : CEs) | mk (c : Str) (as : CEs)
  | callK (s : Shp) (as kw : CEs) | mkK (s : Shp) (as kw : CEs)
  | bi (b : BI) (as : CEs) | isT (e : CE) (T : TN)
  | lc (own : List Nat) (g : CG) (it : CI) (t : CT) (elt : CE)
  | lc2 (own : List Nat) (g : CG) (it : CI) (t : CT) (vs : List Nat) (g1 : CG) (it1 : CI) (t1 : CT) (elt : CE)
  | ss2 (own : List Nat) (g : CG) (it : CI) (t : CT) (vs : List Nat) (g1 : CG) (it1 : CI) (t1 : CT) (elt : CE)
inductive CEs
  | nil | cons (e : CE) (es : CEs)
inductive CT
  | and (a b : CT) | or (a b : CT) | not (a : CT) | cmp (op : CmpOp) (a b : CE) | chain (op op' : CmpOp) (a b c : CE) | val (e : CE) | yes
inductive CO
  | none | some (e : CE)
inductive CG
  | name (i : Nat) | tup (gs : CGs) | star (n i : Nat) (gs : CGs)
inductive CGs
  | nil | cons (g : CG) (gs : CGs)
inductive CI
  | seq (e : CE) | rng1 (e : CE) | rng2 (a b : CE) | enm (e : CE) | zip (a b : CE) | zps (a b : CE)
end
mutual
inductive CS
  | asg (g : CG) (e : CE) | par (i j : Nat) (a b : CE) | aug (i : Nat) (op : Operator) (e : CE)
  | setI (e : CE) (s : Nat) (i : CE)
  | app (i : Nat) (e : CE) | setF (e : CE) (s : Nat) (f : Str)
  | drop (e : CE) | ret (e : CE) | retN | pass | brk | cont
  | ife (t : CT) (a b : CSs) | whl (t : CT) (b : CSs) | for (g : CG) (it : CI) (b : CSs)
inductive CSs
  | nil | cons (s : CS) (ss : CSs)
end

/-- an operand: what a slot holds, or a new value -/
inductive Ref where | slot (i : Nat) | tmp (d : D)
def slotE (ρ : Env) (i : Nat) : Option D := match ρ[i]? with
  | some .undef => none
  | some d => some d
  | none => none
def Ref.get (ρ : Env) : Ref → Option D
  | .slot i => slotE ρ i
  | .tmp d => some d
def Ref.gets (ρ : Env) : List Ref → Option (List D)
  | [] => some []
  | r :: rs => match r.get ρ, Ref.gets ρ rs with
    | some d, some ds => some (d :: ds)
    | _, _ => none
/-- a name's value: frozen from then on -/
def varE (i : Nat) (ρ : Env) : Option (D × Env) := match slotE ρ i with
  | some d => if isFz d then some (d, ρ) else if full d then some (frz d, ρ.set i (frz d)) else none
  | none => none
def refOf (e : CE) (r : R (D × Env)) (ρ : Env) : R (Ref × Env) := match e with
  | .var i => R.of ((slotE ρ i).map fun _ => (.slot i, ρ))
  | _ => r.map fun p => (.tmp p.1, p.2)
/-- an argument is lent -/
def lend : List Ref → Env → Option (List D × Env)
  | [], ρ => some ([], ρ)
  | .tmp d :: rs, ρ => (lend rs ρ).map fun p => (d :: p.1, p.2)
  | .slot i :: rs, ρ => match slotE ρ i with
    | some d => if isFz d then (lend rs ρ).map fun p => (d :: p.1, p.2) else (lend rs (ρ.set i .undef)).map fun p => (d :: p.1, p.2)
    | none => none
/-- and given back -/
def back : List Ref → List D → Env → Env
  | .slot i :: rs, d :: ds, ρ => match ρ[i]? with
    | some .undef => back rs ds (ρ.set i d)
    | _ => back rs ds ρ
  | .tmp _ :: rs, _ :: ds, ρ => back rs ds ρ
  | _, _, ρ => ρ
def wipeD (ρ : Env) : List Nat → Env
  | [] => ρ
  | i :: is => (wipeD ρ is).set i .undef
/-- the slots is as in ρ0 -/
def putBack (ρ0 ρ : Env) : List Nat → Env
  | [] => ρ
  | i :: is => (putBack ρ0 ρ is).set i (ρ0.getD i .undef)
def loopC (turn : D → Env → R (Option D × Env)) : List D → List D → Env → R (List D × Env)
  | [], acc, ρ => .ok (acc, ρ)
  | d :: ds, acc, ρ => match turn d ρ with
    | .ok (some y, ρ') => loopC turn ds (acc ++ [y]) ρ'
    | .ok (none, ρ') => loopC turn ds acc ρ'
    | _ => .fail
def loopO (turn : D → List D → Env → R (List D × Env)) : List D → List D → Env → R (List D × Env)
  | [], acc, ρ => .ok (acc, ρ)
  | d :: ds, acc, ρ => match turn d acc ρ with
    | .ok (acc', ρ') => loopO turn ds acc' ρ'
    | _ => .fail
inductive Fl where | nx (ρ : Env) | ret (d : D) (ρ : Env) | bk (ρ : Env) | ct (ρ : Env)
def loopF (turn : D → Env → R Fl) : List D → Env → R Fl
  | [], ρ => .ok (.nx ρ)
  | d :: ds, ρ => match turn d ρ with
    | .ok (.nx ρ') => loopF turn ds ρ'
    | .ok (.ct ρ') => loopF turn ds ρ'
    | .ok (.bk ρ') => .ok (.nx ρ')
    | .ok (.ret v ρ') => .ok (.ret v ρ')
    | .exc x ρ' => .exc x ρ'
    | .fail => .fail
/-- what a turn of a while comes to -/
def flW : Fl → Sum Env Fl
  | .nx ρ => .inl ρ
  | .ct ρ => .inl ρ
  | .bk ρ => .inr (.nx ρ)
  | .ret d ρ => .inr (.ret d ρ)
abbrev WStep := Env → R (Sum Env Fl)
def loopW (step : WStep) : Nat → Env → R Fl
  | 0, _ => .fail
  | n + 1, ρ => match step ρ with
    | .ok (.inl ρ') => loopW step n ρ'
    | .ok (.inr f) => .ok f
    | .exc x ρ' => .exc x ρ'
    | .fail => .fail
/-- what is known of the module: its constants, classes' fields, classes' methods -/
structure Kn where
  cons : Str → Option D
  al : List (Str × Str) := []
  ml : List (Str × Str) := []
structure Ctx where
  fns : Str → List D → R (D × List D)
  kn : Kn
  whl : WStep → Env → R Fl
/-- a method's name in the table of defs -/
def mkey (c m : Str) : Str := c ++ "." ++ m
def rangeD (lo hi : Int) : List D := (List.range (hi - lo).toNat).map fun (i : Nat) => .int (lo + i)
def smallI (i : Int) : Bool := decide (-(2 ^ 62) ≤ i ∧ i < 2 ^ 62)
def enumD (ds : List D) : List D := (List.range ds.length).map fun (i : Nat) => .tup [.int i, ds.getD i .undef]
def zipD (xs ys : List D) : List D := (List.zip xs ys).map fun p => .tup [p.1, p.2]
def asI : D → Option Int
  | .int i => some i
  | _ => none
def asB : D → Option Bool
  | .bl b => some b
  | _ => none
def opt2 {β : Type} (f : D → D → Option β) (o p : Option D) : Option β := match o, p with
  | some x, some y => f x y
  | _, _ => none
theorem opt2_some {β : Type} {f : D → D → Option β} {o p : Option D} {c : β} (h : opt2 f o p = some c) : ∃ x y, o = some x ∧ p = some y ∧ f x y = some c := by
  cases o with
  | none => cases h
  | some x =>
    cases p with
    | none => cases h
    | some y => exact ⟨x, y, rfl, rfl, h⟩
/-- x op= y: numbers and texts -/
def augD (op : Operator) (x y : D) : Option D := match op, x, y with
  | .Add, .int i, .int j => some (.int (i + j))
  | .Sub, .int i, .int j => some (.int (i - j))
  | .Mult, .int i, .int j => guardL (mulOk i j) (.int (i * j))
  | .Mod, .int i, .int j => guardL (decide (0 < j)) (.int (i % j))
  | .Add, .str a, .str b => guardL (szOk (a.length + b.length)) (.str (a ++ b))
  | _, _, _ => none

mutual
def assign : CG → D → Env → Option Env
  | .name i, d, ρ => if i < ρ.length then some (ρ.set i d) else none
  | .tup gs, d, ρ => match seqOf d with
    | some ds => if isFzs ds then assigns gs ds ρ else none
    | none => none
  | .star n i gs, d, ρ => match seqOf d with
    | some ds => if isFzs ds && (decide (i < n) && decide (n ≤ ds.length + 1)) then assigns gs (ds.take i ++ [.lst true ((ds.drop i).take (ds.length + 1 - n))] ++ (ds.drop i).drop (ds.length + 1 - n)) ρ else none
    | none => none
def assigns : CGs → List D → Env → Option Env
  | .nil, [], ρ => some ρ
  | .cons g gs, d :: ds, ρ => (assign g d ρ).bind (assigns gs ds)
  | _, _, _ => none
end
def itSeq (d : D) : Option (List D) := (seqOf d).bind fun ds => if fulls ds then some (frzs ds) else none
def itEnm (d : D) : Option (List D) := (nList d).bind fun ds => if fulls ds then some (enumD (frzs ds)) else none
def itZipA (ds es : List D) : Option (List D) := if fulls ds && fulls es then some (zipD (frzs ds) (frzs es)) else none
def itZip (d e : D) : Option (List D) := match d, e with
  | .tup ds, .tup es => itZipA ds es
  | d, e => match nList d, nList e with
    | some ds, some es => itZipA ds es
    | _, _ => none
def itZps (d e : D) : Option (List D) := match seqOf d, seqOf e with
  | some ds, some es => if decide (ds.length = es.length) then itZipA ds es else none
  | _, _ => none
def itRng (lo hi : Int) : Option (List D) := if smallI lo && smallI hi then some (rangeD lo hi) else none

/-! ### instances -/
def fldD (kn : Kn) (f : Str) : D → Option D
  | .ins _ c fs ds => if decide ((c, f) ∈ kn.al) then fzO ((fs.zip ds).lookup f) else none
  | _ => none
/-- the class, of an instance that has no field m of its own -/
def clsD (m : Str) : D → Option Str
  | .ins _ c fs _ => if decide (m ∉ fs) then some c else none
  | _ => none
def putN (f : Str) : List Str → List Str
  | [] => [f]
  | g :: fs => if g = f then g :: fs else g :: putN f fs
def putL {α : Type} (f : Str) (y : α) : List Str → List α → List α
  | g :: fs, d :: ds => if g = f then y :: ds else d :: putL f y fs ds
  | _, _ => [y]
def setFD (kn : Kn) (f : Str) (y : D) : D → Option D
  | .ins true c fs ds => if decide ((c, f) ∈ kn.al) && (decide (fs.length < 1000) && decide (fs.length = ds.length)) then some (.ins true c (putN f fs) (putL f y fs ds)) else none
  | _ => none
/-- put into a rising list -/
def insU (x : Int) : List Int → List Int
  | [] => [x]
  | y :: l => if x < y then x :: y :: l else if x = y then y :: l else y :: insU x l
/-- the numbers rising, each once -/
def srtU : List Int → List Int
  | [] => []
  | x :: l => insU x (srtU l)
def setL (ds : List D) (ρ : Env) : Option (D × Env) := match intsOf ds with
  | some ns => if ns.length < 4000 then some (.lst true ((srtU ns).map .int), ρ) else none
  | none => none
/-- an owned list -/
def ownL : Option D → Option (List D)
  | some (.lst true xs) => some xs
  | _ => none
def setD (o : Option D) (k : Int) (y : D) : Option D := (ownL o).bind fun xs => (ixN xs.length k).map fun j => .lst true (xs.set j y)
def appD (o : Option D) (y : D) : Option D := (ownL o).bind fun xs => if xs.length < sizeLine then some (.lst true (xs ++ [y])) else none
section
variable (C : Ctx)
mutual
def evE : CE → Env → R (D × Env)
  | .var i, ρ => R.of (varE i ρ)
  | .mv i, ρ => R.of ((slotE ρ i).map fun d => (d, ρ.set i .undef))
  | .int i, ρ => .ok (.int i, ρ)
  | .str x, ρ => .ok (.str x, ρ)
  | .bl b, ρ => .ok (.bl b, ρ)
  | .non, ρ => .ok (.non, ρ)
  | .con x, ρ => R.of ((C.kn.cons x).map fun d => (d, ρ))
  | .glb x, ρ => .ok (.glb x, ρ)
  | .tup es, ρ => (evEs es ρ).bind fun p => R.of (if fulls p.1 && szOk p.1.length then some (.tup (frzs p.1), p.2) else none)
  | .lst es, ρ => (evEs es ρ).bind fun p => R.of (if szOk p.1.length then some (.lst true p.1, p.2) else none)
  | .bin op a b, ρ => (refOf a (evE a ρ) ρ).bind fun p => (refOf b (evE b p.2) p.2).bind fun q => R.of ((opt2 (binD op) (p.1.get q.2) (q.1.get q.2)).map fun d => (d, q.2))
  | .neg a, ρ => (evE a ρ).bind fun p => R.of ((asI p.1).map fun i => (.int (-i), p.2))
  | .cmp op a b, ρ => (refOf a (evE a ρ) ρ).bind fun p => (refOf b (evE b p.2) p.2).bind fun q => R.of ((opt2 (cmpD op) (p.1.get q.2) (q.1.get q.2)).map fun c => (.bl c, q.2))
  | .chain op op' a b c, ρ => (evE a ρ).bind fun p => (evE b p.2).bind fun q => (R.of (cmpD op p.1 q.1)).bind fun k => if k then (evE c q.2).bind fun r => R.of ((cmpD op' q.1 r.1).map fun c => (.bl c, r.2)) else .ok (.bl false, q.2)
  | .andv a b, ρ => (evE a ρ).bind fun p => (R.of (asB p.1)).bind fun k => if k then evE b p.2 else .ok (.bl false, p.2)
  | .orv a b, ρ => (evE a ρ).bind fun p => (R.of (asB p.1)).bind fun k => if k then .ok (.bl true, p.2) else evE b p.2
  | .notv a, ρ => (evE a ρ).bind fun p => R.of ((asB p.1).map fun b => (.bl !b, p.2))
  | .ifx t a b, ρ => (evT t ρ).bind fun p => if p.1 then evE a p.2 else evE b p.2
  | .idx a b, ρ => (refOf a (evE a ρ) ρ).bind fun p => (refOf b (evE b p.2) p.2).bind fun q => R.of ((opt2 idxD (p.1.get q.2) (q.1.get q.2)).map fun d => (d, q.2))
  | .slc a lo hi, ρ => (refOf a (evE a ρ) ρ).bind fun p => (evO lo p.2).bind fun q => (evO hi q.2).bind fun r => R.of (((p.1.get r.2).bind fun x => slcD x q.1 r.1).map fun d => (d, r.2))
  | .slk a lo hi k, ρ => (refOf a (evE a ρ) ρ).bind fun p => (evO lo p.2).bind fun q => (evO hi q.2).bind fun r => R.of (((p.1.get r.2).bind fun x => slkD k x q.1 r.1).map fun d => (d, r.2))
  | .call f as, ρ => (evRs as ρ).bind fun p => (R.of (lend p.1 p.2)).bind fun q => match C.fns f q.1 with
    | .ok r => .ok (r.1, back p.1 r.2 q.2)
    | .exc x ds => .exc x (back p.1 ds q.2)
    | .fail => .fail
  | .fld e f, ρ => (refOf e (evE e ρ) ρ).bind fun p => R.of (((p.1.get p.2).bind (fldD C.kn f)).map fun d => (d, p.2))
  | .meth o m as, ρ => (refOf o (evE o ρ) ρ).mute.bind fun p => (R.of ((p.1.get p.2).bind (clsD m))).bind fun c => if decide ((c, m) ∈ C.kn.ml) then (evRs as p.2).bind fun q => (R.of (if (p.1.get q.2).bind (clsD m) = some c then lend (p.1 :: q.1) q.2 else none)).bind fun l => match C.fns (mkey c m) l.1 with
    | .ok r => .ok (r.1, back (p.1 :: q.1) r.2 l.2)
    | .exc x ds => .exc x (back (p.1 :: q.1) ds l.2)
    | .fail => .fail else .fail
  | .callK s as kw, ρ => (evRs as ρ).bind fun p => (evRs kw p.2).bind fun o => (R.of (if p.1.length = s.n ∧ o.1.length = s.ks.length then lend (p.1 ++ o.1) o.2 else none)).bind fun q => (R.of (mrg Cn.d s.pl q.1)).bind fun ds => match C.fns s.f ds with
    | .ok r => .ok (r.1, back (p.1 ++ o.1) (unm s.pl r.2) q.2)
    | .exc x es => .exc x (back (p.1 ++ o.1) (unm s.pl es) q.2)
    | .fail => .fail
  | .mkK s as kw, ρ => (evRs as ρ).bind fun p => (evRs kw p.2).bind fun o => (R.of (if p.1.length = s.n ∧ o.1.length = s.ks.length then lend (p.1 ++ o.1) o.2 else none)).bind fun q => (R.of (mrg Cn.d s.pl q.1)).bind fun ds => match C.fns (mkey s.f "__init__") (.ins true s.f [] [] :: ds) with
    | .ok (.non, d :: es) => .ok (d, back (p.1 ++ o.1) (unm s.pl es) q.2)
    | .exc x (_ :: es) => .exc x (back (p.1 ++ o.1) (unm s.pl es) q.2)
    | _ => .fail
  | .mk c as, ρ => (evRs as ρ).bind fun p => (R.of (lend p.1 p.2)).bind fun q => match C.fns (mkey c "__init__") (.ins true c [] [] :: q.1) with
    | .ok (.non, d :: ds) => .ok (d, back p.1 ds q.2)
    | .exc x (_ :: ds) => .exc x (back p.1 ds q.2)
    | _ => .fail
  | .isT e T, ρ => (refOf e (evE e ρ) ρ).bind fun p => R.of (((p.1.get p.2).bind (isD T)).map fun b => (.bl b, p.2))
  | .bi b as, ρ => (evRs as ρ).bind fun p => R.of (((Ref.gets p.2 p.1).bind (biD b)).map fun d => (d, p.2))
  | .lc own g it t elt, ρ => (evI it ρ).bind fun p => (loopC (fun d ρ1 => (R.of (assign g d ρ1)).bind fun ρ2 => (evT t ρ2).bind fun c => if c.1 then (evE elt c.2).map fun y => (some y.1, wipeD y.2 own) else .ok (none, wipeD c.2 own)) p.1 [] (wipeD p.2 own)).bind fun q =>
      R.of (if szOk q.1.length then some (.lst true q.1, putBack p.2 q.2 own) else none)
  | .lc2 own g it t vs g1 it1 t1 elt, ρ => (evI it ρ).bind fun p => (loopO (fun d acc ρ1 => (R.of (assign g d ρ1)).bind fun ρ2 => (evT t ρ2).bind fun c => if c.1 then (evI it1 c.2).bind fun q =>
      (loopC (fun d ρ3 => (R.of (assign g1 d ρ3)).bind fun ρ4 => (evT t1 ρ4).bind fun c1 => if c1.1 then (evE elt c1.2).map fun y => (some y.1, wipeD y.2 vs) else .ok (none, wipeD c1.2 vs)) q.1 acc (wipeD q.2 vs)).map fun r => (r.1, wipeD r.2 own) else .ok (acc, wipeD c.2 own)) p.1 [] (wipeD p.2 own)).bind fun q =>
      R.of (if szOk q.1.length then some (.lst true q.1, putBack p.2 q.2 own) else none)
  | .ss2 own g it t vs g1 it1 t1 elt, ρ => (evI it ρ).bind fun p => (loopO (fun d acc ρ1 => (R.of (assign g d ρ1)).bind fun ρ2 => (evT t ρ2).bind fun c => if c.1 then (evI it1 c.2).bind fun q =>
      (loopC (fun d ρ3 => (R.of (assign g1 d ρ3)).bind fun ρ4 => (evT t1 ρ4).bind fun c1 => if c1.1 then (evE elt c1.2).map fun y => (some y.1, wipeD y.2 vs) else .ok (none, wipeD c1.2 vs)) q.1 acc (wipeD q.2 vs)).map fun r => (r.1, wipeD r.2 own) else .ok (acc, wipeD c.2 own)) p.1 [] (wipeD p.2 own)).bind fun q =>
      R.of (setL q.1 (putBack p.2 q.2 own))
def evEs : CEs → Env → R (List D × Env)
  | .nil, ρ => .ok ([], ρ)
  | .cons e es, ρ => (evE e ρ).bind fun p => (evEs es p.2).map fun q => (p.1 :: q.1, q.2)
def evRs : CEs → Env → R (List Ref × Env)
  | .nil, ρ => .ok ([], ρ)
  | .cons e es, ρ => (refOf e (evE e ρ) ρ).bind fun p => (evRs es p.2).map fun q => (p.1 :: q.1, q.2)
def evT : CT → Env → R (Bool × Env)
  | .and a b, ρ => (evT a ρ).bind fun p => if p.1 then evT b p.2 else .ok (false, p.2)
  | .or a b, ρ => (evT a ρ).bind fun p => if p.1 then .ok (true, p.2) else evT b p.2
  | .not a, ρ => (evT a ρ).map fun p => (!p.1, p.2)
  | .cmp op a b, ρ => (refOf a (evE a ρ) ρ).bind fun p => (refOf b (evE b p.2) p.2).bind fun q => R.of ((opt2 (cmpD op) (p.1.get q.2) (q.1.get q.2)).map fun c => (c, q.2))
  | .chain op op' a b c, ρ => (evE a ρ).bind fun p => (evE b p.2).bind fun q => (R.of (cmpD op p.1 q.1)).bind fun k => if k then (evE c q.2).bind fun r => R.of ((cmpD op' q.1 r.1).map fun c => (c, r.2)) else .ok (false, q.2)
  | .val e, ρ => (refOf e (evE e ρ) ρ).bind fun p => R.of (((p.1.get p.2).bind trD).map fun c => (c, p.2))
  | .yes, ρ => .ok (true, ρ)
def evO : CO → Env → R (Option Int × Env)
  | .none, ρ => .ok (none, ρ)
  | .some e, ρ => (evE e ρ).bind fun p => R.of ((asI p.1).map fun i => (some i, p.2))
def evI : CI → Env → R (List D × Env)
  | .seq e, ρ => (evE e ρ).bind fun p => R.of ((itSeq p.1).map fun ds => (ds, p.2))
  | .rng1 e, ρ => (evE e ρ).bind fun p => R.of (((asI p.1).bind fun i => itRng 0 i).map fun ds => (ds, p.2))
  | .rng2 a b, ρ => (evE a ρ).bind fun p => (evE b p.2).bind fun q => R.of (((asI p.1).bind fun i => (asI q.1).bind fun j => itRng i j).map fun ds => (ds, q.2))
  | .enm e, ρ => (evE e ρ).bind fun p => R.of ((itEnm p.1).map fun ds => (ds, p.2))
  | .zps a b, ρ => (evE a ρ).bind fun p => (evE b p.2).bind fun q => R.of ((itZps p.1 q.1).map fun ds => (ds, q.2))
  | .zip a b, ρ => (evE a ρ).bind fun p => (evE b p.2).bind fun q => R.of ((itZip p.1 q.1).map fun ds => (ds, q.2))
end
mutual
def evS : CS → Env → R Fl
  | .asg g e, ρ => (evE C e ρ).bind fun p => R.of ((assign g p.1 p.2).map .nx)
  | .par i j a b, ρ => (evE C a ρ).bind fun p => (evE C b p.2).bind fun q => R.of (if i < q.2.length && j < q.2.length then some (.nx ((q.2.set i p.1).set j q.1)) else none)
  | .aug i op e, ρ => (R.of (slotE ρ i)).bind fun _ => (evE C e ρ).bind fun p => R.of ((opt2 (augD op) (slotE p.2 i) (some p.1)).map fun d => .nx (p.2.set i d))
  | .setI e s i, ρ => (evE C e ρ).bind fun p => (R.of (slotE p.2 s)).bind fun _ => (evE C i p.2).bind fun q => R.of (((asI q.1).bind fun k => setD (slotE q.2 s) k p.1).map fun d => .nx (q.2.set s d))
  | .app i e, ρ => (R.of (ownL (slotE ρ i))).bind fun _ => (evE C e ρ).bind fun p => R.of ((appD (slotE p.2 i) p.1).map fun d => .nx (p.2.set i d))
  | .setF e s f, ρ => (evE C e ρ).bind fun p => (R.of (slotE p.2 s)).bind fun _ => R.of (((slotE p.2 s).bind (setFD C.kn f p.1)).map fun d => .nx (p.2.set s d))
  | .drop e, ρ => (evE C e ρ).map fun p => .nx p.2
  | .ret e, ρ => (evE C e ρ).map fun p => .ret p.1 p.2
  | .retN, ρ => .ok (.ret .non ρ)
  | .pass, ρ => .ok (.nx ρ)
  | .brk, ρ => .ok (.bk ρ)
  | .cont, ρ => .ok (.ct ρ)
  | .ife t a b, ρ => (evT C t ρ).bind fun p => if p.1 then evSs a p.2 else evSs b p.2
  | .whl t b, ρ => C.whl (fun ρ1 => (evT C t ρ1).bind fun p => if p.1 then (evSs b p.2).map flW else .ok (.inr (.nx p.2))) ρ
  | .for g it b, ρ => (evI C it ρ).bind fun p => loopF (fun d ρ1 => (R.of (assign g d ρ1)).bind fun ρ2 => evSs b ρ2) p.1 p.2
def evSs : CSs → Env → R Fl
  | .nil, ρ => .ok (.nx ρ)
  | .cons s ss, ρ => (evS s ρ).bind fun f => match f with
    | .nx ρ' => evSs ss ρ'
    | r => .ok r
end
end
end Cs
/-! Cs4: slots and what they hold. -/
namespace Cs
open PySem L2
def rts : Env → L2.St → Roots
  | d :: ρ, o :: σ => (d, o.getD .non) :: rts ρ σ
  | _, _ => []
/-- a slot is unknown, or it holds something -/
def Wd : Env → L2.St → Prop
  | [], [] => True
  | d :: ρ, o :: σ => (d = .undef ∨ ∃ v, o = some v) ∧ Wd ρ σ
  | _, _ => False
theorem Wd.len : ∀ {ρ : Env} {σ : L2.St}, Wd ρ σ → ρ.length = σ.length
  | [], [], _ => rfl
  | d :: ρ, o :: σ, h => by rw [List.length_cons, List.length_cons, Wd.len h.2]
  | [], _ :: _, h => h.elim
  | _ :: _, [], h => h.elim
theorem Wd.get : ∀ {ρ : Env} {σ : L2.St} {i : Nat} {d : D}, Wd ρ σ → ρ[i]? = some d → ∃ o, σ[i]? = some o ∧ (d = .undef ∨ ∃ v, o = some v)
  | [], [], _, _, _, e => nomatch e
  | d :: ρ, o :: σ, 0, _, h, e => by cases e; exact ⟨o, rfl, h.1⟩
  | d :: ρ, o :: σ, i + 1, d', h, e => by
    obtain ⟨o', q, r⟩ := Wd.get (i := i) (d := d') h.2 (by simpa using e)
    exact ⟨o', by simpa using q, r⟩
  | [], _ :: _, _, _, h, _ => h.elim
  | _ :: _, [], _, _, h, _ => h.elim
theorem Wd.set : ∀ {ρ : Env} {σ : L2.St} (i : Nat) (d : D) (v : V), Wd ρ σ → Wd (ρ.set i d) (σ.set i (some v))
  | [], [], _, _, _, h => h
  | d :: ρ, o :: σ, 0, _, v, h => ⟨.inr ⟨v, rfl⟩, h.2⟩
  | d :: ρ, o :: σ, i + 1, d', v, h => ⟨h.1, Wd.set i d' v h.2⟩
  | [], _ :: _, _, _, _, h => h.elim
  | _ :: _, [], _, _, _, h => h.elim
/-- the slot's entry alone -/
theorem Wd.setD : ∀ {ρ : Env} {σ : L2.St} {i : Nat} (d : D) {v : V}, Wd ρ σ → σ[i]? = some (some v) → Wd (ρ.set i d) σ
  | [], [], _, _, _, h, _ => h
  | d :: ρ, o :: σ, 0, _, v, h, e => by
    cases e
    exact ⟨.inr ⟨v, rfl⟩, h.2⟩
  | d :: ρ, o :: σ, i + 1, d', v, h, e => ⟨h.1, Wd.setD d' h.2 (by simpa using e)⟩
  | [], _ :: _, _, _, _, h, _ => h.elim
  | _ :: _, [], _, _, _, h, _ => h.elim
theorem Wd.setU : ∀ {ρ : Env} {σ : L2.St} (i : Nat), Wd ρ σ → Wd (ρ.set i .undef) σ
  | [], [], _, h => h
  | d :: ρ, o :: σ, 0, h => ⟨.inl rfl, h.2⟩
  | d :: ρ, o :: σ, i + 1, h => ⟨h.1, Wd.setU i h.2⟩
  | [], _ :: _, _, h => h.elim
  | _ :: _, [], _, h => h.elim
theorem Wd.setUN : ∀ {ρ : Env} {σ : L2.St} (i : Nat) (o : Option V), Wd ρ σ → Wd (ρ.set i .undef) (σ.set i o)
  | [], [], _, _, h => h
  | d :: ρ, o :: σ, 0, _, h => ⟨.inl rfl, h.2⟩
  | d :: ρ, o :: σ, i + 1, o', h => ⟨h.1, Wd.setUN i o' h.2⟩
  | [], _ :: _, _, _, h => h.elim
  | _ :: _, [], _, _, h => h.elim
/-- a slot apart from the others -/
theorem rts_at : ∀ {ρ : Env} {σ : L2.St} {i : Nat} {d : D} {o : Option V}, ρ[i]? = some d → σ[i]? = some o →
    ∃ R : Roots, (rts ρ σ).Perm ((d, o.getD .non) :: R) ∧ (∀ d' o', (rts (ρ.set i d') (σ.set i o')).Perm ((d', o'.getD .non) :: R)) ∧ ∀ d', (rts (ρ.set i d') σ).Perm ((d', o.getD .non) :: R)
  | [], _, _, _, _, e, _ => nomatch e
  | _ :: _, [], _, _, _, _, e => nomatch e
  | d :: ρ, o :: σ, 0, _, _, e, e' => by
    cases e; cases e'
    exact ⟨rts ρ σ, .refl _, fun _ _ => .refl _, fun _ => .refl _⟩
  | d :: ρ, o :: σ, i + 1, d', o', e, e' => by
    obtain ⟨R, h1, h2, h3⟩ := rts_at (ρ := ρ) (σ := σ) (i := i) (d := d') (o := o') (by simpa using e) (by simpa using e')
    refine ⟨(d, o.getD .non) :: R, ?_, fun d2 o2 => ?_, fun d2 => ?_⟩
    · exact (List.Perm.cons _ h1).trans (List.Perm.swap _ _ _)
    · exact (List.Perm.cons _ (h2 d2 o2)).trans (List.Perm.swap _ _ _)
    · exact (List.Perm.cons _ (h3 d2)).trans (List.Perm.swap _ _ _)
theorem slotE_get {ρ : Env} {i : Nat} {d : D} (h : slotE ρ i = some d) : ρ[i]? = some d ∧ d ≠ .undef := by
  unfold slotE at h
  split at h
  · cases h
  · rename_i q hq
    cases h
    exact ⟨hq, fun z => by subst z; simp_all⟩
  · cases h

section
variable (K : PySem.W.Frag) (mg : Str → Option Value)
structure SS (H : Hp) (F : Roots) (ρ : Env) (σ : L2.St) : Prop where
  wd : Wd ρ σ
  st : St K mg H (F ++ rts ρ σ)
end
section
variable {K : PySem.W.Frag} {mg : Str → Option Value} {H H' : Hp} {F F' : Roots} {ρ ρ' : Env} {σ σ' : L2.St} {d d' : D} {v w : V} {i : Nat}
theorem SS.len (s : SS K mg H F ρ σ) : ρ.length = σ.length := s.wd.len
theorem SS.sub (s : SS K mg H F ρ σ) (h : List.Sublist F' F) : SS K mg H F' ρ σ := ⟨s.wd, s.st.sub (h.append (.refl _))⟩
theorem SS.permF (s : SS K mg H F ρ σ) (h : List.Perm F F') : SS K mg H F' ρ σ := ⟨s.wd, s.st.perm (h.append_right _)⟩
theorem SS.drop (s : SS K mg H ((d, v) :: F) ρ σ) : SS K mg H F ρ σ := s.sub (List.sublist_cons_self _ _)
theorem SS.map (s : SS K mg H F ρ σ) (f : St K mg H (F ++ rts ρ σ) → St K mg H' (F' ++ rts ρ σ)) : SS K mg H' F' ρ σ := ⟨s.wd, f s.st⟩
theorem SS.int (i : Int) (s : SS K mg H F ρ σ) : SS K mg H ((.int i, .int i) :: F) ρ σ := s.map (St.int i)
theorem SS.bl (b : Bool) (s : SS K mg H F ρ σ) : SS K mg H ((.bl b, .bl b) :: F) ρ σ := s.map (St.bl b)
theorem SS.str (x : Str) (s : SS K mg H F ρ σ) : SS K mg H ((.str x, .str x) :: F) ρ σ := s.map (St.str x)
theorem SS.non (s : SS K mg H F ρ σ) : SS K mg H ((.non, .non) :: F) ρ σ := s.map St.non
/-- what a slot holds -/
theorem SS.slot (s : SS K mg H F ρ σ) (h : slotE ρ i = some d) : ∃ v, σ[i]? = some (some v) ∧ (d, v) ∈ rts ρ σ := by
  obtain ⟨h1, h2⟩ := slotE_get h
  obtain ⟨o, q1, q2⟩ := s.wd.get h1
  rcases q2 with q2 | ⟨v, rfl⟩
  · exact absurd q2 h2
  · obtain ⟨R, p, _⟩ := rts_at h1 q1
    exact ⟨v, q1, p.mem_iff.mpr List.mem_cons_self⟩
/-- a frozen one, read -/
theorem SS.var (s : SS K mg H F ρ σ) (h : slotE ρ i = some d) (z : isFz d = true) : ∃ v, σ[i]? = some (some v) ∧ SS K mg H ((d, v) :: F) ρ σ := by
  obtain ⟨v, h1, h2⟩ := s.slot h
  exact ⟨v, h1, s.map fun t => t.dup z (List.mem_append_right _ h2)⟩
/-- a slot's root goes to the front, the slot is unknown -/
theorem SS.take (s : SS K mg H F ρ σ) (h : slotE ρ i = some d) : ∃ v, σ[i]? = some (some v) ∧ SS K mg H ((d, v) :: F) (ρ.set i .undef) σ := by
  obtain ⟨v, h1, h2⟩ := s.slot h
  obtain ⟨R, p1, _, p3⟩ := rts_at (slotE_get h).1 h1
  refine ⟨v, h1, s.wd.setU i, ?_⟩
  have t : St K mg H ((d, v) :: (F ++ R)) := s.st.perm ((p1.append_left F).trans List.perm_middle)
  have t2 : St K mg H ((D.undef, v) :: (d, v) :: (F ++ R)) := t.undef v
  refine t2.perm ?_
  have p4 : (rts (ρ.set i .undef) σ).Perm ((D.undef, v) :: R) := p3 .undef
  have p5 : (F ++ rts (ρ.set i .undef) σ).Perm ((D.undef, v) :: (F ++ R)) := (p4.append_left F).trans List.perm_middle
  exact (List.Perm.swap _ _ _).trans (List.Perm.cons _ p5.symm)
/-- and comes back -/
theorem SS.give (s : SS K mg H ((d, v) :: F) ρ σ) (h : σ[i]? = some (some v)) : SS K mg H F (ρ.set i d) σ := by
  by_cases hi : i < ρ.length
  · obtain ⟨R, p1, _, p3⟩ := rts_at (List.getElem?_eq_getElem hi) h
    refine ⟨s.wd.setD d h, ?_⟩
    have t : St K mg H ((d, v) :: (F ++ R)) := s.st.sub ((List.sublist_append_right [(d, v)] _).trans (.refl _)) |>.perm (.refl _) |> fun _ =>
      (s.st.perm (List.Perm.cons _ ((p1.append_left F).trans List.perm_middle))).drop2
    exact t.perm (((p3 d).append_left F).trans List.perm_middle).symm
  · exact absurd (List.getElem?_eq_some_iff.mp h).1 (by rw [← s.len]; exact hi)
/-- a new value in a slot -/
theorem SS.set (s : SS K mg H ((d, v) :: F) ρ σ) (hi : i < ρ.length) : SS K mg H F (ρ.set i d) (σ.set i (some v)) := by
  have h' : i < σ.length := by rw [← s.len]; exact hi
  obtain ⟨R, p1, p2, _⟩ := rts_at (List.getElem?_eq_getElem hi) (List.getElem?_eq_getElem h')
  refine ⟨s.wd.set i d v, ?_⟩
  have t : St K mg H ((d, v) :: (F ++ R)) := (s.st.perm (List.Perm.cons _ ((p1.append_left F).trans List.perm_middle))).drop2
  exact t.perm (((p2 d (some v)).append_left F).trans List.perm_middle).symm
/-- a slot is forgotten -/
theorem SS.unset (s : SS K mg H F ρ σ) (i : Nat) (o : Option V) : SS K mg H F (ρ.set i .undef) (σ.set i o) := by
  by_cases hi : i < ρ.length
  · have h' : i < σ.length := by rw [← s.len]; exact hi
    obtain ⟨R, p1, p2, _⟩ := rts_at (List.getElem?_eq_getElem hi) (List.getElem?_eq_getElem h')
    refine ⟨s.wd.setUN i o, ?_⟩
    have t : St K mg H (F ++ R) := (s.st.perm ((p1.append_left F).trans List.perm_middle)).drop
    exact (t.undef (o.getD .non)).perm (((p2 .undef o).append_left F).trans List.perm_middle).symm
  · have hs : ¬ i < σ.length := by rw [← s.len]; exact hi
    rw [List.set_eq_of_length_le (by omega), List.set_eq_of_length_le (by omega)]
    exact s
/-- read and frozen -/
theorem SS.varF (s : SS K mg H F ρ σ) (h : slotE ρ i = some d) (z : full d = true) : ∃ v, σ[i]? = some (some v) ∧ SS K mg H ((frz d, v) :: F) (ρ.set i (frz d)) σ := by
  obtain ⟨v, h1, t⟩ := s.take h
  have t2 : SS K mg H ((frz d, v) :: F) (ρ.set i .undef) σ := t.map St.freeze
  have t3 : SS K mg H ((frz d, v) :: (frz d, v) :: F) (ρ.set i .undef) σ := t2.map fun q => q.dup (isFz_frz d z) List.mem_cons_self
  have t4 := t3.give h1
  rw [List.set_set] at t4
  exact ⟨v, h1, t4⟩
theorem SS.varE (s : SS K mg H F ρ σ) (h : varE i ρ = some (d, ρ')) : ∃ v, σ[i]? = some (some v) ∧ SS K mg H ((d, v) :: F) ρ' σ := by
  unfold Cs.varE at h
  split at h
  · rename_i e he
    split at h
    · rename_i z
      cases h
      exact s.var he z
    · split at h
      · rename_i z
        cases h
        exact s.varF he z
      · cases h
  · cases h
end
end Cs
/-! Cs5: what the evaluator says of an expression holds of the program's. -/
namespace Cs
open PySem L2
/-- an error as it lies -/
def XAt (mg : Str → Option Value) (x : Exn) (cls : Value) (d : Option Addr) (H : Hp) (vs : List V) : Prop :=
  (∃ a, mg x.C = some (.ref a) ∧ cls = .ref a) ∧ x.xs.length = vs.length ∧ x.fs.length = vs.length ∧ (match d with
    | none => x.fs = []
    | some a => H a = some (.xd (x.fs.zip vs)))
/-- a def by what the evaluator says of it -/
def spF (K : PySem.W.Frag) (mg : Str → Option Value) (f : List D → R (D × List D)) : Sp := fun vs H Q E => ∃ ds rs, ds.length = vs.length ∧ St K mg H (ds.zip vs ++ rs) ∧
  (f ds).thn (fun r => ∀ v H', St K mg H' ((r.1, v) :: (r.2.zip vs ++ rs)) → Q v H') (fun x es => ∀ cls d H' ws, XAt mg x cls d H' ws → St K mg H' (x.xs.zip ws ++ (es.zip vs ++ rs)) → E cls d H')
/-- the names: of slots, of defs, of built-ins -/
structure Gam where
  N : List Str
  fl : List Str
  bl : List Str
  kl : List Str := []
  sh : List Shp := []
  ih : List Shp := []
def FnAt (X : Cx) (f : Str) (g : List D → R (D × List D)) : Prop := ∃ (j : Nat) (a : Addr) (fd : FuncData) (ps : List Str), X.mg f = some (.ref a) ∧ PySem.W.keepIn X.K (.ref a) = true ∧ Binds X.K fd ps [] ∧ Room j X.A ∧
  FnOk X.prog X.w X.K X.mg X.base (L2.CX X.prog X.w) j a fd ps (spF X.K X.mg g)
structure Gd (Γ : Gam) (X : Cx) (C : Ctx) (W : WX) : Prop where
  N : X.N = Γ.N
  nd : X.N.Nodup
  kind : X.env.scope.kind = .function
  calm : X.calm = true
  tk : Takes X W
  pass : PassesOwn (model X.prog X.w) X.A X.env X.xe
  units : X.A.units + 64 < cLine
  fns : ∀ f ∈ Γ.fl, FnAt X f (C.fns f)
  blt : ∀ x ∈ Γ.bl, X.mg x = none
  fld : ∀ c f, (c, f) ∈ C.kn.al → ∃ CA, X.mg c = some (.ref CA) ∧ Cls X.K CA ∧ NoAttr X.K CA f
  met : ∀ c m, (c, m) ∈ C.kn.ml → ∃ CA, X.mg c = some (.ref CA) ∧ Cls X.K CA ∧ ∃ (j : Nat) (a : Addr) (fd : FuncData) (ps : List Str), Meth X.K CA m a ∧ Binds X.K fd ps [] ∧ Room j X.A ∧ FnOk X.prog X.w X.K X.mg X.base (L2.CX X.prog X.w) j a fd ps (spF X.K X.mg (C.fns (mkey c m)))
  mak : ∀ c ∈ Γ.kl, ∃ CA, X.mg c = some (.ref CA) ∧ ∃ (j : Nat) (a : Addr) (fd : FuncData) (ps : List Str), Mk X.K CA a ∧ Binds X.K fd ps [] ∧ Room (j + 1) X.A ∧ FnOk X.prog X.w X.K X.mg X.base (L2.CX X.prog X.w) j a fd ps (spF X.K X.mg (C.fns (mkey c "__init__")))
  shp : ∀ s ∈ Γ.sh, ∃ (j : Nat) (a : Addr) (fd : FuncData) (ps : List Str) (g : List Value → List Value → List Value), X.mg s.f = some (.ref a) ∧ PySem.W.keepIn X.K (.ref a) = true ∧ KBn X.K fd ps s.n s.ks g (fun vs zs => (mrg Cn.v s.pl (vs ++ zs)).getD []) ∧ Room j X.A ∧ FnOk X.prog X.w X.K X.mg X.base (L2.CX X.prog X.w) j a fd ps (spF X.K X.mg (C.fns s.f))
  ihp : ∀ s ∈ Γ.ih, ∃ CA, X.mg s.f = some (.ref CA) ∧ ∃ (j : Nat) (a : Addr) (fd : FuncData) (ps : List Str) (g : List Value → List Value → List Value), Mk X.K CA a ∧ KBn X.K fd ps (s.n + 1) s.ks g (fun vs zs => (mrg Cn.v (none :: s.pl) (vs ++ zs)).getD []) ∧ Room (j + 1) X.A ∧
    FnOk X.prog X.w X.K X.mg X.base (L2.CX X.prog X.w) j a fd ps (spF X.K X.mg (C.fns (mkey s.f "__init__")))
  con : ∀ x d, C.kn.cons x = some d → ∃ u v, X.mg x = some u ∧ RelV v u ∧ ∀ Hf H, Rp X.K X.mg Hf H d v []
  whl : ∀ (step : WStep) ρ, ∃ n, C.whl step ρ = loopW step n ρ
def ExcP (X : Cx) (W : WX) (F : Roots) (σ : L2.St) : Exn → Env → Prop := fun x ρ' => ∀ cls d H' vs, XAt X.mg x cls d H' vs → SS X.K X.mg H' (x.xs.zip vs ++ F) ρ' σ → W cls d σ H'
theorem ExcP.sub {X : Cx} {W : WX} {F F' : Roots} {σ : L2.St} {x : Exn} {ρ : Env} (h : ExcP X W F σ x ρ) (s : List.Sublist F F') : ExcP X W F' σ x ρ := fun cls d H' vs a t => h cls d H' vs a (t.sub ((List.Sublist.refl _).append s))
section
variable (X : Cx) (C : Ctx) (W : WX)
def tEv (c : CE) : TE := fun σ H Q => ∃ F ρ, SS X.K X.mg H F ρ σ ∧ (evE C c ρ).thn (fun p => ∀ v H', SS X.K X.mg H' ((p.1, v) :: F) p.2 σ → Q v H') (ExcP X W F σ)
def tTs (c : CT) : TT := fun σ H Q => ∃ F ρ, SS X.K X.mg H F ρ σ ∧ (evT C c ρ).thn (fun p => ∀ H', SS X.K X.mg H' F p.2 σ → Q p.1 H') (ExcP X W F σ)
def RfOk (σ : L2.St) (r : Ref) (v : V) (T : Roots) : Prop := match r with
  | .slot i => σ[i]? = some (some v) ∧ T = []
  | .tmp d => T = [(d, v)]
def tRf (c : CE) : TE := fun σ H Q => ∃ F ρ, SS X.K X.mg H F ρ σ ∧ (refOf c (evE C c ρ) ρ).thn (fun p => ∀ v T H', RfOk σ p.1 v T → SS X.K X.mg H' (T ++ F) p.2 σ → Q v H') (ExcP X W F σ)
def tEs (c : CEs) : TA := fun σ H Q => ∃ F ρ, SS X.K X.mg H F ρ σ ∧ (evEs C c ρ).thn (fun p => ∀ vs H', p.1.length = vs.length → SS X.K X.mg H' (p.1.zip vs ++ F) p.2 σ → Q vs H') (ExcP X W F σ)
inductive RvT (σ : L2.St) : List Ref → List V → Roots → Prop
  | nil : RvT σ [] [] []
  | slot {i : Nat} {v : V} {rs : List Ref} {vs : List V} {T : Roots} : σ[i]? = some (some v) → RvT σ rs vs T → RvT σ (.slot i :: rs) (v :: vs) T
  | tmp {d : D} {v : V} {rs : List Ref} {vs : List V} {T : Roots} : RvT σ rs vs T → RvT σ (.tmp d :: rs) (v :: vs) ((d, v) :: T)
def tRs (c : CEs) : TA := fun σ H Q => ∃ F ρ, SS X.K X.mg H F ρ σ ∧ (evRs C c ρ).thn (fun p => ∀ vs T H', RvT σ p.1 vs T → SS X.K X.mg H' (T ++ F) p.2 σ → Q vs H') (ExcP X W F σ)
def tOo (c : CO) : TO := fun σ H Q => ∃ F ρ, SS X.K X.mg H F ρ σ ∧ (evO C c ρ).thn (fun p => ∀ H', SS X.K X.mg H' F p.2 σ → Q p.1 H') (ExcP X W F σ)
end

section
variable {X : Cx} {C : Ctx} {W : WX} {Γ : Gam} {e a b : Expr} {c c1 c2 : CE} {pos : Pos} {σ : L2.St} {H : Hp} {F : Roots} {ρ ρ' : Env} {d : D} {v : V}
theorem pe_imp {t t' : TE} (h : PE X e t) (i : ∀ σ H Q, t' σ H Q → t σ H Q) : PE X e t' := ⟨fun pins s σ H Q I q => h.run pins s σ H Q I (i σ H Q q)⟩
theorem pt_imp {t t' : TT} (h : PT X e t) (i : ∀ σ H Q, t' σ H Q → t σ H Q) : PT X e t' := ⟨fun pins s σ H Q I q => h.run pins s σ H Q I (i σ H Q q)⟩
theorem pa_imp {es : List Expr} {t t' : TA} (h : PA X es t) (i : ∀ σ H Q, t' σ H Q → t σ H Q) : PA X es t' := ⟨fun pos pins s σ H Q I q => h.run pos pins s σ H Q I (i σ H Q q)⟩
/-- what a root holds -/
theorem Stt.at {K : PySem.W.Frag} {mg : Str → Option Value} {Hf H : Hp} {fp : List Addr} {rs : Roots} (s : Stt K mg Hf H fp rs) (h : (d, v) ∈ rs) : ∃ f, Rp K mg Hf H d v f := by
  obtain ⟨f, r, _⟩ := s.rr.mem h
  exact ⟨f, r⟩
theorem rf_mem {K : PySem.W.Frag} {mg : Str → Option Value} {r : Ref} {T : Roots} (s : SS K mg H F ρ σ) (k : RfOk σ r v T) (h : r.get ρ = some d) : (d, v) ∈ T ++ rts ρ σ := by
  cases r with
  | slot i =>
    obtain ⟨k1, rfl⟩ := k
    obtain ⟨w, q1, q2⟩ := s.slot h
    rw [k1] at q1
    cases q1
    exact q2
  | tmp e =>
    have e1 : T = [(e, v)] := k
    have e2 : e = d := Option.some.inj h
    subst e1; subst e2
    exact List.mem_append_left _ List.mem_cons_self

/-! ### names, constants -/
theorem snd_int {i : Int} {j : Nat} : PE X (.Constant (.int i) j pos) (tEv X C W (.int i)) := pe_imp pe_int fun _ _ Q ⟨F, ρ, ss, h⟩ => by
  rw [evE] at h
  exact h _ _ (ss.int i)
theorem snd_bl {i : Bool} {j : Nat} : PE X (.Constant (.bool i) j pos) (tEv X C W (.bl i)) := pe_imp pe_bl fun _ _ Q ⟨F, ρ, ss, h⟩ => by
  rw [evE] at h
  exact h _ _ (ss.bl i)
theorem snd_str {i : Str} {j : Nat} : PE X (.Constant (.str i) j pos) (tEv X C W (.str i)) := pe_imp pe_str fun _ _ Q ⟨F, ρ, ss, h⟩ => by
  rw [evE] at h
  exact h _ _ (ss.str i)
theorem snd_non {j : Nat} : PE X (.Constant .none j pos) (tEv X C W .non) := pe_imp pe_non fun _ _ Q ⟨F, ρ, ss, h⟩ => by
  rw [evE] at h
  exact h _ _ ss.non
theorem snd_var {i : Nat} {x : Str} (hN : X.N[i]? = some x) (hv : Vis X.env.scope x) (hd : (x == ("__debug__" : Str)) = false) (hcd : (x == ("__classdict__" : Str)) = false) : PE X (.Name x pos) (tEv X C W (.var i)) :=
  pe_imp (pe_var hN hv hd hcd) fun σ H Q ⟨F, ρ, ss, h⟩ => by
    rw [evE] at h
    obtain ⟨⟨d, ρ'⟩, e, k⟩ := R.thn_of h
    obtain ⟨v, h1, s'⟩ := ss.varE e
    exact ⟨v, h1, k v H s'⟩
theorem snd_mv {i : Nat} {x : Str} (hN : X.N[i]? = some x) (hv : Vis X.env.scope x) (hd : (x == ("__debug__" : Str)) = false) (hcd : (x == ("__classdict__" : Str)) = false) : PE X (.Name x pos) (tEv X C W (.mv i)) :=
  pe_imp (pe_var hN hv hd hcd) fun σ H Q ⟨F, ρ, ss, h⟩ => by
    rw [evE] at h
    obtain ⟨⟨d, ρ'⟩, e, k⟩ := R.thn_of h
    cases e1 : slotE ρ i with
    | none =>
      rw [e1] at e
      cases e
    | some d1 =>
      rw [e1] at e
      cases e
      obtain ⟨v, h1, s'⟩ := ss.take e1
      exact ⟨v, h1, k v H s'⟩
theorem rf_var {i : Nat} {x : Str} (hN : X.N[i]? = some x) (hv : Vis X.env.scope x) (hd : (x == ("__debug__" : Str)) = false) (hcd : (x == ("__classdict__" : Str)) = false) : PE X (.Name x pos) (tRf X C W (.var i)) :=
  pe_imp (pe_var hN hv hd hcd) fun σ H Q ⟨F, ρ, ss, h⟩ => by
    obtain ⟨⟨r, ρ'⟩, e, k⟩ := R.thn_of (show (R.of ((slotE ρ i).map fun _ => (Ref.slot i, ρ))).thn _ _ from h)
    cases e1 : slotE ρ i with
    | none =>
      rw [e1] at e
      cases e
    | some d1 =>
      rw [e1] at e
      cases e
      obtain ⟨v, h1, _⟩ := ss.slot e1
      exact ⟨v, h1, k v [] H ⟨h1, rfl⟩ ss⟩
theorem rf_of (hc : ∀ i, c ≠ .var i) (h : PE X e (tEv X C W c)) : PE X e (tRf X C W c) := pe_imp h fun σ H Q ⟨F, ρ, ss, h⟩ => by
  have e1 : refOf c (evE C c ρ) ρ = (evE C c ρ).map fun p => (.tmp p.1, p.2) := by
    cases c <;> first | rfl | exact absurd rfl (hc _)
  rw [e1, R.thn_map] at h
  exact ⟨F, ρ, ss, h.mono (fun p hp v H' s' => hp v [(p.1, v)] H' rfl s') fun _ _ z => z⟩
theorem snd_con {x : Str} {d : D} (g : Gd Γ X C W) (hg : Gl X x) (hc : C.kn.cons x = some d) (hd : (x == ("__debug__" : Str)) = false) : PE X (.Name x pos) (tEv X C W (.con x)) := by
  obtain ⟨u, v, hm, r, hR⟩ := g.con x d hc
  refine pe_imp (pe_glob hg hm r hd) fun σ H Q ⟨F, ρ, ss, h⟩ => ?_
  rw [evE, hc] at h
  exact h v H (ss.map fun t => t.con hR)

/-! ### two operands -/
/-- two operands, then what they come to -/
theorem two {β γ : Type} {f : D → D → Option β} {g : β → Env → γ} {P : γ → Prop} {Q : V → V → Hp → Prop}
    (h : (refOf c1 (evE C c1 ρ) ρ).thn (fun p => (refOf c2 (evE C c2 p.2) p.2).thn (fun q => (R.of ((opt2 f (p.1.get q.2) (q.1.get q.2)).map fun d => g d q.2)).thn P (ExcP X W F σ)) (ExcP X W F σ)) (ExcP X W F σ)) (ss : SS X.K X.mg H F ρ σ)
    (fin : ∀ x y H' ρ' d1 d2 d G, f d1 d2 = some d → SS X.K X.mg H' G ρ' σ → List.Sublist F G → (d1, x) ∈ G ++ rts ρ' σ → (d2, y) ∈ G ++ rts ρ' σ → P (g d ρ') → Q x y H') : tRf X C W c1 σ H fun x H1 => tRf X C W c2 σ H1 fun y H2 => Q x y H2 := by
  refine ⟨F, ρ, ss, h.mono (fun p hp x T1 H1 k1 s1 => ?_) (fun _ _ z => z)⟩
  refine ⟨T1 ++ F, p.2, s1, hp.mono (fun q hq y T2 H2 k2 s2 => ?_) (fun _ _ z => z.sub (List.sublist_append_right _ _))⟩
  obtain ⟨pp, e, hk⟩ := R.thn_of hq
  obtain ⟨d, e1, e2⟩ := Option.map_eq_some_iff.mp e
  obtain ⟨d1, d2, g1, g2, e3⟩ := opt2_some e1
  subst e2
  have s3 : SS X.K X.mg H2 (T1 ++ F) q.2 σ := s2.sub (List.sublist_append_right _ _)
  have m1 := rf_mem s3 k1 g1
  have m2 := rf_mem s2 k2 g2
  refine fin x y H2 q.2 d1 d2 d (T2 ++ (T1 ++ F)) e3 s2 ((List.sublist_append_right _ _).trans (List.sublist_append_right _ _)) ?_ ?_ hk
  · simp only [List.mem_append] at m1 ⊢
    rcases m1 with m | m
    · exact .inl (.inr (.inl m))
    · exact .inr m
  · simp only [List.mem_append] at m2 ⊢
    rcases m2 with m | m
    · exact .inl (.inl m)
    · exact .inr m
/-- the new value in front, all but F dropped -/
theorem SS.fin {K : PySem.W.Frag} {mg : Str → Option Value} {G : Roots} (wd : Wd ρ σ) (st : St K mg H ((d, v) :: (G ++ rts ρ σ))) (sl : List.Sublist F G) : SS K mg H ((d, v) :: F) ρ σ :=
  ⟨wd, st.sub ((sl.append (.refl _)).cons_cons _)⟩
def rB (X : Cx) (f : D → D → Option D) : R2 := fun x y H Q => ∃ rs d1 d2 d, St X.K X.mg H rs ∧ (d1, x) ∈ rs ∧ (d2, y) ∈ rs ∧ f d1 d2 = some d ∧ ∀ v H', St X.K X.mg H' ((d, v) :: rs) → Q v H'
def rC (X : Cx) (f : D → D → Option Bool) : R2 := fun x y H Q => ∃ rs d1 d2 b, St X.K X.mg H rs ∧ (d1, x) ∈ rs ∧ (d2, y) ∈ rs ∧ f d1 d2 = some b ∧ Q (.bl b) H
theorem ent_bin {op : Operator} {Q : VK} : tEv X C W (.bin op c1 c2) σ H Q → tOp (rB X (binD op)) (tRf X C W c1) (tRf X C W c2) σ H Q := fun ⟨F, ρ, ss, h⟩ => by
  rw [evE, R.thn_bind] at h
  simp only [R.thn_bind] at h
  exact two h ss fun x y H' ρ' d1 d2 d G e s' sl m1 m2 k => ⟨_, d1, d2, d, s'.st, m1, m2, e, fun v H' st => k v H' (SS.fin s'.wd st sl)⟩
theorem ent_idx {Q : VK} : tEv X C W (.idx c1 c2) σ H Q → tOp (rB X idxD) (tRf X C W c1) (tRf X C W c2) σ H Q := fun ⟨F, ρ, ss, h⟩ => by
  rw [evE, R.thn_bind] at h
  simp only [R.thn_bind] at h
  exact two h ss fun x y H' ρ' d1 d2 d G e s' sl m1 m2 k => ⟨_, d1, d2, d, s'.st, m1, m2, e, fun v H' st => k v H' (SS.fin s'.wd st sl)⟩
theorem ent_cmp {op : CmpOp} {Q : VK} : tEv X C W (.cmp op c1 c2) σ H Q → tOp (rC X (cmpD op)) (tRf X C W c1) (tRf X C W c2) σ H Q := fun ⟨F, ρ, ss, h⟩ => by
  rw [evE, R.thn_bind] at h
  simp only [R.thn_bind] at h
  exact two h ss fun x y H' ρ' d1 d2 d G e s' sl m1 m2 k => ⟨_, d1, d2, d, s'.st, m1, m2, e, k _ _ (SS.fin s'.wd (s'.st.bl d) sl)⟩
theorem ent_cmpT {op : CmpOp} {Q : Bool → Hp → Prop} : tTs X C W (.cmp op c1 c2) σ H Q → tTest (tOp (rC X (cmpD op)) (tRf X C W c1) (tRf X C W c2)) σ H Q := fun ⟨F, ρ, ss, h⟩ => by
  rw [evT, R.thn_bind] at h
  simp only [R.thn_bind] at h
  exact two h ss fun x y H' ρ' d1 d2 d G e s' sl m1 m2 k => ⟨_, d1, d2, d, s'.st, m1, m2, e, d, rfl, k _ (s'.sub sl)⟩
end
end Cs
/-! Tm1: a tuple once; lists and tuples so many times, by values. -/
namespace L2
open PySem PySem.Spec PyProof.Rows
theorem tuple_mul1 (l : Addr) (items : Array Value) (n : Nat) (dd : Option Addr) (sl : Array (Option Value)) (u : Tok) :
    Meets (Builtin.«tuple.__mul__» ⟨[.ref l, .int 1 u], []⟩) (fun _ R s => s.heap.get? l = some { cls := .type "tuple", dict := dd, data := .seq items n, slots := sl } ∧ R (.ok (.ret (Value.ref l))) s) :=
  .of_wp fun prog w A R s h => by
    obtain ⟨hp, g, d, tk, os⟩ := s
    obtain ⟨hl, h⟩ := h
    have f1 := AutoSeq1.idx_int
    wp_walk using wpAny_loadPart' hl
    repeat (first
      | (refine wpAny_ite_true (by simp) ?_; wp_walk using wpAny_loadPart' hl)
      | (refine wpAny_ite_false (by simp) ?_; wp_walk using wpAny_loadPart' hl))
    all_goals first | exact ⟨_, rfl, h⟩ | skip
section
variable {X : Cx}
def rRepT1 (K : PySem.W.Frag) : R2 := fun x y H Q => ∃ l xs, x = .ref l ∧ y = .int 1 ∧ SqT K H l xs ∧ Q (.ref l) H
theorem op_repT1 : OpR X (binaryOp .Mult) (rRepT1 X.K) := by
  intro pins s σ H x y v u Q I rx ry h
  obtain ⟨l, xs, rfl, rfl, hT, q⟩ := h
  cases rx
  obtain ⟨t, rfl⟩ := ry
  obtain ⟨its, r, ⟨⟨cls, dd, data, sl⟩, ho, hc, n, hd⟩, hs⟩ := I.tuple hT
  simp only at hc hd
  subst hc hd
  refine wpAny_binaryOp_repeat_ref (T := "tuple") (U := "int") (by decide) ⟨_, ho, rfl⟩ (fun s' => typeIs_int s' 1 t) noFill_tuple_mul F.fills_int_mul F.slot_int_rmul repeat_tuple F.slot_int_index.lookup
    (call_meets F.slot_int_rmul (typeIs_int s 1 t) F.entry_int_rmul (F.args_int_rmul_2 _ _) (int_rmul_tuple 1 t l its.toArray n dd sl)
      ⟨ho, rfl, ⟨_, ho, rfl⟩, call_meets F.slot_tuple_mul ⟨_, ho, rfl⟩ F.entry_tuple_mul (F.args_tuple_mul_2 _ _) (tuple_mul1 l its.toArray n dd sl t) ⟨ho, ?_⟩⟩)
  exact ⟨.ref l, H, I, rfl, q⟩
end
end L2
namespace Cs
open PySem L2
section
variable {K : PySem.W.Frag} {mg : Str → Option Value} {Hf H : Hp}
theorem Fzs.rep {ds : List D} {vs : List V} (h : Fzs K mg Hf ds vs) : ∀ n : Nat, Fzs K mg Hf (List.replicate n ds).flatten (List.replicate n vs).flatten
  | 0 => .nil
  | n + 1 => by
    rw [List.replicate_succ, List.replicate_succ, List.flatten_cons, List.flatten_cons]
    exact h.append (h.rep n)
end
end Cs
/-! Cs6: operators, comparisons, subscripts, by values. -/
namespace Cs
open PySem L2
section
variable {K : PySem.W.Frag} {mg : Str → Option Value} {Hf H : Hp} {fp : List Addr} {rs : Roots} {d : D} {v : V} {ds : List D}
theorem Stt.st (s : Stt K mg Hf H fp rs) : St K mg H rs := ⟨Hf, fp, s⟩
theorem Stt.lst {o : Bool} (s : Stt K mg Hf H fp rs) (h : (.lst o ds, v) ∈ rs) : ∃ a vs, v = .ref a ∧ H a = some (.lst vs) ∧ ds.length = vs.length ∧ (isFzs ds = true → Fzs K mg Hf ds vs) ∧ ∃ f, Rps K mg Hf H ds vs f := by
  obtain ⟨f, r⟩ := s.at h
  cases o with
  | false =>
    obtain ⟨_, a, vs, h1, h2, h3⟩ := r
    exact ⟨a, vs, h1, s.ex _ _ h2, h3.len, fun z => h3.toFzs z, _, h3⟩
  | true =>
    obtain ⟨a, vs, g, h1, _, h2, h3⟩ := r
    exact ⟨a, vs, h1, h2, h3.len, fun z => h3.toFzs z, _, h3⟩
theorem Stt.tup (s : Stt K mg Hf H fp rs) (h : (.tup ds, v) ∈ rs) : ∃ a vs, v = .ref a ∧ SqT K H a vs ∧ ds.length = vs.length ∧ (isFzs ds = true → Fzs K mg Hf ds vs) ∧ ∃ f, Rps K mg Hf H ds vs f := by
  obtain ⟨f, r⟩ := s.at h
  obtain ⟨_, a, vs, h1, h2, h3⟩ := r
  exact ⟨a, vs, h1, Evl.ex_t s.ex h2, h3.len, fun z => h3.toFzs z, _, h3⟩
theorem Stt.lkd (s : Stt K mg Hf H fp rs) (h : (.lkd ds, v) ∈ rs) : ∃ a vs, v = .ref a ∧ SqL K H a vs ∧ ds.length = vs.length ∧ (isFzs ds = true → Fzs K mg Hf ds vs) ∧ ∃ f, Rps K mg Hf H ds vs f := by
  obtain ⟨f, r⟩ := s.at h
  obtain ⟨_, a, vs, h1, h2, h3⟩ := r
  exact ⟨a, vs, h1, Evl.ex_l s.ex h2, h3.len, fun z => h3.toFzs z, _, h3⟩
/-- a list, of whatever kind -/
theorem Stt.nls (s : Stt K mg Hf H fp rs) (h : (d, v) ∈ rs) (e : nList d = some ds) : ∃ a vs, v = .ref a ∧ SqL K H a vs ∧ ds.length = vs.length ∧ (isFzs ds = true → Fzs K mg Hf ds vs) ∧ ∃ f, Rps K mg Hf H ds vs f := by
  cases d with
  | lst o xs =>
    cases e
    obtain ⟨a, vs, h1, h2, h3⟩ := s.lst h
    exact ⟨a, vs, h1, .inl (.inl h2), h3⟩
  | lkd xs =>
    cases e
    exact s.lkd h
  | _ => cases e
theorem Stt.seq (s : Stt K mg Hf H fp rs) (h : (d, v) ∈ rs) (e : seqOf d = some ds) : ∃ a vs, v = .ref a ∧ (SqL K H a vs ∨ SqT K H a vs) ∧ ds.length = vs.length ∧ (isFzs ds = true → Fzs K mg Hf ds vs) ∧ ∃ f, Rps K mg Hf H ds vs f := by
  cases d with
  | lst o xs =>
    cases e
    obtain ⟨a, vs, h1, h2, h3⟩ := s.lst h
    exact ⟨a, vs, h1, .inl (.inl (.inl h2)), h3⟩
  | lkd xs =>
    cases e
    obtain ⟨a, vs, h1, h2, h3⟩ := s.lkd h
    exact ⟨a, vs, h1, .inl h2, h3⟩
  | tup xs =>
    cases e
    obtain ⟨a, vs, h1, h2, h3⟩ := s.tup h
    exact ⟨a, vs, h1, .inr h2, h3⟩
  | _ => cases e
mutual
theorem Rp.dp (ex : Evl.Ex Hf H) : ∀ (d : D) {v : V} {f : List Addr} {p : PyData}, toP d = some p → Rp K mg Hf H d v f → Dp K H v p
  | .undef, _, _, _, e, _ => nomatch e
  | .non, _, _, _, e, h => by cases e; rw [h.1]; exact .non
  | .bl b, _, _, _, e, h => by cases e; rw [h.1]; exact .bl b
  | .int i, _, _, _, e, h => by cases e; rw [h.1]; exact .int i
  | .str x, _, _, _, e, h => by cases e; rw [h.1]; exact .str x
  | .glb x, _, _, _, e, _ => nomatch e
  | .dK _ _ _, _, _, _, e, _ => nomatch e
  | .dT _ _ _, _, _, _, e, _ => nomatch e
  | .ins _ _ _ _, _, _, _, e, _ => nomatch e
  | .tup ds, _, _, _, e, ⟨_, a, vs, h1, h2, h3⟩ => by
    obtain ⟨ps, e1, e2⟩ := Option.map_eq_some_iff.mp (show (toPs ds).map PyData.tuple = _ from e)
    subst e2; subst h1
    exact .tup (Evl.ex_t ex h2) (Rps.dp ex ds e1 h3)
  | .lst false ds, _, _, _, e, ⟨_, a, vs, h1, h2, h3⟩ => by
    obtain ⟨ps, e1, e2⟩ := Option.map_eq_some_iff.mp (show (toPs ds).map PyData.list = _ from e)
    subst e2; subst h1
    exact .lst (.inl (.inl (ex _ _ h2))) (Rps.dp ex ds e1 h3)
  | .lst true ds, _, _, _, e, ⟨a, vs, g, h1, _, h2, h3⟩ => by
    obtain ⟨ps, e1, e2⟩ := Option.map_eq_some_iff.mp (show (toPs ds).map PyData.list = _ from e)
    subst e2; subst h1
    exact .lst (.inl (.inl h2)) (Rps.dp ex ds e1 h3)
  | .lkd ds, _, _, _, e, ⟨_, a, vs, h1, h2, h3⟩ => by
    obtain ⟨ps, e1, e2⟩ := Option.map_eq_some_iff.mp (show (toPs ds).map PyData.list = _ from e)
    subst e2; subst h1
    exact .lst (Evl.ex_l ex h2) (Rps.dp ex ds e1 h3)
theorem Rps.dp (ex : Evl.Ex Hf H) : ∀ (ds : List D) {vs : List V} {f : List Addr} {ps : List PyData}, toPs ds = some ps → Rps K mg Hf H ds vs f → DpAll K H vs ps
  | [], _, _, _, e, h => by cases e; rw [h.1]; exact .nil
  | d :: ds, _, _, _, e, ⟨v, vs', f1, f2, h1, h2, h3, h4⟩ => by
    subst h1
    unfold toPs at e
    split at e
    · rename_i p ps e1 e2
      cases e
      exact .cons (Rp.dp ex d e1 h3) (Rps.dp ex ds e2 h4)
    · cases e
end
theorem eqD_dp {d e : D} {v w : V} {b : Bool} (s : Stt K mg Hf H fp rs) (h1 : (d, v) ∈ rs) (h2 : (e, w) ∈ rs) (h : eqD d e = some b) :
    ∃ p q, Dp K H v p ∧ Dp K H w q ∧ SeqAt.shaped p = true ∧ SeqAt.shaped q = true ∧ b = PyData.eqv p q := by
  unfold eqD at h
  split at h
  · rename_i p q e1 e2
    split at h
    · rename_i z
      cases h
      rw [Bool.and_eq_true] at z
      obtain ⟨f, r⟩ := s.at h1
      obtain ⟨g, t⟩ := s.at h2
      exact ⟨p, q, Rp.dp s.ex d e1 r, Rp.dp s.ex e e2 t, z.1, z.2, rfl⟩
    · cases h
  · cases h
theorem szOk_le {n : Nat} (h : szOk n = true) : n ≤ sizeLine := of_decide_eq_true h
theorem guardL_some {b : Bool} {d e : D} (h : guardL b d = some e) : b = true ∧ d = e := by
  unfold guardL at h
  split at h
  · rename_i z
    cases h
    exact ⟨z, rfl⟩
  · cases h
theorem fzO_some {o : Option D} {d : D} (h : fzO o = some d) : o = some d ∧ isFz d = true := by
  unfold fzO at h
  split at h
  · split at h
    · rename_i z
      cases h
      exact ⟨rfl, z⟩
    · cases h
  · cases h
theorem flat_v {d : D} {v : V} {f : List Addr} (h : flatD d = true) (r : Rp K mg Hf H d v f) : flatV v = true := by
  cases d with
  | non => rw [r.1]; rfl
  | bl b => rw [r.1]; rfl
  | int i => rw [r.1]; rfl
  | str x => rw [r.1]; rfl
  | _ => cases h
theorem isN_v {d : D} {v : V} {f : List Addr} {b : Bool} (h : isN d = some b) (r : Rp K mg Hf H d v f) : decide (v = V.non) = b := by
  cases d with
  | undef => cases h
  | non => cases h; rw [r.1]; rfl
  | bl b => cases h; rw [r.1]; rfl
  | int i => cases h; rw [r.1]; rfl
  | str x => cases h; rw [r.1]; rfl
  | tup ds => cases h; obtain ⟨_, a, vs, rfl, _⟩ := r; rfl
  | lkd ds => cases h; obtain ⟨_, a, vs, rfl, _⟩ := r; rfl
  | glb x => cases h; obtain ⟨_, a, rfl, _⟩ := r; rfl
  | own o => cases h; obtain ⟨a, rfl, _⟩ := r; rfl
  | lst o ds => cases h; cases o <;> (first | (obtain ⟨_, a, vs, rfl, _⟩ := r; rfl) | (obtain ⟨a, vs, g, rfl, _⟩ := r; rfl))
  | dK o ks ds => cases h; cases o <;> (first | (obtain ⟨_, a, vs, rfl, _⟩ := r; rfl) | (obtain ⟨a, vs, g, rfl, _⟩ := r; rfl))
  | dT o ks ds => cases h; cases o <;> (first | (obtain ⟨_, a, vs, rfl, _⟩ := r; rfl) | (obtain ⟨a, vs, g, rfl, _⟩ := r; rfl))
  | ins o C fs ds => cases h; cases o <;> (first | (obtain ⟨_, a, dx, CA, vs, rfl, _⟩ := r; rfl) | (obtain ⟨a, dx, CA, vs, g, rfl, _⟩ := r; rfl))
theorem flat_e {d e : D} {v w : V} {f g : List Addr} (h1 : flatD d = true) (h2 : flatD e = true) (r : Rp K mg Hf H d v f) (t : Rp K mg Hf H e w g) : flatE d e = eqV v w := by
  cases d with
  | non => rw [r.1]; cases e <;> first | (rw [t.1]; rfl) | cases h2
  | bl b => rw [r.1]; cases e <;> first | (rw [t.1]; rfl) | cases h2
  | int i => rw [r.1]; cases e <;> first | (rw [t.1]; rfl) | cases h2
  | str x => rw [r.1]; cases e <;> first | (rw [t.1]; rfl) | cases h2
  | _ => cases h1
theorem flats {ds : List D} {vs : List V} {f : List Addr} (h : ds.all flatD = true) (r : Rps K mg Hf H ds vs f) : vs.all flatV = true := by
  induction ds generalizing vs f with
  | nil => rw [r.1]; rfl
  | cons d ds ih =>
    obtain ⟨v, vs', f1, f2, h1, h2, h3, h4⟩ := r
    subst h1
    rw [List.all_cons, Bool.and_eq_true] at h ⊢
    exact ⟨flat_v h.1 h3, ih h.2 h4⟩
theorem any_e {x : D} {y : V} {ds : List D} {vs : List V} {f g : List Addr} (h : ds.all flatD = true) (hx : flatD x = true) (r : Rps K mg Hf H ds vs f) (t : Rp K mg Hf H x y g) : (ds.any fun e => flatE e x) = inV y vs := by
  induction ds generalizing vs f with
  | nil => rw [r.1]; rfl
  | cons d ds ih =>
    obtain ⟨v, vs', f1, f2, h1, h2, h3, h4⟩ := r
    subst h1
    rw [List.all_cons, Bool.and_eq_true] at h
    show (flatE d x || ds.any fun e => flatE e x) = (eqV v y || inV y vs')
    rw [ih h.2 h4, flat_e h.1 hx h3 t]
end

section
variable {X : Cx}
theorem ex_atI {α β : Type} {xs : List α} {ys : List β} (e : xs.length = ys.length) {i : Int} {x : α} (h : atI xs i = some x) : ∃ j : Nat, atI ys i = ys[j]? ∧ xs[j]? = some x := by
  unfold atI at h ⊢
  rw [← e]
  cases q : ixN xs.length i with
  | none => rw [q] at h; cases h
  | some j =>
    rw [q] at h
    exact ⟨j, rfl, h⟩
/-- a // b, b of either sign -/
theorem op_flr : OpR X (binaryOp .FloorDiv) (rI (fun _ j => j ≠ 0 ∧ j.natAbs.log2 < 9000) fun i j => .int (flr i j)) := opI fun i j _ _ _ _ _ hc q => by
  refine PyProof.Rows.floordiv_int hc.1 ?_ (.inl (PyProof.noPylong_of_log2 hc.2))
  unfold flr at q
  split at q
  · rename_i z
    rw [Int.fdiv_eq_ediv_of_nonneg i (by omega)]
    exact q
  · exact q
theorem op_rst : OpR X (binaryOp .Mod) (rI (fun _ j => j ≠ 0) fun i j => .int (rst i j)) := opI fun i j _ _ _ _ _ hc q => by
  refine PyProof.Rows.mod_int' hc ?_
  unfold rst at q
  split at q
  · rename_i z
    rw [Int.fmod_eq_emod_of_nonneg i (by omega)]
    exact q
  · exact q
theorem op_mulA : OpR X (binaryOp .Mult) (rI (fun i j => mulOk i j = true) fun i j => .int (i * j)) := by
  intro pins s σ H x y v u Q I rx ry ⟨i, j, h1, h2, hc, q⟩
  have hc : mulOk i j = true := hc
  unfold mulOk at hc
  rw [Bool.or_eq_true, Bool.or_eq_true] at hc
  rcases hc with h | h | h
  · exact op_mul pins s σ H x y v u Q I rx ry ⟨i, j, h1, h2, .inl (of_decide_eq_true h), q⟩
  · exact op_mul pins s σ H x y v u Q I rx ry ⟨i, j, h1, h2, .inr (of_decide_eq_true h), q⟩
  · exact op_mulW pins s σ H x y v u Q I rx ry ⟨i, j, h1, h2, of_decide_eq_true (p := i.natAbs.log2 + j.natAbs.log2 < 1000000) h, q⟩
theorem op_bin {op : Operator} : OpR X (binaryOp op) (rB X (binD op)) := by
  intro pins s σ H x y v u Q I rx ry ⟨rs, d1, d2, d, ⟨Hf, fp, S⟩, m1, m2, e, k⟩
  obtain ⟨f1, p1⟩ := S.at m1
  obtain ⟨f2, p2⟩ := S.at m2
  unfold binD at e
  split at e
  · cases e
    exact op_add pins s σ H x y v u Q I rx ry ⟨_, _, p1.1, p2.1, k _ _ (S.st.int _)⟩
  · obtain ⟨z, rfl⟩ := guardL_some e
    exact op_add_str pins s σ H x y v u Q I rx ry ⟨_, _, p1.1, p2.1, szOk_le z, k _ _ (S.st.str _)⟩
  · obtain ⟨z, rfl⟩ := guardL_some e
    rw [Bool.and_eq_true, Bool.and_eq_true] at z
    obtain ⟨a, vs, rfl, q1, l1, z1, _⟩ := S.tup m1
    obtain ⟨b, ws, rfl, q2, l2, z2, _⟩ := S.tup m2
    have w1 := z1 z.2.1
    have w2 := z2 z.2.2
    refine op_catA pins s σ H _ _ v u Q I rx ry ⟨a, b, vs, ws, rfl, rfl, q1, q2, by rw [← l1, ← l2]; exact szOk_le z.1, fun h => ?_, fun _ h => ?_, fun _ _ p hp => k _ _ (S.newT hp (w1.append w2))⟩
    · subst h
      cases w1
      exact k _ _ (S.st.dup z.2.2 m2)
    · subst h
      cases w2
      rw [List.append_nil] at k
      exact k _ _ (S.st.dup z.2.1 m1)
  · obtain ⟨z, rfl⟩ := guardL_some e
    rw [Bool.and_eq_true, Bool.and_eq_true] at z
    obtain ⟨a, vs, rfl, q1, l1, z1, _⟩ := S.lst m1
    obtain ⟨b, ws, rfl, q2, l2, z2, _⟩ := S.lst m2
    exact op_cat pins s σ H _ _ v u Q I rx ry ⟨a, b, vs, ws, rfl, rfl, q1, q2, by rw [← l1, ← l2]; exact szOk_le z.1, fun p hp => k _ _ (S.newL hp ((z1 z.2.1).append (z2 z.2.2)))⟩
  · cases e
    exact op_sub pins s σ H x y v u Q I rx ry ⟨_, _, p1.1, p2.1, k _ _ (S.st.int _)⟩
  · obtain ⟨z, rfl⟩ := guardL_some e
    exact op_mulA pins s σ H x y v u Q I rx ry ⟨_, _, p1.1, p2.1, z, k _ _ (S.st.int _)⟩
  · obtain ⟨a, vs, rfl, q1, l1, z1, _⟩ := S.tup m1
    split at e
    · rename_i h1
      obtain ⟨z, rfl⟩ := guardL_some e
      exact op_repT1 pins s σ H _ _ v u Q I rx ry ⟨a, vs, rfl, by rw [p2.1, of_decide_eq_true h1], q1, k _ _ (S.st.dup z m1)⟩
    · obtain ⟨z, rfl⟩ := guardL_some e
      rw [Bool.and_eq_true, Bool.and_eq_true, Bool.and_eq_true] at z
      obtain ⟨z0, z2, z3, z4⟩ := z
      have hb := of_decide_eq_true z3
      refine op_repT pins s σ H _ _ v u Q I rx ry ⟨a, _, vs, rfl, p2.1, q1, fun h => ?_, hb.1, hb.2, by rw [← l1]; exact of_decide_eq_true z4, fun p hp => k _ _ (S.newT hp ((z1 z0).rep _))⟩
      subst h
      cases z1 z0
      cases z2
  · obtain ⟨z, rfl⟩ := guardL_some e
    rw [Bool.and_eq_true, Bool.and_eq_true] at z
    obtain ⟨a, vs, rfl, q1, l1, z1, _⟩ := S.lst m1
    have hb := of_decide_eq_true z.2.1
    refine op_rep pins s σ H _ _ v u Q I rx ry ⟨a, _, vs, rfl, p2.1, q1, by omega, by omega, ?_, fun p hp => k _ _ (S.newL hp ((z1 z.1).rep _))⟩
    rw [← l1, sizeLine_eq]
    rename_i o xs kk _
    have hk : kk.toNat ≤ 1000 := by omega
    exact Nat.le_trans (Nat.mul_le_mul (of_decide_eq_true (p := xs.length ≤ 1000) z.2.2) hk) (by decide)
  · obtain ⟨z, rfl⟩ := guardL_some e
    unfold dvOk at z
    rw [Bool.and_eq_true] at z
    exact op_flr pins s σ H x y v u Q I rx ry ⟨_, _, p1.1, p2.1, ⟨of_decide_eq_true z.1, of_decide_eq_true z.2⟩, k _ _ (S.st.int _)⟩
  · obtain ⟨z, rfl⟩ := guardL_some e
    exact op_rst pins s σ H x y v u Q I rx ry ⟨_, _, p1.1, p2.1, of_decide_eq_true z, k _ _ (S.st.int _)⟩
  · obtain ⟨z, rfl⟩ := guardL_some e
    exact op_pow pins s σ H x y v u Q I rx ry ⟨_, _, p1.1, p2.1, of_decide_eq_true (p := _ ∧ _) z, k _ _ (S.st.int _)⟩
  · cases e
    exact op_xor pins s σ H x y v u Q I rx ry ⟨_, _, p1.1, p2.1, k _ _ (S.st.int _)⟩
  · cases e
theorem ix_any : IxR X (rB X idxD) := by
  intro value slice pins s σ H x y v u Q I rx ry h hs
  obtain ⟨rs, d1, d2, d, ⟨Hf, fp, S⟩, m1, m2, e, k⟩ := h
  obtain ⟨f2, p2⟩ := S.at m2
  unfold idxD at e
  split at e
  · rename_i i
    obtain rfl := p2.1
    split at e
    · rename_i o xs
      obtain ⟨e1, z⟩ := fzO_some e
      obtain ⟨a, vs, rfl, q1, l1, _, f, r⟩ := S.lst m1
      obtain ⟨j, e2, e3⟩ := ex_atI l1 e1
      obtain ⟨w, g, e4, t⟩ := r.get e3
      exact ix_list value slice pins s σ H _ _ v u Q I rx ry ⟨a, vs, i, w, rfl, rfl, .inl (.inl q1), e2.trans e4, k _ _ (S.add ((Rp.fz d z t).2 H)).st⟩ hs
    · rename_i xs
      obtain ⟨e1, z⟩ := fzO_some e
      obtain ⟨a, vs, rfl, q1, l1, _, f, r⟩ := S.lkd m1
      obtain ⟨j, e2, e3⟩ := ex_atI l1 e1
      obtain ⟨w, g, e4, t⟩ := r.get e3
      exact ix_list value slice pins s σ H _ _ v u Q I rx ry ⟨a, vs, i, w, rfl, rfl, q1, e2.trans e4, k _ _ (S.add ((Rp.fz d z t).2 H)).st⟩ hs
    · rename_i xs
      obtain ⟨e1, z⟩ := fzO_some e
      obtain ⟨a, vs, rfl, q1, l1, _, f, r⟩ := S.tup m1
      obtain ⟨j, e2, e3⟩ := ex_atI l1 e1
      obtain ⟨w, g, e4, t⟩ := r.get e3
      exact ix_tup value slice pins s σ H _ _ v u Q I rx ry ⟨a, vs, i, w, rfl, rfl, q1, e2.trans e4, k _ _ (S.add ((Rp.fz d z t).2 H)).st⟩ hs
    · rename_i z
      obtain ⟨f1, p1⟩ := S.at m1
      split at e
      · rename_i hz
        obtain ⟨c, e1, e2⟩ := Option.map_eq_some_iff.mp e
        subst e2
        exact ix_str value slice pins s σ H _ _ v u Q I rx ry ⟨z, i, c, p1.1, rfl, szOk_le hz, e1, k _ _ (S.st.str _)⟩ hs
      · cases e
    · cases e
  · cases e
theorem op_cmpA {op : CmpOp} (hu : X.A.units + 64 < cLine) : OpR X (compareOp op) (rC X (cmpD op)) := by
  intro pins s σ H x y v u Q I rx ry ⟨rs, d1, d2, b, ⟨Hf, fp, S⟩, m1, m2, e, k⟩
  obtain ⟨f1, p1⟩ := S.at m1
  obtain ⟨f2, p2⟩ := S.at m2
  cases op with
  | Lt =>
    unfold cmpD at e
    dsimp only at e
    split at e
    · cases e
      exact op_lt pins s σ H x y v u Q I rx ry ⟨_, _, p1.1, p2.1, k⟩
    · cases e
  | LtE =>
    unfold cmpD at e
    dsimp only at e
    split at e
    · cases e
      exact op_le pins s σ H x y v u Q I rx ry ⟨_, _, p1.1, p2.1, k⟩
    · cases e
  | Gt =>
    unfold cmpD at e
    dsimp only at e
    split at e
    · cases e
      exact op_gt pins s σ H x y v u Q I rx ry ⟨_, _, p1.1, p2.1, k⟩
    · cases e
  | GtE =>
    unfold cmpD at e
    dsimp only at e
    split at e
    · cases e
      exact op_ge pins s σ H x y v u Q I rx ry ⟨_, _, p1.1, p2.1, k⟩
    · cases e
  | Eq =>
    obtain ⟨p, q, g1, g2, g3, g4, rfl⟩ := eqD_dp S m1 m2 e
    exact op_eqD hu pins s σ H x y v u Q I rx ry ⟨p, q, g1, g2, g3, g4, k⟩
  | NotEq =>
    obtain ⟨c, e1, e2⟩ := Option.map_eq_some_iff.mp (show (eqD d1 d2).map (!·) = some b from e)
    subst e2
    obtain ⟨p, q, g1, g2, g3, g4, rfl⟩ := eqD_dp S m1 m2 e1
    exact op_neD hu pins s σ H x y v u Q I rx ry ⟨p, q, g1, g2, g3, g4, k⟩
  | Is =>
    unfold cmpD at e
    dsimp only at e
    split at e
    · exact op_isN pins s σ H x y v u Q I rx ry ⟨p2.1, by rw [isN_v e p1]; exact k⟩
    · cases e
  | IsNot =>
    unfold cmpD at e
    dsimp only at e
    split at e
    · obtain ⟨c, e1, e2⟩ := Option.map_eq_some_iff.mp e
      exact op_notN pins s σ H x y v u Q I rx ry ⟨p2.1, by rw [isN_v e1 p1, e2]; exact k⟩
    · cases e
  | In =>
    have e : inD d1 d2 = some b := e
    unfold inD at e
    split at e
    · cases e
      exact op_in_str pins s σ H x y v u Q I rx ry ⟨_, _, p1.1, p2.1, k⟩
    · split at e
      · rename_i ds q
        split at e
        · rename_i z
          cases e
          rw [Bool.and_eq_true] at z
          obtain ⟨a, vs, rfl, q1, l1, _, f, r⟩ := S.seq m2 q
          refine op_in_seq pins s σ H _ _ v u Q I rx ry ⟨a, vs, rfl, q1, flat_v z.1 p1, flats z.2 r, ?_⟩
          rw [any_e z.2 z.1 r p1] at k
          exact k
        · cases e
      · cases e
  | NotIn =>
    obtain ⟨c, e1, e2⟩ := Option.map_eq_some_iff.mp (show (inD d1 d2).map (!·) = some b from e)
    subst e2
    unfold inD at e1
    split at e1
    · cases e1
      exact op_notin_str pins s σ H x y v u Q I rx ry ⟨_, _, p1.1, p2.1, k⟩
    · split at e1
      · rename_i ds q
        split at e1
        · rename_i z
          cases e1
          rw [Bool.and_eq_true] at z
          obtain ⟨a, vs, rfl, q1, l1, _, f, r⟩ := S.seq m2 q
          refine op_notIn_seq pins s σ H _ _ v u Q I rx ry ⟨a, vs, rfl, q1, flat_v z.1 p1, flats z.2 r, ?_⟩
          rw [any_e z.2 z.1 r p1] at k
          exact k
        · cases e1
      · cases e1
end
end Cs
/-! Cs7: built-ins, truth, slices, by values. -/
namespace Cs
open PySem L2
/-- things that stand at roots -/
def Ms (rs : Roots) : List D → List V → Prop
  | [], [] => True
  | d :: ds, v :: vs => (d, v) ∈ rs ∧ Ms rs ds vs
  | _, _ => False
def rBi (X : Cx) (b : BI) : List V → Hp → VK → Prop := fun vs H Q => ∃ rs ds d, St X.K X.mg H rs ∧ Ms rs ds vs ∧ biD b ds = some d ∧ ∀ v H', St X.K X.mg H' ((d, v) :: rs) → Q v H'
def biN : BI → Str
  | .len => "len" | .abs => "abs" | .min1 => "min" | .max1 => "max" | .min2 => "min" | .max2 => "max" | .sum => "sum" | .sorted => "sorted" | .all => "all" | .any => "any"
  | .list => "list" | .tuple => "tuple" | .int => "int" | .str => "str" | .repr => "repr" | .bool => "bool"
def biV : BI → Value
  | .len => .builtin "len" | .abs => .builtin "abs" | .min1 => .builtin "min" | .max1 => .builtin "max" | .min2 => .builtin "min" | .max2 => .builtin "max" | .sum => .builtin "sum" | .sorted => .builtin "sorted"
  | .all => .builtin "all" | .any => .builtin "any"
  | .list => .type "list" | .tuple => .type "tuple" | .int => .type "int" | .str => .type "str" | .repr => .builtin "repr" | .bool => .type "bool"
theorem biN_boot (b : BI) : bootBuiltins (biN b) = some (biV b) := by cases b <;> decide +kernel
theorem biN_name (b : BI) : biN b ≠ "__name__" ∧ (biN b == ("__debug__" : Str)) = false := by cases b <;> decide +kernel
def rSumT (K : PySem.W.Frag) : List V → Hp → VK → Prop := fun vs H Q => ∃ (a : Addr) (ns : List Int), vs = [V.ref a] ∧ SqT K H a (ns.map V.int) ∧ Q (.int ns.sum) H
theorem cr_sumT {X : Cx} (hc : X.calm = true) : CallR X (.builtin "sum") (rSumT X.K) := by
  intro pins s σ H vs us Q I r h
  obtain ⟨a, ns, rfl, hs, q⟩ := h
  obtain ⟨its, rv, hl, _⟩ := I.tuple hs
  rw [Vals.ref1 r]
  have hi := rv.ints
  obtain ⟨xs, e⟩ := hi.allInts.items
  have hn : numsOf (PySem.intItems xs).toList = ns := by rw [← e]; exact hi.numsOf
  rw [PySem.nums_intItems] at hn
  rw [e] at hl
  refine PySem.W.ktm_sumG (I.ok.hd hc) hl fun h' tk t' hk => ?_
  rw [PySem.preSum_eq, List.take_of_length_le (by simp), hn]
  exact ⟨.int _, H, I.kept hk, ⟨_, rfl⟩, q⟩
section
variable {K : PySem.W.Frag} {mg : Str → Option Value} {Hf H : Hp} {fp : List Addr} {rs : Roots} {d : D} {v : V} {ds : List D} {vs : List V}
theorem ints_v : ∀ {ds : List D} {vs : List V} {ns : List Int} {f : List Addr}, intsOf ds = some ns → Rps K mg Hf H ds vs f → vs = ns.map V.int
  | [], _, _, _, e, h => by cases e; rw [h.1]; rfl
  | .int i :: ds, _, _, _, e, ⟨v, vs', f1, f2, h1, h2, h3, h4⟩ => by
    obtain ⟨ms, e1, e2⟩ := Option.map_eq_some_iff.mp (show (intsOf ds).map (i :: ·) = _ from e)
    subst e2; subst h1
    rw [ints_v e1 h4, h3.1]; rfl
  | .undef :: _, _, _, _, e, _ => nomatch e
  | .non :: _, _, _, _, e, _ => nomatch e
  | .bl _ :: _, _, _, _, e, _ => nomatch e
  | .str _ :: _, _, _, _, e, _ => nomatch e
  | .tup _ :: _, _, _, _, e, _ => nomatch e
  | .lst _ _ :: _, _, _, _, e, _ => nomatch e
  | .lkd _ :: _, _, _, _, e, _ => nomatch e
  | .dK _ _ _ :: _, _, _, _, e, _ => nomatch e
  | .dT _ _ _ :: _, _, _, _, e, _ => nomatch e
  | .ins _ _ _ _ :: _, _, _, _, e, _ => nomatch e
  | .glb _ :: _, _, _, _, e, _ => nomatch e
theorem bls_v : ∀ {ds : List D} {vs : List V} {ns : List Bool} {f : List Addr}, blsOf ds = some ns → Rps K mg Hf H ds vs f → vs = ns.map V.bl
  | [], _, _, _, e, h => by cases e; rw [h.1]; rfl
  | .bl i :: ds, _, _, _, e, ⟨v, vs', f1, f2, h1, h2, h3, h4⟩ => by
    obtain ⟨ms, e1, e2⟩ := Option.map_eq_some_iff.mp (show (blsOf ds).map (i :: ·) = _ from e)
    subst e2; subst h1
    rw [bls_v e1 h4, h3.1]; rfl
  | .undef :: _, _, _, _, e, _ => nomatch e
  | .non :: _, _, _, _, e, _ => nomatch e
  | .int _ :: _, _, _, _, e, _ => nomatch e
  | .str _ :: _, _, _, _, e, _ => nomatch e
  | .tup _ :: _, _, _, _, e, _ => nomatch e
  | .lst _ _ :: _, _, _, _, e, _ => nomatch e
  | .lkd _ :: _, _, _, _, e, _ => nomatch e
  | .dK _ _ _ :: _, _, _, _, e, _ => nomatch e
  | .dT _ _ _ :: _, _, _, _, e, _ => nomatch e
  | .ins _ _ _ _ :: _, _, _, _, e, _ => nomatch e
  | .glb _ :: _, _, _, _, e, _ => nomatch e
theorem fzs_ints : ∀ ns : List Int, Fzs K mg Hf (ns.map D.int) (ns.map V.int)
  | [] => .nil
  | n :: ns => .cons ⟨rfl, fun _ => ⟨rfl, rfl⟩⟩ (fzs_ints ns)
theorem Ms.one (h : Ms rs [d] vs) : ∃ v, vs = [v] ∧ (d, v) ∈ rs := by
  cases vs with
  | nil => exact h.elim
  | cons v vs =>
    cases vs with
    | nil => exact ⟨v, rfl, h.1⟩
    | cons _ _ => exact h.2.elim
theorem Ms.two {e : D} (h : Ms rs [d, e] vs) : ∃ v w, vs = [v, w] ∧ (d, v) ∈ rs ∧ (e, w) ∈ rs := by
  cases vs with
  | nil => exact h.elim
  | cons v vs =>
    obtain ⟨w, e1, e2⟩ := Ms.one h.2
    subst e1
    exact ⟨v, w, rfl, h.1, e2⟩
theorem foldl_min : ∀ (is : List Int) (i m : Int), (m = i ∨ m ∈ is) → m ≤ i → (∀ y ∈ is, m ≤ y) → is.foldl (fun a b => if b < a then b else a) i = m
  | [], i, m, h, _, _ => by
    rcases h with h | h
    · exact h.symm
    · cases h
  | j :: is, i, m, h, h1, h2 => by
    show is.foldl _ (if j < i then j else i) = m
    have hj := h2 j List.mem_cons_self
    refine foldl_min is _ m ?_ ?_ fun y hy => h2 y (List.mem_cons_of_mem _ hy)
    · rcases h with h | h
      · left; rw [if_neg (by omega)]; exact h
      · rcases List.mem_cons.mp h with h | h
        · by_cases c : j < i
          · left; rw [if_pos c]; exact h
          · left; rw [if_neg c]; omega
        · exact .inr h
    · split <;> assumption
theorem foldl_max : ∀ (is : List Int) (i m : Int), (m = i ∨ m ∈ is) → i ≤ m → (∀ y ∈ is, y ≤ m) → is.foldl (fun a b => if a < b then b else a) i = m
  | [], i, m, h, _, _ => by
    rcases h with h | h
    · exact h.symm
    · cases h
  | j :: is, i, m, h, h1, h2 => by
    show is.foldl _ (if i < j then j else i) = m
    have hj := h2 j List.mem_cons_self
    refine foldl_max is _ m ?_ ?_ fun y hy => h2 y (List.mem_cons_of_mem _ hy)
    · rcases h with h | h
      · left; rw [if_neg (by omega)]; exact h
      · rcases List.mem_cons.mp h with h | h
        · by_cases c : i < j
          · left; rw [if_pos c]; exact h
          · left; rw [if_neg c]; omega
        · exact .inr h
    · split <;> assumption
theorem sort_is {a b : List Int} (h : a.Perm b) (ha : a.Pairwise (· ≤ ·)) : a = b.mergeSort (fun x y => decide (x ≤ y)) := by
  have h2 : (b.mergeSort (fun x y => decide (x ≤ y))).Pairwise (· ≤ ·) := (List.pairwise_mergeSort (le := fun x y : Int => decide (x ≤ y)) (fun x y z h1 h2 => decide_eq_true (Int.le_trans (of_decide_eq_true h1) (of_decide_eq_true h2)))
    (fun x y => by
      rw [Bool.or_eq_true]
      rcases Int.le_total x y with h | h
      · exact .inl (decide_eq_true (p := x ≤ y) h)
      · exact .inr (decide_eq_true (p := y ≤ x) h)) b).imp fun h => of_decide_eq_true h
  exact List.Perm.eq_of_pairwise (fun x y _ _ h1 h2 => Int.le_antisymm h1 h2) ha h2 (h.trans (List.mergeSort_perm b _).symm)
end
section
variable {X : Cx}
theorem cr_bi (hc : X.calm = true) (b : BI) : CallR X (biV b) (rBi X b) := by
  intro pins s σ H xs us Q I rs ⟨rt, ds, d, ⟨Hf, fp, S⟩, ms, e, k⟩
  unfold biD at e
  split at e
  · obtain ⟨z, rfl⟩ := guardL_some e
    obtain ⟨v, rfl, m⟩ := ms.one
    obtain ⟨f, r⟩ := S.at m
    exact call_len_str pins s σ H _ us Q I rs ⟨_, by rw [r.1], szOk_le z, k _ _ (S.st.int _)⟩
  · obtain ⟨ys, e1, e2⟩ := Option.map_eq_some_iff.mp e
    subst e2
    obtain ⟨v, rfl, m⟩ := ms.one
    obtain ⟨a, vs, rfl, q1, l1, _⟩ := S.seq m e1
    exact call_len_seq pins s σ H _ us Q I rs ⟨a, vs, rfl, q1, k _ _ (by rw [l1]; exact S.st.int _)⟩
  · cases e
    obtain ⟨v, rfl, m⟩ := ms.one
    obtain ⟨f, r⟩ := S.at m
    exact call_abs pins s σ H _ us Q I rs ⟨_, by rw [r.1], k _ _ (S.st.int _)⟩
  · cases e
    obtain ⟨v, w, rfl, m1, m2⟩ := ms.two
    obtain ⟨f, r⟩ := S.at m1
    obtain ⟨g, t⟩ := S.at m2
    exact call_min2 hc pins s σ H _ us Q I rs ⟨_, _, by rw [r.1, t.1], k _ _ (S.st.int _)⟩
  · cases e
    obtain ⟨v, w, rfl, m1, m2⟩ := ms.two
    obtain ⟨f, r⟩ := S.at m1
    obtain ⟨g, t⟩ := S.at m2
    exact call_max2 hc pins s σ H _ us Q I rs ⟨_, _, by rw [r.1, t.1], k _ _ (S.st.int _)⟩
  · obtain ⟨v, rfl, m⟩ := ms.one
    split at e
    · rename_i ys e1
      split at e
      · rename_i ns e2
        obtain ⟨mm, e3, e4⟩ := Option.map_eq_some_iff.mp e
        subst e4
        obtain ⟨a, vs, rfl, q1, l1, _, f, r⟩ := S.nls m e1
        have ev := ints_v e2 r
        subst ev
        cases ns with
        | nil => cases e3
        | cons n ns =>
          refine cr_min hc pins s σ H _ us Q I rs ⟨a, n :: ns, rfl, q1, Nat.zero_lt_succ _, fun m1 hm hle => ?_⟩
          have em : mm = m1 := (Option.some.inj e3).symm.trans (foldl_min ns n m1 (List.mem_cons.mp hm) (hle n List.mem_cons_self) fun y hy => hle y (List.mem_cons_of_mem _ hy))
          rw [← em]
          exact k _ _ (S.st.int _)
      · cases e
    · cases e
  · obtain ⟨v, rfl, m⟩ := ms.one
    split at e
    · rename_i ys e1
      split at e
      · rename_i ns e2
        obtain ⟨mm, e3, e4⟩ := Option.map_eq_some_iff.mp e
        subst e4
        obtain ⟨a, vs, rfl, q1, l1, _, f, r⟩ := S.nls m e1
        have ev := ints_v e2 r
        subst ev
        cases ns with
        | nil => cases e3
        | cons n ns =>
          refine cr_max hc pins s σ H _ us Q I rs ⟨a, n :: ns, rfl, q1, Nat.zero_lt_succ _, fun m1 hm hle => ?_⟩
          have em : mm = m1 := (Option.some.inj e3).symm.trans (foldl_max ns n m1 (List.mem_cons.mp hm) (hle n List.mem_cons_self) fun y hy => hle y (List.mem_cons_of_mem _ hy))
          rw [← em]
          exact k _ _ (S.st.int _)
      · cases e
    · cases e
  · obtain ⟨v, rfl, m⟩ := ms.one
    obtain ⟨ns, e2, e4⟩ := Option.map_eq_some_iff.mp e
    subst e4
    obtain ⟨a, vs, rfl, q1, l1, _, f, r⟩ := S.tup m
    have ev := ints_v e2 r
    subst ev
    exact cr_sumT hc pins s σ H _ us Q I rs ⟨a, ns, rfl, q1, k _ _ (S.st.int _)⟩
  · obtain ⟨v, rfl, m⟩ := ms.one
    split at e
    · rename_i ys e1
      obtain ⟨ns, e2, e4⟩ := Option.map_eq_some_iff.mp e
      subst e4
      obtain ⟨a, vs, rfl, q1, l1, _, f, r⟩ := S.nls m e1
      have ev := ints_v e2 r
      subst ev
      exact cr_sum hc pins s σ H _ us Q I rs ⟨a, ns, rfl, q1, k _ _ (S.st.int _)⟩
    · cases e
  · obtain ⟨v, rfl, m⟩ := ms.one
    split at e
    · rename_i ys e1
      obtain ⟨ns, e2, e4⟩ := Option.map_eq_some_iff.mp e
      subst e4
      obtain ⟨a, vs, rfl, q1, l1, _, f, r⟩ := S.nls m e1
      have ev := ints_v e2 r
      subst ev
      refine cr_sortedI pins s σ H _ us Q I rs ⟨a, ns, rfl, q1, fun ns' p hp hs np => ?_⟩
      have es := sort_is hp hs
      rw [← es] at k
      exact k _ _ (S.newL np (fzs_ints ns'))
    · cases e
  · obtain ⟨v, rfl, m⟩ := ms.one
    split at e
    · rename_i ys e1
      obtain ⟨ns, e2, e4⟩ := Option.map_eq_some_iff.mp e
      subst e4
      obtain ⟨a, vs, rfl, q1, l1, _, f, r⟩ := S.nls m e1
      have ev := bls_v e2 r
      subst ev
      exact cr_all hc pins s σ H _ us Q I rs ⟨a, ns, rfl, q1, k _ _ (S.st.bl _)⟩
    · cases e
  · obtain ⟨v, rfl, m⟩ := ms.one
    split at e
    · rename_i ys e1
      obtain ⟨ns, e2, e4⟩ := Option.map_eq_some_iff.mp e
      subst e4
      obtain ⟨a, vs, rfl, q1, l1, _, f, r⟩ := S.nls m e1
      have ev := bls_v e2 r
      subst ev
      exact cr_any hc pins s σ H _ us Q I rs ⟨a, ns, rfl, q1, k _ _ (S.st.bl _)⟩
    · cases e
  · obtain ⟨v, rfl, m⟩ := ms.one
    split at e
    · rename_i ys e1
      obtain ⟨z, rfl⟩ := guardL_some e
      obtain ⟨a, vs, rfl, q1, l1, w, _⟩ := S.seq m e1
      exact call_list_of pins s σ H _ us Q I rs ⟨a, vs, rfl, q1, fun l hl => k _ _ (S.newL hl (w z))⟩
    · cases e
  · obtain ⟨z, rfl⟩ := guardL_some e
    obtain ⟨v, rfl, m⟩ := ms.one
    obtain ⟨a, vs, rfl, q1, l1, w, _⟩ := S.tup m
    exact call_tuple_of pins s σ H _ us Q I rs ⟨a, vs, rfl, .inr ⟨q1, k _ _ (S.st.dup z m)⟩⟩
  · obtain ⟨v, rfl, m⟩ := ms.one
    split at e
    · rename_i ys e1
      obtain ⟨z, rfl⟩ := guardL_some e
      obtain ⟨a, vs, rfl, q1, l1, w, _⟩ := S.nls m e1
      exact call_tuple_of pins s σ H _ us Q I rs ⟨a, vs, rfl, .inl ⟨q1, fun l hl => k _ _ (S.newT hl (w z))⟩⟩
    · cases e
  · cases e
    obtain ⟨v, rfl, m⟩ := ms.one
    obtain ⟨f, r⟩ := S.at m
    exact call_int1 pins s σ H _ us Q I rs (.inl ⟨_, by rw [r.1], k _ _ (S.st.int _)⟩)
  · cases e
    obtain ⟨v, rfl, m⟩ := ms.one
    obtain ⟨f, r⟩ := S.at m
    exact call_int1 pins s σ H _ us Q I rs (.inr ⟨_, by rw [r.1], k _ _ (S.st.int _)⟩)
  · cases e
    obtain ⟨v, rfl, m⟩ := ms.one
    obtain ⟨f, r⟩ := S.at m
    exact call_bool1 pins s σ H _ us Q I rs (.inl ⟨_, by rw [r.1], k _ _ (S.st.bl _)⟩)
  · cases e
    obtain ⟨v, rfl, m⟩ := ms.one
    obtain ⟨f, r⟩ := S.at m
    exact call_bool1 pins s σ H _ us Q I rs (.inr ⟨_, by rw [r.1], k _ _ (S.st.bl _)⟩)
  · obtain ⟨z, rfl⟩ := guardL_some e
    obtain ⟨v, rfl, m⟩ := ms.one
    obtain ⟨f, r⟩ := S.at m
    exact call_str_int pins s σ H _ us Q I rs ⟨_, by rw [r.1], of_decide_eq_true z, k _ _ (S.st.str _)⟩
  · obtain ⟨z, rfl⟩ := guardL_some e
    obtain ⟨v, rfl, m⟩ := ms.one
    obtain ⟨f, r⟩ := S.at m
    exact SkE.call_repr_int pins s σ H _ us Q I rs ⟨_, by rw [r.1], of_decide_eq_true z, k _ _ (S.st.str _)⟩
  · cases e
    obtain ⟨v, rfl, m⟩ := ms.one
    obtain ⟨f, r⟩ := S.at m
    obtain ⟨u, rfl, ru⟩ := vals1 rs
    rw [r.1] at ru
    cases ru
    exact PySem.P.repr_of_none ⟨.str _, H, I.tok _, ⟨_, rfl⟩, k _ _ (S.st.str _)⟩
  · cases e
    obtain ⟨v, rfl, m⟩ := ms.one
    obtain ⟨f, r⟩ := S.at m
    obtain ⟨u, rfl, ru⟩ := vals1 rs
    rw [r.1] at ru
    cases ru
    exact PySem.P.repr_of_bool ⟨.str _, H, I.tok _, ⟨_, rfl⟩, k _ _ (S.st.str _)⟩
  · cases e
    obtain ⟨v, rfl, m⟩ := ms.one
    obtain ⟨f, r⟩ := S.at m
    exact SkE.call_str_str pins s σ H _ us Q I rs ⟨_, by rw [r.1], k _ _ (S.st.str _)⟩
  · cases e
/-- truth -/
theorem tru_any {rs : Roots} {d : D} {v : V} {b : Bool} {H : Hp} {K : PySem.W.Frag} {mg : Str → Option Value} (st : St K mg H rs) (m : (d, v) ∈ rs) (e : trD d = some b) : TruV K v H b := by
  obtain ⟨Hf, fp, S⟩ := st
  obtain ⟨f, r⟩ := S.at m
  have emp : ∀ {ds : List D} {vs : List V}, ds.length = vs.length → (!ds.isEmpty) = !vs.isEmpty := fun {ds vs} l => by
    cases ds with
    | nil =>
      cases vs with
      | nil => rfl
      | cons _ _ => cases l
    | cons _ _ =>
      cases vs with
      | nil => cases l
      | cons _ _ => rfl
  cases d with
  | non => cases e; rw [r.1]; rfl
  | bl b => cases e; rw [r.1]; rfl
  | int i => cases e; rw [r.1]; rfl
  | str y =>
    have e : (if szOk y.length = true then some ((y.length : Int) != 0) else none) = some b := e
    split at e
    · rename_i z
      cases e
      rw [r.1]
      exact ⟨szOk_le z, rfl⟩
    · cases e
  | lst o ds =>
    cases e
    obtain ⟨a, vs, rfl, q1, l1, _⟩ := S.lst m
    exact .inl ⟨vs, .inl (.inl q1), emp l1⟩
  | lkd ds =>
    cases e
    obtain ⟨a, vs, rfl, q1, l1, _⟩ := S.lkd m
    exact .inl ⟨vs, q1, emp l1⟩
  | tup ds =>
    cases e
    obtain ⟨a, vs, rfl, q1, l1, _⟩ := S.tup m
    exact .inr (.inl ⟨vs, q1, emp l1⟩)
  | _ => cases e
/-- a slice -/
def rSA (X : Cx) : V → Option Int → Option Int → Hp → VK → Prop := fun x lo hi H Q => ∃ rs d1 d, St X.K X.mg H rs ∧ (d1, x) ∈ rs ∧ slcD d1 lo hi = some d ∧ ∀ v H', St X.K X.mg H' ((d, v) :: rs) → Q v H'
theorem cut_fzs {K : PySem.W.Frag} {mg : Str → Option Value} {Hf : Hp} {ds : List D} {vs : List V} {lo hi : Option Int} (l : ds.length = vs.length) (h : Fzs K mg Hf ds vs) : Fzs K mg Hf (cutD ds lo hi) (cutV vs lo hi) := by
  unfold cutD cutV
  rw [l]
  exact (h.drop _).take _
theorem sl_any : SlR X (rSA X) := by
  intro pins s σ H x v vl vu lo hi sl Q I rx hs pl pu ⟨rs, d1, d, ⟨Hf, fp, S⟩, m, e, k⟩
  unfold slcD at e
  split at e
  · obtain ⟨z, rfl⟩ := guardL_some e
    obtain ⟨a, vs, rfl, q1, l1, w, _⟩ := S.lst m
    exact sl_list pins s σ H _ v vl vu lo hi sl Q I rx hs pl pu ⟨a, vs, rfl, .inl (.inl q1), fun p hp => k _ _ (S.newL hp (cut_fzs l1 (w z)))⟩
  · obtain ⟨z, rfl⟩ := guardL_some e
    obtain ⟨a, vs, rfl, q1, l1, w, _⟩ := S.lkd m
    exact sl_list pins s σ H _ v vl vu lo hi sl Q I rx hs pl pu ⟨a, vs, rfl, q1, fun p hp => k _ _ (S.newL hp (cut_fzs l1 (w z)))⟩
  · obtain ⟨z, rfl⟩ := guardL_some e
    obtain ⟨a, vs, rfl, q1, l1, w, _⟩ := S.tup m
    refine sl_tupA pins s σ H _ v vl vu lo hi sl Q I rx hs pl pu ⟨a, vs, rfl, q1, fun hw => ?_, fun hw p hp => k _ _ (S.newT hp (cut_fzs l1 (w z)))⟩
    have ec : ∀ xs : List D, xs.length = vs.length → cutD xs lo hi = xs := fun xs hx => by
      unfold cutD
      rw [hx, hw.1, hw.2, List.drop_zero, Nat.sub_zero, ← hx, List.take_length]
    rw [ec _ l1] at k
    exact k _ _ (S.st.dup z m)
  · obtain ⟨z, rfl⟩ := guardL_some e
    obtain ⟨f, r⟩ := S.at m
    exact C8.sl_txt pins s σ H _ v vl vu lo hi sl Q I rx hs pl pu ⟨_, r.1, szOk_le z, k _ _ (S.st.str _)⟩
  · cases e
end
end Cs
/-! Sc2: {e for x in a for y in b}, whole numbers; sorted of such a set, of any size. -/
namespace L2
open PySem PySem.Spec PyProof.Rows
section
variable {prog : Program} {w : World} {A : Around} {R : Result → Shared → Prop} {s : Shared} {e ga ia gb ib : Expr} {qa qb : List Expr} {sc : Scope} {p : Pos} {it acc : Value} {env : Env}
/-- the expression -/
abbrev sx2 (e ga ia gb ib : Expr) (qa qb : List Expr) (sc : Scope) (p : Pos) : Expr := .SetComp e [⟨ga, ia, qa, 0⟩, ⟨gb, ib, qb, 0⟩] sc p
theorem sx_turn0 : compTurn (sx2 e ga ia gb ib qa qb sc p) 0 it acc env = (do
      standAt ia.pos
      match ← pyNext it with
      | none => pure (.done .next)
      | some v =>
        letOwnedTupleGo ga it v
        assign ga env v
        let mut ok := true
        for c in qa do
          if ok then ok ← isTrue c env (eval c env)
        if ok then
          let y ← eval ib env
          standAt ib.pos
          let y ← foldedSetIterable ib env y
          let _ ← runOwn (.compStart (sx2 e ga ia gb ib qa qb sc p) 1 (← holding [y] (pyIter y)) acc env) env
        again (.compLoop (sx2 e ga ia gb ib qa qb sc p) 0 it acc env)) := by rfl
theorem sx_turn1 : compTurn (sx2 e ga ia gb ib qa qb sc p) 1 it acc env = (do
      standAt ib.pos
      match ← pyNext it with
      | none => pure (.done .next)
      | some v =>
        letOwnedTupleGo gb it v
        assign gb env v
        let mut ok := true
        for c in qb do
          if ok then ok ← isTrue c env (eval c env)
        if ok then
          (do let y ← eval e env; standAt e.pos; let _ ← call (.builtin "set.add") [acc, y])
        again (.compLoop (sx2 e ga ia gb ib qa qb sc p) 1 it acc env)) := by rfl
/-- tests in a row -/
abbrev tst (cs : List Expr) (env : Env) : Sem Bool := forIn cs true fun c r => if r = true then do let ok ← isTrue c env (eval c env); pure (ForInStep.yield ok) else pure (ForInStep.yield r)
abbrev nbd (w : World) (prog : Program) (A : Around) (env : Env) (R : Result → Shared → Prop) : Value → Shared → Prop := notedBy (model prog w) A env fun x s' => R (.error x) s'
theorem sx_loop0 (hf : ∀ x, foldedSetIterable ib env x = pure x) (J : Nat → Shared → Prop)
    (step : ∀ n s, J n s → wpAny (model prog w) A (pyNext it) (fun o s1 => match o with
      | none => R (.ok .next) s1
      | some v => wpAny (model prog w) A (letOwnedTupleGo ga it v) (fun _ s2 => wpAny (model prog w) A (assign ga env v) (fun _ s3 => wpAny (model prog w) A (tst qa env) (fun ok s4 =>
          if ok = true then wpAny (model prog w) A (eval ib env) (fun x s5 => wpAny (model prog w) A (pyIter x) (fun jt s6 =>
              codeAny (model prog w) A (.compStart (sx2 e ga ia gb ib qa qb sc p) 1 jt acc env) (fun r s' => match r with
                | .ok _ => ∃ m, m < n ∧ J m s'
                | .error _ => False) s6) (nbd w prog A env R) s5) (nbd w prog A env R) s4
          else ∃ m, m < n ∧ J m s4) (nbd w prog A env R) s3) (nbd w prog A env R) s2) (nbd w prog A env R) s1) (nbd w prog A env R) s) (n : Nat) (h : J n s) :
    codeAny (model prog w) A (.compLoop (sx2 e ga ia gb ib qa qb sc p) 0 it acc env) R s := by
  refine codeAny_loop rfl J (fun n s hJ => ?_) n h
  show wpAny _ A ((compTurn (sx2 e ga ia gb ib qa qb sc p) 0 it acc env).onRaise (fun x => do noteFrame x env; theTreesLotGoes x)) _ _ s
  refine wpAny_noted ?_
  rw [sx_turn0]
  refine wpAny_bind (wpAny_standAt (wpAny_bind (wpAny_mono (step n s hJ) (fun o s1 h1 => ?_) fun _ _ z => z)))
  match o, h1 with
  | none, h1 => exact wpAny_pure h1
  | some v, h1 =>
    refine wpAny_bind (wpAny_mono h1 (fun _ s2 h2 => wpAny_bind (wpAny_mono h2 (fun _ s3 h3 => wpAny_bind (wpAny_mono h3 (fun ok s4 h4 => ?_) fun _ _ z => z)) fun _ _ z => z)) fun _ _ z => z)
    cases ok with
    | false => exact wpAny_pure ⟨rfl, h4⟩
    | true =>
      refine wpAny_bind (wpAny_mono h4 (fun x s5 h5 => wpAny_bind (wpAny_standAt (wpAny_bind (wpAny_of_eq (hf x) (wpAny_bind (wpAny_holding (wpAny_mono h5 (fun jt s6 h6 => ?_) fun _ _ z => z))))))) fun _ _ z => z)
      refine wpAny_bind (wpAny_runOwn ?_)
      rw [Around.mark_none]
      refine codeAny_mono h6 fun r s' hr => ?_
      match r, hr with
      | .error _, hr => exact hr.elim
      | .ok f, hr =>
        first
          | exact wpAny_pure ⟨rfl, hr⟩
          | exact wpAny_bind (wpAny_pure (wpAny_pure ⟨rfl, hr⟩))
theorem sx_loop1 (J : Nat → Shared → Prop)
    (step : ∀ n s, J n s → wpAny (model prog w) A (pyNext it) (fun o s1 => match o with
      | none => R (.ok .next) s1
      | some v => wpAny (model prog w) A (letOwnedTupleGo gb it v) (fun _ s2 => wpAny (model prog w) A (assign gb env v) (fun _ s3 => wpAny (model prog w) A (tst qb env) (fun ok s4 =>
          if ok = true then wpAny (model prog w) A (eval e env) (fun y s5 => wpAny (model prog w) A (call (.builtin "set.add") [acc, y]) (fun _ s6 => ∃ m, m < n ∧ J m s6) (nbd w prog A env R) s5) (nbd w prog A env R) s4
          else ∃ m, m < n ∧ J m s4) (nbd w prog A env R) s3) (nbd w prog A env R) s2) (nbd w prog A env R) s1) (nbd w prog A env R) s) (n : Nat) (h : J n s) :
    codeAny (model prog w) A (.compLoop (sx2 e ga ia gb ib qa qb sc p) 1 it acc env) R s := by
  refine codeAny_loop rfl J (fun n s hJ => ?_) n h
  show wpAny _ A ((compTurn (sx2 e ga ia gb ib qa qb sc p) 1 it acc env).onRaise (fun x => do noteFrame x env; theTreesLotGoes x)) _ _ s
  refine wpAny_noted ?_
  rw [sx_turn1]
  refine wpAny_bind (wpAny_standAt (wpAny_bind (wpAny_mono (step n s hJ) (fun o s1 h1 => ?_) fun _ _ z => z)))
  match o, h1 with
  | none, h1 => exact wpAny_pure h1
  | some v, h1 =>
    refine wpAny_bind (wpAny_mono h1 (fun _ s2 h2 => wpAny_bind (wpAny_mono h2 (fun _ s3 h3 => wpAny_bind (wpAny_mono h3 (fun ok s4 h4 => ?_) fun _ _ z => z)) fun _ _ z => z)) fun _ _ z => z)
    cases ok with
    | false => exact wpAny_pure ⟨rfl, h4⟩
    | true =>
      exact wpAny_bind (wpAny_bind (wpAny_mono h4 (fun y s5 h5 => wpAny_bind (wpAny_standAt (wpAny_bind (wpAny_mono h5 (fun _ s6 h6 => wpAny_pure (wpAny_pure ⟨rfl, h6⟩)) fun _ _ z => z)))) fun _ _ z => z))
theorem sx_start1 (h0 : codeAny (model prog w) A (.compLoop (sx2 e ga ia gb ib qa qb sc p) 1 it acc env) R s)
    (h1 : wpAny (model prog w) A (pyIter it) (fun jt s' => codeAny (model prog w) A (.compLoop (sx2 e ga ia gb ib qa qb sc p) 1 jt acc env) R s') (nbd w prog A env R) s) :
    codeAny (model prog w) A (.compStart (sx2 e ga ia gb ib qa qb sc p) 1 it acc env) R s := by
  refine codeAny_of_tree ?_
  show wpAny _ _ ((compStart (sx2 e ga ia gb ib qa qb sc p) 1 it acc env).onRaise (fun x => do noteFrame x env; standAt theWindowsPlace)) _ _ s
  refine wpAny_notedAt ?_
  unfold compStart
  show wpAny _ _ (ask >>= _) _ _ s
  refine wpAny_bind (wpAny_askSetting (wpAny_ite ?_))
  split
  · first
      | exact wpAny_bind (wpAny_pure (wpAny_pure (And.intro rfl h0)))
      | exact wpAny_pure (And.intro rfl h0)
  · first
      | exact wpAny_bind (wpAny_rule (wpAny_bind (wpAny_standAt (wpAny_bind (wpAny_mono h1 (fun jt s' q => wpAny_pure (And.intro rfl q)) fun _ _ z => z)))))
      | (refine wpAny_bind (wpAny_rule ?_); show wpAny _ _ (standAt ib.pos >>= _) _ _ s; exact wpAny_bind (wpAny_standAt (wpAny_bind (wpAny_mono h1 (fun jt s' q => wpAny_pure (And.intro rfl q)) fun _ _ z => z))))
end

section
variable {X : Cx}
/-- the new set at D: behind the first clause's store and tests the second source's own walk; each element a whole number that is put in -/
def tSx2 (w : World) (wa : TI) (ta : TG) (qa : TT) (wb : TI) (tb : TG) (qb : TT) (te : TE) (own vs : List Nat) : TE := fun σ H Q => wa σ H fun Ja H1 => ∀ D, H1 D = none → ∃ W : Nat → Nat → Hp → Prop, (∃ m, W 0 m (upd H1 D (SetO w D (fun _ => false) 0))) ∧ ∀ i m H, W i m H →
  (Ja.stop i H ∧ Q (.ref D) H) ∨ (Ja.go i H ∧ ∃ Nx : Hp → Prop, (∀ H', Nx H' → ∃ m', m' < m ∧ W (i + 1) m' H') ∧ ∀ x H', Ja.yld i H x H' → ta x (wipe σ own) H' fun σ2 H2 => wipe σ2 own = wipe σ own ∧ qa σ2 H2 fun b H3 =>
    if b = true then wb σ2 H3 fun Jb H4 => ∃ V : Nat → Nat → Hp → Prop, (∃ m, V 0 m H4) ∧ ∀ j k H, V j k H →
      (Jb.stop j H ∧ Nx H) ∨ (Jb.go j H ∧ ∃ Nv : Hp → Prop, (∀ H', Nv H' → ∃ k', k' < k ∧ V (j + 1) k' H') ∧ ∀ x H', Jb.yld j H x H' → tb x (wipe σ2 vs) H' fun σ3 H5 => wipe σ3 vs = wipe σ2 vs ∧ qb σ3 H5 fun b H6 =>
        if b = true then te σ3 H6 fun y H7 => ∃ (c : Int) (S : Int → Bool) (n : Nat), y = .int c ∧ H7 D = some (SetO w D S n) ∧ n + 1 < scanBound ∧ Nv (upd H7 D (SetO w D (fun j => S j || decide (j = c)) (if S c = true then n else n + 1))) else Nv H6)
    else Nx H3)
abbrev Blk (X : Cx) (sc : Scope) (P : Cx → Prop) : Prop := ∀ (s : Shared) (H : Hp) (C : Addr) (cl : List (Str × Addr)) (fp : List Addr), P (X.blk s H sc (compEnvC sc cl C X.env) fp)
theorem pe_sx2 {e ga ia gb ib : Expr} {ca cb : List Expr} {sc : Scope} {own : List (Str × Nat)} {vs : List Nat} {p : Pos} {wa wb : TI} {ta tb : TG} {qa qb : TT} {te : TE} (calm : X.calm = true) (nd : X.N.Nodup) (hwa : PI X ga ia wa) (bk : BlkOk X.N X.env.scope sc own) (sub : ∀ i ∈ vs, i ∈ own.map (·.2))
    (hta : Blk X sc fun Y => PG Y ga ta) (hqa : Blk X sc fun Y => PTs Y ca qa) (hwb : Blk X sc fun Y => PI Y gb ib wb) (htb : Blk X sc fun Y => PG Y gb tb) (hqb : Blk X sc fun Y => PTs Y cb qb) (hte : Blk X sc fun Y => PE Y e te)
    (fa : ∀ x, foldedSetIterable ia X.env x = pure x) (fb : ∀ env x, foldedSetIterable ib env x = pure x) : PE X (sx2 e ga ia gb ib ca cb sc p) (tSx2 X.w wa ta qa wb tb qb te (own.map (·.2)) vs) := by
  refine ⟨fun pins s σ H Q I h => ?_⟩
  have hcell : ∀ y ∈ sc.names, y.2 = .free → ∃ c, X.env.cells.lookup y.1 = some c := fun y hy z => (bk.free y hy z).elim (fun k => I.ok.has _ (.inl k)) fun k => I.ok.has _ (.inr k)
  rw [PpSet.eval_SetComp]
  refine wpAny_comprehension_free (use := none) rfl fa (closure_ok hcell) bk.kind (fun y hy z => by rw [bk.uniq y hy, z])
    (thn (hwa.run pins s σ H _ I h) fun xv s1 hx => thn hx fun jv s2 h2 => ?_)
  obtain ⟨jt, fp, tn, Ja, H2, rfl, I2, Ta, st2, f2, q⟩ := h2
  refine PpSet.newSet_ok (newEnv_comp ?_)
  generalize eD : s2.heap.objs.size = D
  have nD : H2 D = none := I2.hok.fresh (Nat.le_of_eq eD)
  obtain ⟨W, ⟨m0, w0⟩, turn⟩ := q D nD
  generalize e3 : ({ s2 with heap := s2.heap.push { cls := .type "set", dict := none, data := .set #[] 0 (.fresh 0 0 (!X.w.params.followText "set-order")) } } : Shared) = s3
  have hh3 : s3.heap = s2.heap.push { cls := .type "set", dict := none, data := .set #[] 0 (.fresh 0 0 (!X.w.params.followText "set-order")) } := by subst e3; rfl
  have I3 : Inv X pins σ (upd H2 D (SetO X.w D (fun _ => false) 0)) s3 := by
    subst e3; subst eD
    exact I2.laid (t' := s2.toks) (fun b o z => Heap.get?_push_of_some _ z) (Nat.le_refl _) (setO_new (setR_fresh X.w))
  have f3 : ∀ b ∈ fp, FpOk X pins (upd H2 D (SetO X.w D (fun _ => false) 0)) b ∧ b < s3.heap.objs.size := fun b hb => by
    obtain ⟨o, eo, _⟩ := Ta.obj _ _ st2 b hb
    have lt := Heap.lt_size eo
    exact ⟨⟨by rw [upd_ne (by rw [← eD]; exact Nat.ne_of_lt lt)]; exact (f2 b hb).1, (f2 b hb).2⟩, by rw [hh3, Heap.size_push]; exact Nat.lt_succ_of_lt lt⟩
  have st3 : tn 0 s3.heap := Ta.keep _ _ _ st2 fun b _ o z => by rw [hh3]; exact Heap.get?_push_of_some _ z
  have I4 := block_start I3 bk nd f3
  generalize eCl : cellsFrom (s3.heap.objs.size + 1) sc.names (cloFrom X.env.cells sc.names []) = cl at I4
  have bta := hta s3 (upd H2 D (SetO X.w D (fun _ => false) 0)) s3.heap.objs.size cl fp
  have bqa := hqa s3 (upd H2 D (SetO X.w D (fun _ => false) 0)) s3.heap.objs.size cl fp
  have bwb := hwb s3 (upd H2 D (SetO X.w D (fun _ => false) 0)) s3.heap.objs.size cl fp
  have btb := htb s3 (upd H2 D (SetO X.w D (fun _ => false) 0)) s3.heap.objs.size cl fp
  have bqb := hqb s3 (upd H2 D (SetO X.w D (fun _ => false) 0)) s3.heap.objs.size cl fp
  have bte := hte s3 (upd H2 D (SetO X.w D (fun _ => false) 0)) s3.heap.objs.size cl fp
  show codeAny _ _ (.compStart (sx2 e ga ia gb ib ca cb sc p) 0 (.ref jt) (.ref D) (compEnvC sc cl s3.heap.objs.size X.env)) (compPost (model X.prog X.w) X.A X.xe none (EP X pins σ Q) (.ref D) s3.heap.objs.size) { s3 with heap := pushCells (s3.heap.push { cls := .type "dict", data := .dict #[] }) sc.names }
  generalize eN : compEnvC sc cl s3.heap.objs.size X.env = en at I4 bta bqa bwb btb bqb bte ⊢
  have loc0 : en.locals = s3.heap.objs.size := by subst eN; rfl
  have free3 : ∀ b ∈ fp, upd H2 D (SetO X.w D (fun _ => false) 0) b = none := fun b hb => (f3 b hb).1.1
  generalize eH : upd H2 D (SetO X.w D (fun _ => false) 0) = H3 at I3 I4 bta bqa bwb btb bqb bte w0 free3 f3
  generalize e4 : ({ s3 with heap := pushCells (s3.heap.push { cls := .type "dict", data := .dict #[] }) sc.names } : Shared) = s4 at I4 ⊢
  have st4 : tn 0 s4.heap := Ta.keep _ _ _ st3 fun b _ o z => by subst e4; exact pushCells_keeps _ _ _ _ (Heap.get?_push_of_some _ z)
  have ok1 : ∀ {σ' : L2.St} {H' : Hp} {s' : Shared}, Inv (X.blk s3 H3 sc en fp) [] σ' H' s' → (∀ b ∈ fp, H' b = none) → ∀ b ∈ fp, FpOk (X.blk s3 H3 sc en fp) [] H' b := fun {σ' H' s'} I' hn b hb =>
    ⟨hn b hb, (I'.ok.exf b hb).1, I'.ok.exfs b hb, .inl hb, fun x c z => (I'.ok.exf b hb).2 x c z, fun q hq => absurd (show q ∈ ([] : List (Addr × Obj)) ++ [] from hq) (by simp)⟩
  -- the first clause's walk
  have outer : codeAny (model X.prog X.w) X.A (.compLoop (sx2 e ga ia gb ib ca cb sc p) 0 (.ref jt) (.ref D) en) (compPost (model X.prog X.w) X.A X.xe none (EP X pins σ Q) (.ref D) s3.heap.objs.size) s4 := by
    refine sx_loop0 (fb en) (fun n s' => ∃ i H', Inv (X.blk s3 H3 sc en fp) [] (wipe σ (own.map (·.2))) H' s' ∧ tn i s'.heap ∧ (∀ b ∈ fp, H' b = none) ∧ W i n H') ?_ m0 ⟨0, H3, I4, st4, free3, w0⟩
    rintro n s5 ⟨i, H5, I5, st5, n5, w5⟩
    rcases turn i n H5 w5 with ⟨stop, fin⟩ | ⟨go, Nx, hNx, step⟩
    · refine thnF (Ta.done (X.blk s3 H3 sc en fp) rfl rfl rfl calm i [] s5 _ H5 (fun _ _ => False) I5 (ok1 I5 n5) st5 stop) fun r s6 ⟨hr, I6⟩ => ?_
      subst hr
      have back : Inv X pins σ H5 s6 := I3.call' (ch := fp) I6.os I6.base I6.hok I6.bare fun b hb => ⟨(f3 b hb).1.2.2.2.1, (f3 b hb).1.2.1, (f3 b hb).1.2.2.2.2.1, (f3 b hb).1.2.2.2.2.2⟩
      have nloc : H5 s3.heap.objs.size = none := loc0 ▸ (show H5 en.locals = none from I6.free)
      obtain ⟨m, hm, _⟩ := I6.loc
      have hm : s6.heap.Ns en.locals m := hm
      rw [loc0] at hm
      obtain ⟨c0, c1, c2, c3, c4, c5⟩ := I3.fpOk (Nat.le_refl _) nloc
      exact ⟨m, hm, fun hz sb => ⟨.ref D, H5, back.turned (t' := s6.toks) (fun b o hb z => (sb.2 b hb).trans z) c0 c1 c3 c4 c5, rfl, fin⟩⟩
    · refine thnF (Ta.item (X.blk s3 H3 sc en fp) rfl rfl rfl calm i [] s5 _ H5 (fun _ _ => False) I5 (ok1 I5 n5) st5 go) fun r s6 ⟨u, hr, h6⟩ => ?_
      subst hr
      refine thnF h6 fun _ s7 ⟨x, H7, I7, r7, y7, st7, n7⟩ => ?_
      refine thnF (bta.run _ s7 _ H7 x u _ (I7.pinned (ok1 I7 n7) (Ta.obj _ _ st7)) r7 (step x H7 y7)) fun _ s8 ⟨σ8, H8, I8, hw8, q8⟩ => ?_
      refine thnF (bqa.run _ s8 σ8 H8 _ I8 q8) fun b s9 ⟨H9, I9, q9⟩ => ?_
      have kept : ∀ {s' : Shared} {H' : Hp} {σ9 : L2.St}, Inv (X.blk s3 H3 sc en fp) ([] ++ pinsAt fp s7.heap) σ9 H' s' → ∀ b ∈ fp, ∀ o, s7.heap.get? b = some o → s'.heap.get? b = some o ∧ H' b = none := fun {s' H' σ9} I' b hb o z =>
        have q := I'.pin (b, o) (List.mem_append_right _ (List.mem_append_right _ (mem_pinsAt hb z)))
        ⟨q.1, q.2.1⟩
      -- on to the next turn, from slots that know no less
      have onward : ∀ {σ9 : L2.St} {s' : Shared} {H' : Hp}, Inv (X.blk s3 H3 sc en fp) ([] ++ pinsAt fp s7.heap) σ9 H' s' → (wipe σ (own.map (·.2))).length = σ9.length → (∀ (j : Nat) v, (wipe σ (own.map (·.2)))[j]? = some (some v) → σ9[j]? = some (some v)) → Nx H' →
          ∃ m, m < n ∧ ∃ i H', Inv (X.blk s3 H3 sc en fp) [] (wipe σ (own.map (·.2))) H' s' ∧ tn i s'.heap ∧ (∀ b ∈ fp, H' b = none) ∧ W i m H' := fun {σ9 s' H'} I' hl hk nx => by
        obtain ⟨m', lt, w'⟩ := hNx H' nx
        refine ⟨m', lt, i + 1, H', (I'.unpinned (pins := [])).weak hl hk, Ta.keep _ _ _ st7 fun b hb o z => (kept I' b hb o z).1, fun b hb => ?_, w'⟩
        obtain ⟨o, z, _⟩ := Ta.obj _ _ st7 b hb
        exact (kept I' b hb o z).2
      have len8 : (wipe σ (own.map (·.2))).length = σ8.length := by rw [← hw8, wipe_length]
      have sub8 : ∀ (j : Nat) v, (wipe σ (own.map (·.2)))[j]? = some (some v) → σ8[j]? = some (some v) ∧ j ∉ own.map (·.2) := fun j v z => by
        rw [← hw8] at z
        exact wipe_some z
      match b, q9 with
      | false, q9 => exact onward I9 len8 (fun j v z => (sub8 j v z).1) (by simpa using q9)
      | true, q9 =>
        rw [if_pos rfl] at q9
        refine thnF (bwb.run _ s9 σ8 H9 _ I9 q9) fun yv s10 hy => thnF hy fun kv s11 h11 => ?_
        obtain ⟨kt, gp, un, Jb, H11, rfl, I11, Tb, st11, f11, V, ⟨m1, v1⟩, turn1⟩ := h11
        have ok2 : ∀ {H' : Hp}, (∀ b ∈ gp, H' b = none) → ∀ b ∈ gp, FpOk (X.blk s3 H3 sc en fp) ([] ++ pinsAt fp s7.heap) H' b := fun hn b hb => ⟨hn b hb, (f11 b hb).2⟩
        -- the second clause's walk
        have inner : codeAny (model X.prog X.w) X.A (.compLoop (sx2 e ga ia gb ib ca cb sc p) 1 (.ref kt) (.ref D) en) (fun r s' => match r with
              | .ok _ => ∃ m, m < n ∧ ∃ i H', Inv (X.blk s3 H3 sc en fp) [] (wipe σ (own.map (·.2))) H' s' ∧ tn i s'.heap ∧ (∀ b ∈ fp, H' b = none) ∧ W i m H'
              | .error _ => False) s11 := by
          refine sx_loop1 (fun k s' => ∃ j H', Inv (X.blk s3 H3 sc en fp) ([] ++ pinsAt fp s7.heap) (wipe σ8 vs) H' s' ∧ un j s'.heap ∧ (∀ b ∈ gp, H' b = none) ∧ V j k H') ?_ m1 ⟨0, H11, I11.weak (wipe_length _ _) (fun j v z => (wipe_some z).1), st11, fun b hb => (f11 b hb).1, v1⟩
          rintro k s12 ⟨j, H12, I12, st12, n12, v12⟩
          rcases turn1 j k H12 v12 with ⟨stop1, nx1⟩ | ⟨go1, Nv, hNv, step1⟩
          · refine thnF (Tb.done (X.blk s3 H3 sc en fp) rfl rfl rfl calm j _ s12 (wipe σ8 vs) H12 (fun _ _ => False) I12 (ok2 n12) st12 stop1) fun r s13 ⟨hr, I13⟩ => ?_
            subst hr
            exact onward I13 (len8.trans (wipe_length σ8 vs).symm) (fun j v z => by
              rw [wipe_out fun hm => (sub8 j v z).2 (sub j hm)]
              exact (sub8 j v z).1) nx1
          · refine thnF (Tb.item (X.blk s3 H3 sc en fp) rfl rfl rfl calm j _ s12 (wipe σ8 vs) H12 (fun _ _ => False) I12 (ok2 n12) st12 go1) fun r s13 ⟨u1, hr, h13⟩ => ?_
            subst hr
            refine thnF h13 fun _ s14 ⟨x1, H14, I14, r14, y14, st14, n14⟩ => ?_
            refine thnF (btb.run _ s14 (wipe σ8 vs) H14 x1 u1 _ (I14.pinned (ok2 n14) (Tb.obj _ _ st14)) r14 (step1 x1 H14 y14)) fun _ s15 ⟨σ15, H15, I15, hw15, q15⟩ => ?_
            refine thnF (bqb.run _ s15 σ15 H15 _ I15 q15) fun b1 s16 ⟨H16, I16, q16⟩ => ?_
            have next1 : ∀ {s' : Shared} {H' : Hp}, Inv (X.blk s3 H3 sc en fp) (([] ++ pinsAt fp s7.heap) ++ pinsAt gp s14.heap) σ15 H' s' → Nv H' → ∃ m, m < k ∧ ∃ j H', Inv (X.blk s3 H3 sc en fp) ([] ++ pinsAt fp s7.heap) (wipe σ8 vs) H' s' ∧ un j s'.heap ∧ (∀ b ∈ gp, H' b = none) ∧ V j m H' := fun {s' H'} I' nv => by
              obtain ⟨m', lt, w'⟩ := hNv H' nv
              have same : ∀ b ∈ gp, ∀ o, s14.heap.get? b = some o → s'.heap.get? b = some o ∧ H' b = none := fun b hb o z =>
                have q := I'.pin (b, o) (List.mem_append_right _ (List.mem_append_right _ (mem_pinsAt hb z)))
                ⟨q.1, q.2.1⟩
              refine ⟨m', lt, j + 1, H', I'.unpinned.weak (by rw [← hw15, wipe_length]) (fun j v z => by rw [← hw15] at z; exact (wipe_some z).1), Tb.keep _ _ _ st14 fun b hb o z => (same b hb o z).1, fun b hb => ?_, w'⟩
              obtain ⟨o, z, _⟩ := Tb.obj _ _ st14 b hb
              exact (same b hb o z).2
            match b1, q16 with
            | false, q16 => exact next1 I16 (by simpa using q16)
            | true, q16 =>
              rw [if_pos rfl] at q16
              refine thnF (bte.run _ s16 σ15 H16 _ I16 q16) fun yv s17 ⟨y, H17, I17, r17, c, S, k0, ey, hD17, room, nv⟩ => ?_
              subst ey
              refine thnF (mt_sadd (X := (X.blk s3 H3 sc en fp)) _ s17 σ15 H17 (.ref D) [.int c] (.ref D) [yv] (fun _ H => Nv H) I17 rfl (.cons r17 .nil) ⟨D, c, S, k0, rfl, rfl, hD17, room, nv⟩) fun _ s18 ⟨_, H18, I18, _, nv'⟩ => next1 I18 nv'
        exact sx_start1 inner (Tb.self X.A 0 _ _ _ st11 inner)
  exact PpSet.codeAny_compStart_set outer (Ta.self X.A 0 _ _ _ st4 outer)
end
end L2

namespace L2
open PySem PySem.Spec PyProof.Rows
section
variable {P : Program} {w : World} {A : Around} {E : Value → Shared → Prop} {s : Shared} {a : Addr}
/-- sorted(a set of whole numbers), however many -/
theorem sorted_setA {S : Int → Bool} {n : Nat} {Q : Value → Shared → Prop} (R : SetR w s.heap a S n) (hh : A.handled = none) (hn : n ≤ 100000)
    (hQ : ∀ s' p (out : List Value) (c : Nat) (ns : List Int), (∀ b o, s.heap.get? b = some o → s'.heap.get? b = some o) → s'.gens = s.gens → s'.os = s.os → s.heap.objs.size ≤ p →
      s'.heap.get? p = some (seqObj "list" out.toArray c) → IntsAre out ns → ns.Pairwise (· < ·) → (∀ k, k ∈ ns ↔ S k = true) → ns.length = n → Q (.ref p) s') :
    wpAny (model P w) A (call (.builtin "sorted") [.ref a]) Q E s := by
  obtain ⟨o, es, ep, t, ho, hex, hd, g, nd, hm, hb, hf, hsz, hr, hl⟩ := R
  refine Calls.call_function_entry kind_sorted plain_sorted entry_sorted (args_sorted1 _) ?_
  unfold Builtin.«sorted»
  refine wpAny_bind (m := checkCount "sorted" 1 1 _) (wpAny_pure ?_)
  refine wpAny_bind (collect_set (A := A.in1) hh ⟨o, ho, hex.1, hd⟩ hf hb hr hl fun s1 vs k1 hz g1 o1 pm => ?_)
  have vn : vs.length = n := by rw [pm.length_eq, List.length_map, Array.length_toList]; exact hsz
  have hI : IntsAre vs (vs.map SrtO.iv) := SrtO.ints_iv fun v hv => by
    obtain ⟨e, he, q⟩ := List.mem_map.mp (pm.mem_iff.mp hv)
    obtain ⟨k, tk, h1, _⟩ := g e he
    exact ⟨k, tk, by rw [← q]; exact h1⟩
  have pk : (vs.map SrtO.iv).Perm (es.toList.map keyOf) := by
    have q := pm.map SrtO.iv
    rw [List.map_map] at q
    have e : es.toList.map (SrtO.iv ∘ fun e => e.2) = es.toList.map keyOf := List.map_congr_left fun e he => by
      obtain ⟨k, tk, h1, _⟩ := g e he
      show SrtO.iv e.2 = keyOf e
      unfold keyOf
      rw [h1]; rfl
    exact e ▸ q
  refine wpAny_bind (wpAny_newList ?_ (by rw [vn, sizeLine_eq]; omega))
  have hoL : (s1.heap.push (seqObj "list" vs.toArray 0)).get? s1.heap.objs.size = some (seqObj "list" vs.toArray 0) := Heap.get?_push_size _ rfl
  refine wpAny_bind (wpAny_holding (wpAny_call_entry slot_list_sort ⟨_, hoL, rfl⟩ entry_list_sort
    (SrtO.list_sort_ord SrtO.swo_int hoL (by rw [vn, sizeLine_eq]; omega) (fun h2 => SrtO.ints_sortable hI h2) fun out h1 h2 => ⟨_, rfl, ?_⟩) (args_list_sort _)))
  obtain ⟨a1, a2, a3⟩ := SrtO.ints_out hI h1 h2
  obtain ⟨c, hc⟩ := sortedHeap_at (vs := vs) (out := out.toArray) hoL
  have pn : (out.map SrtO.iv).Perm (es.toList.map keyOf) := a2.trans pk
  refine wpAny_pure ⟨_, rfl, hQ _ s1.heap.objs.size out c _ (fun b u e => ?_) g1 o1 hz hc a1 (lt_of_le_nodup _ a3 (pn.nodup_iff.mpr nd)) (fun k => by rw [pn.mem_iff, ← hm k]) ?_⟩
  · have q := k1 b u e
    have lt := Heap.lt_size q
    show (sortedHeap (s1.heap.push (seqObj "list" vs.toArray 0)) s1.heap.objs.size vs out.toArray).get? b = some u
    rw [sortedHeap_old (Nat.ne_of_lt lt) (by rw [size_push']; exact Nat.lt_succ_of_lt lt)]
    exact Heap.get?_push_of_some _ q
  · rw [pn.length_eq, List.length_map, Array.length_toList]; exact hsz
end
def rSortedSetA (w : World) : List V → Hp → VK → Prop := fun vs H Q => ∃ (a : Addr) (S : Int → Bool) (n : Nat), vs = [V.ref a] ∧ H a = some (SetO w a S n) ∧ n ≤ 100000 ∧
  ∀ (ns : List Int) (p : Addr), ns.Pairwise (· < ·) → (∀ k : Int, k ∈ ns ↔ S k = true) → H p = none → Q (.ref p) (upd H p (.lst (ns.map V.int)))
section
variable {X : Cx}
theorem cr_sortedSetA (hc : X.calm = true) : CallR X (.builtin "sorted") (rSortedSetA X.w) := by
  intro pins s σ H vs us Q I r h
  obtain ⟨a, S, n, rfl, ha, hn, q⟩ := h
  have R := setO_get I ha
  rw [Vals.ref1 r]
  refine sorted_setA R (I.ok.hd hc) hn fun s' p out c ns k g o hp hg hi hs hm hl => ?_
  have hlen : (ns.map V.int).length ≤ sizeLine := by rw [List.length_map, hl, sizeLine_eq]; omega
  have np : H p = none := I.hok.fresh hp
  have J : Inv X pins σ (upd H p (.lst (ns.map V.int))) { s with heap := s'.heap, gens := s'.gens, drawn := s'.drawn, toks := s'.toks } :=
    I.call (ch := []) (Un.laid k hp np) (I.hok.laid k hp ⟨hlen, out, c, vals_of_ints hi, hg⟩) (by rw [g]; exact I.bare) (fun _ z => nomatch z)
  have e : s' = { s with heap := s'.heap, gens := s'.gens, drawn := s'.drawn, toks := s'.toks } := by
    obtain ⟨_, _, _, _, _⟩ := s'
    obtain ⟨_, _, _, _, _⟩ := s
    cases o
    rfl
  rw [e]
  exact ⟨.ref p, _, J, rfl, q ns p hs hm np⟩
end
end L2
/-! Sp1: slices of a list with a step. -/
namespace Cs
open PySem L2
theorem paired_at {α β : Type} {R : α → β → Prop} : ∀ {xs : List α} {ys : List β}, Paired R xs ys → ∀ i : Nat, (xs[i]? = none ∧ ys[i]? = none) ∨ ∃ x y, xs[i]? = some x ∧ ys[i]? = some y ∧ R x y
  | [], [], _, i => .inl ⟨by simp, by simp⟩
  | x :: xs, y :: ys, .cons r t, 0 => .inr ⟨x, y, rfl, rfl, r⟩
  | x :: xs, y :: ys, .cons r t, i + 1 => by simpa using paired_at t i
theorem paired_pick {α β : Type} {R : α → β → Prop} {xs : List α} {ys : List β} (h : Paired R xs ys) : ∀ is : List Nat, Paired R (is.filterMap (xs[·]?)) (is.filterMap (ys[·]?))
  | [] => .nil
  | i :: is => by
    rcases paired_at h i with ⟨e1, e2⟩ | ⟨x, y, e1, e2, r⟩
    · rw [List.filterMap_cons_none e1, List.filterMap_cons_none e2]
      exact paired_pick h is
    · rw [List.filterMap_cons_some e1, List.filterMap_cons_some e2]
      exact .cons r (paired_pick h is)
theorem pick_arr (its : List Value) (lo hi : Option Int) (k : Int) : slicePick its.toArray lo hi (some k) = (pickL its lo hi k).toArray := by
  unfold slicePick pickL
  simp
def SlS (X : Cx) (k : Int) (r : V → Option Int → Option Int → Hp → VK → Prop) : Prop :=
  ∀ (pins : List (Addr × Obj)) (s : Shared) (σ : L2.St) (H : Hp) (x : V) (v vl vu vs : Value) (lo hi : Option Int) (sl : Addr) (Q : VK), Inv X pins σ H s → RelV x v → s.heap.IsSliceOf sl vl vu vs → IsPart vl lo → IsPart vu hi → IsPart vs (some k) → r x lo hi H Q →
    ∃ T id, typeLookup (.type T) "__getitem__" = pure (some (.builtin id)) ∧ s.TypeIs v T ∧ wpAny (model X.prog X.w) X.A (getItem v (.ref sl)) (EP X pins σ Q) X.xe s
section
variable {X : Cx} {e : Expr} {te : TE} {lo hi : Option Expr} {tl th : TO} {pos p2 p3 : Pos} {j : Nat} {k : Int}
open PySem.Spec PyProof.Rows in
theorem pe_sliceS {r : V → Option Int → Option Int → Hp → VK → Prop} (hr : SlS X k r) (he : PE X e te) (hl : PO X lo tl) (hu : PO X hi th) : PE X (.Subscript e (.Slice lo hi (some (.Constant (.int k) j p3)) p2) pos) (tSl r te tl th) := by
  refine ⟨fun pins s σ H Q I h => ?_⟩
  refine Subscript_ (thn (he.run pins s σ H _ I h) fun v s1 ⟨x, H1, I1, r1, q1⟩ => ?_)
  refine wpAny_Slice (thn (hl.run pins s1 σ H1 _ I1 q1) fun vl s2 ⟨l, H2, I2, pl, q2⟩ => thn (hu.run pins s2 σ H2 _ I2 q2) fun vu s3 ⟨u, H3, I3, pu, q3⟩ => ?_)
  refine thn ((po_some (pe_int (X := X) (i := k) (j := j) (pos := p3))).run pins s3 σ H3 (fun o H4 => o = some k ∧ H4 = H3) I3 ⟨k, rfl, rfl, rfl⟩) fun vs s4 ⟨o, H4, I4, pst, eo, eh⟩ => ?_
  subst eo; subst eh
  have I5 : Inv X pins σ H4 { s4 with heap := s4.heap.push { cls := .type "slice", data := .fields #[vl, vu, vs] } } := I4.kept (t' := s4.toks) fun b ob q => Heap.get?_push_of_some _ q
  obtain ⟨T, id, hT, ht, hg⟩ := hr pins { s4 with heap := s4.heap.push { cls := .type "slice", data := .fields #[vl, vu, vs] } } σ H4 x v vl vu vs l u s4.heap.objs.size Q I5 r1 (Heap.IsSliceOf.new ..) pl pu pst q3
  show wpAny (model X.prog X.w) X.A (subscriptTail e (.Slice lo hi (some (.Constant (.int k) j p3)) p2) v (.ref s4.heap.objs.size)) (EP X pins σ Q) X.xe { s4 with heap := s4.heap.push { cls := .type "slice", data := .fields #[vl, vu, vs] } }
  exact tail_any (ops := [v, .ref s4.heap.objs.size]) ht hT hg (by with_unfolding_all rfl)
def rSlS (K : PySem.W.Frag) (k : Int) : V → Option Int → Option Int → Hp → VK → Prop := fun x lo hi H Q => ∃ a xs, x = .ref a ∧ SqL K H a xs ∧ (pickL xs lo hi k).length ≤ xs.length ∧ ∀ p, H p = none → Q (.ref p) (upd H p (.lst (pickL xs lo hi k)))
open PySem.Spec PyProof.Rows in
theorem sl_listS (hk : k ≠ 0) : SlS X k (rSlS X.K k) := by
  intro pins s σ H x v vl vu vs lo hi sl Q I rx hs pl pu pst h
  obtain ⟨a, xs, rfl, hx, hle, q⟩ := h
  cases rx
  obtain ⟨its, r, ht, hz⟩ := I.list hx
  have hlen := r.length
  refine ⟨"list", _, slot_list_getitem.lookup, ht.isList.typeIs, ?_⟩
  refine wpAny_getItem_list_slice ht.isList hs pl pu pst (fun e => hk (Option.some.inj e)) ?_ (by rw [List.size_toArray] <;> omega)
  rw [pick_arr]
  refine ⟨.ref s.heap.objs.size, _, I.laid (t' := s.toks) (o := .lst (pickL xs lo hi k)) (fun b ob q => Heap.get?_push_of_some _ q) (Nat.le_refl _) ?_, rfl, q _ (I.hok.fresh (Nat.le_refl _))⟩
  refine ⟨Nat.le_trans hle hz, _, 0, ?_, Heap.get?_push_size _ rfl⟩
  unfold pickL
  rw [hlen]
  exact paired_pick r _
theorem fzs_at {K : PySem.W.Frag} {mg : Str → Option Value} {Hf : Hp} : ∀ {ds : List D} {vs : List V}, Fzs K mg Hf ds vs → ∀ i : Nat, (ds[i]? = none ∧ vs[i]? = none) ∨ ∃ d v, ds[i]? = some d ∧ vs[i]? = some v ∧ Fzs K mg Hf [d] [v]
  | _, _, .nil, i => .inl ⟨by simp, by simp⟩
  | d :: _, v :: _, .cons h t, 0 => .inr ⟨d, v, rfl, rfl, .cons h .nil⟩
  | _ :: _, _ :: _, .cons h t, i + 1 => by simpa using fzs_at t i
theorem fzs_pickI {K : PySem.W.Frag} {mg : Str → Option Value} {Hf : Hp} {ds : List D} {vs : List V} (h : Fzs K mg Hf ds vs) : ∀ is : List Nat, Fzs K mg Hf (is.filterMap (ds[·]?)) (is.filterMap (vs[·]?))
  | [] => .nil
  | i :: is => by
    rcases fzs_at h i with ⟨e1, e2⟩ | ⟨x, y, e1, e2, r⟩
    · rw [List.filterMap_cons_none e1, List.filterMap_cons_none e2]
      exact fzs_pickI h is
    · rw [List.filterMap_cons_some e1, List.filterMap_cons_some e2]
      cases r with
      | cons r _ => exact .cons r (fzs_pickI h is)
theorem pick_len {ds : List D} {vs : List V} (l : ds.length = vs.length) (lo hi : Option Int) (k : Int) : (pickL ds lo hi k).length = (pickL vs lo hi k).length := by
  unfold pickL
  rw [l]
  generalize sliceRange _ _ _ = is
  induction is with
  | nil => rfl
  | cons i is ih =>
    by_cases hi : i < ds.length
    · rw [List.filterMap_cons_some (List.getElem?_eq_getElem hi), List.filterMap_cons_some (List.getElem?_eq_getElem (l ▸ hi)), List.length_cons, List.length_cons, ih]
    · rw [List.filterMap_cons_none (List.getElem?_eq_none (by omega)), List.filterMap_cons_none (List.getElem?_eq_none (by omega)), ih]
def rSK (X : Cx) (k : Int) : V → Option Int → Option Int → Hp → VK → Prop := fun x lo hi H Q => ∃ rs d1 d, St X.K X.mg H rs ∧ (d1, x) ∈ rs ∧ slkD k d1 lo hi = some d ∧ ∀ v H', St X.K X.mg H' ((d, v) :: rs) → Q v H'
theorem sl_anyS (hk : k ≠ 0) : SlS X k (rSK X k) := by
  intro pins s σ H x v vl vu vs lo hi sl Q I rx hs pl pu pst ⟨rs, d1, d, ⟨Hf, fp, S⟩, m, e, q⟩
  unfold slkD at e
  split at e
  · obtain ⟨z, rfl⟩ := guardL_some e
    rw [Bool.and_eq_true] at z
    obtain ⟨a, ws, rfl, q1, l1, w, _⟩ := S.lst m
    refine sl_listS hk pins s σ H _ v vl vu vs lo hi sl Q I rx hs pl pu pst ⟨a, ws, rfl, .inl (.inl q1), by have := of_decide_eq_true z.2; rw [pick_len l1] at this; omega, fun p hp => q _ _ (S.newL hp ?_)⟩
    have f := fzs_pickI (w z.1)
    unfold pickL
    rw [l1]
    exact f _
  · obtain ⟨z, rfl⟩ := guardL_some e
    rw [Bool.and_eq_true] at z
    obtain ⟨a, ws, rfl, q1, l1, w, _⟩ := S.lkd m
    refine sl_listS hk pins s σ H _ v vl vu vs lo hi sl Q I rx hs pl pu pst ⟨a, ws, rfl, q1, by have := of_decide_eq_true z.2; rw [pick_len l1] at this; omega, fun p hp => q _ _ (S.newL hp ?_)⟩
    have f := fzs_pickI (w z.1)
    unfold pickL
    rw [l1]
    exact f _
  · cases e
end
end Cs
/-! Cs8: arguments, displays, calls, tests, slices. -/
namespace Cs
open PySem L2
section
variable {X : Cx} {C : Ctx} {W : WX} {Γ : Gam} {e a b : Expr} {es : List Expr} {c c1 c2 c3 : CE} {cs : CEs} {pos : Pos} {σ : L2.St} {H : Hp} {F G : Roots} {ρ ρ' : Env} {d : D} {v : V} {K : PySem.W.Frag} {mg : Str → Option Value}
/-! ### arguments -/
theorem snd_nil : PA X [] (tEs X C W .nil) := pa_imp pa_nil fun σ H Q ⟨F, ρ, ss, h⟩ => by
  rw [evEs] at h
  exact h [] H rfl ss
theorem snd_cons (h1 : PE X e (tEv X C W c)) (h2 : PA X es (tEs X C W cs)) (hs : starEach (e :: es) X.env = (false, eval e X.env) :: starEach es X.env) : PA X (e :: es) (tEs X C W (.cons c cs)) :=
  pa_imp (pa_cons h1 h2 hs) fun σ H Q ⟨F, ρ, ss, h⟩ => by
    rw [evEs, R.thn_bind] at h
    refine ⟨F, ρ, ss, h.mono (fun p hp v H1 s1 => ?_) fun _ _ z => z⟩
    rw [R.thn_map] at hp
    refine ⟨(p.1, v) :: F, p.2, s1, hp.mono (fun q hq vs H2 l s2 => ?_) fun _ _ z => z.sub (List.sublist_cons_self _ _)⟩
    exact hq (v :: vs) H2 (by simp [l]) (s2.permF List.perm_middle)
theorem rnd_nil : PA X [] (tRs X C W .nil) := pa_imp pa_nil fun σ H Q ⟨F, ρ, ss, h⟩ => by
  rw [evRs] at h
  exact h [] [] H .nil ss
theorem rnd_cons (h1 : PE X e (tRf X C W c)) (h2 : PA X es (tRs X C W cs)) (hs : starEach (e :: es) X.env = (false, eval e X.env) :: starEach es X.env) : PA X (e :: es) (tRs X C W (.cons c cs)) :=
  pa_imp (pa_cons h1 h2 hs) fun σ H Q ⟨F, ρ, ss, h⟩ => by
    rw [evRs, R.thn_bind] at h
    refine ⟨F, ρ, ss, h.mono (fun p hp v T H1 k s1 => ?_) fun _ _ z => z⟩
    rw [R.thn_map] at hp
    refine ⟨T ++ F, p.2, s1, hp.mono (fun q hq vs T2 H2 k2 s2 => ?_) fun _ _ z => z.sub (List.sublist_append_right _ _)⟩
    cases hr : p.1 with
    | slot i =>
      rw [hr] at k hq
      obtain ⟨k1, rfl⟩ := k
      exact hq (v :: vs) T2 H2 (.slot k1 k2) s2
    | tmp d =>
      rw [hr] at k hq
      have k1 : T = [(d, v)] := k
      subst k1
      exact hq (v :: vs) ((d, v) :: T2) H2 (.tmp k2) (s2.permF List.perm_middle)
theorem gets_ms (s : SS K mg H G ρ σ) : ∀ {rs : List Ref} {vs : List V} {T : Roots} {ds : List D}, RvT σ rs vs T → List.Subset T G → Ref.gets ρ rs = some ds → Ms (G ++ rts ρ σ) ds vs
  | _, _, _, _, .nil, _, e => by cases e; trivial
  | _, _, _, _, .slot (i := i) (rs := rs) k r, sb, e => by
    unfold Ref.gets at e
    split at e
    · rename_i d ds e1 e2
      cases e
      obtain ⟨w, q1, q2⟩ := s.slot e1
      rw [k] at q1
      cases q1
      exact ⟨List.mem_append_right _ q2, gets_ms s r sb e2⟩
    · cases e
  | _, _, _, _, .tmp (d := d1) (rs := rs) r, sb, e => by
    unfold Ref.gets at e
    split at e
    · rename_i d ds e1 e2
      cases e
      cases e1
      exact ⟨List.mem_append_left _ (sb List.mem_cons_self), gets_ms s r (fun _ h => sb (List.mem_cons_of_mem _ h)) e2⟩
    · cases e
theorem lend_ok : ∀ {rs : List Ref} {vs : List V} {T F : Roots} {ρ ρ' : Env} {ds : List D}, RvT σ rs vs T → SS K mg H (T ++ F) ρ σ → lend rs ρ = some (ds, ρ') → ds.length = vs.length ∧ SS K mg H (ds.zip vs ++ F) ρ' σ
  | _, _, _, _, _, _, _, .nil, s, e => by cases e; exact ⟨rfl, s⟩
  | _, _, _, F, _, _, _, .tmp (d := d) (v := v) r, s, e => by
    obtain ⟨p, e1, e2⟩ := Option.map_eq_some_iff.mp (show (lend _ _).map (fun p => (d :: p.1, p.2)) = _ from e)
    cases e2
    obtain ⟨l, s2⟩ := lend_ok (F := (d, v) :: F) r (s.permF List.perm_middle.symm) e1
    exact ⟨by simp [l], s2.permF List.perm_middle⟩
  | _, _, _, F, ρ, _, _, .slot (i := i) (v := v) (T := T) k r, s, e => by
    unfold lend at e
    split at e
    · rename_i d he
      split at e
      · rename_i z
        obtain ⟨p, e1, e2⟩ := Option.map_eq_some_iff.mp e
        cases e2
        obtain ⟨w, q1, s1⟩ := s.var he z
        rw [k] at q1
        cases q1
        obtain ⟨l, s2⟩ := lend_ok (F := (d, v) :: F) r (s1.permF List.perm_middle.symm) e1
        exact ⟨by simp [l], s2.permF List.perm_middle⟩
      · obtain ⟨p, e1, e2⟩ := Option.map_eq_some_iff.mp e
        cases e2
        obtain ⟨w, q1, s1⟩ := s.take he
        rw [k] at q1
        cases q1
        obtain ⟨l, s2⟩ := lend_ok (F := (d, v) :: F) r (s1.permF List.perm_middle.symm) e1
        exact ⟨by simp [l], s2.permF List.perm_middle⟩
    · cases e
theorem back_ok : ∀ {rs : List Ref} {vs : List V} {T F : Roots} {ρ : Env} {ds : List D}, RvT σ rs vs T → SS K mg H (ds.zip vs ++ F) ρ σ → SS K mg H F (back rs ds ρ) σ
  | _, _, _, _, _, ds, .nil, s => by
    have e : ds.zip ([] : List V) = [] := by cases ds <;> rfl
    rw [e] at s
    cases ds <;> exact s
  | _, _, _, _, _, [], .slot k r, s => s
  | _, _, _, _, _, [], .tmp r, s => s
  | _, _, _, F, ρ, d :: ds, .tmp (v := v) (rs := rs) r, s => by
    show SS K mg H F (back rs ds ρ) σ
    exact back_ok r s.drop
  | _, _, _, _, ρ, d :: ds, .slot (i := i) (v := v) k r, s => by
    unfold back
    split
    · exact back_ok r (s.give k)
    · exact back_ok r s.drop

/-! ### displays -/
theorem ent_tup {Q : VK} : tEv X C W (.tup cs) σ H Q → tTup (tEs X C W cs) σ H Q := fun ⟨F, ρ, ss, h⟩ => by
  rw [evE, R.thn_bind] at h
  refine ⟨F, ρ, ss, h.mono (fun p hp vs H1 l s1 => ?_) fun _ _ z => z⟩
  obtain ⟨q, e, k⟩ := R.thn_of hp
  split at e
  · rename_i z
    cases e
    rw [Bool.and_eq_true] at z
    refine ⟨by rw [← l]; exact szOk_le z.2, fun a ha => k (.ref a) _ ⟨s1.wd, ?_⟩⟩
    have st := s1.st
    rw [List.append_assoc] at st
    refine St.newT ?_ (isFzs_frzs _ z.1) ha (St.freezes l st)
    rw [frzs_map, List.length_map]
    exact l
  · cases e
theorem ent_lst {Q : VK} : tEv X C W (.lst cs) σ H Q → tLst (tEs X C W cs) σ H Q := fun ⟨F, ρ, ss, h⟩ => by
  rw [evE, R.thn_bind] at h
  refine ⟨F, ρ, ss, h.mono (fun p hp vs H1 l s1 => ?_) fun _ _ z => z⟩
  obtain ⟨q, e, k⟩ := R.thn_of hp
  split at e
  · rename_i z
    cases e
    refine ⟨by rw [← l]; exact szOk_le z, fun a ha => k (.ref a) _ ⟨s1.wd, ?_⟩⟩
    have st := s1.st
    rw [List.append_assoc] at st
    exact St.newL l ha st
  · cases e

/-! ### calls -/
theorem ent_call {f : Str} {Q : VK} : tEv X C W (.call f cs) σ H Q → tCallSD (spF X.K X.mg (C.fns f)) [] (WE W) (tRs X C W cs) σ H Q := fun ⟨F, ρ, ss, h⟩ => by
  rw [evE, R.thn_bind] at h
  refine ⟨F, ρ, ss, h.mono (fun p hp vs T H1 rv s1 => ?_) fun _ _ z => z⟩
  rw [R.thn_bind] at hp
  obtain ⟨q, e, k⟩ := R.thn_of hp
  obtain ⟨l, s2⟩ := lend_ok rv s1 e
  rw [List.append_nil]
  refine ⟨q.1, F ++ rts q.2 σ, l, by rw [← List.append_assoc]; exact s2.st, ?_⟩
  cases hf : C.fns f q.1 with
  | fail =>
    rw [hf] at k
    exact k.elim
  | ok r =>
    rw [hf] at k
    intro v H' st
    refine k v H' ?_
    have s3 : SS X.K X.mg H' (r.2.zip vs ++ ((r.1, v) :: F)) q.2 σ := ⟨s2.wd, by
      refine st.perm ?_
      rw [← List.append_assoc]
      exact (List.perm_middle (a := (r.1, v)) (l₁ := r.2.zip vs) (l₂ := F)).symm.append_right _⟩
    exact back_ok rv s3
  | exc x ds =>
    rw [hf] at k
    intro cls d H' ws xa st
    refine k cls d H' ws xa ?_
    have s3 : SS X.K X.mg H' (ds.zip vs ++ (x.xs.zip ws ++ F)) q.2 σ := ⟨s2.wd, by
      refine st.perm ?_
      rw [← List.append_assoc, ← List.append_assoc, ← List.append_assoc]
      exact (List.perm_append_comm.append_right _).append_right _⟩
    exact back_ok rv s3
theorem snd_call {f : Str} {p : Pos} (g : Gd Γ X C W) (hf : f ∈ Γ.fl) (hg : Gl X f) (ha : PA X (e :: es) (tRs X C W cs)) (hdb : (f == ("__debug__" : Str)) = false)
    (he : starEach (e :: es) X.env = (false, eval e X.env) :: starEach es X.env) (hpl : (backTo pos (starEach es X.env)).any (·.1) = false) : PE X (.Call (.Name f p) (e :: es) [] pos) (tEv X C W (.call f cs)) := by
  obtain ⟨j, fa, fd, ps, h1, h2, h3, h4, h5⟩ := g.fns f hf
  exact pe_imp (pe_callSD h5 h4 hg h1 h2 h3 .nil (fun σ => passAt g.tk σ) ha hdb he hpl) fun _ _ _ => ent_call
theorem snd_call0 {f : Str} {p : Pos} (g : Gd Γ X C W) (hf : f ∈ Γ.fl) (hg : Gl X f) (hdb : (f == ("__debug__" : Str)) = false) : PE X (.Call (.Name f p) [] [] pos) (tEv X C W (.call f .nil)) := by
  obtain ⟨j, fa, fd, ps, h1, h2, h3, h4, h5⟩ := g.fns f hf
  refine ⟨fun pins s σ H Q I h => ?_⟩
  obtain ⟨F, ρ, ss, h⟩ := ent_call h
  rw [evRs] at h
  have h := h [] [] H .nil ss
  refine wpAny_Call_Name_kw (ld_glob I hg h1 ?_ hdb)
  exact PySem.W.callWith_K0 I.kIn h2 (run_fnSD (us := []) (vs := []) h5 h4 h3 .nil (passAt g.tk σ) I .nil h)
theorem ent_bi {b : BI} {Q : VK} : tEv X C W (.bi b cs) σ H Q → tCB (rBi X b) (tRs X C W cs) σ H Q := fun ⟨F, ρ, ss, h⟩ => by
  rw [evE, R.thn_bind] at h
  refine ⟨F, ρ, ss, h.mono (fun p hp vs T H1 rv s1 => ?_) fun _ _ z => z⟩
  obtain ⟨q, e, k⟩ := R.thn_of hp
  obtain ⟨d, e1, e2⟩ := Option.map_eq_some_iff.mp e
  obtain ⟨ds, e3, e4⟩ := Option.bind_eq_some_iff.mp e1
  subst e2
  exact ⟨_, ds, d, s1.st, gets_ms s1 rv (List.subset_append_left _ _) e3, e4, fun v H' st => k v H' (SS.fin s1.wd st (List.sublist_append_right _ _))⟩
theorem snd_bi {b : BI} {p : Pos} (g : Gd Γ X C W) (hb : biN b ∈ Γ.bl) (hg : Gl X (biN b)) (ha : PA X (e :: es) (tRs X C W cs))
    (he : starEach (e :: es) X.env = (false, eval e X.env) :: starEach es X.env) (hpl : (backTo pos (starEach es X.env)).any (·.1) = false) : PE X (.Call (.Name (biN b) p) (e :: es) [] pos) (tEv X C W (.bi b cs)) := by
  refine pe_imp ?_ fun _ _ _ => ent_bi
  have hm := g.blt _ hb
  have hv := biN_boot b
  obtain ⟨hn, hd⟩ := biN_name b
  have hc := cr_bi g.calm b
  cases b <;> first
    | exact pe_callB hc hg hm hv ha hn hd he hpl
    | exact pe_callTy hc hg hm hv ha hn hd he hpl

/-! ### subscripts, slices, signs -/
theorem SS.isInt (s : SS K mg H ((d, v) :: F) ρ σ) {i : Int} (e : asI d = some i) : v = .int i := by
  cases d with
  | int j =>
    cases e
    obtain ⟨Hf, fp, S⟩ := s.st
    obtain ⟨f, r⟩ := S.at (List.mem_cons_self)
    exact r.1
  | _ => cases e
theorem SS.isBl (s : SS K mg H ((d, v) :: F) ρ σ) {i : Bool} (e : asB d = some i) : v = .bl i := by
  cases d with
  | bl j =>
    cases e
    obtain ⟨Hf, fp, S⟩ := s.st
    obtain ⟨f, r⟩ := S.at (List.mem_cons_self)
    exact r.1
  | _ => cases e
theorem snd_ono : PO X none (tOo X C W .none) := ⟨fun pins s σ H Q I h => by
  obtain ⟨F, ρ, ss, h⟩ := h
  rw [evO] at h
  exact po_none.run pins s σ H Q I (h H ss)⟩
theorem snd_osm (he : PE X e (tEv X C W c)) : PO X (some e) (tOo X C W (.some c)) := ⟨fun pins s σ H Q I h => by
  obtain ⟨F, ρ, ss, h⟩ := h
  rw [evO, R.thn_bind] at h
  refine (po_some he).run pins s σ H Q I ⟨F, ρ, ss, h.mono (fun p hp v H1 s1 => ?_) fun _ _ z => z⟩
  obtain ⟨q, e, k⟩ := R.thn_of hp
  obtain ⟨i, e1, e2⟩ := Option.map_eq_some_iff.mp e
  subst e2
  exact ⟨i, s1.isInt e1, k H1 s1.drop⟩⟩
theorem snd_slc {lo hi : Option Expr} {l u : CO} {p2 : Pos} (h1 : PE X e (tRf X C W c)) (h2 : PO X lo (tOo X C W l)) (h3 : PO X hi (tOo X C W u)) : PE X (.Subscript e (.Slice lo hi none p2) pos) (tEv X C W (.slc c l u)) :=
  pe_imp (pe_slice sl_any h1 h2 h3) fun σ H Q ⟨F, ρ, ss, h⟩ => by
    rw [evE, R.thn_bind] at h
    refine ⟨F, ρ, ss, h.mono (fun p hp v T H1 k s1 => ?_) fun _ _ z => z⟩
    rw [R.thn_bind] at hp
    refine ⟨T ++ F, p.2, s1, hp.mono (fun q hq H2 s2 => ?_) fun _ _ z => z.sub (List.sublist_append_right _ _)⟩
    rw [R.thn_bind] at hq
    refine ⟨T ++ F, q.2, s2, hq.mono (fun r hr H3 s3 => ?_) fun _ _ z => z.sub (List.sublist_append_right _ _)⟩
    obtain ⟨pp, e, kk⟩ := R.thn_of hr
    obtain ⟨d, e1, e2⟩ := Option.map_eq_some_iff.mp e
    obtain ⟨x, e3, e4⟩ := Option.bind_eq_some_iff.mp e1
    subst e2
    refine ⟨_, x, d, s3.st, ?_, e4, fun v H' st => kk v H' (SS.fin s3.wd st (List.sublist_append_right _ _))⟩
    have m := rf_mem s3 k e3
    simp only [List.mem_append] at m ⊢
    rcases m with m | m
    · exact .inl (.inl m)
    · exact .inr m
theorem snd_slk {k0 : Int} {j : Nat} {p3 : Pos} (hk0 : k0 ≠ 0) {lo hi : Option Expr} {l u : CO} {p2 : Pos} (h1 : PE X e (tRf X C W c)) (h2 : PO X lo (tOo X C W l)) (h3 : PO X hi (tOo X C W u)) : PE X (.Subscript e (.Slice lo hi (some (.Constant (.int k0) j p3)) p2) pos) (tEv X C W (.slk c l u k0)) :=
  pe_imp (pe_sliceS (sl_anyS hk0) h1 h2 h3) fun σ H Q ⟨F, ρ, ss, h⟩ => by
    rw [evE, R.thn_bind] at h
    refine ⟨F, ρ, ss, h.mono (fun p hp v T H1 k s1 => ?_) fun _ _ z => z⟩
    rw [R.thn_bind] at hp
    refine ⟨T ++ F, p.2, s1, hp.mono (fun q hq H2 s2 => ?_) fun _ _ z => z.sub (List.sublist_append_right _ _)⟩
    rw [R.thn_bind] at hq
    refine ⟨T ++ F, q.2, s2, hq.mono (fun r hr H3 s3 => ?_) fun _ _ z => z.sub (List.sublist_append_right _ _)⟩
    obtain ⟨pp, e, kk⟩ := R.thn_of hr
    obtain ⟨d, e1, e2⟩ := Option.map_eq_some_iff.mp e
    obtain ⟨x, e3, e4⟩ := Option.bind_eq_some_iff.mp e1
    subst e2
    refine ⟨_, x, d, s3.st, ?_, e4, fun v H' st => kk v H' (SS.fin s3.wd st (List.sublist_append_right _ _))⟩
    have m := rf_mem s3 k e3
    simp only [List.mem_append] at m ⊢
    rcases m with m | m
    · exact .inl (.inl m)
    · exact .inr m
theorem snd_idx (h1 : PE X a (tRf X C W c1)) (h2 : PE X b (tRf X C W c2)) (hs : PlainIx b) : PE X (.Subscript a b pos) (tEv X C W (.idx c1 c2)) := pe_imp (pe_ix ix_any h1 h2 hs) fun _ _ _ => ent_idx
theorem snd_bin {op : Operator} (h1 : PE X a (tRf X C W c1)) (h2 : PE X b (tRf X C W c2)) : PE X (.BinOp a op b pos) (tEv X C W (.bin op c1 c2)) := pe_imp (pe_op op_bin h1 h2) fun _ _ _ => ent_bin
theorem snd_cmp {op : CmpOp} (hu : X.A.units + 64 < cLine) (h1 : PE X a (tRf X C W c1)) (h2 : PE X b (tRf X C W c2)) (hm : behindInMarks op b = false) : PE X (.Compare a [op] [b] pos) (tEv X C W (.cmp op c1 c2)) :=
  pe_imp (pe_cmpR (op_cmpA hu) h1 h2 hm) fun _ _ _ => ent_cmp
theorem tnd_cmp {op : CmpOp} (hu : X.A.units + 64 < cLine) (h1 : PE X a (tRf X C W c1)) (h2 : PE X b (tRf X C W c2)) (hm : behindInMarks op b = false) : PT X (.Compare a [op] [b] pos) (tTs X C W (.cmp op c1 c2)) :=
  pt_imp (pt_cmpR (op_cmpA hu) h1 h2 hm) fun _ _ _ => ent_cmpT
theorem snd_neg (h1 : PE X a (tEv X C W c)) : PE X (.UnaryOp .USub a pos) (tEv X C W (.neg c)) := pe_imp (pe_un un_neg h1) fun σ H Q ⟨F, ρ, ss, h⟩ => by
  rw [evE, R.thn_bind] at h
  refine ⟨F, ρ, ss, h.mono (fun p hp v H1 s1 => ?_) fun _ _ z => z⟩
  obtain ⟨q, e, k⟩ := R.thn_of hp
  obtain ⟨i, e1, e2⟩ := Option.map_eq_some_iff.mp e
  subst e2
  exact ⟨i, s1.isInt e1, k _ _ (s1.drop.int _)⟩
/-! ### and, or, not, if -/
variable {t t1 t2 : CT} {rest : List Expr}
theorem snd_ifx {q : Expr} (ht : PT X q (tTs X C W t)) (h1 : PE X a (tEv X C W c1)) (h2 : PE X b (tEv X C W c2)) : PE X (.IfExp q a b pos) (tEv X C W (.ifx t c1 c2)) := pe_imp (pe_ifExp ht h1 h2) fun σ H Q ⟨F, ρ, ss, h⟩ => by
  rw [evE, R.thn_bind] at h
  refine ⟨F, ρ, ss, h.mono (fun p hp H1 s1 => ?_) fun _ _ z => z⟩
  cases hb : p.1 with
  | true =>
    rw [hb, if_pos rfl] at hp
    rw [if_pos rfl]
    exact ⟨F, p.2, s1, hp⟩
  | false =>
    rw [hb, if_neg Bool.false_ne_true] at hp
    rw [if_neg Bool.false_ne_true]
    exact ⟨F, p.2, s1, hp⟩
theorem snd_notv (h1 : PE X a (tEv X C W c)) : PE X (.UnaryOp .Not a pos) (tEv X C W (.notv c)) := pe_imp (pe_not h1) fun σ H Q ⟨F, ρ, ss, h⟩ => by
  rw [evE, R.thn_bind] at h
  refine ⟨F, ρ, ss, h.mono (fun p hp v H1 s1 => ?_) fun _ _ z => z⟩
  obtain ⟨q, e, k⟩ := R.thn_of hp
  obtain ⟨i, e1, e2⟩ := Option.map_eq_some_iff.mp e
  subst e2
  exact ⟨i, s1.isBl e1, k _ _ (s1.drop.bl _)⟩
theorem snd_andv (h1 : PE X a (tEv X C W c1)) (h2 : PE X (.BoolOp .And (b :: rest) pos) (tEv X C W c2)) : PE X (.BoolOp .And (a :: b :: rest) pos) (tEv X C W (.andv c1 c2)) := pe_imp (pe_and h1 h2) fun σ H Q ⟨F, ρ, ss, h⟩ => by
  rw [evE, R.thn_bind] at h
  refine ⟨F, ρ, ss, h.mono (fun p hp v H1 s1 => ?_) fun _ _ z => z⟩
  rw [R.thn_bind] at hp
  obtain ⟨i, e1, k⟩ := R.thn_of hp
  refine ⟨i, s1.isBl e1, ?_⟩
  cases i with
  | true =>
    rw [if_pos rfl] at k ⊢
    exact ⟨F, p.2, s1.drop, k⟩
  | false =>
    rw [if_neg Bool.false_ne_true] at k ⊢
    exact k _ _ (s1.drop.bl _)
theorem snd_orv (h1 : PE X a (tEv X C W c1)) (h2 : PE X (.BoolOp .Or (b :: rest) pos) (tEv X C W c2)) : PE X (.BoolOp .Or (a :: b :: rest) pos) (tEv X C W (.orv c1 c2)) := pe_imp (pe_or h1 h2) fun σ H Q ⟨F, ρ, ss, h⟩ => by
  rw [evE, R.thn_bind] at h
  refine ⟨F, ρ, ss, h.mono (fun p hp v H1 s1 => ?_) fun _ _ z => z⟩
  rw [R.thn_bind] at hp
  obtain ⟨i, e1, k⟩ := R.thn_of hp
  refine ⟨i, s1.isBl e1, ?_⟩
  cases i with
  | true =>
    rw [if_pos rfl] at k ⊢
    exact k _ _ (s1.drop.bl _)
  | false =>
    rw [if_neg Bool.false_ne_true] at k ⊢
    exact ⟨F, p.2, s1.drop, k⟩
theorem snd_one {op : BoolOp} (h1 : PE X a (tEv X C W c)) : PE X (.BoolOp op [a] pos) (tEv X C W c) := pe_one h1
theorem pw_imp {u u' : TT} (h : PW X e u) (i : ∀ σ H Q, u' σ H Q → u σ H Q) : PW X e u' := ⟨fun wh pins s σ H Q I q => h.run wh pins s σ H Q I (i σ H Q q)⟩
theorem wnd_and (h1 : PT X a (tTs X C W t1)) (h2 : PW X (.BoolOp .And (b :: rest) pos) (tTs X C W t2)) : PW X (.BoolOp .And (a :: b :: rest) pos) (tTs X C W (.and t1 t2)) := pw_imp (pw_and h1 h2) fun σ H Q ⟨F, ρ, ss, h⟩ => by
  rw [evT, R.thn_bind] at h
  refine ⟨F, ρ, ss, h.mono (fun p hp H1 s1 => ?_) fun _ _ z => z⟩
  cases hb : p.1 with
  | true =>
    rw [hb, if_pos rfl] at hp
    rw [if_pos rfl]
    exact ⟨F, p.2, s1, hp⟩
  | false =>
    rw [hb, if_neg Bool.false_ne_true] at hp
    rw [if_neg Bool.false_ne_true]
    exact hp H1 s1
theorem wnd_or (h1 : PT X a (tTs X C W t1)) (h2 : PW X (.BoolOp .Or (b :: rest) pos) (tTs X C W t2)) : PW X (.BoolOp .Or (a :: b :: rest) pos) (tTs X C W (.or t1 t2)) := pw_imp (pw_or h1 h2) fun σ H Q ⟨F, ρ, ss, h⟩ => by
  rw [evT, R.thn_bind] at h
  refine ⟨F, ρ, ss, h.mono (fun p hp H1 s1 => ?_) fun _ _ z => z⟩
  cases hb : p.1 with
  | true =>
    rw [hb, if_pos rfl] at hp
    rw [if_pos rfl]
    exact hp H1 s1
  | false =>
    rw [hb, if_neg Bool.false_ne_true] at hp
    rw [if_neg Bool.false_ne_true]
    exact ⟨F, p.2, s1, hp⟩
theorem wnd_one1 (h1 : PT X a (tTs X C W t)) : PW X (.BoolOp .And [a] pos) (tTs X C W t) := pw_and1 h1
theorem wnd_one2 (h1 : PT X a (tTs X C W t)) : PW X (.BoolOp .Or [a] pos) (tTs X C W t) := pw_or1 h1
theorem tnd_not (h1 : PT X a (tTs X C W t)) : PT X (.UnaryOp .Not a pos) (tTs X C W (.not t)) := pt_imp (pt_not h1) fun σ H Q ⟨F, ρ, ss, h⟩ => by
  rw [evT, R.thn_map] at h
  exact ⟨F, ρ, ss, h⟩
theorem tnd_val (h1 : PE X a (tRf X C W c)) (he : ∀ whole, isTrue a X.env whole = (do let v ← whole; standAt a.pos; holding [v] (truthy v))) : PT X a (tTs X C W (.val c)) := pt_imp (pt_truth h1 he) fun σ H Q ⟨F, ρ, ss, h⟩ => by
  rw [evT, R.thn_bind] at h
  refine ⟨F, ρ, ss, h.mono (fun p hp v T H1 k s1 => ?_) fun _ _ z => z⟩
  obtain ⟨q, e, kk⟩ := R.thn_of hp
  obtain ⟨d, e1, e2⟩ := Option.map_eq_some_iff.mp e
  obtain ⟨x, e3, e4⟩ := Option.bind_eq_some_iff.mp e1
  subst e2
  refine ⟨d, tru_any s1.st ?_ e4, kk H1 (s1.sub (List.sublist_append_right _ _))⟩
  have m := rf_mem s1 k e3
  simp only [List.mem_append] at m ⊢
  rcases m with m | m
  · exact .inl (.inl m)
  · exact .inr m
/-! ### a op b op' c -/
theorem ent_chain {op op' : CmpOp} {Q : VK} : tEv X C W (.chain op op' c1 c2 c3) σ H Q → tChain (rC X (cmpD op)) (rC X (cmpD op')) (tEv X C W c1) (tEv X C W c2) (tEv X C W c3) σ H Q := fun ⟨F, ρ, ss, h⟩ => by
  rw [evE, R.thn_bind] at h
  refine ⟨F, ρ, ss, h.mono (fun p hp x H1 s1 => ?_) fun _ _ z => z⟩
  rw [R.thn_bind] at hp
  refine ⟨(p.1, x) :: F, p.2, s1, hp.mono (fun q hq y H2 s2 => ?_) fun _ _ z => z.sub (List.sublist_cons_self _ _)⟩
  rw [R.thn_bind] at hq
  obtain ⟨k, e, h3⟩ := R.thn_of hq
  refine ⟨_, p.1, q.1, k, s2.st, List.mem_cons_of_mem _ List.mem_cons_self, List.mem_cons_self, e, k, rfl, ?_⟩
  cases k with
  | false =>
    rw [if_neg Bool.false_ne_true] at h3 ⊢
    exact h3 _ _ ((s2.sub ((List.sublist_cons_self _ _).trans (List.sublist_cons_self _ _))).bl _)
  | true =>
    rw [if_pos rfl, R.thn_bind] at h3
    rw [if_pos rfl]
    refine ⟨(q.1, y) :: F, q.2, s2.sub ((List.sublist_cons_self _ _).cons_cons _), h3.mono (fun r hr w H3 s3 => ?_) fun _ _ z => z.sub (List.sublist_cons_self _ _)⟩
    obtain ⟨pp, e1, kk⟩ := R.thn_of hr
    obtain ⟨b, e2, e3⟩ := Option.map_eq_some_iff.mp e1
    subst e3
    exact ⟨_, q.1, r.1, b, s3.st, List.mem_cons_of_mem _ List.mem_cons_self, List.mem_cons_self, e2, kk _ _ ((s3.sub ((List.sublist_cons_self _ _).trans (List.sublist_cons_self _ _))).bl _)⟩
theorem snd_chain {e3 : Expr} {op op' : CmpOp} (hu : X.A.units + 64 < cLine) (h1 : PE X a (tEv X C W c1)) (h2 : PE X b (tEv X C W c2)) (h3 : PE X e3 (tEv X C W c3)) (hm : lastMarks [op, op'] [b, e3] = false) :
    PE X (.Compare a [op, op'] [b, e3] pos) (tEv X C W (.chain op op' c1 c2 c3)) := pe_imp (pe_chain (op_cmpA hu) (op_cmpA hu) h1 h2 h3 hm) fun _ _ _ => ent_chain
theorem tnd_chain {e3 : Expr} {op op' : CmpOp} (hu : X.A.units + 64 < cLine) (h1 : PE X a (tEv X C W c1)) (h2 : PE X b (tEv X C W c2)) (h3 : PE X e3 (tEv X C W c3)) (hm : lastMarks [op, op'] [b, e3] = false) :
    PT X (.Compare a [op, op'] [b, e3] pos) (tTs X C W (.chain op op' c1 c2 c3)) := pt_imp (pt_chain (op_cmpA hu) (op_cmpA hu) h1 h2 h3 hm) fun σ H Q ⟨F, ρ, ss, h⟩ => by
  refine ent_chain (Q := fun x H' => ∃ k, x = .bl k ∧ Q k H') ⟨F, ρ, ss, ?_⟩
  rw [evT, R.thn_bind] at h
  rw [evE, R.thn_bind]
  refine h.mono (fun p hp => ?_) fun _ _ z => z
  rw [R.thn_bind] at hp ⊢
  refine hp.mono (fun q hq => ?_) fun _ _ z => z
  rw [R.thn_bind] at hq ⊢
  refine hq.mono (fun k hk => ?_) fun _ _ z => z
  cases k with
  | false =>
    rw [if_neg Bool.false_ne_true] at hk ⊢
    intro v H' s
    exact ⟨false, s.isBl rfl, hk H' s.drop⟩
  | true =>
    rw [if_pos rfl, R.thn_bind] at hk ⊢
    refine hk.mono (fun r hr => ?_) fun _ _ z => z
    obtain ⟨pp, e1, kk⟩ := R.thn_of hr
    obtain ⟨b, e2, e3⟩ := Option.map_eq_some_iff.mp e1
    subst e3
    rw [e2]
    intro v H' s
    exact ⟨b, s.isBl rfl, kk H' s.drop⟩
end
end Cs
/-! Cs8b: instances: fields, methods, making. -/
namespace Cs
open PySem L2
section
variable {X : Cx} {C : Ctx} {W : WX} {Γ : Gam} {e o : Expr} {es : List Expr} {c c1 c2 : CE} {cs : CEs} {pos apos : Pos} {σ σ' : L2.St} {H H' : Hp} {F G : Roots} {ρ ρ' : Env} {d : D} {v : V} {K : PySem.W.Frag} {mg : Str → Option Value}
theorem R.thn_ok' {α : Type} {r : R α} {a : α} {P : α → Prop} {E : Exn → Env → Prop} (h : r = .ok a) (p : P a) : r.thn P E := by rw [h]; exact p
theorem zip_look {f : Str} {Hf : Hp} : ∀ {fs : List Str} {ds : List D} {vs : List V} {fp : List Addr}, fs.length = vs.length → Rps K mg Hf H ds vs fp → (fs.zip ds).lookup f = some d → ∃ v f1, (fs.zip vs).lookup f = some v ∧ Rp K mg Hf H d v f1
  | [], _, _, _, _, _, h => nomatch h
  | g :: fs, [], _, _, _, _, h => nomatch h
  | g :: fs, d1 :: ds, vs0, fp, l, ⟨v1, vs, f1, f2, h1, h2, h3, h4⟩, h => by
    subst h1
    have h : (match f == g with | true => some d1 | false => (fs.zip ds).lookup f) = some d := h
    cases q : f == g with
    | true =>
      rw [q] at h
      cases h
      exact ⟨v1, f1, by show (match f == g with | true => some v1 | false => (fs.zip vs).lookup f) = some v1; rw [q], h3⟩
    | false =>
      rw [q] at h
      obtain ⟨v, f3, e1, e2⟩ := zip_look (by simpa using l) h4 h
      exact ⟨v, f3, by show (match f == g with | true => some v1 | false => (fs.zip vs).lookup f) = some v; rw [q]; exact e1, e2⟩
theorem look_out {α : Type} {f : Str} : ∀ {fs : List Str} {vs : List α}, f ∉ fs → (fs.zip vs).lookup f = none
  | [], _, _ => rfl
  | _ :: _, [], _ => rfl
  | g :: fs, v :: vs, h => by
    have n : (f == g) = false := by
      cases q : f == g with
      | false => rfl
      | true => exact absurd (by rw [eq_of_beq q]; exact List.mem_cons_self) h
    show (match f == g with | true => some v | false => (fs.zip vs).lookup f) = none
    rw [n]
    exact look_out fun z => h (List.mem_cons_of_mem _ z)
/-- an instance as it lies -/
theorem Stt.ins {Hf : Hp} {fp : List Addr} {rs : Roots} {ow : Bool} {cn : Str} {fs : List Str} {ds : List D} (s : Stt K mg Hf H fp rs) (h : (.ins ow cn fs ds, v) ∈ rs) : ∃ a dx CA vs f, v = .ref a ∧ mg cn = some (.ref CA) ∧ H a = some (.ins CA dx (fs.zip vs)) ∧ fs.length = vs.length ∧ Rps K mg Hf H ds vs f := by
  obtain ⟨f, r⟩ := s.at h
  cases ow with
  | false =>
    obtain ⟨_, a, dx, CA, vs, h1, h2, h3, h4, h5⟩ := r
    exact ⟨a, dx, CA, vs, _, h1, h2, s.ex _ _ h3, h4, h5⟩
  | true =>
    obtain ⟨a, dx, CA, vs, f, h1, h0, h2, h3, h4, h5⟩ := r
    exact ⟨a, dx, CA, vs, _, h1, h2, h3, h4, h5⟩
theorem ent_fld {f : Str} {Q : VK} (g : Gd Γ X C W) : tEv X C W (.fld c f) σ H Q → tFld X.K (tRf X C W c) f σ H Q := fun ⟨F, ρ, ss, h⟩ => by
  rw [evE, R.thn_bind] at h
  refine ⟨F, ρ, ss, h.mono (fun p hp x T H1 rf s1 => ?_) fun _ _ z => z⟩
  obtain ⟨q, e1, k⟩ := R.thn_of hp
  obtain ⟨d1, e2, e3⟩ := Option.map_eq_some_iff.mp e1
  obtain ⟨d0, e4, e5⟩ := Option.bind_eq_some_iff.mp e2
  subst e3
  have m := rf_mem s1 rf e4
  unfold fldD at e5
  split at e5
  case h_2 => cases e5
  rename_i ow cn fs ds
  split at e5
  case isFalse => cases e5
  rename_i z
  unfold fzO at e5
  split at e5
  case h_2 => cases e5
  rename_i d2 hl
  split at e5
  case isFalse => cases e5
  rename_i zf
  cases e5
  obtain ⟨Hf, fp, S⟩ := s1.st
  have m' : (D.ins ow cn fs ds, x) ∈ (T ++ F) ++ rts p.2 σ := by
    simp only [List.mem_append] at m ⊢
    rcases m with m | m
    · exact .inl (.inl m)
    · exact .inr m
  obtain ⟨a, dx, CA, vs, fq, hx, hm, ha, hlen, hr⟩ := S.ins m'
  obtain ⟨CA', hm', hc, hn⟩ := g.fld cn f (of_decide_eq_true z)
  rw [hm] at hm'
  cases hm'
  obtain ⟨v, f1, l1, r1⟩ := zip_look hlen hr hl
  exact ⟨a, CA, dx, fs.zip vs, v, hx, ha, hc, hn, l1, k v H1 (SS.fin s1.wd (S.add (by
    have z := Rp.toFz zf r1
    exact z.2 H1)).st (List.sublist_append_right _ _))⟩
theorem snd_fld {f : Str} (g : Gd Γ X C W) (he : PE X e (tRf X C W c)) (hb : attributeBase e f X.env (eval e X.env) = eval e X.env) : PE X (.Attribute e f pos) (tEv X C W (.fld c f)) := pe_imp (pe_fld he hb) fun _ _ _ => ent_fld g
theorem RvT.cons {r : Ref} {rs : List Ref} {vs : List V} {T T1 : Roots} (h : RfOk σ r v T) (t : RvT σ rs vs T1) : RvT σ (r :: rs) (v :: vs) (T ++ T1) := by
  cases r with
  | slot i =>
    obtain ⟨h1, rfl⟩ := h
    exact .slot h1 t
  | tmp d =>
    have e1 : T = [(d, v)] := h
    subst e1
    exact .tmp t
/-- what is lent goes to a def, and comes back -/
theorem lent_sp {f : Str} {rs : List Ref} {vs : List V} {T : Roots} {l : List D × Env} {Q : VK} (rv : RvT σ rs vs T) (s1 : SS X.K X.mg H (T ++ F) ρ σ) (e : lend rs ρ = some l)
    (k : (match C.fns f l.1 with | .ok r => .ok (r.1, back rs r.2 l.2) | .exc x ds => .exc x (back rs ds l.2) | .fail => .fail : R (D × Env)).thn (fun p => ∀ v H', SS X.K X.mg H' ((p.1, v) :: F) p.2 σ → Q v H') (ExcP X W F σ)) :
    spF X.K X.mg (C.fns f) (vs ++ []) H Q (WE W σ) := by
  obtain ⟨n, s2⟩ := lend_ok rv s1 e
  rw [List.append_nil]
  refine ⟨l.1, F ++ rts l.2 σ, n, by rw [← List.append_assoc]; exact s2.st, ?_⟩
  cases hf : C.fns f l.1 with
  | fail =>
    rw [hf] at k
    exact k.elim
  | ok r =>
    rw [hf] at k
    intro v H' st
    refine k v H' ?_
    have s3 : SS X.K X.mg H' (r.2.zip vs ++ ((r.1, v) :: F)) l.2 σ := ⟨s2.wd, by
      refine st.perm ?_
      rw [← List.append_assoc]
      exact (List.perm_middle (a := (r.1, v)) (l₁ := r.2.zip vs) (l₂ := F)).symm.append_right _⟩
    exact back_ok rv s3
  | exc x ds =>
    rw [hf] at k
    intro cls d H' ws xa st
    refine k cls d H' ws xa ?_
    have s3 : SS X.K X.mg H' (ds.zip vs ++ (x.xs.zip ws ++ F)) l.2 σ := ⟨s2.wd, by
      refine st.perm ?_
      rw [← List.append_assoc, ← List.append_assoc, ← List.append_assoc]
      exact (List.perm_append_comm.append_right _).append_right _⟩
    exact back_ok rv s3
theorem snd_meth {m : Str} {pl : Sem Bool} (g : Gd Γ X C W) (he : PE X o (tRf X C W c)) (ha : PA X es (tRs X C W cs)) (hn : es = [] → cs = .nil)
    (hst : ∀ e es', es = e :: es' → starEach (e :: es') X.env = (false, eval e X.env) :: starEach es' X.env ∧ (backTo pos (starEach es' X.env)).any (·.1) = false)
    (ht : eval (.Call (.Attribute o m apos) es [] pos) X.env = (do
      let ov ← eval o X.env
      standAt apos.atName
      let (f, first) ← holding [ov] (getMethod ov m pl)
      callWith pos f first (backTo pos (starEach es X.env)) (backToKw pos (keywordEach [] X.env)))) : PE X (.Call (.Attribute o m apos) es [] pos) (tEv X C W (.meth c m cs)) := by
  refine ⟨fun pins s σ H Q I ⟨F, ρ, ss, h⟩ => ?_⟩
  rw [evE, R.thn_bind] at h
  obtain ⟨p, ep, h⟩ := R.thn_mute h
  rw [R.thn_bind] at h
  obtain ⟨cn, ec, h⟩ := R.thn_of h
  split at h
  case isFalse => exact h.elim
  rename_i hml
  obtain ⟨CA, hm, hc, j, fa, fd, ps, hmt, hb, hr, hF⟩ := g.met cn m (of_decide_eq_true hml)
  obtain ⟨d0, e0, ecl⟩ := Option.bind_eq_some_iff.mp ec
  refine PySem.W.methodCall_KW (pl := pl) (thn (he.run pins s σ H (fun x H1 => ∃ T, RfOk σ p.1 x T ∧ SS X.K X.mg H1 (T ++ F) p.2 σ) I ⟨F, ρ, ss, R.thn_ok' ep fun v T H1 rf s1 => ⟨T, rf, s1⟩⟩) fun u s1 ⟨x, H1, I1, rx, T, rf, s1'⟩ => ?_) ht
  have hmem := rf_mem s1' rf e0
  unfold clsD at ecl
  split at ecl
  case h_2 => cases ecl
  rename_i ow c' fs ds
  split at ecl
  case isFalse => cases ecl
  rename_i hnf
  cases ecl
  obtain ⟨Hf, fp, S⟩ := s1'.st
  have m' : (D.ins ow cn fs ds, x) ∈ (T ++ F) ++ rts p.2 σ := by
    simp only [List.mem_append] at hmem ⊢
    rcases hmem with q | q
    · exact .inl (.inl q)
    · exact .inr q
  obtain ⟨a, dx, CA', vs, fq, hx, hm', ha', hlen, hrr⟩ := S.ins m'
  rw [hm] at hm'
  cases hm'
  subst hx
  obtain rfl : u = Value.ref a := rx
  refine getmeth_ok I1 ha' hc hmt (look_out (of_decide_eq_true hnf)) ?_
  rw [R.thn_bind] at h
  -- what stands behind the arguments
  have fin : ∀ (q : List Ref × Env) (vs1 : List V) (T1 : Roots) (H2 : Hp), RvT σ q.1 vs1 T1 → SS X.K X.mg H2 (T1 ++ (T ++ F)) q.2 σ →
      ((R.of (if (p.1.get q.2).bind (clsD m) = some cn then lend (p.1 :: q.1) q.2 else none)).bind fun l => match C.fns (mkey cn m) l.1 with
        | .ok r => R.ok (r.1, back (p.1 :: q.1) r.2 l.2)
        | .exc x ds => .exc x (back (p.1 :: q.1) ds l.2)
        | .fail => .fail).thn (fun p => ∀ v H', SS X.K X.mg H' ((p.1, v) :: F) p.2 σ → Q v H') (ExcP X W F σ) → spF X.K X.mg (C.fns (mkey cn m)) ((.ref a :: vs1) ++ []) H2 Q (WE W σ) := fun q vs1 T1 H2 rv s2 k => by
    rw [R.thn_bind] at k
    obtain ⟨l, el, k⟩ := R.thn_of k
    split at el
    case isFalse => cases el
    have rv' := RvT.cons rf rv
    have s3 : SS X.K X.mg H2 ((T ++ T1) ++ F) q.2 σ := s2.permF (by
      rw [← List.append_assoc]
      exact List.perm_append_comm.append_right _)
    exact lent_sp rv' s3 el k
  cases es with
  | nil =>
    have ecs := hn rfl
    subst ecs
    rw [evRs] at h
    exact PySem.W.callWith_K0 (first := [.ref a]) I1.kIn hmt.kp (run_fnSD (us := [.ref a]) (vs := [.ref a]) hF hr hb .nil (passAt g.tk σ) I1 (.cons rfl .nil) (fin ([], p.2) [] [] H1 .nil s1' h))
  | cons e1 es1 =>
    obtain ⟨hs1, hs2⟩ := hst e1 es1 rfl
    refine PySem.W.callWith_K (first := [.ref a]) (h₀ := X.base) I1.ok.mod.kin hmt.kp (thn (ha.run pos pins s1 σ H1 (fun vs1 H2 => spF X.K X.mg (C.fns (mkey cn m)) ((.ref a :: vs1) ++ []) H2 Q (WE W σ)) I1 ?_) fun us s2 ⟨vs1, H2, I2, r, q2⟩ => ⟨I2.kIn, ?_⟩) hs1 hs2
    · exact ⟨T ++ F, p.2, s1', h.mono (fun q hq vs1 T1 H2 rv s2 => fin q vs1 T1 H2 rv s2 hq) fun _ _ z => z.sub (List.sublist_append_right _ _)⟩
    · exact run_fnSD (us := .ref a :: us) (vs := .ref a :: vs1) hF hr hb .nil (passAt g.tk σ) I2 (.cons rfl r) q2
/-- a new instance -/
theorem St.newI {x dx CA : Addr} {cn : Str} {rs : Roots} (hm : mg cn = some (.ref CA)) (hx : H x = none) (hd : H dx = none) (hn : dx ≠ x) (h : St K mg H rs) : St K mg (upd (upd H dx (.own x)) x (.ins CA dx [])) ((.ins true cn [] [], .ref x) :: rs) := by
  have h1 : St K mg (upd H dx (.own x)) rs := h.newU hd
  have hx1 : upd H dx (.own x) x = none := by rw [upd_ne (Ne.symm hn)]; exact hx
  obtain ⟨Hf, fp, s⟩ := h1
  have s' := s.newU (o := .ins CA dx []) hx1
  have hf : Hf x = none := Evl.fresh_back s.ex hx1
  have nin : x ∉ fp := fun ha => by
    obtain ⟨o, e⟩ := s.rr.dom x ha
    rw [hx1] at e
    cases e
  exact ⟨Hf, x :: fp, s'.ex, ⟨[x], fp, rfl, ⟨x, dx, CA, [], [], rfl, rfl, hm, upd_same, rfl, ⟨rfl, rfl⟩⟩, s'.rr⟩, List.nodup_cons.mpr ⟨nin, s'.nd⟩, fun a ha => by
    rcases List.mem_cons.mp ha with q | q
    · rw [q]; exact hf
    · exact s'.dj a q⟩
theorem run_mkSD {CX : CXT} {k : Nat} {CA f : Addr} {fd : FuncData} {ps : List Str} {sp : Sp} {E : L2.St → XK} {pins : List (Addr × Obj)} {s : Shared} {Q : VK} {us : List Value} {vs : List V} (M : Mk X.K CA f) (FO : FnOk X.prog X.w X.K X.mg X.base CX k f fd ps sp) (hr : Room (k + 1) X.A) (hb : Binds X.K fd ps [])
    (hx : PassesAt CX X σ (E σ)) (I : Inv X pins σ H s) (r : Vals vs us)
    (h : ∀ x dx, H x = none → H dx = none → dx ≠ x → sp (.ref x :: vs) (upd (upd H dx (.own x)) x (.ins CA dx [])) (fun v H2 => v = .non ∧ Q (.ref x) H2) (E σ)) : wpAny (model X.prog X.w) X.A (call (.ref CA) us) (EP X pins σ Q) X.xe s := by
  let p := s.heap.objs.size
  have hq := h (p + 1) p (I.hok.fresh (Nat.le_succ _)) (I.hok.fresh (Nat.le_refl _)) (Nat.ne_of_lt (Nat.lt_succ_self _))
  have J := Inv.made (C := CA) I
  have rr : Vals (V.ref (p + 1) :: vs) (Value.ref (p + 1) :: us) := .cons rfl r
  have hl : ((Value.ref (p + 1) :: us) ++ []).length = ps.length := by rw [List.append_nil, ← rr.length]; exact FO.len _ _ _ _ hq
  have hbb := hb _ (Value.ref (p + 1) :: us) J.kIn hl
  rw [List.append_nil] at hbb
  refine wpAny_call (make_map (f := f) I.kIn M.makes M.init (beq_iff_eq.mp M.fn) (codeAny_mono (FO.run _ X.stack _ _ ⟨Value.ref (p + 1) :: us, []⟩ (Value.ref (p + 1) :: us) _ _ (E σ) (hr.make CA us []) (J.env0.make CA us []) hbb rr hq) fun z t hz => ?_))
  cases z with
  | error e => exact hx pins _ _ e t J hz
  | ok fl =>
    cases fl with
    | ret u =>
      obtain ⟨v, H', I3, rv, ev, q3⟩ := J.after hz
      subst ev
      exact ⟨rv, ⟨V.ref (p + 1), H', I3, rfl, q3⟩⟩
    | next => exact False.elim hz
    | brk => exact False.elim hz
    | cont => exact False.elim hz
theorem made_sp {cn : Str} {CA : Addr} {rs : List Ref} {vs : List V} {T : Roots} {l : List D × Env} {Q : VK} (hm : X.mg cn = some (.ref CA)) (rv : RvT σ rs vs T) (s1 : SS X.K X.mg H (T ++ F) ρ σ) (e : lend rs ρ = some l)
    (k : (match C.fns (mkey cn "__init__") (.ins true cn [] [] :: l.1) with | .ok (.non, d :: ds) => .ok (d, back rs ds l.2) | .exc x (_ :: ds) => .exc x (back rs ds l.2) | _ => .fail : R (D × Env)).thn (fun p => ∀ v H', SS X.K X.mg H' ((p.1, v) :: F) p.2 σ → Q v H') (ExcP X W F σ)) :
    ∀ x dx, H x = none → H dx = none → dx ≠ x → spF X.K X.mg (C.fns (mkey cn "__init__")) (.ref x :: vs) (upd (upd H dx (.own x)) x (.ins CA dx [])) (fun v H2 => v = .non ∧ Q (.ref x) H2) (WE W σ) := fun x dx hx hd hn => by
  obtain ⟨n, s2⟩ := lend_ok rv s1 e
  have st := St.newI hm hx hd hn s2.st
  refine ⟨.ins true cn [] [] :: l.1, F ++ rts l.2 σ, by rw [List.length_cons, List.length_cons, n], by
    show St X.K X.mg _ ((D.ins true cn [] [], V.ref x) :: (l.1.zip vs ++ (F ++ rts l.2 σ)))
    rw [← List.append_assoc]
    exact st, ?_⟩
  cases hf : C.fns (mkey cn "__init__") (.ins true cn [] [] :: l.1) with
  | fail =>
    rw [hf] at k
    exact k.elim
  | ok r =>
    rw [hf] at k
    obtain ⟨r1, r2⟩ := r
    cases r1 <;> first | exact k.elim | skip
    cases r2 with
    | nil => exact k.elim
    | cons d ds =>
      intro v H' st
      have st : St X.K X.mg H' ((.non, v) :: (d, .ref x) :: (ds.zip vs ++ (F ++ rts l.2 σ))) := st
      refine ⟨?_, k (.ref x) H' ?_⟩
      · obtain ⟨Hf, fp, S⟩ := st
        obtain ⟨f1, r⟩ := S.at (d := .non) (v := v) List.mem_cons_self
        exact r.1
      · have s3 : SS X.K X.mg H' (ds.zip vs ++ ((d, .ref x) :: F)) l.2 σ := ⟨s2.wd, by
          refine st.drop.perm ?_
          rw [← List.append_assoc]
          exact (List.perm_middle (a := (d, V.ref x)) (l₁ := ds.zip vs) (l₂ := F)).symm.append_right _⟩
        exact back_ok rv s3
  | exc y zs =>
    rw [hf] at k
    cases zs with
    | nil => exact k.elim
    | cons d ds =>
      intro cls dd H' ws xa st
      refine k cls dd H' ws xa ?_
      have st : St X.K X.mg H' (y.xs.zip ws ++ ((d, V.ref x) :: (ds.zip vs ++ (F ++ rts l.2 σ)))) := st
      have st2 : St X.K X.mg H' (y.xs.zip ws ++ (ds.zip vs ++ (F ++ rts l.2 σ))) := st.sub ((List.Sublist.refl _).append (List.sublist_cons_self _ _))
      have s3 : SS X.K X.mg H' (ds.zip vs ++ (y.xs.zip ws ++ F)) l.2 σ := ⟨s2.wd, by
        refine st2.perm ?_
        rw [← List.append_assoc, ← List.append_assoc, ← List.append_assoc]
        exact (List.perm_append_comm.append_right _).append_right _⟩
      exact back_ok rv s3
theorem snd_mk {f : Str} {p : Pos} (g : Gd Γ X C W) (hf : f ∈ Γ.kl) (hg : Gl X f) (ha : PA X (e :: es) (tRs X C W cs)) (hdb : (f == ("__debug__" : Str)) = false)
    (he : starEach (e :: es) X.env = (false, eval e X.env) :: starEach es X.env) (hpl : (backTo pos (starEach es X.env)).any (·.1) = false) : PE X (.Call (.Name f p) (e :: es) [] pos) (tEv X C W (.mk f cs)) := by
  obtain ⟨CA, hm, j, fa, fd, ps, M, hb, hr, hF⟩ := g.mak f hf
  refine ⟨fun pins s σ H Q I ⟨F, ρ, ss, h⟩ => ?_⟩
  rw [evE, R.thn_bind] at h
  refine wpAny_Call_Name_kw (ld_glob I hg hm ?_ hdb)
  refine PySem.W.callWith_K (h₀ := X.base) I.ok.mod.kin M.kp (thn (ha.run pos pins s σ H (fun vs H1 => ∀ x dx, H1 x = none → H1 dx = none → dx ≠ x → spF X.K X.mg (C.fns (mkey f "__init__")) (.ref x :: vs) (upd (upd H1 dx (.own x)) x (.ins CA dx [])) (fun v H2 => v = .non ∧ Q (.ref x) H2) (WE W σ)) I ?_) fun us s1 ⟨vs, H1, I1, r, q⟩ => ⟨I1.kIn, ?_⟩) he hpl
  · refine ⟨F, ρ, ss, h.mono (fun q hq vs T H1 rv s1 => ?_) fun _ _ z => z⟩
    rw [R.thn_bind] at hq
    obtain ⟨l, el, k⟩ := R.thn_of hq
    exact made_sp hm rv s1 el k
  · exact run_mkSD M hF hr hb (passAt g.tk σ) I1 r q
theorem snd_mk0 {f : Str} {p : Pos} (g : Gd Γ X C W) (hf : f ∈ Γ.kl) (hg : Gl X f) (hdb : (f == ("__debug__" : Str)) = false) : PE X (.Call (.Name f p) [] [] pos) (tEv X C W (.mk f .nil)) := by
  obtain ⟨CA, hm, j, fa, fd, ps, M, hb, hr, hF⟩ := g.mak f hf
  refine ⟨fun pins s σ H Q I ⟨F, ρ, ss, h⟩ => ?_⟩
  rw [evE, R.thn_bind, evRs] at h
  refine wpAny_Call_Name_kw (ld_glob I hg hm ?_ hdb)
  refine PySem.W.callWith_K0 I.kIn M.kp (run_mkSD (us := []) (vs := []) M hF hr hb (passAt g.tk σ) I .nil ?_)
  have h : ((R.of (lend [] ρ)).bind fun q => match C.fns (mkey f "__init__") (.ins true f [] [] :: q.1) with | .ok (.non, d :: ds) => R.ok (d, back [] ds q.2) | .exc x (_ :: ds) => .exc x (back [] ds q.2) | _ => .fail).thn (fun p => ∀ v H', SS X.K X.mg H' ((p.1, v) :: F) p.2 σ → Q v H') (ExcP X W F σ) := h
  rw [R.thn_bind] at h
  obtain ⟨l, el, k⟩ := R.thn_of h
  exact made_sp hm .nil ss el k
end
end Cs
/-! Cs8c: isinstance of built-in types. -/
namespace Cs
open PySem L2
def tnN : TN → Str
  | .bool => "bool" | .int => "int" | .str => "str" | .tuple => "tuple" | .list => "list"
def tnS : TN → String
  | .bool => "bool" | .int => "int" | .str => "str" | .tuple => "tuple" | .list => "list"
theorem tn_boot (T : TN) : bootBuiltins (tnN T) = some (.type (tnS T)) := by cases T <;> decide +kernel
theorem tn_name (T : TN) : tnN T ≠ "__name__" ∧ (tnN T == ("__debug__" : Str)) = false := by cases T <;> decide +kernel
theorem is_boot : bootBuiltins ("isinstance" : Str) = some (.builtin "isinstance") := by decide +kernel
theorem is_name : ("isinstance" : Str) ≠ "__name__" ∧ (("isinstance" : Str) == ("__debug__" : Str)) = false := by decide +kernel
theorem k_non (T : TN) : kitB "NoneType" (tnS T) = some false := by cases T <;> decide +kernel
theorem k_bl (T : TN) : kitB "bool" (tnS T) = some (decide (T = .bool) || decide (T = .int)) := by cases T <;> decide +kernel
theorem k_int (T : TN) : kitB "int" (tnS T) = some (decide (T = .int)) := by cases T <;> decide +kernel
theorem k_str (T : TN) : kitB "str" (tnS T) = some (decide (T = .str)) := by cases T <;> decide +kernel
theorem k_tup (T : TN) : kitB "tuple" (tnS T) = some (decide (T = .tuple)) := by cases T <;> decide +kernel
theorem k_lst (T : TN) : kitB "list" (tnS T) = some (decide (T = .list)) := by cases T <;> decide +kernel
theorem ty_tup {K : PySem.W.Frag} {H : Hp} {a : Addr} {xs : List V} (h : SqT K H a xs) : TyX K H (.ref a) (.type "tuple") := by
  rcases h with (h | ⟨o, h⟩) | ⟨o, items, n, h1, h2, _⟩
  · exact .base (.tup h)
  · exact .fTuple h
  · exact .kTuple h1 h2
theorem ty_lst {K : PySem.W.Frag} {H : Hp} {a : Addr} {xs : List V} (h : SqL K H a xs) : TyX K H (.ref a) (.type "list") := by
  rcases h with (h | ⟨o, h⟩) | ⟨o, items, n, h1, h2, _⟩
  · exact .base (.lst h)
  · exact .base (.frz h)
  · exact .kList h1 h2
section
variable {X : Cx} {C : Ctx} {W : WX} {Γ : Gam} {e : Expr} {c : CE} {pos : Pos} {σ : L2.St} {H : Hp}
theorem isD_ty {K : PySem.W.Frag} {mg : Str → Option Value} {Hf H : Hp} {fp : List Addr} {rs : Roots} {d : D} {v : V} {T : TN} {b : Bool} (S : Stt K mg Hf H fp rs) (m : (d, v) ∈ rs) (h : isD T d = some b) : ∃ t, TyX K H v (.type t) ∧ kitB t (tnS T) = some b := by
  obtain ⟨f, r⟩ := S.at m
  cases d with
  | non => cases h; rw [r.1]; exact ⟨_, .base .non, k_non T⟩
  | bl x => cases h; rw [r.1]; exact ⟨_, .base (.bl x), k_bl T⟩
  | int i => cases h; rw [r.1]; exact ⟨_, .base (.int i), k_int T⟩
  | str x => cases h; rw [r.1]; exact ⟨_, .base (.str x), k_str T⟩
  | tup ds =>
    cases h
    obtain ⟨a, vs, rfl, q, _⟩ := S.tup m
    exact ⟨_, ty_tup q, k_tup T⟩
  | lst o ds =>
    cases h
    obtain ⟨a, vs, rfl, q, _⟩ := S.lst m
    exact ⟨_, .base (.lst q), k_lst T⟩
  | lkd ds =>
    cases h
    obtain ⟨a, vs, rfl, q, _⟩ := S.lkd m
    exact ⟨_, ty_lst q, k_lst T⟩
  | _ => cases h
theorem snd_isT {T : TN} {p p2 : Pos} (g : Gd Γ X C W) (hi : ("isinstance" : Str) ∈ Γ.bl) (hg : Gl X "isinstance") (ht : tnN T ∈ Γ.bl) (hgt : Gl X (tnN T)) (he : PE X e (tRf X C W c)) (hs : starEach [e, .Name (tnN T) p2] X.env = (false, eval e X.env) :: starEach [.Name (tnN T) p2] X.env) :
    PE X (.Call (.Name "isinstance" p) [e, .Name (tnN T) p2] [] pos) (tEv X C W (.isT c T)) := by
  obtain ⟨n1, n2⟩ := is_name
  obtain ⟨n3, n4⟩ := tn_name T
  refine pe_imp (pe_callB call_isi hg (g.blt _ hi) is_boot (pa_cons he (pa_cons (pe_bltn (v := .ty (tnS T)) hgt (g.blt _ ht) (tn_boot T) rfl n3 n4) pa_nil rfl) hs) n1 n2 hs rfl) fun σ H Q ⟨F, ρ, ss, h⟩ => ?_
  rw [evE, R.thn_bind] at h
  refine ⟨F, ρ, ss, h.mono (fun q hq x T1 H1 rf s1 => ?_) fun _ _ z => z⟩
  obtain ⟨r, e1, k⟩ := R.thn_of hq
  obtain ⟨b, e2, e3⟩ := Option.map_eq_some_iff.mp e1
  obtain ⟨d0, e4, e5⟩ := Option.bind_eq_some_iff.mp e2
  subst e3
  obtain ⟨Hf, fp, S⟩ := s1.st
  have m := rf_mem s1 rf e4
  have m' : (d0, x) ∈ (T1 ++ F) ++ rts q.2 σ := by
    simp only [List.mem_append] at m ⊢
    rcases m with m | m
    · exact .inl (.inl m)
    · exact .inr m
  obtain ⟨t, ty, kb⟩ := isD_ty S m' e5
  refine ⟨x, .ty (tnS T), .type t, .type (tnS T), b, rfl, .ty _, ty, kit_ty kb, k _ _ ?_⟩
  exact SS.fin s1.wd (s1.st.bl b) (List.sublist_append_right _ _)
end
end Cs
/-! Cs8d: calls by keywords, and with defaults. -/
namespace Cs
open PySem L2
section
variable {X : Cx} {C : Ctx} {W : WX} {Γ : Gam} {e : Expr} {es : List Expr} {cs : CEs} {pos : Pos} {σ : L2.St} {H H' : Hp} {F : Roots} {ρ : Env} {d : D} {v : V} {K : PySem.W.Frag} {mg : Str → Option Value}
theorem St.cn {k : Cn} {rs : Roots} (h : St K mg H rs) : St K mg H ((k.d, k.v) :: rs) := by
  cases k with
  | int i => exact h.int i
  | bl b => exact h.bl b
  | str x => exact h.str x
  | non => exact h.non
/-- the values in the parameters' order -/
theorem mrg_ok : ∀ {pl : Plan} {as ds : List D} {vs : List V} {R : Roots}, mrg Cn.d pl as = some ds → as.length = vs.length → ∃ ws, mrg Cn.v pl vs = some ws ∧ ds.length = ws.length ∧ (St K mg H (as.zip vs ++ R) → St K mg H (ds.zip ws ++ R)) ∧
    ∀ {es : List D} {H' : Hp}, St K mg H' (es.zip ws ++ R) → St K mg H' ((unm pl es).zip vs ++ R)
  | [], [], ds, [], R, h, l => by
    cases h
    refine ⟨[], rfl, rfl, fun s => s, fun {es H'} s => ?_⟩
    cases es <;> exact s
  | [], [], _, _ :: _, _, _, l => nomatch l
  | [], _ :: _, _, _, _, h, _ => nomatch h
  | none :: pl, [], _, _, _, h, _ => nomatch h
  | none :: pl, a :: as, ds, [], R, h, l => nomatch l
  | none :: pl, a :: as, ds, v :: vs, R, h, l => by
    obtain ⟨ds', h1, h2⟩ := Option.map_eq_some_iff.mp (show (mrg Cn.d pl as).map (a :: ·) = some ds from h)
    subst h2
    obtain ⟨ws, q1, q2, q3, q4⟩ := mrg_ok (vs := vs) (R := (a, v) :: R) h1 (by simpa using l)
    obtain ⟨ws2, r1, _, _, _⟩ := mrg_ok (vs := vs) (R := R) h1 (by simpa using l)
    refine ⟨v :: ws, by show (mrg Cn.v pl vs).map (v :: ·) = _; rw [q1]; rfl, by rw [List.length_cons, List.length_cons, q2], fun s => ?_, fun {es H'} s => ?_⟩
    · have s1 : St K mg H (as.zip vs ++ ((a, v) :: R)) := s.perm List.perm_middle.symm
      exact (q3 s1).perm List.perm_middle
    · cases es with
      | nil =>
        have s1 : St K mg H' R := s
        exact s1
      | cons e es =>
        obtain ⟨_, q1', _, _, q4'⟩ := mrg_ok (vs := vs) (R := (e, v) :: R) h1 (by simpa using l)
        rw [q1] at q1'
        cases q1'
        have s1 : St K mg H' (es.zip ws ++ ((e, v) :: R)) := s.perm List.perm_middle.symm
        exact (q4' s1).perm List.perm_middle
  | some k :: pl, as, ds, vs, R, h, l => by
    obtain ⟨ds', h1, h2⟩ := Option.map_eq_some_iff.mp (show (mrg Cn.d pl as).map (k.d :: ·) = some ds from h)
    subst h2
    obtain ⟨ws, q1, q2, q3, q4⟩ := mrg_ok (vs := vs) (R := R) h1 l
    refine ⟨k.v :: ws, by show (mrg Cn.v pl vs).map (k.v :: ·) = _; rw [q1]; rfl, by rw [List.length_cons, List.length_cons, q2], fun s => (q3 s).cn, fun {es H'} s => ?_⟩
    cases es with
    | nil => 
      have s1 : St K mg H' R := s
      exact s1
    | cons e es => exact q4 s.drop
theorem pk_imp {kws : List Keyword} {t t' : TA} (h : PK X kws t) (i : ∀ σ H Q, t' σ H Q → t σ H Q) : PK X kws t' := ⟨fun pos pins s σ H Q I q => h.run pos pins s σ H Q I (i σ H Q q)⟩
theorem ent_rcons {c : CE} {Q : List V → Hp → Prop} : tRs X C W (.cons c cs) σ H Q → tCons (tRf X C W c) (tRs X C W cs) σ H Q := fun ⟨F, ρ, ss, h⟩ => by
  rw [evRs, R.thn_bind] at h
  refine ⟨F, ρ, ss, h.mono (fun p hp v T H1 k s1 => ?_) fun _ _ z => z⟩
  rw [R.thn_map] at hp
  refine ⟨T ++ F, p.2, s1, hp.mono (fun q hq vs T2 H2 k2 s2 => ?_) fun _ _ z => z.sub (List.sublist_append_right _ _)⟩
  refine hq (v :: vs) (T ++ T2) H2 (RvT.cons k k2) (s2.permF ?_)
  rw [← List.append_assoc]
  exact List.perm_append_comm.append_right _
theorem knd_nil : PK X [] (tRs X C W .nil) := pk_imp pk_nil fun σ H Q ⟨F, ρ, ss, h⟩ => by
  rw [evRs] at h
  exact h [] [] H .nil ss
theorem knd_cons {c : CE} {nm : Option Str} {kp : Pos} {kws : List Keyword} (h1 : PE X e (tRf X C W c)) (h2 : PK X kws (tRs X C W cs)) : PK X (⟨nm, e, kp⟩ :: kws) (tRs X C W (.cons c cs)) := pk_imp (pk_cons h1 h2) fun _ _ _ => ent_rcons
theorem RvT.app {rs ts : List Ref} {vs ws : List V} {T U : Roots} (h : RvT σ rs vs T) (t : RvT σ ts ws U) : RvT σ (rs ++ ts) (vs ++ ws) (T ++ U) := by
  induction h with
  | nil => exact t
  | slot k _ ih => exact .slot k ih
  | tmp _ ih => exact .tmp ih
theorem RvT.len {rs : List Ref} {vs : List V} {T : Roots} (h : RvT σ rs vs T) : rs.length = vs.length := by
  induction h with
  | nil => rfl
  | slot _ _ ih => simp [ih]
  | tmp _ ih => simp [ih]
theorem run_kSD {CX : CXT} {k n : Nat} {f : Addr} {fd : FuncData} {ps ks : List Str} {sp : Sp} {E : L2.St → XK} {g : List Value → List Value → List Value} {gV : List V → List V → List V} {pins : List (Addr × Obj)} {s : Shared} {Q : VK} {us ws : List Value} {vs zs : List V}
    (FO : FnOk X.prog X.w X.K X.mg X.base CX k f fd ps sp) (hr : Room k X.A) (hb : KBn X.K fd ps n ks g gV) (hx : PassesAt CX X σ (E σ)) (I : Inv X pins σ H s) (r : Vals vs us) (rz : Vals zs ws) (l1 : vs.length = n) (l2 : zs.length = ks.length) (h : sp (gV vs zs) H Q (E σ)) :
    wpAny (model X.prog X.w) X.A (call (.ref f) us (ks.zip ws)) (EP X pins σ Q) X.xe s := by
  refine wpAny_call (codeAny_mono (FO.run X.A X.stack s H ⟨us, ks.zip ws⟩ (g us ws) (gV vs zs) Q (E σ) hr I.env0 (hb.to s us ws I.kIn (r.length.symm.trans l1) (rz.length.symm.trans l2)) (hb.rel r rz) h) fun z t hz => ?_)
  cases z with
  | error e => exact hx pins H s e t I hz
  | ok fl =>
    cases fl with
    | ret u => exact I.after hz
    | next => exact False.elim hz
    | brk => exact False.elim hz
    | cont => exact False.elim hz
theorem lentK_sp {f : Str} {pl : Plan} {rs : List Ref} {vs : List V} {T : Roots} {l : List D × Env} {Q : VK} (rv : RvT σ rs vs T) (s1 : SS X.K X.mg H (T ++ F) ρ σ) (e : lend rs ρ = some l)
    (k : ((R.of (mrg Cn.d pl l.1)).bind fun ds => match C.fns f ds with | .ok r => .ok (r.1, back rs (unm pl r.2) l.2) | .exc x es => .exc x (back rs (unm pl es) l.2) | .fail => .fail : R (D × Env)).thn (fun p => ∀ v H', SS X.K X.mg H' ((p.1, v) :: F) p.2 σ → Q v H') (ExcP X W F σ)) :
    spF X.K X.mg (C.fns f) ((mrg Cn.v pl vs).getD []) H Q (WE W σ) := by
  obtain ⟨n, s2⟩ := lend_ok rv s1 e
  rw [R.thn_bind] at k
  obtain ⟨ds, em, k⟩ := R.thn_of k
  obtain ⟨ws, e1, e2, e3, _⟩ := mrg_ok (K := X.K) (mg := X.mg) (H := H) (R := F ++ rts l.2 σ) em n
  rw [e1]
  refine ⟨ds, F ++ rts l.2 σ, e2, e3 (by rw [← List.append_assoc]; exact s2.st), ?_⟩
  cases hf : C.fns f ds with
  | fail =>
    rw [hf] at k
    exact k.elim
  | ok r =>
    rw [hf] at k
    intro v H' st
    refine k v H' ?_
    obtain ⟨ws', e1', _, _, e4⟩ := mrg_ok (K := X.K) (mg := X.mg) (H := H) (R := (r.1, v) :: (F ++ rts l.2 σ)) em n
    rw [e1] at e1'
    cases e1'
    have st2 := e4 (st.perm List.perm_middle.symm)
    have s3 : SS X.K X.mg H' ((unm pl r.2).zip vs ++ ((r.1, v) :: F)) l.2 σ := ⟨s2.wd, by
      rw [List.append_assoc]
      exact st2⟩
    exact back_ok rv s3
  | exc x es =>
    rw [hf] at k
    intro cls d H' zs xa st
    refine k cls d H' zs xa ?_
    obtain ⟨ws', e1', _, _, e4⟩ := mrg_ok (K := X.K) (mg := X.mg) (H := H) (R := x.xs.zip zs ++ (F ++ rts l.2 σ)) em n
    rw [e1] at e1'
    cases e1'
    have st : St X.K X.mg H' (x.xs.zip zs ++ (es.zip ws ++ (F ++ rts l.2 σ))) := st
    have st2 := e4 (st.perm (List.perm_append_comm_assoc _ _ _))
    have s3 : SS X.K X.mg H' ((unm pl es).zip vs ++ (x.xs.zip zs ++ F)) l.2 σ := ⟨s2.wd, by
      rw [List.append_assoc, List.append_assoc]
      exact st2⟩
    exact back_ok rv s3
theorem snd_callK {s : Shp} {p : Pos} {kws : List Keyword} {ck : CEs} (g : Gd Γ X C W) (hs : s ∈ Γ.sh) (hg : Gl X s.f) (ha : PA X (e :: es) (tRs X C W cs)) (hk : PK X kws (tRs X C W ck)) (hdb : (s.f == ("__debug__" : Str)) = false)
    (hall : (backToKw pos (keywordEach kws X.env)).all (·.1.isSome) = true) (hks : (backToKw pos (keywordEach kws X.env)).filterMap (·.1) = s.ks)
    (he : starEach (e :: es) X.env = (false, eval e X.env) :: starEach es X.env) (hpl : ((backTo pos (starEach (e :: es) X.env)).any (·.1) || (backToKw pos (keywordEach kws X.env)).any (·.1.isNone)) = false) :
    PE X (.Call (.Name s.f p) (e :: es) kws pos) (tEv X C W (.callK s cs ck)) := by
  obtain ⟨j, fa, fd, ps, gg, h1, h2, h3, h4, h5⟩ := g.shp s hs
  refine ⟨fun pins t σ H Q I ⟨F, ρ, ss, h⟩ => ?_⟩
  rw [evE, R.thn_bind] at h
  refine wpAny_Call_Name_kw (ld_glob I hg h1 ?_ hdb)
  refine PySem.W.callWith_KW (h₀ := X.base) I.ok.mod.kin h2 hall (thn (ha.run pos pins t σ H (fun vs H1 => tRs X C W ck σ H1 fun zs H2 => vs.length = s.n ∧ zs.length = s.ks.length ∧ spF X.K X.mg (C.fns s.f) ((mrg Cn.v s.pl (vs ++ zs)).getD []) H2 Q (WE W σ)) I ?_) fun us s1 ⟨vs, H1, I1, r, q⟩ => ?_) hpl he
  · refine ⟨F, ρ, ss, h.mono (fun p hp vs T H1 rv s1 => ?_) fun _ _ z => z⟩
    rw [R.thn_bind] at hp
    refine ⟨T ++ F, p.2, s1, hp.mono (fun o ho zs U H2 ru s2 => ?_) fun _ _ z => z.sub (List.sublist_append_right _ _)⟩
    rw [R.thn_bind] at ho
    obtain ⟨l, el, k⟩ := R.thn_of ho
    split at el
    case isFalse => cases el
    rename_i hl
    have s3 : SS X.K X.mg H2 ((T ++ U) ++ F) o.2 σ := s2.permF (by
      rw [← List.append_assoc]
      exact List.perm_append_comm.append_right _)
    exact ⟨rv.len.symm.trans hl.1, ru.len.symm.trans hl.2, lentK_sp (rv.app ru) s3 el k⟩
  · refine thn (hk.run pos pins s1 σ H1 _ I1 q) fun ws s2 ⟨zs, H2, I2, rz, l1, l2, q2⟩ => ⟨I2.kIn, ?_⟩
    rw [hks]
    exact run_kSD h5 h4 h3 (passAt g.tk σ) I2 r rz l1 l2 q2
theorem run_mkKSD {CX : CXT} {k n : Nat} {CA f : Addr} {fd : FuncData} {ps ks : List Str} {sp : Sp} {E : L2.St → XK} {g : List Value → List Value → List Value} {gV : List V → List V → List V} {pins : List (Addr × Obj)} {s : Shared} {Q : VK} {us ws : List Value} {vs zs : List V}
    (M : Mk X.K CA f) (FO : FnOk X.prog X.w X.K X.mg X.base CX k f fd ps sp) (hr : Room (k + 1) X.A) (hb : KBn X.K fd ps (n + 1) ks g gV) (hx : PassesAt CX X σ (E σ)) (I : Inv X pins σ H s) (r : Vals vs us) (rz : Vals zs ws) (l1 : vs.length = n) (l2 : zs.length = ks.length)
    (h : ∀ x dx, H x = none → H dx = none → dx ≠ x → sp (gV (.ref x :: vs) zs) (upd (upd H dx (.own x)) x (.ins CA dx [])) (fun v H2 => v = .non ∧ Q (.ref x) H2) (E σ)) : wpAny (model X.prog X.w) X.A (call (.ref CA) us (ks.zip ws)) (EP X pins σ Q) X.xe s := by
  let p := s.heap.objs.size
  have hq := h (p + 1) p (I.hok.fresh (Nat.le_succ _)) (I.hok.fresh (Nat.le_refl _)) (Nat.ne_of_lt (Nat.lt_succ_self _))
  have J := Inv.made (C := CA) I
  have rr : Vals (V.ref (p + 1) :: vs) (Value.ref (p + 1) :: us) := .cons rfl r
  have hbb := hb.to _ (Value.ref (p + 1) :: us) ws J.kIn (by rw [← rr.length, List.length_cons, l1]) (rz.length.symm.trans l2)
  refine wpAny_call (make_map (f := f) I.kIn M.makes M.init (beq_iff_eq.mp M.fn) (codeAny_mono (FO.run _ X.stack _ _ ⟨Value.ref (p + 1) :: us, ks.zip ws⟩ _ _ _ (E σ) (hr.make CA us (ks.zip ws)) (J.env0.make CA us (ks.zip ws)) hbb (hb.rel rr rz) hq) fun z t hz => ?_))
  cases z with
  | error e => exact hx pins _ _ e t J hz
  | ok fl =>
    cases fl with
    | ret u =>
      obtain ⟨v, H', I3, rv, ev, q3⟩ := J.after hz
      subst ev
      exact ⟨rv, ⟨V.ref (p + 1), H', I3, rfl, q3⟩⟩
    | next => exact False.elim hz
    | brk => exact False.elim hz
    | cont => exact False.elim hz
theorem madeK_sp {cn : Str} {CA : Addr} {pl : Plan} {rs : List Ref} {vs zs : List V} {T : Roots} {l : List D × Env} {Q : VK} (hm : X.mg cn = some (.ref CA)) (rv : RvT σ rs (vs ++ zs) T) (s1 : SS X.K X.mg H (T ++ F) ρ σ) (e : lend rs ρ = some l)
    (k : ((R.of (mrg Cn.d pl l.1)).bind fun ds => match C.fns (mkey cn "__init__") (.ins true cn [] [] :: ds) with | .ok (.non, d :: es) => .ok (d, back rs (unm pl es) l.2) | .exc x (_ :: es) => .exc x (back rs (unm pl es) l.2) | _ => .fail : R (D × Env)).thn (fun p => ∀ v H', SS X.K X.mg H' ((p.1, v) :: F) p.2 σ → Q v H') (ExcP X W F σ)) :
    ∀ x dx, H x = none → H dx = none → dx ≠ x → spF X.K X.mg (C.fns (mkey cn "__init__")) ((mrg Cn.v (none :: pl) ((.ref x :: vs) ++ zs)).getD []) (upd (upd H dx (.own x)) x (.ins CA dx [])) (fun v H2 => v = .non ∧ Q (.ref x) H2) (WE W σ) := fun x dx hx hd hn => by
  obtain ⟨n, s2⟩ := lend_ok rv s1 e
  rw [R.thn_bind] at k
  obtain ⟨ds, em, k⟩ := R.thn_of k
  obtain ⟨ws, e1, e2, e3, _⟩ := mrg_ok (K := X.K) (mg := X.mg) (H := H) (R := F ++ rts l.2 σ) em n
  have ee : (mrg Cn.v (none :: pl) ((V.ref x :: vs) ++ zs)).getD [] = V.ref x :: ws := by
    show ((mrg Cn.v pl (vs ++ zs)).map (V.ref x :: ·)).getD [] = _
    rw [e1]; rfl
  rw [ee]
  have st0 := e3 (by rw [← List.append_assoc]; exact s2.st)
  have st := St.newI hm hx hd hn st0
  refine ⟨.ins true cn [] [] :: ds, F ++ rts l.2 σ, by rw [List.length_cons, List.length_cons, e2], st, ?_⟩
  cases hf : C.fns (mkey cn "__init__") (.ins true cn [] [] :: ds) with
  | fail =>
    rw [hf] at k
    exact k.elim
  | ok r =>
    rw [hf] at k
    obtain ⟨r1, r2⟩ := r
    cases r1 <;> first | exact k.elim | skip
    cases r2 with
    | nil => exact k.elim
    | cons d es =>
      intro v H' st
      have st : St X.K X.mg H' ((.non, v) :: (d, .ref x) :: (es.zip ws ++ (F ++ rts l.2 σ))) := st
      refine ⟨?_, k (.ref x) H' ?_⟩
      · obtain ⟨Hf, fp, S⟩ := st
        obtain ⟨f1, r⟩ := S.at (d := .non) (v := v) List.mem_cons_self
        exact r.1
      · obtain ⟨ws', e1', _, _, e4⟩ := mrg_ok (K := X.K) (mg := X.mg) (H := H) (R := (d, V.ref x) :: (F ++ rts l.2 σ)) em n
        rw [e1] at e1'
        cases e1'
        have st2 := e4 (st.drop.perm List.perm_middle.symm)
        have s3 : SS X.K X.mg H' ((unm pl es).zip (vs ++ zs) ++ ((d, .ref x) :: F)) l.2 σ := ⟨s2.wd, by
          rw [List.append_assoc]
          exact st2⟩
        exact back_ok rv s3
  | exc y ys =>
    rw [hf] at k
    cases ys with
    | nil => exact k.elim
    | cons d es =>
      intro cls dd H' us xa st
      refine k cls dd H' us xa ?_
      have st : St X.K X.mg H' (y.xs.zip us ++ ((d, V.ref x) :: (es.zip ws ++ (F ++ rts l.2 σ)))) := st
      have st1 : St X.K X.mg H' (y.xs.zip us ++ (es.zip ws ++ (F ++ rts l.2 σ))) := st.sub ((List.Sublist.refl _).append (List.sublist_cons_self _ _))
      obtain ⟨ws', e1', _, _, e4⟩ := mrg_ok (K := X.K) (mg := X.mg) (H := H) (R := y.xs.zip us ++ (F ++ rts l.2 σ)) em n
      rw [e1] at e1'
      cases e1'
      have st2 := e4 (st1.perm (List.perm_append_comm_assoc _ _ _))
      have s3 : SS X.K X.mg H' ((unm pl es).zip (vs ++ zs) ++ (y.xs.zip us ++ F)) l.2 σ := ⟨s2.wd, by
        rw [List.append_assoc, List.append_assoc]
        exact st2⟩
      exact back_ok rv s3
theorem snd_mkK {s : Shp} {p : Pos} {kws : List Keyword} {ck : CEs} (g : Gd Γ X C W) (hs : s ∈ Γ.ih) (hg : Gl X s.f) (ha : PA X (e :: es) (tRs X C W cs)) (hk : PK X kws (tRs X C W ck)) (hdb : (s.f == ("__debug__" : Str)) = false)
    (hall : (backToKw pos (keywordEach kws X.env)).all (·.1.isSome) = true) (hks : (backToKw pos (keywordEach kws X.env)).filterMap (·.1) = s.ks)
    (he : starEach (e :: es) X.env = (false, eval e X.env) :: starEach es X.env) (hpl : ((backTo pos (starEach (e :: es) X.env)).any (·.1) || (backToKw pos (keywordEach kws X.env)).any (·.1.isNone)) = false) :
    PE X (.Call (.Name s.f p) (e :: es) kws pos) (tEv X C W (.mkK s cs ck)) := by
  obtain ⟨CA, hm, j, fa, fd, ps, gg, M, h3, h4, h5⟩ := g.ihp s hs
  refine ⟨fun pins t σ H Q I ⟨F, ρ, ss, h⟩ => ?_⟩
  rw [evE, R.thn_bind] at h
  refine wpAny_Call_Name_kw (ld_glob I hg hm ?_ hdb)
  refine PySem.W.callWith_KW (h₀ := X.base) I.ok.mod.kin M.kp hall (thn (ha.run pos pins t σ H (fun vs H1 => tRs X C W ck σ H1 fun zs H2 => vs.length = s.n ∧ zs.length = s.ks.length ∧
    ∀ x dx, H2 x = none → H2 dx = none → dx ≠ x → spF X.K X.mg (C.fns (mkey s.f "__init__")) ((mrg Cn.v (none :: s.pl) ((.ref x :: vs) ++ zs)).getD []) (upd (upd H2 dx (.own x)) x (.ins CA dx [])) (fun v H3 => v = .non ∧ Q (.ref x) H3) (WE W σ)) I ?_) fun us s1 ⟨vs, H1, I1, r, q⟩ => ?_) hpl he
  · refine ⟨F, ρ, ss, h.mono (fun p hp vs T H1 rv s1 => ?_) fun _ _ z => z⟩
    rw [R.thn_bind] at hp
    refine ⟨T ++ F, p.2, s1, hp.mono (fun o ho zs U H2 ru s2 => ?_) fun _ _ z => z.sub (List.sublist_append_right _ _)⟩
    rw [R.thn_bind] at ho
    obtain ⟨l, el, k⟩ := R.thn_of ho
    split at el
    case isFalse => cases el
    rename_i hl
    have s3 : SS X.K X.mg H2 ((T ++ U) ++ F) o.2 σ := s2.permF (by
      rw [← List.append_assoc]
      exact List.perm_append_comm.append_right _)
    exact ⟨rv.len.symm.trans hl.1, ru.len.symm.trans hl.2, madeK_sp hm (rv.app ru) s3 el k⟩
  · refine thn (hk.run pos pins s1 σ H1 _ I1 q) fun ws s2 ⟨zs, H2, I2, rz, l1, l2, q2⟩ => ⟨I2.kIn, ?_⟩
    rw [hks]
    exact run_mkKSD M h5 h4 h3 (passAt g.tk σ) I2 r rz l1 l2 q2
end
end Cs
/-! Cs9a: what is stored into an owned list. -/
namespace Cs
open PySem L2
section
variable {K : PySem.W.Frag} {mg : Str → Option Value} {Hf H : Hp} {rs rs2 : Roots} {d e : D} {v w : V} {ds es : List D} {vs : List V} {f g : List Addr}
theorem Rps.append : ∀ {ds : List D} {vs : List V} {f : List Addr}, Rps K mg Hf H ds vs f → ∀ {es : List D} {ws : List V} {g : List Addr}, Rps K mg Hf H es ws g → Rps K mg Hf H (ds ++ es) (vs ++ ws) (f ++ g)
  | [], _, _, h, _, _, _, t => by
    obtain ⟨rfl, rfl⟩ := h
    exact t
  | d :: ds, _, _, ⟨v, vs', f1, f2, h1, h2, h3, h4⟩, _, _, _, t => by
    subst h1; subst h2
    exact ⟨v, vs' ++ _, f1, f2 ++ _, rfl, by rw [List.append_assoc], h3, h4.append t⟩
theorem Rps.one (h : Rp K mg Hf H d v f) : Rps K mg Hf H [d] [v] f := ⟨v, [], f, [], rfl, by rw [List.append_nil], h, rfl, rfl⟩
theorem Rps.set : ∀ {ds : List D} {vs : List V} {f : List Addr} {j : Nat}, Rps K mg Hf H ds vs f → j < ds.length → Rp K mg Hf H d w g → ∃ l g', l.Perm (f ++ g) ∧ List.Sublist g' l ∧ Rps K mg Hf H (ds.set j d) (vs.set j w) g'
  | [], _, _, _, _, hj, _ => absurd hj (Nat.not_lt_zero _)
  | d0 :: ds, _, _, 0, ⟨v, vs', f1, f2, h1, h2, h3, h4⟩, _, t => by
    subst h1; subst h2
    refine ⟨f1 ++ (g ++ f2), g ++ f2, ?_, List.sublist_append_right _ _, w, vs', g, f2, rfl, rfl, t, h4⟩
    rw [List.append_assoc]
    exact List.Perm.append_left _ List.perm_append_comm
  | d0 :: ds, _, _, j + 1, ⟨v, vs', f1, f2, h1, h2, h3, h4⟩, hj, t => by
    subst h1; subst h2
    obtain ⟨l, g', p, s, r⟩ := Rps.set (j := j) h4 (by simpa using hj) t
    refine ⟨f1 ++ l, f1 ++ g', ?_, (List.Sublist.refl _).append s, v, _, f1, g', rfl, rfl, h3, r⟩
    rw [List.append_assoc]
    exact List.Perm.append_left _ p
/-- an owned list is stored anew -/
theorem St.wr {ws : List V → List V} (h : St K mg H ((.lst true ds, v) :: rs))
    (step : ∀ Hf vs f f2, Rps K mg Hf H ds vs f → Rr K mg Hf H rs f2 → ∃ l g g2, l.Perm (f ++ f2) ∧ List.Sublist (g ++ g2) l ∧ Rps K mg Hf H es (ws vs) g ∧ Rr K mg Hf H rs2 g2) :
    ∃ a vs, v = .ref a ∧ H a = some (.lst vs) ∧ ds.length = vs.length ∧ St K mg (upd H a (.lst (ws vs))) ((.lst true es, v) :: rs2) := by
  obtain ⟨Hf, fp, ex, ⟨f1, f2, h1, ⟨a, vs, f, rfl, h2, h3, h4⟩, h5⟩, nd, dj⟩ := h
  subst h1; subst h2
  obtain ⟨l, g, g2, pl, sl, r1, r2⟩ := step Hf vs f f2 h4 h5
  have nd' : (a :: (f ++ f2)).Nodup := nd
  obtain ⟨n1, n2⟩ := List.nodup_cons.mp nd'
  have ha : Hf a = none := dj a List.mem_cons_self
  have sub : ∀ b, b ∈ g ++ g2 → b ∈ f ++ f2 := fun b hb => pl.mem_iff.mp (sl.subset hb)
  have ne : ∀ b, b ∈ g ++ g2 → b ≠ a := fun b hb q => n1 (by rw [← q]; exact sub b hb)
  refine ⟨a, vs, rfl, h3, h4.len, Hf, a :: (g ++ g2), fun b o e => ?_, ⟨a :: g, g2, rfl, ⟨a, ws vs, g, rfl, rfl, upd_same, Rps.mv (Evl.Ex.refl _) _ (fun b hb => upd_ne (ne b (List.mem_append_left _ hb))) r1⟩,
    r2.mv (Evl.Ex.refl _) fun b hb => upd_ne (ne b (List.mem_append_right _ hb))⟩, List.nodup_cons.mpr ⟨fun hb => n1 (sub a hb), sl.nodup (pl.nodup_iff.mpr n2)⟩, fun b hb => ?_⟩
  · rw [upd_ne fun q => by rw [q, ha] at e; cases e]
    exact ex b o e
  · rcases List.mem_cons.mp hb with q | q
    · rw [q]; exact ha
    · exact dj b (List.mem_cons_of_mem _ (sub b q))
theorem St.app (h : St K mg H ((.lst true ds, v) :: (d, w) :: rs)) : ∃ a vs, v = .ref a ∧ H a = some (.lst vs) ∧ ds.length = vs.length ∧ St K mg (upd H a (.lst (vs ++ [w]))) ((.lst true (ds ++ [d]), v) :: rs) :=
  St.wr (ws := fun vs => vs ++ [w]) h fun Hf vs f f2 r1 ⟨g1, g2, e, r2, r3⟩ => ⟨f ++ f2, f ++ g1, g2, .refl _, by rw [e, List.append_assoc]; exact .refl _, r1.append (Rps.one r2), r3⟩
theorem St.setL {j : Nat} (h : St K mg H ((.lst true ds, v) :: (d, w) :: rs)) (hj : j < ds.length) : ∃ a vs, v = .ref a ∧ H a = some (.lst vs) ∧ ds.length = vs.length ∧ St K mg (upd H a (.lst (vs.set j w))) ((.lst true (ds.set j d), v) :: rs) :=
  St.wr (ws := fun vs => vs.set j w) h fun Hf vs f f2 r1 ⟨g1, g2, e, r2, r3⟩ => by
    subst e
    obtain ⟨l, g', p, s, r⟩ := r1.set hj r2
    exact ⟨l ++ g2, g', g2, by rw [← List.append_assoc]; exact p.append_right _, s.append (.refl _), r, r3⟩
end
end Cs
/-! Cs9: targets, what is walked, comprehensions, statements. -/
namespace Cs
open PySem L2
mutual
def slotsG : CG → List Nat
  | .name i => [i]
  | .tup gs => slotsGs gs
  | .star _ _ gs => slotsGs gs
def slotsGs : CGs → List Nat
  | .nil => []
  | .cons g gs => slotsG g ++ slotsGs gs
end
/-- all slots but these are as they were -/
def Chg (is : List Nat) (σ σ' : L2.St) : Prop := σ'.length = σ.length ∧ ∀ i, i ∉ is → σ'[i]? = σ[i]?
theorem Chg.refl {is : List Nat} {σ : L2.St} : Chg is σ σ := ⟨rfl, fun _ _ => rfl⟩
theorem Chg.trans {is js : List Nat} {σ σ1 σ2 : L2.St} (h1 : Chg is σ σ1) (h2 : Chg js σ1 σ2) : Chg (is ++ js) σ σ2 :=
  ⟨h2.1.trans h1.1, fun i hi => (h2.2 i fun h => hi (List.mem_append_right _ h)).trans (h1.2 i fun h => hi (List.mem_append_left _ h))⟩
theorem Chg.set {σ : L2.St} {i : Nat} {o : Option V} : Chg [i] σ (σ.set i o) := ⟨List.length_set, fun j hj => List.getElem?_set_ne fun e => hj (by rw [e]; exact List.mem_singleton.mpr rfl)⟩
theorem wipe_get {σ : L2.St} : ∀ {vs : List Nat} {i : Nat}, (wipe σ vs)[i]? = if i ∈ vs ∧ i < σ.length then some none else σ[i]?
  | [], i => by simp [wipe]
  | v :: vs, i => by
    show ((wipe σ vs).set v none)[i]? = _
    rw [List.getElem?_set, wipe_get (vs := vs), wipe_length]
    by_cases e : v = i
    · subst e
      by_cases l : v < σ.length
      · simp [l]
      · simp [l]
    · have e' : ¬ i = v := fun h => e h.symm
      simp [e, e']
theorem Chg.wipe {σ σ' : L2.St} {is vs : List Nat} (h : Chg is σ σ') (s : ∀ i ∈ is, i ∈ vs) : wipe σ' vs = wipe σ vs := by
  apply List.ext_getElem?
  intro i
  rw [wipe_get, wipe_get, h.1]
  by_cases hi : i ∈ vs
  · by_cases l : i < σ.length
    · rw [if_pos ⟨hi, l⟩, if_pos ⟨hi, l⟩]
    · rw [if_neg (fun z => l z.2), if_neg (fun z => l z.2), List.getElem?_eq_none (by rw [h.1]; omega), List.getElem?_eq_none (by omega)]
  · rw [if_neg (fun z => hi z.1), if_neg (fun z => hi z.1)]
    exact h.2 i fun z => hi (s i z)
theorem wipe_wipe {σ : L2.St} {vs : List Nat} : wipe (wipe σ vs) vs = wipe σ vs := by
  apply List.ext_getElem?
  intro i
  rw [wipe_get, wipe_get, wipe_length]
  split <;> rfl

section
variable (X : Cx) (C : Ctx) (W : WX)
def tTg (g : CG) : TG := fun v σ H Q => ∃ F ρ d ρ', SS X.K X.mg H ((d, v) :: F) ρ σ ∧ assign g d ρ = some ρ' ∧ ∀ σ' H', Chg (slotsG g) σ σ' → SS X.K X.mg H' F ρ' σ' → Q σ' H'
def tTgs (gs : CGs) : TGs := fun vs σ H Q => ∃ F ρ ds ρ', ds.length = vs.length ∧ SS X.K X.mg H (ds.zip vs ++ F) ρ σ ∧ assigns gs ds ρ = some ρ' ∧ ∀ σ' H', Chg (slotsGs gs) σ σ' → SS X.K X.mg H' F ρ' σ' → Q σ' H'
/-- an iterator that yields ds -/
def ItOk (K : PySem.W.Frag) (mg : Str → Option Value) (J : It) (ds : List D) (src : Roots) : Prop := ∃ G Y, Walk J ds.length G Y ∧ (∀ H rs, St K mg H rs → List.Subset src rs → G H) ∧
  ∀ i H x H' rs d, St K mg H rs → List.Subset src rs → ds[i]? = some d → Y i H x H' → St K mg H' ((d, x) :: rs)
def tIt (c : CI) : TI := fun σ H R => ∃ F ρ, SS X.K X.mg H F ρ σ ∧ (evI C c ρ).thn (fun p => ∀ J src H', ItOk X.K X.mg J p.1 src → SS X.K X.mg H' (src ++ F) p.2 σ → R J H') (ExcP X W F σ)
end
section
variable {X : Cx} {C : Ctx} {W : WX} {Γ : Gam} {e a b tg : Expr} {es : List Expr} {c c1 c2 c3 : CE} {cs : CEs} {g : CG} {gs : CGs} {pos : Pos} {σ σ' : L2.St} {H H' : Hp} {F G : Roots} {ρ ρ' : Env} {d : D} {v : V} {K : PySem.W.Frag} {mg : Str → Option Value}
theorem pg_imp {t t' : TG} (h : PG X tg t) (i : ∀ v σ H Q, t' v σ H Q → t v σ H Q) : PG X tg t' := ⟨fun pins s σ H v u Q I r q => h.run pins s σ H v u Q I r (i v σ H Q q)⟩
theorem pgs_imp {t t' : TGs} (h : PGs X es t) (i : ∀ v σ H Q, t' v σ H Q → t v σ H Q) : PGs X es t' := ⟨fun pins s σ H v u Q I r q => h.run pins s σ H v u Q I r (i v σ H Q q)⟩
theorem gnd_name {i : Nat} {x : Str} (hN : X.N.Nodup) (hi : X.N[i]? = some x) (hx : Loc X.env.scope x) (hf : X.fn x = true ∨ X.env.scope.names.lookup x = some .local) : PG X (.Name x pos) (tTg X (.name i)) :=
  pg_imp (pg_name hN hi hx hf) fun v σ H Q ⟨F, ρ, d, ρ', ss, e, k⟩ => by
    have e : (if i < ρ.length then some (ρ.set i d) else none) = some ρ' := e
    split at e
    · rename_i l
      cases e
      exact k _ _ Chg.set (ss.set l)
    · cases e
theorem gnd_nil : PGs X [] (tTgs X .nil) := pgs_imp pgs_nil fun vs σ H Q ⟨F, ρ, ds, ρ', l, ss, e, k⟩ => by
  cases ds with
  | cons _ _ => cases e
  | nil =>
    cases e
    cases vs with
    | cons _ _ => cases l
    | nil => exact ⟨rfl, k σ H Chg.refl ss⟩
theorem gnd_cons (h1 : PG X e (tTg X g)) (h2 : PGs X es (tTgs X gs)) (hs : (assignEach (e :: es) X.env).map (·.2) = PySem.assign e X.env :: (assignEach es X.env).map (·.2)) : PGs X (e :: es) (tTgs X (.cons g gs)) :=
  pgs_imp (pgs_cons h1 h2 hs) fun vs σ H Q ⟨F, ρ, ds, ρ', l, ss, e, k⟩ => by
    cases ds with
    | nil => cases e
    | cons d ds =>
      cases vs with
      | nil => cases l
      | cons v vs =>
        obtain ⟨ρ1, e1, e2⟩ := Option.bind_eq_some_iff.mp (show (assign g d ρ).bind (assigns gs ds) = some ρ' from e)
        refine ⟨v, vs, rfl, ds.zip vs ++ F, ρ, d, ρ1, ss, e1, fun σ1 H1 c1 s1 => ?_⟩
        exact ⟨F, ρ1, ds, ρ', by simpa using l, s1, e2, fun σ2 H2 c2 s2 => k σ2 H2 (c1.trans c2) s2⟩
theorem Stt.adds {Hf : Hp} {fp : List Addr} {rs : Roots} : ∀ {ds : List D} {vs : List V}, Stt K mg Hf H fp rs → Fzs K mg Hf ds vs → Stt K mg Hf H fp (ds.zip vs ++ rs)
  | _, _, s, .nil => s
  | _, _, s, .cons h t => (s.adds t).add (h.2 H)
def kindB : D → Bool
  | .tup _ => false
  | _ => true
theorem Stt.sqb {Hf : Hp} {fp : List Addr} {rs : Roots} {ds : List D} (s : Stt K mg Hf H fp rs) (h : (d, v) ∈ rs) (e : seqOf d = some ds) : ∃ a vs, v = .ref a ∧ SqB (kindB d) K H a vs ∧ ds.length = vs.length ∧ (isFzs ds = true → Fzs K mg Hf ds vs) := by
  cases d with
  | lst o xs =>
    cases e
    obtain ⟨a, vs, h1, h2, h3, h4, _⟩ := s.lst h
    exact ⟨a, vs, h1, .inl (.inl h2), h3, h4⟩
  | lkd xs =>
    cases e
    obtain ⟨a, vs, h1, h2, h3, h4, _⟩ := s.lkd h
    exact ⟨a, vs, h1, h2, h3, h4⟩
  | tup xs =>
    cases e
    obtain ⟨a, vs, h1, h2, h3, h4, _⟩ := s.tup h
    exact ⟨a, vs, h1, h2, h3, h4⟩
  | _ => cases e
theorem gnd_tup {k : Nat} (hc : X.calm = true) (h : PGs X es (tTgs X gs)) (hst : (assignEach es X.env).findIdx? (·.1) = none) (hl : (assignEach es X.env).length = es.length) (hn : ∀ ds ρ ρ', assigns gs ds ρ = some ρ' → ds.length = es.length) :
    PG X (.Tuple es k pos) (tTg X (.tup gs)) := pg_imp (pg_all (n := es.length) hc h hl hst) fun v σ H Q ⟨F, ρ, d, ρ', ss, e, k⟩ => by
  have e : (match seqOf d with | some ds => if isFzs ds = true then assigns gs ds ρ else none | none => none) = some ρ' := e
  split at e
  · rename_i ds hds
    split at e
    · rename_i z
      obtain ⟨Hf, fp, S⟩ := ss.st
      obtain ⟨a, vs, rfl, q1, l1, w⟩ := S.sqb (List.mem_cons_self) hds
      refine ⟨_, a, vs, rfl, q1, by rw [← l1]; exact hn ds ρ ρ' e, F, ρ, ds, ρ', l1, ⟨ss.wd, ?_⟩, e, k⟩
      have S2 := S.adds (w z)
      have st2 := S2.st.perm (List.perm_middle (l₁ := ds.zip vs))
      have st3 := st2.drop
      rw [List.append_assoc]
      exact st3
    · cases e
  · cases e
theorem gnd_star {k i : Nat} (hc : X.calm = true) (h : PGs X es (tTgs X gs)) (hst : (assignEach es X.env).findIdx? (·.1) = some i) (hl : (assignEach es X.env).length = es.length) :
    PG X (.Tuple es k pos) (tTg X (.star es.length i gs)) := pg_imp (pg_star (n := es.length) hc h hl hst) fun v σ H Q ⟨F, ρ, d, ρ', ss, e, k⟩ => by
  have e : (match seqOf d with | some ds => if (isFzs ds && (decide (i < es.length) && decide (es.length ≤ ds.length + 1))) = true then assigns gs (ds.take i ++ [.lst true ((ds.drop i).take (ds.length + 1 - es.length))] ++ (ds.drop i).drop (ds.length + 1 - es.length)) ρ else none | none => none) = some ρ' := e
  split at e
  · rename_i ds hds
    split at e
    · rename_i z
      rw [Bool.and_eq_true, Bool.and_eq_true] at z
      obtain ⟨z1, z2, z3⟩ := z
      have z2 := of_decide_eq_true z2
      have z3 := of_decide_eq_true z3
      obtain ⟨Hf, fp, S⟩ := ss.st
      obtain ⟨a, vs, rfl, q1, l1, w⟩ := S.sqb (List.mem_cons_self) hds
      refine ⟨_, a, vs, rfl, q1, z2, by rw [← l1]; exact z3, fun L hL => ?_⟩
      refine ⟨F, ρ, _, ρ', ?_, ⟨ss.wd, ?_⟩, e, k⟩
      · simp only [List.length_append, List.length_take, List.length_drop, List.length_cons, List.length_nil, l1]
      · have zf := w z1
        have T := Stt.newL ((S.adds (zf.take i)).adds ((zf.drop i).drop (ds.length + 1 - es.length))) hL ((zf.drop i).take (ds.length + 1 - es.length))
        rw [← l1]
        rw [List.zip_append (by simp [l1]), List.zip_append (by simp [l1])]
        refine (T.sub (List.Sublist.cons_cons _ ((List.Sublist.refl _).append ((List.Sublist.refl _).append (List.sublist_cons_self _ _))))).perm ?_
        have q : ∀ (x : D × V) (rz tz Y Z : Roots), List.Perm (x :: (rz ++ (tz ++ (Y ++ Z)))) (((tz ++ [x]) ++ rz) ++ Y ++ Z) := fun x rz tz Y Z => by
          have e1 : ((tz ++ [x]) ++ rz) ++ Y ++ Z = tz ++ (x :: (rz ++ (Y ++ Z))) := by simp
          rw [e1]
          exact (List.Perm.cons x (List.perm_append_comm_assoc rz tz (Y ++ Z))).trans List.perm_middle.symm
        exact q _ _ _ _ _
    · cases e
  · cases e
theorem assigns_len : ∀ {gs : CGs} {ds : List D} {ρ ρ' : Env} {n : Nat}, (∀ ds ρ ρ', assigns gs ds ρ = some ρ' → ds.length = n) → ∀ ds ρ ρ', assigns (.cons g gs) ds ρ = some ρ' → ds.length = n + 1 := fun {gs _ _ _ n} h ds ρ ρ' e => by
  cases ds with
  | nil => cases e
  | cons d ds =>
    obtain ⟨ρ1, e1, e2⟩ := Option.bind_eq_some_iff.mp (show (assign g d ρ).bind (assigns gs ds) = some ρ' from e)
    rw [List.length_cons, h ds ρ1 ρ' e2]

/-! ### what is walked -/
theorem pi_imp {w w' : TI} {it : Expr} (h : PI X tg it w) (i : ∀ σ H R, w' σ H R → w σ H R) : PI X tg it w' := ⟨fun pins s σ H R I q => h.run pins s σ H R I (i σ H R q)⟩
def iSeq (K : PySem.W.Frag) (tl : TE) : TI := fun σ H R => tl σ H fun x H1 => ∃ a, x = .ref a ∧ ((∃ xs, SqL K H1 a xs ∧ R (Itl K a) H1) ∨ (∃ xs, SqT K H1 a xs ∧ R (Itt K a) H1))
theorem pi_seq {l : Expr} {tl : TE} (hl : PE X l tl) : PI X tg l (iSeq X.K tl) := by
  refine ⟨fun pins s σ H R I h => thn (hl.run pins s σ H _ I h) fun v s1 hv => ?_⟩
  obtain ⟨x, H1, I1, r1, a, ex, q1⟩ := hv
  subst ex
  cases r1
  have new : ∀ b, b ∈ [s1.heap.objs.size] → FpOk X pins H1 b := fun b hb => by
    rw [List.mem_singleton.mp hb]
    exact I1.fpOk (Nat.le_refl _) (I1.hok.fresh (Nat.le_refl _))
  rcases q1 with ⟨xs, hq, q⟩ | ⟨xs, hq, q⟩
  · obtain ⟨its, rv, pl, _⟩ := I1.list hq
    exact wpAny_pyIter_list pl.isList ⟨_, [s1.heap.objs.size], _, _, H1, rfl, I1.kept (t' := s1.toks) (fun _ _ e => Heap.get?_push_of_some _ e), turn_list a _, ⟨_, Heap.get?_push_size _ rfl, rfl, rfl⟩, new, q⟩
  · obtain ⟨its, rv, pl, _⟩ := I1.tuple hq
    exact wpAny_pyIter_tuple (show s1.heap.IsTuple a its.toArray from pl) ⟨_, [s1.heap.objs.size], _, _, H1, rfl, I1.kept (t' := s1.toks) (fun _ _ e => Heap.get?_push_of_some _ e), turn_tuple a _, ⟨_, Heap.get?_push_size _ rfl, rfl, rfl⟩, new, q⟩
/-- the frozen form of what is walked -/
theorem seqOf_frz {d : D} {ds : List D} (h : seqOf d = some ds) : seqOf (frz d) = some (frzs ds) := by
  cases d <;> first | (cases h; rfl) | cases h
theorem nList_frz {d : D} {ds : List D} (h : nList d = some ds) : nList (frz d) = some (frzs ds) := by
  cases d <;> first | (cases h; rfl) | cases h
theorem St.pick {ds : List D} {xs : List V} {i : Nat} {d1 : D} {x : V} {Hf : Hp} {fp : List Addr} (S : Stt K mg Hf H fp F) (z : Fzs K mg Hf ds xs) (e1 : ds[i]? = some d1) (e2 : xs[i]? = some x) : St K mg H ((d1, x) :: F) := by
  obtain ⟨w, q1, q2⟩ := z.get e1
  rw [e2] at q1
  cases q1
  exact (S.add (q2.2 H)).st
theorem it_list {d : D} {a : Addr} {ds : List D} (h : nList d = some ds) (z : isFzs ds = true) : ItOk K mg (Itl K a) ds [(d, .ref a)] := by
  refine ⟨fun H => ∃ xs, xs.length = ds.length ∧ SqL K H a xs, fun i H x H' => H' = H ∧ ∀ xs, SqL K H a xs → xs[i]? = some x, ⟨fun i H hi ⟨xs, l, q⟩ => ⟨xs, xs[i]'(by omega), q, by simp [show i < xs.length by omega]⟩, fun H ⟨xs, l, q⟩ => ⟨xs, q, by omega⟩, fun i H x H' _ _ y => y⟩, fun H rs st sb => ?_, fun i H x H' rs d1 st sb e y => ?_⟩
  · obtain ⟨Hf, fp, S⟩ := st
    obtain ⟨b, vs, q0, q1, l1, _⟩ := S.nls (sb List.mem_cons_self) h
    cases q0
    exact ⟨vs, l1.symm, q1⟩
  · obtain ⟨Hf, fp, S⟩ := st
    obtain ⟨b, vs, q0, q1, l1, w, _⟩ := S.nls (sb List.mem_cons_self) h
    cases q0
    obtain ⟨rfl, y⟩ := y
    exact St.pick S (w z) e (y vs q1)
theorem it_tup {a : Addr} {ds : List D} (z : isFzs ds = true) : ItOk K mg (Itt K a) ds [(.tup ds, .ref a)] := by
  refine ⟨fun H => ∃ xs, xs.length = ds.length ∧ SqT K H a xs, fun i H x H' => H' = H ∧ ∀ xs, SqT K H a xs → xs[i]? = some x, ⟨fun i H hi ⟨xs, l, q⟩ => ⟨xs, xs[i]'(by omega), q, by simp [show i < xs.length by omega]⟩, fun H ⟨xs, l, q⟩ => ⟨xs, q, by omega⟩, fun i H x H' _ _ y => y⟩, fun H rs st sb => ?_, fun i H x H' rs d1 st sb e y => ?_⟩
  · obtain ⟨Hf, fp, S⟩ := st
    obtain ⟨b, vs, q0, q1, l1, _⟩ := S.tup (sb List.mem_cons_self)
    cases q0
    exact ⟨vs, l1.symm, q1⟩
  · obtain ⟨Hf, fp, S⟩ := st
    obtain ⟨b, vs, q0, q1, l1, w, _⟩ := S.tup (sb List.mem_cons_self)
    cases q0
    obtain ⟨rfl, y⟩ := y
    exact St.pick S (w z) e (y vs q1)
theorem it_rng {lo hi : Int} : ItOk K mg (Itr lo (hi - lo).toNat) (rangeD lo hi) [] := by
  have hl : (rangeD lo hi).length = (hi - lo).toNat := by unfold rangeD; rw [List.length_map, List.length_range]
  refine ⟨fun _ => True, fun i H x H' => H' = H ∧ x = .int (lo + i), by rw [hl]; exact walk_range, fun _ _ _ _ => trivial, fun i H x H' rs d1 st sb e y => ?_⟩
  obtain ⟨rfl, rfl⟩ := y
  have e2 : d1 = .int (lo + i) := by
    unfold rangeD at e
    rw [List.getElem?_map] at e
    obtain ⟨j, e3, e4⟩ := Option.map_eq_some_iff.mp e
    rw [← e4]
    have := List.getElem?_eq_some_iff.mp e3
    obtain ⟨hj, e5⟩ := this
    rw [List.getElem_range] at e5
    rw [e5]
  subst e2
  exact st.int _
theorem ind_seq (he : PE X e (tEv X C W c)) : PI X tg e (tIt X C W (.seq c)) := pi_imp (pi_seq he) fun σ H Rr ⟨F, ρ, ss, h⟩ => by
  rw [evI, R.thn_bind] at h
  refine ⟨F, ρ, ss, h.mono (fun p hp v H1 s1 => ?_) fun _ _ z => z⟩
  obtain ⟨q, e, k⟩ := R.thn_of hp
  obtain ⟨ds, e1, e2⟩ := Option.map_eq_some_iff.mp e
  subst e2
  obtain ⟨es, e3, e4⟩ := Option.bind_eq_some_iff.mp (show (seqOf p.1).bind (fun ds => if fulls ds = true then some (frzs ds) else none) = some ds from e1)
  split at e4
  · rename_i z
    cases e4
    have s2 : SS X.K X.mg H1 ((frz p.1, v) :: F) p.2 σ := s1.map St.freeze
    have zz := isFzs_frzs es z
    have sq := seqOf_frz e3
    obtain ⟨Hf, fp, S⟩ := s2.st
    cases hd : frz p.1 with
    | tup xs =>
      rw [hd] at sq S s2
      cases sq
      obtain ⟨a, vs, rfl, q1, _⟩ := S.tup (List.mem_cons_self)
      exact ⟨a, rfl, .inr ⟨vs, q1, k _ _ _ (it_tup zz) s2⟩⟩
    | lst o xs =>
      rw [hd] at sq S s2
      have sq' : nList (.lst o xs) = some (frzs es) := sq
      obtain ⟨a, vs, rfl, q1, _⟩ := S.nls (List.mem_cons_self) sq'
      exact ⟨a, rfl, .inl ⟨vs, q1, k _ _ _ (it_list sq' zz) s2⟩⟩
    | lkd xs =>
      rw [hd] at sq S s2
      have sq' : nList (.lkd xs) = some (frzs es) := sq
      obtain ⟨a, vs, rfl, q1, _⟩ := S.nls (List.mem_cons_self) sq'
      exact ⟨a, rfl, .inl ⟨vs, q1, k _ _ _ (it_list sq' zz) s2⟩⟩
    | _ =>
      rw [hd] at sq
      cases sq
  · cases e4
theorem itRng_some {lo hi : Int} {ds : List D} (h : itRng lo hi = some ds) : ds = rangeD lo hi ∧ -(2 ^ 62) ≤ lo ∧ lo < 2 ^ 62 ∧ -(2 ^ 62) ≤ hi ∧ hi < 2 ^ 62 := by
  unfold itRng at h
  split at h
  · rename_i z
    cases h
    rw [Bool.and_eq_true] at z
    obtain ⟨z1, z2⟩ := z
    have z1 := of_decide_eq_true (p := _ ∧ _) z1
    have z2 := of_decide_eq_true (p := _ ∧ _) z2
    exact ⟨rfl, z1.1, z1.2, z2.1, z2.2⟩
  · cases h
theorem ind_rng1 {p : Pos} (hg : Gl X "range") (hm : X.mg "range" = none) (ha : PE X a (tEv X C W c)) (hs : starEach [a] X.env = [(false, eval a X.env)]) : PI X tg (.Call (.Name "range" p) [a] [] pos) (tIt X C W (.rng1 c)) :=
  pi_imp (pi_range1 hg hm (pa_cons ha pa_nil (by rw [hs]; rfl)) hs) fun σ H Rr ⟨F, ρ, ss, h⟩ => by
    rw [evI, R.thn_bind] at h
    refine ⟨F, ρ, ss, h.mono (fun p hp v H1 s1 => ?_) fun _ _ z => z⟩
    obtain ⟨q, e, k⟩ := R.thn_of hp
    obtain ⟨ds, e1, e2⟩ := Option.map_eq_some_iff.mp e
    obtain ⟨i, e3, e4⟩ := Option.bind_eq_some_iff.mp e1
    subst e2
    obtain ⟨rfl, _, _, b3, b4⟩ := itRng_some e4
    have ev := s1.isInt e3
    subst ev
    have io := it_rng (K := X.K) (mg := X.mg) (lo := 0) (hi := i)
    rw [show i - 0 = i by omega] at io
    exact ⟨i, rfl, b3, b4, k _ [] _ io s1.drop⟩
theorem ind_rng2 {p : Pos} (hg : Gl X "range") (hm : X.mg "range" = none) (ha : PE X a (tEv X C W c1)) (hb : PE X b (tEv X C W c2)) (hs : starEach [a, b] X.env = [(false, eval a X.env), (false, eval b X.env)]) (hs2 : starEach [b] X.env = [(false, eval b X.env)]) :
    PI X tg (.Call (.Name "range" p) [a, b] [] pos) (tIt X C W (.rng2 c1 c2)) :=
  pi_imp (pi_range2 hg hm (pa_cons ha (pa_cons hb pa_nil (by rw [hs2]; rfl)) (by rw [hs, hs2])) hs hs2) fun σ H Rr ⟨F, ρ, ss, h⟩ => by
    rw [evI, R.thn_bind] at h
    refine ⟨F, ρ, ss, h.mono (fun p hp v H1 s1 => ?_) fun _ _ z => z⟩
    rw [R.thn_bind] at hp
    refine ⟨(p.1, v) :: F, p.2, s1, hp.mono (fun r hr w H2 s2 => ?_) fun _ _ z => z.sub (List.sublist_cons_self _ _)⟩
    obtain ⟨q, e, k⟩ := R.thn_of hr
    obtain ⟨ds, e1, e2⟩ := Option.map_eq_some_iff.mp e
    obtain ⟨i, e3, e4⟩ := Option.bind_eq_some_iff.mp e1
    obtain ⟨j, e5, e6⟩ := Option.bind_eq_some_iff.mp e4
    subst e2
    obtain ⟨rfl, b1, b2, b3, b4⟩ := itRng_some e6
    have ev := s1.isInt e3
    subst ev
    have ew := s2.isInt e5
    subst ew
    exact ⟨i, j, rfl, ⟨b1, b2, b3, b4⟩, k _ [] _ it_rng s2.drop.drop⟩

/-! ### comprehensions -/
theorem wd_wipe : ∀ {vs : List Nat}, SS K mg H F ρ σ → SS K mg H F (wipeD ρ vs) (wipe σ vs)
  | [], s => s
  | v :: vs, s => (wd_wipe (vs := vs) s).unset v none
theorem wipeD_get {ρ : Env} : ∀ {vs : List Nat} {i : Nat}, (wipeD ρ vs)[i]? = if i ∈ vs ∧ i < ρ.length then some .undef else ρ[i]?
  | [], i => by simp [wipeD]
  | v :: vs, i => by
    have hl : ∀ vs : List Nat, (wipeD ρ vs).length = ρ.length := fun vs => by
      induction vs with
      | nil => rfl
      | cons w ws ih => show ((wipeD ρ ws).set w .undef).length = _; rw [List.length_set, ih]
    show ((wipeD ρ vs).set v .undef)[i]? = _
    rw [List.getElem?_set, wipeD_get (vs := vs), hl]
    by_cases e : v = i
    · subst e
      by_cases l : v < ρ.length
      · simp [l]
      · simp [l]
    · have e' : ¬ i = v := fun h => e h.symm
      simp [e, e']
/-- the slots vs, kept aside -/
def kept (ρ : Env) (σ : L2.St) (vs : List Nat) : Roots := vs.map fun i => (ρ.getD i .undef, (σ.getD i none).getD .non)
theorem wd_aside : ∀ {vs : List Nat}, vs.Nodup → SS K mg H F ρ σ → SS K mg H (kept ρ σ vs ++ F) (wipeD ρ vs) (wipe σ vs)
  | [], _, s => s
  | v :: vs, nd, s => by
    obtain ⟨n1, n2⟩ := List.nodup_cons.mp nd
    have ih := wd_aside n2 s
    -- the slot v of the wiped state is as it was
    have hρ : (wipeD ρ vs)[v]? = ρ[v]? := by rw [wipeD_get, if_neg fun z => n1 z.1]
    have hσ : (wipe σ vs)[v]? = σ[v]? := by rw [wipe_get, if_neg fun z => n1 z.1]
    show SS K mg H ((ρ.getD v .undef, (σ.getD v none).getD .non) :: (kept ρ σ vs ++ F)) ((wipeD ρ vs).set v .undef) ((wipe σ vs).set v none)
    by_cases hv : v < ρ.length
    · have hv' : v < σ.length := by rw [← s.len]; exact hv
      have e1 : (wipeD ρ vs)[v]? = some (ρ.getD v .undef) := by rw [hρ, List.getElem?_eq_getElem hv, List.getD_eq_getElem?_getD, List.getElem?_eq_getElem hv]; rfl
      have e2 : (wipe σ vs)[v]? = some (σ.getD v none) := by rw [hσ, List.getElem?_eq_getElem hv', List.getD_eq_getElem?_getD, List.getElem?_eq_getElem hv']; rfl
      obtain ⟨R0, p1, p2, _⟩ := rts_at e1 e2
      refine ⟨ih.wd.setUN v none, ?_⟩
      have t : St K mg H ((ρ.getD v .undef, (σ.getD v none).getD .non) :: ((kept ρ σ vs ++ F) ++ R0)) := ih.st.perm ((p1.append_left _).trans List.perm_middle)
      refine ((t.undef .non).swap).perm (List.Perm.cons _ ?_)
      exact (((p2 .undef none).append_left _).trans List.perm_middle).symm
    · have hs : ¬ v < σ.length := by rw [← s.len]; exact hv
      have e1 : (wipeD ρ vs).length ≤ v := by
        have := ih.len
        rw [wipe_length] at this
        omega
      rw [List.set_eq_of_length_le e1, List.set_eq_of_length_le (by rw [wipe_length]; omega)]
      rw [show ρ.getD v .undef = .undef by rw [List.getD_eq_getElem?_getD, List.getElem?_eq_none (by omega)]; rfl]
      exact ih.map fun q => q.undef _
theorem putBack_get {ρ0 ρ : Env} : ∀ {vs : List Nat} {i : Nat}, (putBack ρ0 ρ vs)[i]? = if i ∈ vs ∧ i < ρ.length then some (ρ0.getD i .undef) else ρ[i]?
  | [], i => by simp [putBack]
  | v :: vs, i => by
    have hl : ∀ vs : List Nat, (putBack ρ0 ρ vs).length = ρ.length := fun vs => by
      induction vs with
      | nil => rfl
      | cons w ws ih => show ((putBack ρ0 ρ ws).set w _).length = _; rw [List.length_set, ih]
    show ((putBack ρ0 ρ vs).set v (ρ0.getD v .undef))[i]? = _
    rw [List.getElem?_set, putBack_get (vs := vs), hl]
    by_cases e : v = i
    · subst e
      by_cases l : v < ρ.length
      · simp [l]
      · simp [l]
    · have e' : ¬ i = v := fun h => e h.symm
      simp [e, e']
/-- the slots come back: ρ is a state of the wiped slots -/
theorem wd_back {ρ0 : Env} (w0 : Wd ρ0 σ) : ∀ {vs : List Nat} {ρ : Env}, vs.Nodup → SS K mg H (kept ρ0 σ vs ++ F) ρ (wipe σ vs) → ρ0.length = ρ.length → SS K mg H F (putBack ρ0 ρ vs) σ
  | [], _, _, s, _ => s
  | v :: vs, ρ, nd, s, l => by
    obtain ⟨n1, n2⟩ := List.nodup_cons.mp nd
    have s : SS K mg H ((ρ0.getD v .undef, (σ.getD v none).getD .non) :: (kept ρ0 σ vs ++ F)) ρ ((wipe σ vs).set v none) := s
    -- put v back first
    have key : SS K mg H (kept ρ0 σ vs ++ F) (ρ.set v (ρ0.getD v .undef)) (wipe σ vs) := by
      have hσ : (wipe σ vs)[v]? = σ[v]? := by rw [wipe_get, if_neg fun z => n1 z.1]
      by_cases hv : v < ρ.length
      · have l2 : v < σ.length := by rw [← w0.len, l]; exact hv
        have e1 : ρ[v]? = some ρ[v] := List.getElem?_eq_getElem hv
        have l3 : v < (wipe σ vs).length := by rw [wipe_length]; exact l2
        have e2 : ((wipe σ vs).set v none)[v]? = some none := by rw [List.getElem?_set_self l3]
        obtain ⟨R0, p1, p2, _⟩ := rts_at e1 e2
        have q2 := p2 (ρ0.getD v .undef) (σ.getD v none)
        rw [List.set_set] at q2
        have e3 : (wipe σ vs).set v (σ.getD v none) = wipe σ vs := by
          apply List.ext_getElem?
          intro i
          by_cases e : v = i
          · subst e
            rw [List.getElem?_set_self l3, hσ, List.getElem?_eq_getElem l2, List.getD_eq_getElem?_getD, List.getElem?_eq_getElem l2]; rfl
          · rw [List.getElem?_set_ne e]
        rw [e3] at q2
        have t : St K mg H ((ρ0.getD v .undef, (σ.getD v none).getD .non) :: ((kept ρ0 σ vs ++ F) ++ R0)) :=
          (s.st.perm (List.Perm.cons _ ((p1.append_left _).trans List.perm_middle))).drop2
        refine ⟨?_, t.perm ((q2.append_left _).trans List.perm_middle).symm⟩
        -- Wd
        have w1 : Wd ρ ((wipe σ vs).set v none) := s.wd
        obtain ⟨o, h1, h2⟩ := w0.get (i := v) (d := ρ0.getD v .undef) (by rw [List.getD_eq_getElem?_getD, List.getElem?_eq_getElem (by omega)]; rfl)
        have e4 : σ.getD v none = o := by rw [List.getD_eq_getElem?_getD, h1]; rfl
        rcases h2 with h2 | ⟨u, h2⟩
        · have w2 := w1.setUN v (σ.getD v none)
          rw [List.set_set, e3] at w2
          rw [h2]
          exact w2
        · have w2 := w1.set v (ρ0.getD v .undef) u
          rw [List.set_set] at w2
          rw [e4, h2] at e3
          rw [e3] at w2
          exact w2
      · have l4 : ¬ v < (wipe σ vs).length := by rw [wipe_length, ← w0.len, l]; exact hv
        rw [List.set_eq_of_length_le (by omega)]
        rw [List.set_eq_of_length_le (by omega)] at s
        exact s.drop
    have ih := wd_back w0 n2 key (by rw [List.length_set]; exact l)
    have e5 : putBack ρ0 (ρ.set v (ρ0.getD v .undef)) vs = (putBack ρ0 ρ vs).set v (ρ0.getD v .undef) := by
      have hl : ∀ (ρ : Env) (vs : List Nat), (putBack ρ0 ρ vs).length = ρ.length := fun ρ vs => by
        induction vs with
        | nil => rfl
        | cons w ws ih => show ((putBack ρ0 ρ ws).set w _).length = _; rw [List.length_set, ih]
      apply List.ext_getElem?
      intro i
      rw [putBack_get, List.getElem?_set, List.getElem?_set, putBack_get, List.length_set, hl]
      by_cases e : v = i
      · subst e
        simp [n1]
      · simp [e]
    rw [e5] at ih
    exact ih
theorem loopC_len {turn : D → Env → R (Option D × Env)} : ∀ {ds acc ys : List D} {ρ ρ' : Env}, loopC turn ds acc ρ = .ok (ys, ρ') → acc.length ≤ ys.length
  | [], _, _, _, _, h => by cases h; exact Nat.le_refl _
  | d :: ds, acc, ys, ρ, ρ', h => by
    unfold loopC at h
    split at h
    · have := loopC_len h
      rw [List.length_append] at this
      omega
    · exact loopC_len h
    · cases h

theorem loopC_cons {turn : D → Env → R (Option D × Env)} {d : D} {ds acc : List D} {q : List D × Env} (h : loopC turn (d :: ds) acc ρ = .ok q) :
    (∃ y ρ', turn d ρ = .ok (some y, ρ') ∧ loopC turn ds (acc ++ [y]) ρ' = .ok q) ∨ ∃ ρ', turn d ρ = .ok (none, ρ') ∧ loopC turn ds acc ρ' = .ok q := by
  unfold loopC at h
  split at h
  · rename_i y ρ' e
    exact .inl ⟨y, ρ', e, h⟩
  · rename_i ρ' e
    exact .inr ⟨ρ', e, h⟩
  · cases h
theorem R.thn_ok {α : Type} {r : R α} {a : α} {P : α → Prop} {E : Exn → Env → Prop} (h : r = .ok a) (p : P a) : r.thn P E := by rw [h]; exact p
theorem R.bind_ok {α β : Type} {r : R α} {f : α → R β} {b : β} (h : r.bind f = .ok b) : ∃ a, r = .ok a ∧ f a = .ok b := by
  cases r with
  | ok a => exact ⟨a, rfl, h⟩
  | exc x ρ => cases h
  | fail => cases h
theorem R.map_ok {α β : Type} {r : R α} {f : α → β} {b : β} (h : r.map f = .ok b) : ∃ a, r = .ok a ∧ f a = b := by
  cases r with
  | ok a => exact ⟨a, rfl, by cases h; rfl⟩
  | exc x ρ => cases h
  | fail => cases h
theorem R.of_ok {α : Type} {o : Option α} {a : α} (h : R.of o = .ok a) : o = some a := by
  cases o with
  | none => cases h
  | some b => cases h; rfl
theorem loopC_noexc {turn : D → Env → R (Option D × Env)} : ∀ {ds acc : List D} {ρ : Env} {P : (List D × Env) → Prop} {E : Exn → Env → Prop}, (loopC turn ds acc ρ).thn P E → ∃ q, loopC turn ds acc ρ = .ok q ∧ P q
  | [], acc, ρ, _, _, h => ⟨_, rfl, h⟩
  | d :: ds, acc, ρ, _, _, h => by
    unfold loopC at h ⊢
    split at h
    · exact loopC_noexc h
    · exact loopC_noexc h
    · exact h.elim
/-- what a comprehension needs of its parts, in its own block -/
theorem ent_lc {own : List Nat} {g : CG} {it : CI} {t : CT} {elt : CE} {Wb : WX} (nd : own.Nodup) (hs : ∀ i ∈ slotsG g, i ∈ own) {Q : VK} :
    tEv X C W (.lc own g it t elt) σ H Q → tLc (tIt X C W it) (tTg X g) (tTs X C Wb t) (tEv X C Wb elt) own σ H Q := fun ⟨F, ρ, ss, h⟩ => by
  rw [evE, R.thn_bind] at h
  refine ⟨F, ρ, ss, h.mono (fun p hp J src H1 io s1 => ?_) fun _ _ z => z⟩
  obtain ⟨G, Y, wk, hG, hY⟩ := io
  intro Dl hD
  rw [R.thn_bind] at hp
  generalize ht : (fun d ρ1 => (R.of (assign g d ρ1)).bind fun ρ2 => (evT C t ρ2).bind fun c => if c.1 = true then (evE C elt c.2).map fun y => (some y.1, wipeD y.2 own) else R.ok (none, wipeD c.2 own)) = turn at hp
  obtain ⟨fin, hq, hp⟩ := loopC_noexc hp
  obtain ⟨q2, e2, kQ⟩ := R.thn_of hp
  have aside := wd_aside nd s1
  have hl0 : p.2.length = σ.length := s1.len
  -- what stands at a turn
  let Pv : Nat → Hp → Prop := fun i H => ∃ ρi acc, SS X.K X.mg H ((.lst true acc, .ref Dl) :: (kept p.2 σ own ++ (src ++ F))) ρi (wipe σ own) ∧ loopC turn (p.1.drop i) acc ρi = .ok fin
  refine lc_it wk (Pv := Pv) ?_ (fun i H _ pv => ?_) (fun i x H H' hi pv y => ?_) fun H pv => ?_
  · refine ⟨_, [], ?_, hq⟩
    exact aside.map fun st => St.newL (ds := []) (vs := []) rfl hD st
  · obtain ⟨ρi, acc, s2, _⟩ := pv
    refine hG H _ s2.st fun r hr => ?_
    simp only [List.mem_append, List.mem_cons]
    exact .inl (.inr (.inr (.inl hr)))
  · obtain ⟨ρi, acc, s2, hl⟩ := pv
    have hd : p.1.drop i = p.1[i] :: p.1.drop (i + 1) := List.drop_eq_getElem_cons hi
    rw [hd] at hl
    -- the item
    have sx : SS X.K X.mg H' ((p.1[i], x) :: (.lst true acc, .ref Dl) :: (kept p.2 σ own ++ (src ++ F))) ρi (wipe σ own) := ⟨s2.wd, by
      refine hY i H x H' _ _ s2.st ?_ (List.getElem?_eq_getElem hi) y
      exact fun r hr => List.mem_append_left _ (List.mem_cons_of_mem _ (List.mem_append_right _ (List.mem_append_left _ hr)))⟩
    have hturn : ∃ o ρ', turn p.1[i] ρi = .ok (o, ρ') ∧ (match o with | some y => loopC turn (p.1.drop (i + 1)) (acc ++ [y]) ρ' = .ok fin | none => loopC turn (p.1.drop (i + 1)) acc ρ' = .ok fin) := by
      rcases loopC_cons hl with ⟨y, ρ', e, k⟩ | ⟨ρ', e, k⟩
      · exact ⟨some y, ρ', e, k⟩
      · exact ⟨none, ρ', e, k⟩
    obtain ⟨o, ρ', et, hl2⟩ := hturn
    rw [← ht] at et
    obtain ⟨ρ2, e3, et⟩ := R.bind_ok et
    refine ⟨_, ρi, _, ρ2, sx, R.of_ok e3, fun σ2 H2 c2 s3 => ⟨(c2.wipe hs).trans wipe_wipe, ?_⟩⟩
    have hw : wipe σ2 own = wipe σ own := (c2.wipe hs).trans wipe_wipe
    obtain ⟨cc, e4, et⟩ := R.bind_ok et
    refine ⟨_, ρ2, s3, R.thn_ok e4 fun H3 s4 => ?_⟩
    cases hb : cc.1 with
    | false =>
      rw [hb, if_neg Bool.false_ne_true] at et
      rw [if_neg Bool.false_ne_true]
      cases et
      refine ⟨_, acc, ?_, hl2⟩
      have s5 := wd_wipe (vs := own) s4
      rw [hw] at s5
      exact s5
    | true =>
      rw [hb, if_pos rfl] at et
      rw [if_pos rfl]
      obtain ⟨yy, e5, e6⟩ := R.map_ok et
      cases e6
      refine ⟨_, cc.2, s4, R.thn_ok e5 fun v H4 s5 => ?_⟩
      have s6 := wd_wipe (vs := own) s5
      rw [hw] at s6
      have s7 : SS X.K X.mg H4 ((.lst true acc, .ref Dl) :: (yy.1, v) :: (kept p.2 σ own ++ (src ++ F))) (wipeD yy.2 own) (wipe σ own) := s6.permF (List.Perm.swap _ _ _)
      obtain ⟨a, vs, ea, h1, l1, st⟩ := St.app s7.st
      cases ea
      refine ⟨vs, h1, ?_, _, acc ++ [yy.1], ⟨s7.wd, st⟩, hl2⟩
      have l2 := loopC_len hl2
      rw [List.length_append] at l2
      have : fin.1.length ≤ sizeLine := by
        split at e2
        · rename_i z
          exact szOk_le z
        · cases e2
      have l3 : [yy.1].length = 1 := rfl
      omega
  · obtain ⟨ρi, acc, s2, hl⟩ := pv
    rw [List.drop_eq_nil_of_le (Nat.le_refl _)] at hl
    cases hl
    split at e2
    · cases e2
      refine kQ _ _ ?_
      have s3 : SS X.K X.mg H (kept p.2 σ own ++ ((.lst true acc, .ref Dl) :: F)) ρi (wipe σ own) := by
        refine (s2.sub (F' := (.lst true acc, .ref Dl) :: (kept p.2 σ own ++ F)) (List.Sublist.cons_cons _ ((List.Sublist.refl _).append (List.sublist_append_right _ _)))).permF ?_
        exact List.perm_middle.symm
      refine wd_back s1.wd nd s3 ?_
      have := s2.len
      rw [wipe_length] at this
      show p.2.length = ρi.length
      omega
    · cases e2
end
end Cs
/-! Cs9b: pairs that are walked; comprehensions over two sources. -/
namespace Cs
open PySem L2
section
variable {X : Cx} {C : Ctx} {W : WX} {Γ : Gam} {e a b tg : Expr} {c c1 c2 : CE} {pos : Pos} {σ σ' : L2.St} {H H' : Hp} {F G : Roots} {ρ ρ' : Env} {d d1 d2 : D} {v : V} {K : PySem.W.Frag} {mg : Str → Option Value}
theorem zipD_get {ds es : List D} {i : Nat} {x : D} (h : (zipD ds es)[i]? = some x) : ∃ y z, ds[i]? = some y ∧ es[i]? = some z ∧ x = .tup [y, z] := by
  unfold zipD at h
  rw [List.getElem?_map] at h
  obtain ⟨p, h1, h2⟩ := Option.map_eq_some_iff.mp h
  rw [List.getElem?_zip_eq_some] at h1
  exact ⟨p.1, p.2, h1.1, h1.2, h2.symm⟩
theorem zipD_len {ds es : List D} : (zipD ds es).length = min ds.length es.length := by
  unfold zipD
  rw [List.length_map, List.length_zip]
/-- a new pair of frozen things -/
theorem new_pair {ds es : List D} {vs ws : List V} {i : Nat} {y z : D} {u w : V} {T : Addr} {Hf : Hp} {fp : List Addr} {rs : Roots} (S : Stt K mg Hf H fp rs) (hT : H T = none) (zd : Fzs K mg Hf ds vs) (ze : Fzs K mg Hf es ws) (h1 : ds[i]? = some y) (h2 : es[i]? = some z) (h3 : vs[i]? = some u) (h4 : ws[i]? = some w) :
    St K mg (upd H T (.tup [u, w])) ((.tup [y, z], .ref T) :: rs) := by
  obtain ⟨u', q1, q2⟩ := zd.get h1
  obtain ⟨w', q3, q4⟩ := ze.get h2
  rw [h3] at q1
  rw [h4] at q3
  cases q1
  cases q3
  exact S.newT hT (.cons q2 (.cons q4 .nil))
theorem it_pairs {J : It} {a b : Addr} {ds es : List D} {n : Nat} (hn : n = min ds.length es.length) (hd : seqOf d1 = some ds) (he : seqOf d2 = some es) (zd : isFzs ds = true) (ze : isFzs es = true)
    (goes : ∀ i H, i < n → (∃ xs ys, SqB (kindB d1) K H a xs ∧ SqB (kindB d2) K H b ys ∧ xs.length = ds.length ∧ ys.length = es.length) → J.go i H)
    (stops : ∀ H, (∃ xs ys, SqB (kindB d1) K H a xs ∧ SqB (kindB d2) K H b ys ∧ xs.length = ds.length ∧ ys.length = es.length) → J.stop n H)
    (yields : ∀ i H x H', J.yld i H x H' → ∃ T u w, x = .ref T ∧ H T = none ∧ H' = upd H T (.tup [u, w]) ∧ (∀ xs, SqB (kindB d1) K H a xs → xs[i]? = some u) ∧ ∀ ys, SqB (kindB d2) K H b ys → ys[i]? = some w) : ItOk K mg J (zipD ds es) [(d1, .ref a), (d2, .ref b)] := by
  have g : ∀ H rs, St K mg H rs → List.Subset [(d1, V.ref a), (d2, V.ref b)] rs → ∃ xs ys, SqB (kindB d1) K H a xs ∧ SqB (kindB d2) K H b ys ∧ xs.length = ds.length ∧ ys.length = es.length := fun H rs ⟨Hf, fp, S⟩ sb => by
    obtain ⟨p, vs, q0, q1, l1, _⟩ := S.sqb (sb List.mem_cons_self) hd
    obtain ⟨r, ws, t0, t1, l2, _⟩ := S.sqb (sb (List.mem_cons_of_mem _ List.mem_cons_self)) he
    cases q0
    cases t0
    exact ⟨vs, ws, q1, t1, l1.symm, l2.symm⟩
  refine ⟨_, _, ⟨?_, ?_, fun i H x H' _ _ y => yields i H x H' y⟩, g, fun i H x H' rs d st sb e y => ?_⟩
  · rw [zipD_len, ← hn]; exact goes
  · rw [zipD_len, ← hn]; exact stops
  · obtain ⟨T, u, w, rfl, hT, rfl, f1, f2⟩ := y
    obtain ⟨y, z, e1, e2, rfl⟩ := zipD_get e
    obtain ⟨Hf, fp, S⟩ := st
    obtain ⟨p, vs, q0, q1, l1, w1⟩ := S.sqb (sb List.mem_cons_self) hd
    obtain ⟨r, ws, t0, t1, l2, w2⟩ := S.sqb (sb (List.mem_cons_of_mem _ List.mem_cons_self)) he
    cases q0
    cases t0
    exact new_pair S hT (w1 zd) (w2 ze) e1 e2 (f1 vs q1) (f2 ws t1)
theorem it_zs {a b : Addr} {ds es : List D} (hl : ds.length = es.length) (hd : seqOf d1 = some ds) (he : seqOf d2 = some es) (zd : isFzs ds = true) (ze : isFzs es = true) : ItOk K mg (ItS (kindB d1) (kindB d2) K a b) (zipD ds es) [(d1, .ref a), (d2, .ref b)] :=
  it_pairs (n := ds.length) (by omega) hd he zd ze (fun i H hi ⟨xs, ys, s1, s2, l1, l2⟩ => ⟨xs, ys, xs[i]'(by omega), ys[i]'(by omega), s1, s2, List.getElem?_eq_getElem _, List.getElem?_eq_getElem _⟩)
    (fun H ⟨xs, ys, s1, s2, l1, l2⟩ => ⟨xs, ys, s1, s2, by omega, by omega⟩) (fun i H x H' y => y)
theorem it_zl {a b : Addr} {ds es : List D} (hd : seqOf d1 = some ds) (he : seqOf d2 = some es) (k1 : kindB d1 = true) (k2 : kindB d2 = true) (zd : isFzs ds = true) (ze : isFzs es = true) : ItOk K mg (Itz K a b) (zipD ds es) [(d1, .ref a), (d2, .ref b)] := by
  refine it_pairs (n := min ds.length es.length) rfl hd he zd ze ?_ ?_ ?_
  · rw [k1, k2]
    exact fun i H hi ⟨xs, ys, s1, s2, l1, l2⟩ => ⟨xs, ys, xs[i]'(by omega), ys[i]'(by omega), s1, s2, List.getElem?_eq_getElem _, List.getElem?_eq_getElem _⟩
  · rw [k1, k2]
    exact fun H ⟨xs, ys, s1, s2, l1, l2⟩ => ⟨xs, ys, s1, s2, by omega⟩
  · rw [k1, k2]
    exact fun i H x H' y => y
theorem it_zt {a b : Addr} {ds es : List D} (hd : seqOf d1 = some ds) (he : seqOf d2 = some es) (k1 : kindB d1 = false) (k2 : kindB d2 = false) (zd : isFzs ds = true) (ze : isFzs es = true) : ItOk K mg (RZ.ItzT K a b) (zipD ds es) [(d1, .ref a), (d2, .ref b)] := by
  refine it_pairs (n := min ds.length es.length) rfl hd he zd ze ?_ ?_ ?_
  · rw [k1, k2]
    exact fun i H hi ⟨xs, ys, s1, s2, l1, l2⟩ => ⟨xs, ys, xs[i]'(by omega), ys[i]'(by omega), s1, s2, List.getElem?_eq_getElem _, List.getElem?_eq_getElem _⟩
  · rw [k1, k2]
    exact fun H ⟨xs, ys, s1, s2, l1, l2⟩ => ⟨xs, ys, s1, s2, by omega⟩
  · rw [k1, k2]
    exact fun i H x H' y => y
theorem kindB_frz (d : D) : kindB (frz d) = kindB d := by cases d <;> rfl
/-- both sources, frozen -/
theorem two_frz {x y : D} {u w : V} (s : SS X.K X.mg H ((y, w) :: (x, u) :: F) ρ σ) : SS X.K X.mg H ((frz x, u) :: (frz y, w) :: F) ρ σ :=
  ((s.map St.freeze).permF (List.Perm.swap _ _ _)).map St.freeze
theorem itZipA_some {ds es r : List D} (h : itZipA ds es = some r) : fulls ds = true ∧ fulls es = true ∧ r = zipD (frzs ds) (frzs es) := by
  unfold itZipA at h
  split at h
  · rename_i z
    rw [Bool.and_eq_true] at z
    cases h
    exact ⟨z.1, z.2, rfl⟩
  · cases h
theorem frzs_len (ds : List D) : (frzs ds).length = ds.length := by rw [frzs_map, List.length_map]
theorem ind_zps {p kp cp tpos : Pos} {elts : List Expr} {kk j : Nat} (hg : Gl X "zip") (hm : X.mg "zip" = none) (ha : PE X a (tEv X C W c1)) (hb : PE X b (tEv X C W c2)) (hs : starEach [a, b] X.env = (false, eval a X.env) :: starEach [b] X.env) (hs2 : starEach [b] X.env = (false, eval b X.env) :: starEach [] X.env) :
    PI X (.Tuple elts kk tpos) (.Call (.Name "zip" p) [a, b] [⟨some "strict", .Constant (.bool true) j cp, kp⟩] pos) (tIt X C W (.zps c1 c2)) :=
  pi_imp (pi_zs hg hm (pa_cons ha (pa_cons hb pa_nil hs2) hs) hs (by rw [hs2]; rfl)) fun σ H Rr ⟨F, ρ, ss, h⟩ => by
    rw [evI, R.thn_bind] at h
    refine ⟨F, ρ, ss, h.mono (fun p hp v H1 s1 => ?_) fun _ _ z => z⟩
    rw [R.thn_bind] at hp
    refine ⟨(p.1, v) :: F, p.2, s1, hp.mono (fun r hr w H2 s2 => ?_) fun _ _ z => z.sub (List.sublist_cons_self _ _)⟩
    obtain ⟨q, e, k⟩ := R.thn_of hr
    obtain ⟨dd, e1, e2⟩ := Option.map_eq_some_iff.mp e
    subst e2
    unfold itZps at e1
    split at e1
    case h_2 => cases e1
    rename_i ds es h1 h2
    split at e1
    case isFalse => cases e1
    rename_i hl
    have hl := of_decide_eq_true hl
    obtain ⟨f1, f2, rfl⟩ := itZipA_some e1
    have s3 := two_frz s2
    have g1 := seqOf_frz h1
    have g2 := seqOf_frz h2
    obtain ⟨Hf, fp, S⟩ := s3.st
    obtain ⟨aa, vs, rfl, q1, _⟩ := S.sqb (List.mem_cons_self) g1
    obtain ⟨bb, ws, rfl, q2, _⟩ := S.sqb (List.mem_cons_of_mem _ List.mem_cons_self) g2
    exact ⟨_, _, aa, bb, vs, ws, rfl, q1, q2, k _ _ _ (it_zs (by rw [frzs_len, frzs_len]; exact hl) g1 g2 (isFzs_frzs _ f1) (isFzs_frzs _ f2)) s3⟩
theorem ind_zip {p tpos : Pos} {elts : List Expr} {kk : Nat} (hg : Gl X "zip") (hm : X.mg "zip" = none) (ha : PE X a (tEv X C W c1)) (hb : PE X b (tEv X C W c2)) (hs : starEach [a, b] X.env = (false, eval a X.env) :: starEach [b] X.env) (hs2 : starEach [b] X.env = (false, eval b X.env) :: starEach [] X.env) :
    PI X (.Tuple elts kk tpos) (.Call (.Name "zip" p) [a, b] [] pos) (tIt X C W (.zip c1 c2)) :=
  pi_imp (RZ.pi_zipA hg hm (pa_cons ha (pa_cons hb pa_nil hs2) hs) hs (by rw [hs2]; rfl)) fun σ H Rr ⟨F, ρ, ss, h⟩ => by
    rw [evI, R.thn_bind] at h
    refine ⟨F, ρ, ss, h.mono (fun p hp v H1 s1 => ?_) fun _ _ z => z⟩
    rw [R.thn_bind] at hp
    refine ⟨(p.1, v) :: F, p.2, s1, hp.mono (fun r hr w H2 s2 => ?_) fun _ _ z => z.sub (List.sublist_cons_self _ _)⟩
    obtain ⟨q, e, k⟩ := R.thn_of hr
    obtain ⟨dd, e1, e2⟩ := Option.map_eq_some_iff.mp e
    subst e2
    have s3 := two_frz s2
    obtain ⟨Hf, fp, S⟩ := s3.st
    unfold itZip at e1
    split at e1
    · rename_i ds es h1 h2
      obtain ⟨f1, f2, rfl⟩ := itZipA_some e1
      have g1 : seqOf (frz p.1) = some (frzs ds) := by rw [h1]; rfl
      have g2 : seqOf (frz r.1) = some (frzs es) := by rw [h2]; rfl
      have k1 : kindB (frz p.1) = false := by rw [h1]; rfl
      have k2 : kindB (frz r.1) = false := by rw [h2]; rfl
      obtain ⟨aa, vs, rfl, q1, _⟩ := S.sqb (List.mem_cons_self) g1
      obtain ⟨bb, ws, rfl, q2, _⟩ := S.sqb (List.mem_cons_of_mem _ List.mem_cons_self) g2
      rw [k1] at q1
      rw [k2] at q2
      exact ⟨aa, bb, vs, ws, rfl, .inr ⟨q1, q2, k _ _ _ (it_zt g1 g2 k1 k2 (isFzs_frzs _ f1) (isFzs_frzs _ f2)) s3⟩⟩
    · split at e1
      case h_2 => cases e1
      rename_i ds es h1 h2
      obtain ⟨f1, f2, rfl⟩ := itZipA_some e1
      have h1' := nList_frz h1
      have h2' := nList_frz h2
      have nk : ∀ {d : D} {xs : List D}, nList d = some xs → seqOf d = some xs ∧ kindB d = true := fun {d xs} h => by
        cases d <;> first | exact ⟨h, rfl⟩ | cases h
      obtain ⟨g1, k1⟩ := nk h1'
      obtain ⟨g2, k2⟩ := nk h2'
      obtain ⟨aa, vs, rfl, q1, _⟩ := S.sqb (List.mem_cons_self) g1
      obtain ⟨bb, ws, rfl, q2, _⟩ := S.sqb (List.mem_cons_of_mem _ List.mem_cons_self) g2
      rw [k1] at q1
      rw [k2] at q2
      exact ⟨aa, bb, vs, ws, rfl, .inl ⟨q1, q2, k _ _ _ (it_zl g1 g2 k1 k2 (isFzs_frzs _ f1) (isFzs_frzs _ f2)) s3⟩⟩
end
end Cs
/-! Cs9c: comprehensions over two sources; enumerate. -/
namespace Cs
open PySem L2
section
variable {X : Cx} {C : Ctx} {W : WX} {Γ : Gam} {e a b tg : Expr} {c c1 c2 : CE} {pos : Pos} {σ σ' : L2.St} {H H' : Hp} {F G : Roots} {ρ ρ' : Env} {d d1 d2 : D} {v : V} {K : PySem.W.Frag} {mg : Str → Option Value}
theorem loopO_noexc {turn : D → List D → Env → R (List D × Env)} : ∀ {ds acc : List D} {ρ : Env} {P : (List D × Env) → Prop} {E : Exn → Env → Prop}, (loopO turn ds acc ρ).thn P E → ∃ q, loopO turn ds acc ρ = .ok q ∧ P q
  | [], acc, ρ, _, _, h => ⟨_, rfl, h⟩
  | d :: ds, acc, ρ, _, _, h => by
    unfold loopO at h ⊢
    split at h
    · exact loopO_noexc h
    · exact h.elim
theorem loopO_cons {turn : D → List D → Env → R (List D × Env)} {d : D} {ds acc : List D} {q : List D × Env} (h : loopO turn (d :: ds) acc ρ = .ok q) : ∃ acc' ρ', turn d acc ρ = .ok (acc', ρ') ∧ loopO turn ds acc' ρ' = .ok q := by
  unfold loopO at h
  split at h
  · exact ⟨_, _, by assumption, h⟩
  · cases h
theorem loopO_len {turn : D → List D → Env → R (List D × Env)} (hm : ∀ d acc ρ acc' ρ', turn d acc ρ = .ok (acc', ρ') → acc.length ≤ acc'.length) : ∀ {ds acc ys : List D} {ρ ρ' : Env}, loopO turn ds acc ρ = .ok (ys, ρ') → acc.length ≤ ys.length
  | [], _, _, _, _, h => by cases h; exact Nat.le_refl _
  | d :: ds, acc, ys, ρ, ρ', h => by
    obtain ⟨acc', ρ1, h1, h2⟩ := loopO_cons h
    exact Nat.le_trans (hm _ _ _ _ _ h1) (loopO_len hm h2)
/-- a source's own loop, within a comprehension -/
theorem in_it {J : It} {n : Nat} {G : Hp → Prop} {Y : Nat → Hp → V → Hp → Prop} (w : Walk J n G Y) {T : Nat → V → Hp → (Hp → Prop) → Prop} {H1 : Hp} {Qd : Hp → Prop} (Pv : Nat → Hp → Prop) (h0 : Pv 0 H1) (hG : ∀ i H, i ≤ n → Pv i H → G H)
    (hs : ∀ i x H H', i < n → Pv i H → Y i H x H' → T i x H' (Pv (i + 1))) (hd : ∀ H, Pv n H → Qd H) :
    ∃ W : Nat → Nat → Hp → Prop, (∃ m, W 0 m H1) ∧ ∀ i m H, W i m H → (J.stop i H ∧ Qd H) ∨ (J.go i H ∧ ∃ Nx : Hp → Prop, (∀ H', Nx H' → ∃ m', m' < m ∧ W (i + 1) m' H') ∧ ∀ x H', J.yld i H x H' → T i x H' Nx) := by
  refine ⟨fun i m H => m = n - i ∧ i ≤ n ∧ Pv i H, ⟨n, by simp, Nat.zero_le _, h0⟩, ?_⟩
  rintro i m H ⟨rfl, hi, p⟩
  have q := hG i H hi p
  by_cases hlt : i < n
  · exact .inr ⟨w.goes i H hlt q, Pv (i + 1), fun H' p' => ⟨n - (i + 1), by omega, rfl, hlt, p'⟩, fun x H' y => hs i x H H' hlt p (w.yields i H x H' hlt q y)⟩
  · have e : i = n := by omega
    subst e
    exact .inl ⟨w.stops H q, hd H p⟩
theorem wipe_sub {σ : L2.St} {vs own : List Nat} (hv : ∀ i ∈ vs, i ∈ own) : wipe (wipe σ vs) own = wipe σ own := by
  apply List.ext_getElem?
  intro n
  by_cases h2 : n < σ.length
  · have e1 := wipe_get (σ := wipe σ vs) (vs := own) (i := n)
    have e2 := wipe_get (σ := σ) (vs := own) (i := n)
    have e3 := wipe_get (σ := σ) (vs := vs) (i := n)
    rw [wipe_length] at e1
    by_cases h1 : n ∈ own
    · rw [e1, e2, if_pos ⟨h1, h2⟩, if_pos ⟨h1, h2⟩]
    · rw [e1, e2, if_neg (fun z => h1 z.1), if_neg (fun z => h1 z.1), e3, if_neg (fun z => h1 (hv n z.1))]
  · rw [List.getElem?_eq_none (by rw [wipe_length, wipe_length]; omega), List.getElem?_eq_none (by rw [wipe_length]; omega)]
theorem ent_lc2 {own vs : List Nat} {g g1 : CG} {it it1 : CI} {t t1 : CT} {elt : CE} {Wb : WX} (nd : own.Nodup) (hv : ∀ i ∈ vs, i ∈ own) (hs : ∀ i ∈ slotsG g, i ∈ own) (hs1 : ∀ i ∈ slotsG g1, i ∈ vs) {Q : VK} :
    tEv X C W (.lc2 own g it t vs g1 it1 t1 elt) σ H Q → tLc2 (tIt X C W it) (tTg X g) (tTs X C Wb t) (tIt X C Wb it1) (tTg X g1) (tTs X C Wb t1) (tEv X C Wb elt) own vs σ H Q := fun ⟨F, ρ, ss, h⟩ => by
  rw [evE, R.thn_bind] at h
  refine ⟨F, ρ, ss, h.mono (fun p hp J src H1 io s1 => ?_) fun _ _ z => z⟩
  obtain ⟨G, Y, wk, hG, hY⟩ := io
  intro Dl hD
  rw [R.thn_bind] at hp
  generalize ht1 : (fun d ρ3 => (R.of (assign g1 d ρ3)).bind fun ρ4 => (evT C t1 ρ4).bind fun c1 => if c1.1 = true then (evE C elt c1.2).map fun y => (some y.1, wipeD y.2 vs) else R.ok (none, wipeD c1.2 vs)) = inner at hp
  generalize ht : (fun d acc ρ1 => (R.of (assign g d ρ1)).bind fun ρ2 => (evT C t ρ2).bind fun c => if c.1 = true then (evI C it1 c.2).bind fun q => (loopC inner q.1 acc (wipeD q.2 vs)).map fun r => (r.1, wipeD r.2 own) else R.ok (acc, wipeD c.2 own)) = turn at hp
  have hmono : ∀ d acc ρ acc' ρ', turn d acc ρ = .ok (acc', ρ') → acc.length ≤ acc'.length := fun d acc ρ acc' ρ' h => by
    rw [← ht] at h
    obtain ⟨ρ2, _, h⟩ := R.bind_ok h
    obtain ⟨cc, _, h⟩ := R.bind_ok h
    cases hb : cc.1 with
    | false =>
      rw [hb, if_neg Bool.false_ne_true] at h
      cases h
      exact Nat.le_refl _
    | true =>
      rw [hb, if_pos rfl] at h
      obtain ⟨q, _, h⟩ := R.bind_ok h
      obtain ⟨r, h1, h2⟩ := R.map_ok h
      cases h2
      exact loopC_len h1
  obtain ⟨fin, hq, hp⟩ := loopO_noexc hp
  obtain ⟨q2, e2, kQ⟩ := R.thn_of hp
  have hfin : fin.1.length ≤ sizeLine := by
    split at e2
    · rename_i z
      exact szOk_le z
    · cases e2
  have aside := wd_aside nd s1
  have hl0 : p.2.length = σ.length := s1.len
  let B : Roots := kept p.2 σ own ++ (src ++ F)
  let Pv : Nat → Hp → Prop := fun i H => ∃ ρi acc, SS X.K X.mg H ((.lst true acc, .ref Dl) :: B) ρi (wipe σ own) ∧ loopO turn (p.1.drop i) acc ρi = .ok fin
  have key := in_it wk (H1 := upd H1 Dl (.lst [])) (Qd := fun H => Q (.ref Dl) H) (T := fun i x H' Nx => tTg X g x (wipe σ own) H' fun σ2 H2 => wipe σ2 own = wipe σ own ∧ tTs X C Wb t σ2 H2 fun b H3 =>
    if b = true then tIt X C Wb it1 σ2 H3 fun J1 H4 => ∃ W1 : Nat → Nat → Hp → Prop, (∃ m, W1 0 m H4) ∧ ∀ j k H, W1 j k H →
      (J1.stop j H ∧ Nx H) ∨ (J1.go j H ∧ ∃ Nx1 : Hp → Prop, (∀ H', Nx1 H' → ∃ k', k' < k ∧ W1 (j + 1) k' H') ∧ ∀ x H', J1.yld j H x H' → tTg X g1 x (wipe σ2 vs) H' fun σ3 H5 => wipe σ3 vs = wipe σ2 vs ∧ tTs X C Wb t1 σ3 H5 fun b H6 =>
        if b = true then tEv X C Wb elt σ3 H6 fun y H7 => ∃ acc, H7 Dl = some (.lst acc) ∧ acc.length < sizeLine ∧ Nx1 (upd H7 Dl (.lst (acc ++ [y]))) else Nx1 H6)
    else Nx H3) (Pv := Pv) ?_ (fun i H _ pv => ?_) (fun i x H H' hi pv y => ?_) fun H pv => ?_
  · exact key
  · exact ⟨_, [], aside.map fun st => St.newL (ds := []) (vs := []) rfl hD st, hq⟩
  · obtain ⟨ρi, acc, s2, _⟩ := pv
    refine hG H _ s2.st fun r hr => ?_
    simp only [B, List.mem_append, List.mem_cons]
    exact .inl (.inr (.inr (.inl hr)))
  · obtain ⟨ρi, acc, s2, hl⟩ := pv
    rw [List.drop_eq_getElem_cons hi] at hl
    have sx : SS X.K X.mg H' ((p.1[i], x) :: (.lst true acc, .ref Dl) :: B) ρi (wipe σ own) := ⟨s2.wd, by
      refine hY i H x H' _ _ s2.st ?_ (List.getElem?_eq_getElem hi) y
      exact fun r hr => List.mem_append_left _ (List.mem_cons_of_mem _ (List.mem_append_right _ (List.mem_append_left _ hr)))⟩
    obtain ⟨acc', ρ', et, hl2⟩ := loopO_cons hl
    have hacc : acc'.length ≤ sizeLine := Nat.le_trans (loopO_len hmono hl2) hfin
    rw [← ht] at et
    obtain ⟨ρ2, e3, et⟩ := R.bind_ok et
    refine ⟨_, ρi, _, ρ2, sx, R.of_ok e3, fun σ2 H2 c2 s3 => ⟨(c2.wipe hs).trans wipe_wipe, ?_⟩⟩
    have hw : wipe σ2 own = wipe σ own := (c2.wipe hs).trans wipe_wipe
    obtain ⟨cc, e4, et⟩ := R.bind_ok et
    refine ⟨_, ρ2, s3, R.thn_ok e4 fun H3 s4 => ?_⟩
    cases hb : cc.1 with
    | false =>
      rw [hb, if_neg Bool.false_ne_true] at et
      rw [if_neg Bool.false_ne_true]
      cases et
      refine ⟨_, acc, ?_, hl2⟩
      have s5 := wd_wipe (vs := own) s4
      rw [hw] at s5
      exact s5
    | true =>
      rw [hb, if_pos rfl] at et
      rw [if_pos rfl]
      obtain ⟨q, e5, et⟩ := R.bind_ok et
      obtain ⟨r, e6, e7⟩ := R.map_ok et
      cases e7
      refine ⟨_, cc.2, s4, R.thn_ok e5 fun J1 src1 H4 io1 s5 => ?_⟩
      obtain ⟨G1, Y1, wk1, hG1, hY1⟩ := io1
      -- the inner loop
      let Pw : Nat → Hp → Prop := fun j H => ∃ ρj ac, SS X.K X.mg H (src1 ++ ((.lst true ac, .ref Dl) :: B)) ρj (wipe σ2 vs) ∧ loopC inner (q.1.drop j) ac ρj = .ok r
      refine in_it wk1 (H1 := H4) (Qd := Pv (i + 1)) (T := fun j x H' Nx1 => tTg X g1 x (wipe σ2 vs) H' fun σ3 H5 => wipe σ3 vs = wipe σ2 vs ∧ tTs X C Wb t1 σ3 H5 fun b H6 =>
        if b = true then tEv X C Wb elt σ3 H6 fun y H7 => ∃ acc, H7 Dl = some (.lst acc) ∧ acc.length < sizeLine ∧ Nx1 (upd H7 Dl (.lst (acc ++ [y]))) else Nx1 H6) (Pv := Pw) ?_ (fun j H _ pw => ?_) (fun j x H H' hj pw y => ?_) fun H pw => ?_
      · exact ⟨_, acc, wd_wipe s5, e6⟩
      · obtain ⟨ρj, ac, s6, _⟩ := pw
        exact hG1 H _ s6.st fun r hr => List.mem_append_left _ (List.mem_append_left _ hr)
      · obtain ⟨ρj, ac, s6, hk⟩ := pw
        rw [List.drop_eq_getElem_cons hj] at hk
        have sy : SS X.K X.mg H' ((q.1[j], x) :: (src1 ++ ((.lst true ac, .ref Dl) :: B))) ρj (wipe σ2 vs) := ⟨s6.wd, by
          refine hY1 j H x H' _ _ s6.st ?_ (List.getElem?_eq_getElem hj) y
          exact fun r hr => List.mem_append_left _ (List.mem_append_left _ hr)⟩
        have hturn : ∃ o ρ', inner q.1[j] ρj = .ok (o, ρ') ∧ (match o with | some y => loopC inner (q.1.drop (j + 1)) (ac ++ [y]) ρ' = .ok r | none => loopC inner (q.1.drop (j + 1)) ac ρ' = .ok r) := by
          rcases loopC_cons hk with ⟨y, ρ', e, k⟩ | ⟨ρ', e, k⟩
          · exact ⟨some y, ρ', e, k⟩
          · exact ⟨none, ρ', e, k⟩
        obtain ⟨o, ρ'', eu, hk2⟩ := hturn
        rw [← ht1] at eu
        obtain ⟨ρ4, e8, eu⟩ := R.bind_ok eu
        refine ⟨_, ρj, _, ρ4, sy, R.of_ok e8, fun σ3 H5 c3 s7 => ⟨(c3.wipe hs1).trans wipe_wipe, ?_⟩⟩
        have hw1 : wipe σ3 vs = wipe σ2 vs := (c3.wipe hs1).trans wipe_wipe
        obtain ⟨cd, e9, eu⟩ := R.bind_ok eu
        refine ⟨_, ρ4, s7, R.thn_ok e9 fun H6 s8 => ?_⟩
        cases hb1 : cd.1 with
        | false =>
          rw [hb1, if_neg Bool.false_ne_true] at eu
          rw [if_neg Bool.false_ne_true]
          cases eu
          refine ⟨_, ac, ?_, hk2⟩
          have s9 := wd_wipe (vs := vs) s8
          rw [hw1] at s9
          exact s9
        | true =>
          rw [hb1, if_pos rfl] at eu
          rw [if_pos rfl]
          obtain ⟨yy, e10, e11⟩ := R.map_ok eu
          cases e11
          refine ⟨_, cd.2, s8, R.thn_ok e10 fun v H7 s9 => ?_⟩
          have s10 := wd_wipe (vs := vs) s9
          rw [hw1] at s10
          have pm : ∀ (x y : D × V) (A B : Roots), List.Perm (x :: (A ++ (y :: B))) (y :: x :: (A ++ B)) := fun x y A B => (List.Perm.cons x List.perm_middle).trans (List.Perm.swap _ _ _)
          have s11 : SS X.K X.mg H7 ((.lst true ac, .ref Dl) :: (yy.1, v) :: (src1 ++ B)) (wipeD yy.2 vs) (wipe σ2 vs) := s10.permF (pm _ _ _ _)
          obtain ⟨a, ws, ea, h1, l1, st⟩ := St.app s11.st
          cases ea
          have st2 : SS X.K X.mg (upd H7 Dl (.lst (ws ++ [v]))) ((.lst true (ac ++ [yy.1]), .ref Dl) :: (src1 ++ B)) (wipeD yy.2 vs) (wipe σ2 vs) := ⟨s11.wd, st⟩
          refine ⟨ws, h1, ?_, _, ac ++ [yy.1], st2.permF List.perm_middle.symm, hk2⟩
          have l2 := loopC_len hk2
          rw [List.length_append] at l2
          have l3 : [yy.1].length = 1 := rfl
          have l4 : r.1.length ≤ sizeLine := hacc
          omega
      · obtain ⟨ρj, ac, s6, hk⟩ := pw
        rw [List.drop_eq_nil_of_le (Nat.le_refl _)] at hk
        cases hk
        refine ⟨_, ac, ?_, hl2⟩
        have s7 := (wd_wipe (vs := own) (s6.sub (List.sublist_append_right _ _)))
        have hw2 : wipe (wipe σ2 vs) own = wipe σ own := by
          rw [← hw]
          exact wipe_sub hv
        rw [hw2] at s7
        exact s7
  · obtain ⟨ρi, acc, s2, hl⟩ := pv
    rw [List.drop_eq_nil_of_le (Nat.le_refl _)] at hl
    cases hl
    split at e2
    · cases e2
      refine kQ _ _ ?_
      have s3 : SS X.K X.mg H (kept p.2 σ own ++ ((.lst true acc, .ref Dl) :: F)) ρi (wipe σ own) := by
        refine (s2.sub (F' := (.lst true acc, .ref Dl) :: (kept p.2 σ own ++ F)) (List.Sublist.cons_cons _ ((List.Sublist.refl _).append (List.sublist_append_right _ _)))).permF ?_
        exact List.perm_middle.symm
      refine wd_back s1.wd nd s3 ?_
      have := s2.len
      rw [wipe_length] at this
      show p.2.length = ρi.length
      omega
    · cases e2
theorem enumD_get {ds : List D} {i : Nat} {x : D} (h : (enumD ds)[i]? = some x) : ∃ y, ds[i]? = some y ∧ x = .tup [.int i, y] := by
  unfold enumD at h
  rw [List.getElem?_map] at h
  obtain ⟨j, h1, h2⟩ := Option.map_eq_some_iff.mp h
  obtain ⟨h3, h4⟩ := List.getElem?_eq_some_iff.mp h1
  rw [List.getElem_range] at h4
  rw [List.length_range] at h3
  subst h4
  refine ⟨ds[i], List.getElem?_eq_getElem h3, ?_⟩
  rw [← h2, List.getD_eq_getElem?_getD, List.getElem?_eq_getElem h3]; rfl
theorem enumD_len {ds : List D} : (enumD ds).length = ds.length := by
  unfold enumD
  rw [List.length_map, List.length_range]
theorem it_enm {a : Addr} {ds : List D} (hd : nList d = some ds) (zd : isFzs ds = true) : ItOk K mg (Ite K a) (enumD ds) [(d, .ref a)] := by
  have g : ∀ H rs, St K mg H rs → List.Subset [(d, V.ref a)] rs → ∃ xs, SqL K H a xs ∧ xs.length = ds.length := fun H rs ⟨Hf, fp, S⟩ sb => by
    obtain ⟨p, vs, q0, q1, l1, _⟩ := S.nls (sb List.mem_cons_self) hd
    cases q0
    exact ⟨vs, q1, l1.symm⟩
  refine ⟨_, _, ⟨fun i H hi ⟨xs, s1, l1⟩ => ⟨xs, xs[i]'(by rw [enumD_len] at hi; omega), s1, List.getElem?_eq_getElem _⟩, fun H ⟨xs, s1, l1⟩ => ⟨xs, s1, by rw [enumD_len]; omega⟩, fun i H x H' _ _ y => y⟩, g, fun i H x H' rs d' st sb e y => ?_⟩
  obtain ⟨T, w, rfl, hT, rfl, f1⟩ := y
  obtain ⟨z, e1, rfl⟩ := enumD_get e
  obtain ⟨Hf, fp, S⟩ := st
  obtain ⟨p, vs, q0, q1, l1, w1, _⟩ := S.nls (sb List.mem_cons_self) hd
  cases q0
  obtain ⟨u, q2, q3⟩ := (w1 zd).get e1
  rw [f1 vs q1] at q2
  cases q2
  exact S.newT hT (.cons ⟨rfl, fun _ => ⟨rfl, rfl⟩⟩ (.cons q3 .nil))
theorem ind_enm {p tpos : Pos} {elts : List Expr} {kk : Nat} (hg : Gl X "enumerate") (hm : X.mg "enumerate" = none) (ha : PE X a (tEv X C W c)) (hs : starEach [a] X.env = [(false, eval a X.env)]) : PI X (.Tuple elts kk tpos) (.Call (.Name "enumerate" p) [a] [] pos) (tIt X C W (.enm c)) :=
  pi_imp (pi_enum hg hm (pa_cons ha pa_nil (by rw [hs]; rfl)) hs) fun σ H Rr ⟨F, ρ, ss, h⟩ => by
    rw [evI, R.thn_bind] at h
    refine ⟨F, ρ, ss, h.mono (fun p hp v H1 s1 => ?_) fun _ _ z => z⟩
    obtain ⟨q, e, k⟩ := R.thn_of hp
    obtain ⟨ds, e1, e2⟩ := Option.map_eq_some_iff.mp e
    subst e2
    obtain ⟨es, e3, e4⟩ := Option.bind_eq_some_iff.mp (show (nList p.1).bind (fun ds => if fulls ds = true then some (enumD (frzs ds)) else none) = some ds from e1)
    split at e4
    · rename_i z
      cases e4
      have s2 : SS X.K X.mg H1 ((frz p.1, v) :: F) p.2 σ := s1.map St.freeze
      have sq := nList_frz e3
      obtain ⟨Hf, fp, S⟩ := s2.st
      obtain ⟨a, vs, rfl, q1, _⟩ := S.nls (List.mem_cons_self) sq
      exact ⟨a, vs, rfl, q1, k _ _ _ (it_enm sq (isFzs_frzs es z)) s2⟩
    · cases e4
theorem snd_lc2 {elt tg iter tg1 iter1 : Expr} {ifs ifs1 : List Expr} {scope : Scope} {own : List (Str × Nat)} {vs : List Nat} {g g1 : CG} {it it1 : CI} {t t1 : CT} {ce : CE} (hc : X.calm = true) (hN : X.N.Nodup) (hi : PI X tg iter (tIt X C W it)) (ok : BlkOk X.N X.env.scope scope own)
    (nd : (own.map (·.2)).Nodup) (hv : ∀ i ∈ vs, i ∈ own.map (·.2)) (hgs : ∀ i ∈ slotsG g, i ∈ own.map (·.2)) (hgs1 : ∀ i ∈ slotsG g1, i ∈ vs)
    (hg : ∀ (s : Shared) (H : Hp) (A : Addr) (cl : List (Str × Addr)) (fp : List Addr), PG (X.blk s H scope (compEnvC scope cl A X.env) fp) tg (tTg X g))
    (ht : ∀ (s : Shared) (H : Hp) (A : Addr) (cl : List (Str × Addr)) (fp : List Addr), PTs (X.blk s H scope (compEnvC scope cl A X.env) fp) ifs (tTs X C (fun _ _ _ _ => False) t))
    (hi1 : ∀ (s : Shared) (H : Hp) (A : Addr) (cl : List (Str × Addr)) (fp : List Addr), PI (X.blk s H scope (compEnvC scope cl A X.env) fp) tg1 iter1 (tIt X C (fun _ _ _ _ => False) it1))
    (hg1 : ∀ (s : Shared) (H : Hp) (A : Addr) (cl : List (Str × Addr)) (fp : List Addr), PG (X.blk s H scope (compEnvC scope cl A X.env) fp) tg1 (tTg X g1))
    (ht1 : ∀ (s : Shared) (H : Hp) (A : Addr) (cl : List (Str × Addr)) (fp : List Addr), PTs (X.blk s H scope (compEnvC scope cl A X.env) fp) ifs1 (tTs X C (fun _ _ _ _ => False) t1))
    (he : ∀ (s : Shared) (H : Hp) (A : Addr) (cl : List (Str × Addr)) (fp : List Addr), PE (X.blk s H scope (compEnvC scope cl A X.env) fp) elt (tEv X C (fun _ _ _ _ => False) ce))
    (hs : ∀ x, foldedSetIterable iter X.env x = pure x) (hs1 : ∀ env x, foldedSetIterable iter1 env x = pure x) : PE X (.ListComp elt [⟨tg, iter, ifs, 0⟩, ⟨tg1, iter1, ifs1, 0⟩] scope pos) (tEv X C W (.lc2 (own.map (·.2)) g it t vs g1 it1 t1 ce)) :=
  pe_imp (pe_lc2 hc hN hi ok hv hg ht hi1 hg1 ht1 he hs hs1) fun _ _ _ => ent_lc2 nd hv hgs hgs1
end
end Cs
/-! Cs9e: sorted({e for x in a for y in b}), whole numbers. -/
namespace Cs
open PySem L2
theorem insU_mem {x k : Int} : ∀ {l : List Int}, k ∈ insU x l ↔ k = x ∨ k ∈ l
  | [] => by simp [insU]
  | y :: l => by
    unfold insU
    split
    · simp
    · split
      · rename_i h1 h2
        subst h2
        simp
      · rw [List.mem_cons, List.mem_cons, insU_mem]
        constructor
        · rintro (h | h | h)
          · exact .inr (.inl h)
          · exact .inl h
          · exact .inr (.inr h)
        · rintro (h | h | h)
          · exact .inr (.inl h)
          · exact .inl h
          · exact .inr (.inr h)
theorem insU_rise {x : Int} : ∀ {l : List Int}, l.Pairwise (· < ·) → (insU x l).Pairwise (· < ·)
  | [], _ => by simp [insU]
  | y :: l, h => by
    obtain ⟨h1, h2⟩ := List.pairwise_cons.mp h
    unfold insU
    split
    · rename_i q
      exact List.pairwise_cons.mpr ⟨fun z hz => by
        rcases List.mem_cons.mp hz with rfl | hz
        · exact q
        · have := h1 z hz; omega, h⟩
    · split
      · exact h
      · exact List.pairwise_cons.mpr ⟨fun z hz => by
          rcases insU_mem.mp hz with rfl | hz
          · omega
          · exact h1 z hz, insU_rise h2⟩
theorem srtU_mem {k : Int} : ∀ {l : List Int}, k ∈ srtU l ↔ k ∈ l
  | [] => by simp [srtU]
  | x :: l => by
    show k ∈ insU x (srtU l) ↔ _
    rw [insU_mem, srtU_mem, List.mem_cons]
theorem srtU_rise : ∀ l : List Int, (srtU l).Pairwise (· < ·)
  | [] => .nil
  | x :: l => insU_rise (srtU_rise l)
/-- rising lists of the same members are the same -/
theorem rise_eq : ∀ {l m : List Int}, l.Pairwise (· < ·) → m.Pairwise (· < ·) → (∀ k, k ∈ l ↔ k ∈ m) → l = m
  | [], [], _, _, _ => rfl
  | [], y :: m, _, _, h => nomatch (h y).mpr List.mem_cons_self
  | x :: l, [], _, _, h => nomatch (h x).mp List.mem_cons_self
  | x :: l, y :: m, hl, hm, h => by
    obtain ⟨l1, l2⟩ := List.pairwise_cons.mp hl
    obtain ⟨m1, m2⟩ := List.pairwise_cons.mp hm
    have e : x = y := by
      rcases List.mem_cons.mp ((h x).mp List.mem_cons_self) with q | q
      · exact q
      · rcases List.mem_cons.mp ((h y).mpr List.mem_cons_self) with q2 | q2
        · exact q2.symm
        · have := m1 x q
          have := l1 y q2
          omega
    subst e
    congr 1
    refine rise_eq l2 m2 fun k => ⟨fun hk => ?_, fun hk => ?_⟩
    · rcases List.mem_cons.mp ((h k).mp (List.mem_cons_of_mem _ hk)) with q | q
      · have := l1 k hk; omega
      · exact q
    · rcases List.mem_cons.mp ((h k).mpr (List.mem_cons_of_mem _ hk)) with q | q
      · have := m1 k hk; omega
      · exact q
theorem intsOf_app : ∀ {ds es : List D} {ns : List Int}, intsOf (ds ++ es) = some ns → ∃ a b, intsOf ds = some a ∧ intsOf es = some b ∧ ns = a ++ b
  | [], es, ns, h => ⟨[], ns, rfl, h, rfl⟩
  | d :: ds, es, ns, h => by
    cases d with
    | int i =>
      obtain ⟨m, h1, h2⟩ := Option.map_eq_some_iff.mp (show (intsOf (ds ++ es)).map (i :: ·) = some ns from h)
      obtain ⟨a, b, q1, q2, q3⟩ := intsOf_app h1
      subst h2; subst q3
      refine ⟨i :: a, b, ?_, q2, rfl⟩
      show (intsOf ds).map (i :: ·) = _
      rw [q1]; rfl
    | _ => cases h
theorem loopC_pre {turn : D → Env → R (Option D × Env)} : ∀ {ds acc ys : List D} {ρ ρ' : Env}, loopC turn ds acc ρ = .ok (ys, ρ') → ∃ zs, ys = acc ++ zs
  | [], _, _, _, _, h => by cases h; exact ⟨[], (List.append_nil _).symm⟩
  | d :: ds, acc, ys, ρ, ρ', h => by
    rcases loopC_cons h with ⟨y, ρ1, _, k⟩ | ⟨ρ1, _, k⟩
    · obtain ⟨zs, e⟩ := loopC_pre k
      exact ⟨y :: zs, by rw [e, List.append_assoc]; rfl⟩
    · exact loopC_pre k
theorem loopO_pre {turn : D → List D → Env → R (List D × Env)} (hm : ∀ d acc ρ acc' ρ', turn d acc ρ = .ok (acc', ρ') → ∃ zs, acc' = acc ++ zs) : ∀ {ds acc ys : List D} {ρ ρ' : Env}, loopO turn ds acc ρ = .ok (ys, ρ') → ∃ zs, ys = acc ++ zs
  | [], _, _, _, _, h => by cases h; exact ⟨[], (List.append_nil _).symm⟩
  | d :: ds, acc, ys, ρ, ρ', h => by
    obtain ⟨acc', ρ1, h1, h2⟩ := loopO_cons h
    obtain ⟨z1, e1⟩ := hm _ _ _ _ _ h1
    obtain ⟨z2, e2⟩ := loopO_pre hm h2
    exact ⟨z1 ++ z2, by rw [e2, e1, List.append_assoc]⟩
section
variable {K : PySem.W.Frag} {mg : Str → Option Value} {H : Hp} {rs : Roots} {v : V}
theorem St.newO {p : Addr} {o : Addr → HO} (hp : H p = none) : St K mg H rs → St K mg (upd H p (o p)) ((.own o, .ref p) :: rs) := fun ⟨Hf, fp, s⟩ => by
  have s' := s.newU (o := o p) hp
  have hf : Hf p = none := Evl.fresh_back s.ex hp
  have hn : p ∉ fp := fun ha => by
    obtain ⟨u, e⟩ := s.rr.dom p ha
    rw [hp] at e; cases e
  exact ⟨Hf, p :: fp, s'.ex, ⟨[p], fp, rfl, ⟨p, rfl, rfl, upd_same⟩, s'.rr⟩, List.nodup_cons.mpr ⟨hn, s.nd⟩, fun a ha => by
    rcases List.mem_cons.mp ha with q | q
    · rw [q]; exact hf
    · exact s.dj a q⟩
theorem St.ownW {o : Addr → HO} (h : St K mg H ((.own o, v) :: rs)) : ∃ a, v = .ref a ∧ H a = some (o a) ∧ ∀ o' : Addr → HO, St K mg (upd H a (o' a)) ((.own o', v) :: rs) := by
  obtain ⟨Hf, fp, ex, ⟨f1, f2, h1, ⟨a, rfl, h2, h3⟩, h4⟩, nd, dj⟩ := h
  subst h1; subst h2
  have nd' : (a :: f2).Nodup := nd
  obtain ⟨n1, n2⟩ := List.nodup_cons.mp nd'
  have ha : Hf a = none := dj a List.mem_cons_self
  refine ⟨a, rfl, h3, fun o' => ⟨Hf, a :: f2, fun b u e => ?_, ⟨[a], f2, rfl, ⟨a, rfl, rfl, upd_same⟩, h4.mv (Evl.Ex.refl Hf) fun b hb => upd_ne fun q => n1 (by rw [← q]; exact hb)⟩, nd', fun b hb => dj b hb⟩⟩
  have hb : b ≠ a := fun q => by rw [q, ha] at e; cases e
  rw [upd_ne hb]
  exact ex b u e
end
section
variable {X : Cx} {C : Ctx} {W : WX} {Γ : Gam} {e a b tg : Expr} {c c1 c2 : CE} {pos : Pos} {σ σ' : L2.St} {H H' : Hp} {F G : Roots} {ρ ρ' : Env} {d d1 d2 : D} {v : V} {K : PySem.W.Frag} {mg : Str → Option Value}
theorem fzs_v {Hf : Hp} : ∀ ns : List Int, Fzs K mg Hf (ns.map .int) (ns.map V.int)
  | [] => .nil
  | n :: ns => .cons ⟨rfl, fun _ => ⟨rfl, rfl⟩⟩ (fzs_v ns)
/-- what the set's members and size say of the numbers put in so far -/
abbrev oS (w : World) (S : Int → Bool) (n : Nat) : D := .own fun a => SetO w a S n
def AccOk (acc : List D) (S : Int → Bool) (n : Nat) : Prop := ∃ ns, intsOf acc = some ns ∧ (∀ k, S k = true ↔ k ∈ ns) ∧ n ≤ acc.length
theorem ent_ss2 {own vs : List Nat} {g g1 : CG} {it it1 : CI} {t t1 : CT} {elt : CE} {Wb : WX} (nd : own.Nodup) (hv : ∀ i ∈ vs, i ∈ own) (hs : ∀ i ∈ slotsG g, i ∈ own) (hs1 : ∀ i ∈ slotsG g1, i ∈ vs) {Q : VK} :
    tEv X C W (.ss2 own g it t vs g1 it1 t1 elt) σ H Q → tCB (rSortedSetA X.w) (tCons (tSx2 X.w (tIt X C W it) (tTg X g) (tTs X C Wb t) (tIt X C Wb it1) (tTg X g1) (tTs X C Wb t1) (tEv X C Wb elt) own vs) tNil) σ H Q := fun ⟨F, ρ, ss, h⟩ => by
  rw [evE, R.thn_bind] at h
  refine ⟨F, ρ, ss, h.mono (fun p hp J src H1 io s1 => ?_) fun _ _ z => z⟩
  obtain ⟨G, Y, wk, hG, hY⟩ := io
  intro Dl hD
  rw [R.thn_bind] at hp
  generalize ht1 : (fun d ρ3 => (R.of (assign g1 d ρ3)).bind fun ρ4 => (evT C t1 ρ4).bind fun c1 => if c1.1 = true then (evE C elt c1.2).map fun y => (some y.1, wipeD y.2 vs) else R.ok (none, wipeD c1.2 vs)) = inner at hp
  generalize ht : (fun d acc ρ1 => (R.of (assign g d ρ1)).bind fun ρ2 => (evT C t ρ2).bind fun c => if c.1 = true then (evI C it1 c.2).bind fun q => (loopC inner q.1 acc (wipeD q.2 vs)).map fun r => (r.1, wipeD r.2 own) else R.ok (acc, wipeD c.2 own)) = turn at hp
  have hmono : ∀ d acc ρ acc' ρ', turn d acc ρ = .ok (acc', ρ') → ∃ zs, acc' = acc ++ zs := fun d acc ρ acc' ρ' h => by
    rw [← ht] at h
    obtain ⟨ρ2, _, h⟩ := R.bind_ok h
    obtain ⟨cc, _, h⟩ := R.bind_ok h
    cases hb : cc.1 with
    | false =>
      rw [hb, if_neg Bool.false_ne_true] at h
      cases h
      exact ⟨[], (List.append_nil _).symm⟩
    | true =>
      rw [hb, if_pos rfl] at h
      obtain ⟨q, _, h⟩ := R.bind_ok h
      obtain ⟨r, h1, h2⟩ := R.map_ok h
      cases h2
      exact loopC_pre h1
  obtain ⟨fin, hq, hp⟩ := loopO_noexc hp
  obtain ⟨q2, e2, kQ⟩ := R.thn_of hp
  obtain ⟨ns, hns, hfin, rfl⟩ : ∃ ns, intsOf fin.1 = some ns ∧ ns.length < 4000 ∧ q2 = (.lst true ((srtU ns).map .int), putBack p.2 fin.2 own) := by
    unfold setL at e2
    split at e2
    · rename_i ns z
      split at e2
      · rename_i lt
        cases e2
        exact ⟨ns, z, lt, rfl⟩
      · cases e2
    · cases e2
  have hflen : fin.1.length = ns.length := by
    have : ∀ {ds : List D} {ns : List Int}, intsOf ds = some ns → ds.length = ns.length := by
      intro ds
      induction ds with
      | nil => intro ns h; cases h; rfl
      | cons d ds ih =>
        intro ns h
        cases d with
        | int i =>
          obtain ⟨m, h1, h2⟩ := Option.map_eq_some_iff.mp (show (intsOf ds).map (i :: ·) = some ns from h)
          subst h2
          rw [List.length_cons, List.length_cons, ih h1]
        | _ => cases h
    exact this hns
  have aside := wd_aside nd s1
  have hl0 : p.2.length = σ.length := s1.len
  let B : Roots := kept p.2 σ own ++ (src ++ F)
  let Pv : Nat → Hp → Prop := fun i H => ∃ ρi acc S n, SS X.K X.mg H ((oS X.w S n, .ref Dl) :: B) ρi (wipe σ own) ∧ AccOk acc S n ∧ loopO turn (p.1.drop i) acc ρi = .ok fin
  have key := in_it wk (H1 := upd H1 Dl (SetO X.w Dl (fun _ => false) 0)) (Qd := fun H => rSortedSetA X.w [.ref Dl] H Q) (T := fun i x H' Nx => tTg X g x (wipe σ own) H' fun σ2 H2 => wipe σ2 own = wipe σ own ∧ tTs X C Wb t σ2 H2 fun b H3 =>
    if b = true then tIt X C Wb it1 σ2 H3 fun J1 H4 => ∃ W1 : Nat → Nat → Hp → Prop, (∃ m, W1 0 m H4) ∧ ∀ j k H, W1 j k H →
      (J1.stop j H ∧ Nx H) ∨ (J1.go j H ∧ ∃ Nx1 : Hp → Prop, (∀ H', Nx1 H' → ∃ k', k' < k ∧ W1 (j + 1) k' H') ∧ ∀ x H', J1.yld j H x H' → tTg X g1 x (wipe σ2 vs) H' fun σ3 H5 => wipe σ3 vs = wipe σ2 vs ∧ tTs X C Wb t1 σ3 H5 fun b H6 =>
        if b = true then tEv X C Wb elt σ3 H6 fun y H7 => ∃ (c : Int) (S : Int → Bool) (n : Nat), y = .int c ∧ H7 Dl = some (SetO X.w Dl S n) ∧ n + 1 < scanBound ∧ Nx1 (upd H7 Dl (SetO X.w Dl (fun j => S j || decide (j = c)) (if S c = true then n else n + 1))) else Nx1 H6)
    else Nx H3) (Pv := Pv) ?_ (fun i H _ pv => ?_) (fun i x H H' hi pv y => ?_) fun H pv => ?_
  · exact key
  · exact ⟨_, [], _, _, aside.map fun st => St.newO (o := fun a => SetO X.w a (fun _ => false) 0) hD st, ⟨[], rfl, fun k => by simp, Nat.le_refl _⟩, hq⟩
  · obtain ⟨ρi, acc, S, n, s2, _, _⟩ := pv
    refine hG H _ s2.st fun r hr => ?_
    simp only [B, List.mem_append, List.mem_cons]
    exact .inl (.inr (.inr (.inl hr)))
  · obtain ⟨ρi, acc, S, n, s2, ao, hl⟩ := pv
    rw [List.drop_eq_getElem_cons hi] at hl
    have sx : SS X.K X.mg H' ((p.1[i], x) :: (oS X.w S n, .ref Dl) :: B) ρi (wipe σ own) := ⟨s2.wd, by
      refine hY i H x H' _ _ s2.st ?_ (List.getElem?_eq_getElem hi) y
      exact fun r hr => List.mem_append_left _ (List.mem_cons_of_mem _ (List.mem_append_right _ (List.mem_append_left _ hr)))⟩
    obtain ⟨acc', ρ', et, hl2⟩ := loopO_cons hl
    obtain ⟨zs0, hacc⟩ := loopO_pre hmono hl2
    rw [← ht] at et
    obtain ⟨ρ2, e3, et⟩ := R.bind_ok et
    refine ⟨_, ρi, _, ρ2, sx, R.of_ok e3, fun σ2 H2 c2 s3 => ⟨(c2.wipe hs).trans wipe_wipe, ?_⟩⟩
    have hw : wipe σ2 own = wipe σ own := (c2.wipe hs).trans wipe_wipe
    obtain ⟨cc, e4, et⟩ := R.bind_ok et
    refine ⟨_, ρ2, s3, R.thn_ok e4 fun H3 s4 => ?_⟩
    cases hb : cc.1 with
    | false =>
      rw [hb, if_neg Bool.false_ne_true] at et
      rw [if_neg Bool.false_ne_true]
      cases et
      refine ⟨_, acc, S, n, ?_, ao, hl2⟩
      have s5 := wd_wipe (vs := own) s4
      rw [hw] at s5
      exact s5
    | true =>
      rw [hb, if_pos rfl] at et
      rw [if_pos rfl]
      obtain ⟨q, e5, et⟩ := R.bind_ok et
      obtain ⟨r, e6, e7⟩ := R.map_ok et
      cases e7
      refine ⟨_, cc.2, s4, R.thn_ok e5 fun J1 src1 H4 io1 s5 => ?_⟩
      obtain ⟨G1, Y1, wk1, hG1, hY1⟩ := io1
      -- the inner loop
      let Pw : Nat → Hp → Prop := fun j H => ∃ ρj ac S n, SS X.K X.mg H (src1 ++ ((oS X.w S n, .ref Dl) :: B)) ρj (wipe σ2 vs) ∧ AccOk ac S n ∧ loopC inner (q.1.drop j) ac ρj = .ok r
      refine in_it wk1 (H1 := H4) (Qd := Pv (i + 1)) (T := fun j x H' Nx1 => tTg X g1 x (wipe σ2 vs) H' fun σ3 H5 => wipe σ3 vs = wipe σ2 vs ∧ tTs X C Wb t1 σ3 H5 fun b H6 =>
        if b = true then tEv X C Wb elt σ3 H6 fun y H7 => ∃ (c : Int) (S : Int → Bool) (n : Nat), y = .int c ∧ H7 Dl = some (SetO X.w Dl S n) ∧ n + 1 < scanBound ∧ Nx1 (upd H7 Dl (SetO X.w Dl (fun j => S j || decide (j = c)) (if S c = true then n else n + 1))) else Nx1 H6) (Pv := Pw) ?_ (fun j H _ pw => ?_) (fun j x H H' hj pw y => ?_) fun H pw => ?_
      · exact ⟨_, acc, S, n, wd_wipe s5, ao, e6⟩
      · obtain ⟨ρj, ac, S, n, s6, _, _⟩ := pw
        exact hG1 H _ s6.st fun r hr => List.mem_append_left _ (List.mem_append_left _ hr)
      · obtain ⟨ρj, ac, S, n, s6, ac0, hk⟩ := pw
        rw [List.drop_eq_getElem_cons hj] at hk
        have sy : SS X.K X.mg H' ((q.1[j], x) :: (src1 ++ ((oS X.w S n, .ref Dl) :: B))) ρj (wipe σ2 vs) := ⟨s6.wd, by
          refine hY1 j H x H' _ _ s6.st ?_ (List.getElem?_eq_getElem hj) y
          exact fun r hr => List.mem_append_left _ (List.mem_append_left _ hr)⟩
        have hturn : ∃ o ρ', inner q.1[j] ρj = .ok (o, ρ') ∧ (match o with | some y => loopC inner (q.1.drop (j + 1)) (ac ++ [y]) ρ' = .ok r | none => loopC inner (q.1.drop (j + 1)) ac ρ' = .ok r) := by
          rcases loopC_cons hk with ⟨y, ρ', e, k⟩ | ⟨ρ', e, k⟩
          · exact ⟨some y, ρ', e, k⟩
          · exact ⟨none, ρ', e, k⟩
        obtain ⟨o, ρ'', eu, hk2⟩ := hturn
        rw [← ht1] at eu
        obtain ⟨ρ4, e8, eu⟩ := R.bind_ok eu
        refine ⟨_, ρj, _, ρ4, sy, R.of_ok e8, fun σ3 H5 c3 s7 => ⟨(c3.wipe hs1).trans wipe_wipe, ?_⟩⟩
        have hw1 : wipe σ3 vs = wipe σ2 vs := (c3.wipe hs1).trans wipe_wipe
        obtain ⟨cd, e9, eu⟩ := R.bind_ok eu
        refine ⟨_, ρ4, s7, R.thn_ok e9 fun H6 s8 => ?_⟩
        cases hb1 : cd.1 with
        | false =>
          rw [hb1, if_neg Bool.false_ne_true] at eu
          rw [if_neg Bool.false_ne_true]
          cases eu
          refine ⟨_, ac, S, n, ?_, ac0, hk2⟩
          have s9 := wd_wipe (vs := vs) s8
          rw [hw1] at s9
          exact s9
        | true =>
          rw [hb1, if_pos rfl] at eu
          rw [if_pos rfl]
          obtain ⟨yy, e10, e11⟩ := R.map_ok eu
          cases e11
          refine ⟨_, cd.2, s8, R.thn_ok e10 fun v H7 s9 => ?_⟩
          obtain ⟨zs1, hr1⟩ := loopC_pre hk2
          have hall : intsOf ((ac ++ [yy.1]) ++ (zs1 ++ zs0)) = some ns := by
            rw [← List.append_assoc, ← hr1]
            rw [hacc] at hns
            exact hns
          obtain ⟨m1, _, hm1, _, _⟩ := intsOf_app hall
          obtain ⟨ma, mc, hma, hmc, em⟩ := intsOf_app hm1
          obtain ⟨na, hna, hmem, hsz⟩ := ac0
          rw [hna] at hma
          cases hma
          obtain ⟨c, ec⟩ : ∃ c, yy.1 = .int c := by
            cases hy : yy.1 with
            | int c => exact ⟨c, rfl⟩
            | _ => rw [hy] at hmc; cases hmc
          have ev : v = .int c := s9.isInt (by rw [ec]; rfl)
          have s10 := wd_wipe (vs := vs) s9
          rw [hw1] at s10
          have s11 : SS X.K X.mg H7 ((oS X.w S n, .ref Dl) :: (src1 ++ B)) (wipeD yy.2 vs) (wipe σ2 vs) := s10.drop.permF List.perm_middle
          obtain ⟨a, ea, h1, st⟩ := St.ownW s11.st
          cases ea
          have st2 : SS X.K X.mg (upd H7 Dl (SetO X.w Dl (fun j => S j || decide (j = c)) (if S c = true then n else n + 1))) ((oS X.w (fun j => S j || decide (j = c)) (if S c = true then n else n + 1), .ref Dl) :: (src1 ++ B)) (wipeD yy.2 vs) (wipe σ2 vs) := ⟨s11.wd, st (fun a => SetO X.w a (fun j => S j || decide (j = c)) (if S c = true then n else n + 1))⟩
          have hlen : ac.length + 1 ≤ ns.length := by
            rw [← hflen, hacc, hr1]
            simp only [List.length_append, List.length_cons, List.length_nil]; omega
          refine ⟨c, S, n, ev, h1, by show n + 1 < 4096; omega, _, ac ++ [yy.1], _, _, st2.permF List.perm_middle.symm, ⟨m1, hm1, fun k => ?_, ?_⟩, hk2⟩
          · rw [ec] at hmc
            cases hmc
            rw [em, List.mem_append, List.mem_singleton, Bool.or_eq_true, hmem k, decide_eq_true_iff]
          · rw [List.length_append]
            show (if S c = true then n else n + 1) ≤ ac.length + 1
            split <;> omega
      · obtain ⟨ρj, ac, S, n, s6, ac0, hk⟩ := pw
        rw [List.drop_eq_nil_of_le (Nat.le_refl _)] at hk
        cases hk
        refine ⟨_, ac, S, n, ?_, ac0, hl2⟩
        have s7 := (wd_wipe (vs := own) (s6.sub (List.sublist_append_right _ _)))
        have hw2 : wipe (wipe σ2 vs) own = wipe σ own := by
          rw [← hw]
          exact wipe_sub hv
        rw [hw2] at s7
        exact s7
  · obtain ⟨ρi, acc, S, n, s2, ao, hl⟩ := pv
    rw [List.drop_eq_nil_of_le (Nat.le_refl _)] at hl
    cases hl
    obtain ⟨na, hna, hmem, hsz⟩ := ao
    have hns : intsOf acc = some ns := hns
    obtain rfl : na = ns := Option.some.inj (hna.symm.trans hns)
    have hfl : acc.length = na.length := hflen
    obtain ⟨a, ea, h1, _⟩ := St.ownW s2.st
    cases ea
    refine ⟨Dl, S, n, rfl, h1, by omega, fun ms q rise mem hq => ?_⟩
    have em : ms = srtU na := rise_eq rise (srtU_rise _) fun k => by rw [mem k, hmem k, srtU_mem]
    subst em
    have s3 : SS X.K X.mg (upd H q (.lst ((srtU na).map V.int))) ((.lst true ((srtU na).map .int), .ref q) :: B) ρi (wipe σ own) := s2.drop.map fun ⟨Hf, fp, S⟩ => S.newL hq (fzs_v _)
    refine kQ _ _ ?_
    have s4 : SS X.K X.mg (upd H q (.lst ((srtU na).map V.int))) (kept p.2 σ own ++ ((.lst true ((srtU na).map .int), .ref q) :: F)) ρi (wipe σ own) := by
      refine (s3.sub (F' := (.lst true ((srtU na).map .int), .ref q) :: (kept p.2 σ own ++ F)) (List.Sublist.cons_cons _ ((List.Sublist.refl _).append (List.sublist_append_right _ _)))).permF ?_
      exact List.perm_middle.symm
    refine wd_back s1.wd nd s4 ?_
    have := s3.len
    rw [wipe_length] at this
    show p.2.length = ρi.length
    omega
theorem snd_ss2 {elt tg iter tg1 iter1 : Expr} {ifs ifs1 : List Expr} {scope : Scope} {own : List (Str × Nat)} {vs : List Nat} {g g1 : CG} {it it1 : CI} {t t1 : CT} {ce : CE} {p q : Pos} (gd : Gd Γ X C W) (hb : ("sorted" : Str) ∈ Γ.bl) (hgl : Gl X "sorted") (hi : PI X tg iter (tIt X C W it)) (ok : BlkOk X.N X.env.scope scope own)
    (nd : (own.map (·.2)).Nodup) (hv : ∀ i ∈ vs, i ∈ own.map (·.2)) (hgs : ∀ i ∈ slotsG g, i ∈ own.map (·.2)) (hgs1 : ∀ i ∈ slotsG g1, i ∈ vs)
    (hg : L2.Blk X scope fun Y => PG Y tg (tTg X g)) (ht : L2.Blk X scope fun Y => PTs Y ifs (tTs X C (fun _ _ _ _ => False) t)) (hi1 : L2.Blk X scope fun Y => PI Y tg1 iter1 (tIt X C (fun _ _ _ _ => False) it1))
    (hg1 : L2.Blk X scope fun Y => PG Y tg1 (tTg X g1)) (ht1 : L2.Blk X scope fun Y => PTs Y ifs1 (tTs X C (fun _ _ _ _ => False) t1)) (he : L2.Blk X scope fun Y => PE Y elt (tEv X C (fun _ _ _ _ => False) ce))
    (hs : ∀ x, foldedSetIterable iter X.env x = pure x) (hs1 : ∀ env x, foldedSetIterable iter1 env x = pure x) : PE X (.Call (.Name "sorted" p) [.SetComp elt [⟨tg, iter, ifs, 0⟩, ⟨tg1, iter1, ifs1, 0⟩] scope q] [] pos) (tEv X C W (.ss2 (own.map (·.2)) g it t vs g1 it1 t1 ce)) :=
  pe_imp (pe_callB (cr_sortedSetA gd.calm) hgl (gd.blt _ hb) (biN_boot .sorted) (pa_cons (pe_sx2 gd.calm gd.nd hi ok hv hg ht hi1 hg1 ht1 he hs hs1) pa_nil)) fun _ _ _ => ent_ss2 nd hv hgs hgs1
end
end Cs
/-! Cs9d: a field is stored to. -/
namespace Cs
open PySem L2
section
variable {X : Cx} {C : Ctx} {W : WX} {Γ : Gam} {σ σ' : L2.St} {H H' : Hp} {F G : Roots} {ρ ρ' : Env} {d y : D} {v w : V} {K : PySem.W.Frag} {mg : Str → Option Value}
theorem putF_zip {f : Str} : ∀ {fs : List Str} {vs : List V}, fs.length = vs.length → putF f w (fs.zip vs) = (putN f fs).zip (putL f w fs vs) ∧ (putN f fs).length = (putL f w fs vs).length
  | [], [], _ => ⟨rfl, rfl⟩
  | g :: fs, v :: vs, h => by
    obtain ⟨h1, h2⟩ := putF_zip (f := f) (fs := fs) (vs := vs) (by simpa using h)
    show (if g = f then (g, w) :: fs.zip vs else (g, v) :: putF f w (fs.zip vs)) = (if g = f then g :: fs else g :: putN f fs).zip (if g = f then w :: vs else v :: putL f w fs vs) ∧ (if g = f then g :: fs else g :: putN f fs).length = (if g = f then w :: vs else v :: putL f w fs vs).length
    by_cases e : g = f
    · rw [if_pos e, if_pos e, if_pos e]
      exact ⟨rfl, by simpa using h⟩
    · rw [if_neg e, if_neg e, if_neg e, h1]
      exact ⟨rfl, by simp [h2]⟩
  | [], _ :: _, h => nomatch h
  | _ :: _, [], h => nomatch h
theorem put_len {f : Str} : ∀ {fs : List Str} {ds : List D} {vs : List V}, fs.length = ds.length → fs.length = vs.length → (putL f y fs ds).length = (putL f w fs vs).length
  | [], [], [], _, _ => rfl
  | g :: fs, d :: ds, v :: vs, h1, h2 => by
    have ih := put_len (f := f) (fs := fs) (ds := ds) (vs := vs) (by simpa using h1) (by simpa using h2)
    show (if g = f then y :: ds else d :: putL f y fs ds).length = (if g = f then w :: vs else v :: putL f w fs vs).length
    by_cases e : g = f
    · rw [if_pos e, if_pos e]
      simp at h1 h2 ⊢
      omega
    · rw [if_neg e, if_neg e]
      simp [ih]
  | [], [], _ :: _, _, h => nomatch h
  | [], _ :: _, _, h, _ => nomatch h
  | _ :: _, [], _, h, _ => nomatch h
  | _ :: _, _ :: _, [], _, h => nomatch h
theorem put_perm {f : Str} : ∀ {fs : List Str} {ds : List D} {vs : List V}, fs.length = ds.length → fs.length = vs.length → ∃ L : Roots, List.Perm ((y, w) :: ds.zip vs) ((putL f y fs ds).zip (putL f w fs vs) ++ L)
  | [], [], [], _, _ => ⟨[], List.Perm.refl _⟩
  | g :: fs, d :: ds, v :: vs, h1, h2 => by
    obtain ⟨L, p⟩ := put_perm (f := f) (fs := fs) (ds := ds) (vs := vs) (by simpa using h1) (by simpa using h2)
    show ∃ L, List.Perm _ ((if g = f then y :: ds else d :: putL f y fs ds).zip (if g = f then w :: vs else v :: putL f w fs vs) ++ L)
    by_cases e : g = f
    · rw [if_pos e, if_pos e]
      refine ⟨[(d, v)], ?_⟩
      exact List.Perm.cons _ (List.perm_append_singleton (d, v) (ds.zip vs)).symm
    · rw [if_neg e, if_neg e]
      refine ⟨L, ?_⟩
      exact (List.Perm.swap _ _ _).trans (List.Perm.cons _ p)
  | [], [], _ :: _, _, h => nomatch h
  | [], _ :: _, _, h, _ => nomatch h
  | _ :: _, [], _, h, _ => nomatch h
  | _ :: _, _ :: _, [], _, h => nomatch h
theorem St.insW {cn f : Str} {fs : List Str} {ds : List D} {rs : Roots} (hl : fs.length = ds.length) (h : St K mg H ((.ins true cn fs ds, v) :: (y, w) :: rs)) :
    ∃ a dx CA vs, v = .ref a ∧ mg cn = some (.ref CA) ∧ H a = some (.ins CA dx (fs.zip vs)) ∧ fs.length = vs.length ∧ St K mg (upd H a (.ins CA dx (putF f w (fs.zip vs)))) ((.ins true cn (putN f fs) (putL f y fs ds), v) :: rs) := by
  obtain ⟨Hf, fp, ex, ⟨f1, f2, h1, ⟨a, dx, CA, vs, ff, hv, hf1, hm, ha, hlen, hr⟩, h3⟩, nd, dj⟩ := h
  subst h1; subst hf1; subst hv
  have nd' : (a :: (ff ++ f2)).Nodup := nd
  obtain ⟨n1, n2⟩ := List.nodup_cons.mp nd'
  have ha' : Hf a = none := dj a List.mem_cons_self
  have j := Rr.join hr h3
  obtain ⟨L, pp⟩ := put_perm (f := f) (y := y) (w := w) hl hlen
  have p2 : List.Perm (ds.zip vs ++ (y, w) :: rs) ((putL f y fs ds).zip (putL f w fs vs) ++ (L ++ rs)) := by
    refine List.perm_middle.trans ?_
    have q := pp.append_right rs
    rw [List.append_assoc] at q
    exact q
  obtain ⟨g1, e1, j1⟩ := Rr.perm p2 j
  obtain ⟨g2, e2, j2⟩ := Rr.sub ((List.Sublist.refl ((putL f y fs ds).zip (putL f w fs vs))).append (List.sublist_append_right L rs)) j1
  have sub : ∀ b ∈ g2, b ∈ ff ++ f2 := fun b hb => e1.mem_iff.mpr (e2.subset hb)
  have nd2 : g2.Nodup := e2.nodup (e1.nodup_iff.mp n2)
  have keep : ∀ b ∈ g2, upd H a (.ins CA dx (putF f w (fs.zip vs))) b = H b := fun b hb => upd_ne fun q => n1 (by rw [← q]; exact sub b hb)
  have j3 := j2.mv (H' := upd H a (.ins CA dx (putF f w (fs.zip vs)))) (Evl.Ex.refl Hf) keep
  obtain ⟨k1, k2, q1, q2, q3⟩ := j3.split (put_len hl hlen)
  subst q1
  obtain ⟨z1, z2⟩ := putF_zip (f := f) (w := w) hlen
  refine ⟨a, dx, CA, vs, rfl, hm, ha, hlen, Hf, a :: (k1 ++ k2), fun b o e => ?_, ⟨a :: k1, k2, rfl, ⟨a, dx, CA, _, k1, rfl, rfl, hm, by rw [upd_same, z1], z2, q2⟩, q3⟩, List.nodup_cons.mpr ⟨fun hb => n1 (sub a hb), nd2⟩, fun b hb => ?_⟩
  · have hb : b ≠ a := fun q => by rw [q, ha'] at e; cases e
    rw [upd_ne hb]
    exact ex b o e
  · rcases List.mem_cons.mp hb with q | q
    · rw [q]; exact ha'
    · exact dj b (List.mem_cons_of_mem _ (sub b q))
/-- a slot's owned instance is stored to -/
theorem SS.put {i : Nat} {cn f : Str} {fs : List Str} {ds : List D} (hl : fs.length = ds.length) (s : SS K mg H ((y, w) :: F) ρ σ) (h : slotE ρ i = some (.ins true cn fs ds)) :
    ∃ a dx CA vs, σ[i]? = some (some (.ref a)) ∧ mg cn = some (.ref CA) ∧ H a = some (.ins CA dx (fs.zip vs)) ∧ fs.length = vs.length ∧ SS K mg (upd H a (.ins CA dx (putF f w (fs.zip vs)))) F (ρ.set i (.ins true cn (putN f fs) (putL f y fs ds))) σ := by
  obtain ⟨h1, _⟩ := slotE_get h
  obtain ⟨v, q1, _⟩ := s.slot h
  obtain ⟨R0, p1, _, p3⟩ := rts_at h1 q1
  have st : St K mg H ((.ins true cn fs ds, v) :: (y, w) :: (F ++ R0)) := s.st.perm (by
    have q : List.Perm (((y, w) :: F) ++ rts ρ σ) (((y, w) :: F) ++ ((D.ins true cn fs ds, v) :: R0)) := p1.append_left _
    exact q.trans List.perm_middle)
  obtain ⟨a, dx, CA, vs, rfl, hm, ha, hlen, st2⟩ := St.insW (f := f) hl st
  exact ⟨a, dx, CA, vs, q1, hm, ha, hlen, s.wd.setD _ q1, st2.perm (((p3 _).append_left F).trans List.perm_middle).symm⟩
end
end Cs
/-! Cs10: statements. -/
namespace Cs
open PySem L2
/-- a word of the slots that stores to the slots okS leave alone -/
def Cl (I : L2.St → Prop) (okS : Nat → Bool) : Prop := ∀ σ σ' is, I σ → Chg is σ σ' → (∀ i ∈ is, okS i = true) → I σ'
section
variable (X : Cx) (C : Ctx) (W : WX) (I : L2.St → Prop)
def FlP (F : Roots) (D : Ends) : Fl → Prop
  | .nx ρ' => ∀ σ' H', I σ' → SS X.K X.mg H' F ρ' σ' → D.nx σ' H'
  | .ret d ρ' => ∀ v σ' H', I σ' → SS X.K X.mg H' ((d, v) :: F) ρ' σ' → D.rt v H'
  | .bk ρ' => ∀ σ' H', I σ' → SS X.K X.mg H' F ρ' σ' → D.bk σ' H'
  | .ct ρ' => ∀ σ' H', I σ' → SS X.K X.mg H' F ρ' σ' → D.ct σ' H'
def ExS (F : Roots) : Exn → Env → Prop := fun x ρ' => ∀ σ', I σ' → ExcP X W F σ' x ρ'
def tSt (c : CS) : TS := fun D σ H => ∃ F ρ, I σ ∧ SS X.K X.mg H F ρ σ ∧ (evS C c ρ).thn (FlP X I F D) (ExS X W I F)
def tSs (c : CSs) : TS := fun D σ H => ∃ F ρ, I σ ∧ SS X.K X.mg H F ρ σ ∧ (evSs C c ρ).thn (FlP X I F D) (ExS X W I F)
end
section
variable {X : Cx} {C : Ctx} {W : WX} {Γ : Gam} {I : L2.St → Prop} {okS : Nat → Bool} {e a b tg : Expr} {es : List Expr} {st : Stmt} {sts : List Stmt} {c c1 c2 c3 : CE} {cs : CEs} {g : CG} {s : CS} {ss ss1 ss2 : CSs} {pos : Pos} {σ σ' : L2.St} {H H' : Hp} {F G : Roots} {ρ ρ' : Env} {d : D} {v : V} {K : PySem.W.Frag} {mg : Str → Option Value} {Dn : Ends}
theorem ps_imp {t t' : TS} (h : PS X st t) (i : ∀ D σ H, t' D σ H → t D σ H) : PS X st t' := ⟨fun pins s σ H D I q => h.run pins s σ H D I (i D σ H q)⟩
theorem pss_imp {t t' : TS} (h : PSs X sts t) (i : ∀ D σ H, t' D σ H → t D σ H) : PSs X sts t' := ⟨fun pins s σ H D I q => h.run pins s σ H D I (i D σ H q)⟩
theorem ExS.sub {F F' : Roots} {x : Exn} (h : ExS X W I F x ρ) (s : List.Sublist F F') : ExS X W I F' x ρ := fun σ' i => (h σ' i).sub s
theorem bnd_nil : PSs X [] (tSs X C W I .nil) := pss_imp pss_nil fun D σ H ⟨F, ρ, i, ss, h⟩ => by
  rw [evSs] at h
  exact h σ H i ss
theorem bnd_cons (h1 : PS X st (tSt X C W I s)) (h2 : PSs X sts (tSs X C W I ss)) : PSs X (st :: sts) (tSs X C W I (.cons s ss)) := pss_imp (pss_cons h1 h2) fun D σ H ⟨F, ρ, i, ss, h⟩ => by
  rw [evSs, R.thn_bind] at h
  refine ⟨F, ρ, i, ss, h.mono (fun f hf => ?_) fun _ _ z => z⟩
  cases f with
  | nx ρ' =>
    intro σ' H' i' s'
    exact ⟨F, ρ', i', s', hf⟩
  | ret d ρ' => exact hf
  | bk ρ' => exact hf
  | ct ρ' => exact hf
theorem ent_asg (hI : Cl I okS) (hg : ∀ i ∈ slotsG g, okS i = true) : tSt X C W I (.asg g c) Dn σ H → tAsg (tEv X C W c) (tTg X g) Dn σ H := fun ⟨F, ρ, i, ss, h⟩ => by
  rw [evS, R.thn_bind] at h
  refine ⟨F, ρ, ss, h.mono (fun p hp v H1 s1 => ?_) fun _ _ z => z σ i⟩
  obtain ⟨q, e, k⟩ := R.thn_of hp
  obtain ⟨ρ', e1, e2⟩ := Option.map_eq_some_iff.mp e
  subst e2
  exact ⟨F, p.2, p.1, ρ', s1, e1, fun σ' H2 ch s' => k σ' H2 (hI σ σ' _ i ch hg) s'⟩
theorem bnd_asg (hI : Cl I okS) (hg : ∀ i ∈ slotsG g, okS i = true) (he : PE X e (tEv X C W c)) (ht : PG X tg (tTg X g)) (hs : swapsWithSole [tg] e pos.line X.env = pure false) (hw : swappedStores [tg] e X.env = pure none)
    (h1 : (assignEach [tg] X.env).map (·.2) = [PySem.assign tg X.env]) : PS X (.Assign [tg] e pos) (tSt X C W I (.asg g c)) := ps_imp (ps_asg he ht hs hw h1) fun _ _ _ => ent_asg hI hg
/-- name = [..] on one line -/
theorem bnd_setLc {i : Nat} {y : Str} {py : Pos} {elt tg iter : Expr} {ifs : List Expr} {scope : Scope} {own : List (Str × Nat)} {p spos : Pos} {it : CI} {t : CT} {ce : CE} (hI : Cl I okS) (hok : okS i = true) (hc : X.calm = true) (hN : X.N.Nodup) (hy : X.N[i]? = some y)
    (hyl : X.env.scope.names.lookup y = some .local) (hsw : swapsWith (.ListComp elt [⟨tg, iter, ifs, 0⟩] scope p) (some (.Name y py)) spos.line X.env = pure true) (hi : PI X tg iter (tIt X C W it)) (ok : BlkOk X.N X.env.scope scope own)
    (nd : (own.map (·.2)).Nodup) (hgs : ∀ i ∈ slotsG g, i ∈ own.map (·.2))
    (hg : ∀ (s : Shared) (H : Hp) (A : Addr) (cl : List (Str × Addr)) (fp : List Addr), PG (X.blk s H scope (compEnvC scope cl A X.env) fp) tg (tTg X g))
    (ht : ∀ (s : Shared) (H : Hp) (A : Addr) (cl : List (Str × Addr)) (fp : List Addr), PTs (X.blk s H scope (compEnvC scope cl A X.env) fp) ifs (tTs X C (fun _ _ _ _ => False) t))
    (he : ∀ (s : Shared) (H : Hp) (A : Addr) (cl : List (Str × Addr)) (fp : List Addr), PE (X.blk s H scope (compEnvC scope cl A X.env) fp) elt (tEv X C (fun _ _ _ _ => False) ce))
    (hs : ∀ x, foldedSetIterable iter X.env x = pure x) :
    PS X (.Assign [.Name y py] (.ListComp elt [⟨tg, iter, ifs, 0⟩] scope p) spos) (tSt X C W I (.asg (.name i) (.lc (own.map (·.2)) g it t ce))) :=
  ps_imp (ps_setLc hc hN hy hyl hsw hi ok hg ht he hs) fun D σ H ⟨F, ρ, i0, ss, h⟩ => by
    refine ent_lc (W := W) nd hgs ?_
    rw [evS, R.thn_bind] at h
    refine ⟨F, ρ, ss, h.mono (fun p hp v H1 s1 => ?_) fun _ _ z => z σ i0⟩
    obtain ⟨q, e, k⟩ := R.thn_of hp
    obtain ⟨ρ', e1, e2⟩ := Option.map_eq_some_iff.mp e
    subst e2
    have e1 : (if i < p.2.length then some (p.2.set i p.1) else none) = some ρ' := e1
    split at e1
    · rename_i l
      cases e1
      exact k _ H1 (hI σ _ [i] i0 Chg.set fun j hj => by rw [List.mem_singleton.mp hj]; exact hok) (s1.set l)
    · cases e1
theorem bnd_setLc2 {i : Nat} {y : Str} {py : Pos} {elt tg iter tg1 iter1 : Expr} {ifs ifs1 : List Expr} {scope : Scope} {own : List (Str × Nat)} {vs : List Nat} {p spos : Pos} {g1 : CG} {it it1 : CI} {t t1 : CT} {ce : CE} (hI : Cl I okS) (hok : okS i = true) (hc : X.calm = true) (hN : X.N.Nodup) (hy : X.N[i]? = some y)
    (hyl : X.env.scope.names.lookup y = some .local) (hsw : swapsWith (.ListComp elt [⟨tg, iter, ifs, 0⟩, ⟨tg1, iter1, ifs1, 0⟩] scope p) (some (.Name y py)) spos.line X.env = pure true) (hi : PI X tg iter (tIt X C W it)) (ok : BlkOk X.N X.env.scope scope own)
    (nd : (own.map (·.2)).Nodup) (hv : ∀ i ∈ vs, i ∈ own.map (·.2)) (hgs : ∀ i ∈ slotsG g, i ∈ own.map (·.2)) (hgs1 : ∀ i ∈ slotsG g1, i ∈ vs)
    (hg : ∀ (s : Shared) (H : Hp) (A : Addr) (cl : List (Str × Addr)) (fp : List Addr), PG (X.blk s H scope (compEnvC scope cl A X.env) fp) tg (tTg X g))
    (ht : ∀ (s : Shared) (H : Hp) (A : Addr) (cl : List (Str × Addr)) (fp : List Addr), PTs (X.blk s H scope (compEnvC scope cl A X.env) fp) ifs (tTs X C (fun _ _ _ _ => False) t))
    (hi1 : ∀ (s : Shared) (H : Hp) (A : Addr) (cl : List (Str × Addr)) (fp : List Addr), PI (X.blk s H scope (compEnvC scope cl A X.env) fp) tg1 iter1 (tIt X C (fun _ _ _ _ => False) it1))
    (hg1 : ∀ (s : Shared) (H : Hp) (A : Addr) (cl : List (Str × Addr)) (fp : List Addr), PG (X.blk s H scope (compEnvC scope cl A X.env) fp) tg1 (tTg X g1))
    (ht1 : ∀ (s : Shared) (H : Hp) (A : Addr) (cl : List (Str × Addr)) (fp : List Addr), PTs (X.blk s H scope (compEnvC scope cl A X.env) fp) ifs1 (tTs X C (fun _ _ _ _ => False) t1))
    (he : ∀ (s : Shared) (H : Hp) (A : Addr) (cl : List (Str × Addr)) (fp : List Addr), PE (X.blk s H scope (compEnvC scope cl A X.env) fp) elt (tEv X C (fun _ _ _ _ => False) ce))
    (hs : ∀ x, foldedSetIterable iter X.env x = pure x) (hs1 : ∀ env x, foldedSetIterable iter1 env x = pure x) :
    PS X (.Assign [.Name y py] (.ListComp elt [⟨tg, iter, ifs, 0⟩, ⟨tg1, iter1, ifs1, 0⟩] scope p) spos) (tSt X C W I (.asg (.name i) (.lc2 (own.map (·.2)) g it t vs g1 it1 t1 ce))) :=
  ps_imp (ps_setLc2 hc hN hy hyl hsw hi ok hv hg ht hi1 hg1 ht1 he hs hs1) fun D σ H ⟨F, ρ, i0, ss, h⟩ => by
    refine ent_lc2 (W := W) nd hv hgs hgs1 ?_
    rw [evS, R.thn_bind] at h
    refine ⟨F, ρ, ss, h.mono (fun p hp v H1 s1 => ?_) fun _ _ z => z σ i0⟩
    obtain ⟨q, e, k⟩ := R.thn_of hp
    obtain ⟨ρ', e1, e2⟩ := Option.map_eq_some_iff.mp e
    subst e2
    have e1 : (if i < p.2.length then some (p.2.set i p.1) else none) = some ρ' := e1
    split at e1
    · rename_i l
      cases e1
      exact k _ H1 (hI σ _ [i] i0 Chg.set fun j hj => by rw [List.mem_singleton.mp hj]; exact hok) (s1.set l)
    · cases e1
theorem snd_lc {elt tg iter : Expr} {ifs : List Expr} {scope : Scope} {own : List (Str × Nat)} {it : CI} {t : CT} {ce : CE} (hc : X.calm = true) (hN : X.N.Nodup) (hi : PI X tg iter (tIt X C W it)) (ok : BlkOk X.N X.env.scope scope own)
    (nd : (own.map (·.2)).Nodup) (hgs : ∀ i ∈ slotsG g, i ∈ own.map (·.2))
    (hg : ∀ (s : Shared) (H : Hp) (A : Addr) (cl : List (Str × Addr)) (fp : List Addr), PG (X.blk s H scope (compEnvC scope cl A X.env) fp) tg (tTg X g))
    (ht : ∀ (s : Shared) (H : Hp) (A : Addr) (cl : List (Str × Addr)) (fp : List Addr), PTs (X.blk s H scope (compEnvC scope cl A X.env) fp) ifs (tTs X C (fun _ _ _ _ => False) t))
    (he : ∀ (s : Shared) (H : Hp) (A : Addr) (cl : List (Str × Addr)) (fp : List Addr), PE (X.blk s H scope (compEnvC scope cl A X.env) fp) elt (tEv X C (fun _ _ _ _ => False) ce))
    (hs : ∀ x, foldedSetIterable iter X.env x = pure x) : PE X (.ListComp elt [⟨tg, iter, ifs, 0⟩] scope pos) (tEv X C W (.lc (own.map (·.2)) g it t ce)) :=
  pe_imp (pe_lc hc hN hi ok hg ht he hs) fun _ _ _ => ent_lc nd hgs
theorem bnd_par {i j : Nat} {x y : Str} {px py pt : Pos} {kt k2 : Nat} {pt2 : Pos} (hI : Cl I okS) (hoi : okS i = true) (hoj : okS j = true) (hc : X.calm = true) (hN : X.N.Nodup) (hi : X.N[i]? = some x) (hj : X.N[j]? = some y) (hij : i ≠ j)
    (hx : X.env.scope.names.lookup x = some .local) (hy : X.env.scope.names.lookup y = some .local) (ha : PE X a (tEv X C W c1)) (hb : PE X b (tEv X C W c2)) (hsa : starEach [a, b] X.env = (false, eval a X.env) :: starEach [b] X.env) (hsb : starEach [b] X.env = (false, eval b X.env) :: starEach [] X.env)
    (hw : swappedStores [.Tuple [.Name x px, .Name y py] kt pt] (.Tuple [a, b] k2 pt2) X.env = pure (some [x, y])) :
    PS X (.Assign [.Tuple [.Name x px, .Name y py] kt pt] (.Tuple [a, b] k2 pt2) pos) (tSt X C W I (.par i j c1 c2)) :=
  ps_imp (ps_par hc hN hi hj hij hx hy (pa_cons ha (pa_cons hb pa_nil hsb) hsa) hw) fun D σ H ⟨F, ρ, i0, ss, h⟩ => by
    rw [evS, R.thn_bind] at h
    refine ⟨F, ρ, ss, h.mono (fun p hp v H1 s1 => ?_) fun _ _ z => z σ i0⟩
    rw [R.thn_bind] at hp
    refine ⟨(p.1, v) :: F, p.2, s1, hp.mono (fun q hq w H2 s2 => ?_) fun _ _ z => (z σ i0).sub (List.sublist_cons_self _ _)⟩
    obtain ⟨r, e, k⟩ := R.thn_of hq
    split at e
    · rename_i l
      cases e
      rw [Bool.and_eq_true] at l
      have l1 := of_decide_eq_true l.1
      have l2 := of_decide_eq_true l.2
      refine ⟨v, w, rfl, k _ H2 (hI σ _ [i, j] i0 (Chg.set.trans Chg.set) fun n hn => ?_) ?_⟩
      · rcases List.mem_cons.mp hn with q | q
        · rw [q]; exact hoi
        · rw [List.mem_singleton.mp q]; exact hoj
      · exact (((s2.permF (List.Perm.swap _ _ _)).set l1).set (by rw [List.length_set]; exact l2))
    · cases e
def rA (X : Cx) (op : Operator) : TIp := fun x y H Q => ∃ rs d1 d2 d, St X.K X.mg H rs ∧ (d1, x) ∈ rs ∧ (d2, y) ∈ rs ∧ augD op d1 d2 = some d ∧ ∀ v H', St X.K X.mg H' ((d, v) :: rs) → Q v H'
theorem ip_any {op : Operator} : PIp X op (rA X op) := by
  intro pins s σ H x y v u Q I rx ry ⟨rs, d1, d2, d, ⟨Hf, fp, S⟩, m1, m2, e, k⟩
  obtain ⟨f1, p1⟩ := S.at m1
  obtain ⟨f2, p2⟩ := S.at m2
  unfold augD at e
  split at e
  · cases e
    exact iop_add pins s σ H x y v u Q I rx ry ⟨_, _, p1.1, p2.1, k _ _ (S.st.int _)⟩
  · cases e
    exact iop_sub pins s σ H x y v u Q I rx ry ⟨_, _, p1.1, p2.1, k _ _ (S.st.int _)⟩
  · rename_i i j
    obtain ⟨z, rfl⟩ := guardL_some e
    unfold mulOk at z
    rw [Bool.or_eq_true, Bool.or_eq_true] at z
    have z' : CMul i j ∨ CMulW i j := by
      rcases z with h | h | h
      · exact .inl (.inl (of_decide_eq_true (p := _ ∧ _) h))
      · exact .inl (.inr (of_decide_eq_true (p := _ ∧ _) h))
      · exact .inr (of_decide_eq_true (p := _ < _) h)
    rcases z' with h | h
    · exact iop_mul pins s σ H x y v u Q I rx ry ⟨_, _, p1.1, p2.1, h, k _ _ (S.st.int _)⟩
    · obtain rfl := p1.1
      obtain rfl := p2.1
      obtain ⟨t, rfl⟩ := rx
      obtain ⟨t', rfl⟩ := ry
      exact PyProof.Rows.imul_int ⟨.int _, H, I.tok _, ⟨_, rfl⟩, k _ _ (S.st.int _)⟩ h.ok
  · obtain ⟨z, rfl⟩ := guardL_some e
    exact iop_mod pins s σ H x y v u Q I rx ry ⟨_, _, p1.1, p2.1, of_decide_eq_true z, k _ _ (S.st.int _)⟩
  · obtain ⟨z, rfl⟩ := guardL_some e
    exact iop_add_str pins s σ H x y v u Q I rx ry ⟨_, _, p1.1, p2.1, szOk_le z, k _ _ (S.st.str _)⟩
  · cases e
theorem bnd_aug {i : Nat} {x : Str} {op : Operator} {pos' : Pos} (hI : Cl I okS) (hok : okS i = true) (hN : X.N.Nodup) (hi : X.N[i]? = some x) (hx : Loc X.env.scope x) (he : PE X e (tEv X C W c)) (hf : X.fn x = true ∨ X.env.scope.names.lookup x = some .local) :
    PS X (.AugAssign (.Name x pos') op e pos) (tSt X C W I (.aug i op c)) := ps_imp (ps_aug hN hi hx he ip_any hf) fun D σ H ⟨F, ρ, i0, ss, h⟩ => by
  rw [evS, R.thn_bind] at h
  obtain ⟨d0, e0, h⟩ := R.thn_of h
  obtain ⟨x0, q1, _⟩ := ss.slot e0
  rw [R.thn_bind] at h
  refine ⟨x0, q1, F, ρ, ss, h.mono (fun p hp v H1 s1 => ?_) fun _ _ z => z σ i0⟩
  obtain ⟨q, e, k⟩ := R.thn_of hp
  obtain ⟨d, e1, e2⟩ := Option.map_eq_some_iff.mp e
  obtain ⟨d1, d2, g1, g2, e3⟩ := opt2_some e1
  cases g2
  subst e2
  obtain ⟨x1, q2, m⟩ := s1.slot g1
  rw [q1] at q2
  cases q2
  refine ⟨_, d1, p.1, d, s1.st, List.mem_append_right _ m, List.mem_append_left _ List.mem_cons_self, e3, fun z H' st => ?_⟩
  have l : i < p.2.length := (List.getElem?_eq_some_iff.mp (slotE_get g1).1).1
  exact k _ H' (hI σ _ [i] i0 Chg.set fun j hj => by rw [List.mem_singleton.mp hj]; exact hok) ((SS.fin s1.wd st (List.sublist_cons_self _ _)).set l)
theorem ownL_some {o : Option D} {xs : List D} (h : ownL o = some xs) : o = some (.lst true xs) := by
  unfold ownL at h
  split at h
  · cases h; rfl
  · cases h
/-- a slot's owned list is stored anew -/
theorem SS.wr {i : Nat} {ds es : List D} {f : List V → List V} {F F' : Roots} (s : SS K mg H F ρ σ) (h : slotE ρ i = some (.lst true ds))
    (step : ∀ v R, St K mg H ((.lst true ds, v) :: (F ++ R)) → ∃ a vs, v = .ref a ∧ H a = some (.lst vs) ∧ ds.length = vs.length ∧ St K mg (upd H a (.lst (f vs))) ((.lst true es, v) :: (F' ++ R))) :
    ∃ a vs, σ[i]? = some (some (.ref a)) ∧ H a = some (.lst vs) ∧ ds.length = vs.length ∧ SS K mg (upd H a (.lst (f vs))) F' (ρ.set i (.lst true es)) σ := by
  obtain ⟨h1, _⟩ := slotE_get h
  obtain ⟨v, q1, _⟩ := s.slot h
  obtain ⟨R0, p1, _, p3⟩ := rts_at h1 q1
  obtain ⟨a, vs, ev, h2, l, st⟩ := step v R0 (s.st.perm ((p1.append_left F).trans List.perm_middle))
  subst ev
  exact ⟨a, vs, q1, h2, l, s.wd.setD _ q1, st.perm (((p3 (.lst true es)).append_left F').trans List.perm_middle).symm⟩
theorem bnd_app {i : Nat} {x : Str} {p2 apos cpos : Pos} (hI : Cl I okS) (hN : X.N[i]? = some x) (hv : Vis X.env.scope x) (hd : (x == ("__debug__" : Str)) = false) (hcd : (x == ("__classdict__" : Str)) = false) (he : PE X e (tEv X C W c))
    (hs : starEach [e] X.env = (false, eval e X.env) :: starEach [] X.env) (hline : (apos.endLine == cpos.line) = true) (hfew : ((backTo cpos (starEach [e] X.env)).all (fun x => !x.1) && (backToKw cpos (keywordEach [] X.env)).all (fun x => x.1.isSome)
      && decide ([e].length + ([] : List Keyword).length + (if ([] : List Keyword).isEmpty then 0 else 1) < 30)) = true) :
    PS X (.Expr (.Call (.Attribute (.Name x p2) "append" apos) [e] [] cpos) pos) (tSt X C W I (.app i c)) :=
  ps_imp (ps_expr (pe_bm PySem.F.plainAttrs_list PySem.F.slot_list_append PySem.F.type_list_append mt_append (pe_var hN hv hd hcd) (pa_cons he pa_nil hs) rfl hfew hline hs rfl)) fun D σ H ⟨F, ρ, i0, ss, h⟩ => by
    rw [evS, R.thn_bind] at h
    obtain ⟨xs0, e0, h⟩ := R.thn_of h
    have e0 := ownL_some e0
    obtain ⟨v0, q1, m0⟩ := ss.slot e0
    obtain ⟨Hf, fp, S⟩ := ss.st
    obtain ⟨a0, vs0, ev0, h0, _⟩ := S.lst (List.mem_append_right F m0)
    subst ev0
    rw [R.thn_bind] at h
    refine ⟨_, q1, .inl ⟨rfl, vs0, .inl (.inl h0)⟩, F, ρ, ss, h.mono (fun p hp v H1 s1 => ?_) fun _ _ z => z σ i0⟩
    obtain ⟨q, e, k⟩ := R.thn_of hp
    obtain ⟨d, e1, e2⟩ := Option.map_eq_some_iff.mp e
    subst e2
    obtain ⟨xs, e3, e4⟩ := Option.bind_eq_some_iff.mp (show (ownL (slotE p.2 i)).bind (fun xs => if xs.length < sizeLine then some (Cs.D.lst true (xs ++ [p.1])) else none) = some d from e1)
    split at e4
    · rename_i l
      cases e4
      obtain ⟨a, vs, q2, h2, ll, s2⟩ := s1.wr (F' := F) (es := xs ++ [p.1]) (f := fun vs => vs ++ [v]) (ownL_some e3) fun w R st => St.app st
      rw [q1] at q2
      cases q2
      exact ⟨a0, vs, v, rfl, rfl, h2, by rw [← ll]; exact l, k σ _ i0 s2⟩
    · cases e4
theorem bnd_setI {i : Nat} {x : Str} {p2 tpos : Pos} {ie : Expr} (hI : Cl I okS) (hN : X.N[i]? = some x) (hv : Vis X.env.scope x) (hd : (x == ("__debug__" : Str)) = false) (hcd : (x == ("__classdict__" : Str)) = false) (he : PE X e (tEv X C W c)) (hie : PE X ie (tEv X C W c2))
    (ha : ∀ v, PySem.assign (.Subscript (.Name x p2) ie tpos) X.env v = (do
      let ov ← holding [v] (eval (.Name x p2) X.env)
      let iv ← holding [v, ov] (eval ie X.env)
      standAt tpos
      holding [v, ov, iv] (setItem ov iv v)
      release [v, ov, iv] []))
    (hs : swapsWithSole [.Subscript (.Name x p2) ie tpos] e pos.line X.env = pure false) (hw : swappedStores [.Subscript (.Name x p2) ie tpos] e X.env = pure none)
    (h1 : (assignEach [.Subscript (.Name x p2) ie tpos] X.env).map (·.2) = [PySem.assign (.Subscript (.Name x p2) ie tpos) X.env]) : PS X (.Assign [.Subscript (.Name x p2) ie tpos] e pos) (tSt X C W I (.setI c i c2)) :=
  ps_imp (ps_asg he (pg_sub (pe_var hN hv hd hcd) hie set_list ha) hs hw h1) fun D σ H ⟨F, ρ, i0, ss, h⟩ => by
    rw [evS, R.thn_bind] at h
    refine ⟨F, ρ, ss, h.mono (fun p hp v H1 s1 => ?_) fun _ _ z => z σ i0⟩
    rw [R.thn_bind] at hp
    obtain ⟨d0, e0, hp⟩ := R.thn_of hp
    obtain ⟨x0, q1, _⟩ := s1.slot e0
    rw [R.thn_bind] at hp
    refine ⟨x0, q1, (p.1, v) :: F, p.2, s1, hp.mono (fun q hq w H2 s2 => ?_) fun _ _ z => (z σ i0).sub (List.sublist_cons_self _ _)⟩
    obtain ⟨r, e, k⟩ := R.thn_of hq
    obtain ⟨d, e1, e2⟩ := Option.map_eq_some_iff.mp e
    obtain ⟨n, e3, e4⟩ := Option.bind_eq_some_iff.mp e1
    obtain ⟨xs, e5, e6⟩ := Option.bind_eq_some_iff.mp (show (ownL (slotE q.2 i)).bind (fun xs => (ixN xs.length n).map fun j => Cs.D.lst true (xs.set j p.1)) = some d from e4)
    obtain ⟨j, e7, e8⟩ := Option.map_eq_some_iff.mp e6
    subst e2; subst e8
    have ew := s2.isInt e3
    subst ew
    have hj := (ixN_seq e7).2.1
    obtain ⟨a, vs, q2, h2, ll, s3⟩ := s2.drop.wr (F' := F) (es := xs.set j p.1) (f := fun vs => vs.set j v) (ownL_some e5) fun w R st => St.setL st hj
    rw [q1] at q2
    cases q2
    exact ⟨a, vs, n, j, rfl, rfl, h2, by rw [← ll]; exact e7, k σ _ i0 s3⟩
theorem bnd_setF {i : Nat} {x f : Str} {p2 pos' : Pos} (gd : Gd Γ X C W) (hI : Cl I okS) (hN : X.N[i]? = some x) (hv : Vis X.env.scope x) (hd : (x == ("__debug__" : Str)) = false) (hcd : (x == ("__classdict__" : Str)) = false) (he : PE X e (tEv X C W c)) (hs : swapsWith e (some (.Attribute (.Name x p2) f pos')) pos.line X.env = pure false) :
    PS X (.Assign [.Attribute (.Name x p2) f pos'] e pos) (tSt X C W I (.setF c i f)) := ps_imp (ps_fld (pe_var hN hv hd hcd) he hs) fun D σ H ⟨F, ρ, i0, ss, h⟩ => by
  rw [evS, R.thn_bind] at h
  refine ⟨F, ρ, ss, h.mono (fun p hp v H1 s1 => ?_) fun _ _ z => z σ i0⟩
  rw [R.thn_bind] at hp
  obtain ⟨d0, e0, hp⟩ := R.thn_of hp
  obtain ⟨x0, q1, _⟩ := s1.slot e0
  obtain ⟨r, e1, k⟩ := R.thn_of hp
  obtain ⟨d, e2, e3⟩ := Option.map_eq_some_iff.mp e1
  obtain ⟨d1, e4, e5⟩ := Option.bind_eq_some_iff.mp e2
  subst e3
  unfold setFD at e5
  split at e5
  case h_2 => cases e5
  rename_i cn fs ds
  split at e5
  case isFalse => cases e5
  rename_i z
  cases e5
  rw [Bool.and_eq_true, Bool.and_eq_true] at z
  obtain ⟨z1, z2, z3⟩ := z
  obtain ⟨a, dx, CA, vs, q2, hm, ha, hlen, s2⟩ := s1.put (f := f) (of_decide_eq_true z3) e4
  rw [q1] at q2
  cases q2
  obtain ⟨CA', hm', hc, hn⟩ := gd.fld cn f (of_decide_eq_true z1)
  rw [hm] at hm'
  cases hm'
  refine ⟨_, q1, a, CA, dx, fs.zip vs, rfl, ha, hc, hn, ?_, k σ _ i0 s2⟩
  rw [List.length_zip, ← hlen, Nat.min_self]
  exact of_decide_eq_true z2
theorem bnd_drop (he : PE X e (tEv X C W c)) (hs : swapsWith e none pos.line X.env = pure false) : PS X (.Expr e pos) (tSt X C W I (.drop c)) := ps_imp (ps_expr he hs) fun D σ H ⟨F, ρ, i0, ss, h⟩ => by
  rw [evS, R.thn_map] at h
  exact ⟨F, ρ, ss, h.mono (fun p hp v H1 s1 => hp σ H1 i0 s1.drop) fun _ _ z => z σ i0⟩
theorem bnd_ret (he : PE X e (tEv X C W c)) : PS X (.Return (some e) pos) (tSt X C W I (.ret c)) := ps_imp (ps_ret he) fun D σ H ⟨F, ρ, i0, ss, h⟩ => by
  rw [evS, R.thn_map] at h
  exact ⟨F, ρ, ss, h.mono (fun p hp v H1 s1 => hp v σ H1 i0 s1) fun _ _ z => z σ i0⟩
theorem bnd_retN : PS X (.Return none pos) (tSt X C W I .retN) := ps_imp ps_retN fun D σ H ⟨F, ρ, i0, ss, h⟩ => by
  rw [evS] at h
  exact h .non σ H i0 ss.non
theorem bnd_pass : PS X (.Pass pos) (tSt X C W I .pass) := ps_imp ps_pass fun D σ H ⟨F, ρ, i0, ss, h⟩ => by
  rw [evS] at h
  exact h σ H i0 ss
theorem bnd_brk : PS X (.Break pos) (tSt X C W I .brk) := ps_imp ps_break fun D σ H ⟨F, ρ, i0, ss, h⟩ => by
  rw [evS] at h
  exact h σ H i0 ss
theorem bnd_cont : PS X (.Continue pos) (tSt X C W I .cont) := ps_imp ps_continue fun D σ H ⟨F, ρ, i0, ss, h⟩ => by
  rw [evS] at h
  exact h σ H i0 ss
theorem bnd_if {q : Expr} {t : CT} {as bs : List Stmt} (ht : PT X q (tTs X C W t)) (ha : PSs X as (tSs X C W I ss1)) (hb : PSs X bs (tSs X C W I ss2)) : PS X (.If q as bs pos) (tSt X C W I (.ife t ss1 ss2)) := ps_imp (ps_if ht ha hb) fun D σ H ⟨F, ρ, i0, ss, h⟩ => by
  rw [evS, R.thn_bind] at h
  refine ⟨F, ρ, ss, h.mono (fun p hp H1 s1 => ?_) fun _ _ z => z σ i0⟩
  cases hb : p.1 with
  | true =>
    rw [hb, if_pos rfl] at hp
    rw [if_pos rfl]
    exact ⟨F, p.2, i0, s1, hp⟩
  | false =>
    rw [hb, if_neg Bool.false_ne_true] at hp
    rw [if_neg Bool.false_ne_true]
    exact ⟨F, p.2, i0, s1, hp⟩
theorem bnd_whl {q : Expr} {t : CT} {bs : List Stmt} (gd : Gd Γ X C W) (ht : PT X q (tTs X C W t)) (hb : PSs X bs (tSs X C W I ss)) : PS X (.While q bs [] pos) (tSt X C W I (.whl t ss)) := ps_imp (ps_while gd.pass ht hb) fun D σ H ⟨F, ρ, i0, s0, h⟩ => by
  rw [evS] at h
  generalize hst : (fun ρ1 => (evT C t ρ1).bind fun p => if p.1 = true then (evSs C ss p.2).map flW else R.ok (.inr (.nx p.2))) = step at h
  obtain ⟨n, hn⟩ := gd.whl step ρ
  rw [hn] at h
  refine ⟨fun m σ' H' => ∃ ρ', I σ' ∧ SS X.K X.mg H' F ρ' σ' ∧ (loopW step m ρ').thn (FlP X I F D) (ExS X W I F), ⟨n, ρ, i0, s0, h⟩, fun m σ' H' ⟨ρ', i', s', h'⟩ => ?_⟩
  cases m with
  | zero => exact h'.elim
  | succ m =>
    have key2 : (step ρ').thn (fun r => (match r with | .inl ρ'' => loopW step m ρ'' | .inr f => .ok f : R Fl).thn (FlP X I F D) (ExS X W I F)) (ExS X W I F) := by
      unfold loopW at h'
      cases hs : step ρ' with
      | ok r =>
        rw [hs] at h'
        cases r <;> exact h'
      | exc x ρ'' =>
        rw [hs] at h'
        exact h'
      | fail =>
        rw [hs] at h'
        exact h'
    rw [← hst] at key2
    rw [R.thn_bind] at key2
    refine ⟨F, ρ', s', key2.mono (fun p hp H1 s1 => ?_) fun _ _ z => z σ' i'⟩
    cases hb : p.1 with
    | true =>
      rw [hb, if_pos rfl, R.thn_map] at hp
      rw [if_pos rfl]
      refine ⟨fun σ2 H2 => ∃ ρ2, I σ2 ∧ SS X.K X.mg H2 F ρ2 σ2 ∧ (loopW step m ρ2).thn (FlP X I F D) (ExS X W I F), fun σ2 H2 z => ⟨m, Nat.lt_succ_self m, z⟩, F, p.2, i', s1, hp.mono (fun f hf => ?_) fun _ _ z => z⟩
      cases f with
      | nx ρ2 => exact fun σ2 H2 i2 s2 => ⟨ρ2, i2, s2, by rw [← hst]; exact hf⟩
      | ct ρ2 => exact fun σ2 H2 i2 s2 => ⟨ρ2, i2, s2, by rw [← hst]; exact hf⟩
      | bk ρ2 => exact hf
      | ret d ρ2 => exact hf
    | false =>
      rw [hb, if_neg Bool.false_ne_true] at hp
      rw [if_neg Bool.false_ne_true]
      exact hp σ' H1 i' s1
theorem bnd_for {it : Expr} {ci : CI} {bs : List Stmt} (gd : Gd Γ X C W) (hi : PI X tg it (tIt X C W ci)) (hg : PG X tg (tTg X g)) (hb : PSs X bs (tSs X C W I ss)) (hs : ∀ x, foldedSetIterable it X.env x = pure x) (hI : Cl I okS) (hok : ∀ i ∈ slotsG g, okS i = true) :
    PS X (.For tg it bs [] pos) (tSt X C W I (.for g ci ss)) := ps_imp (ps_for gd.pass gd.calm hi hg hb hs) fun D σ H ⟨F, ρ, i0, s0, h⟩ => by
  rw [evS, R.thn_bind] at h
  refine ⟨F, ρ, s0, h.mono (fun p hp J src H1 io s1 => ?_) fun _ _ z => z σ i0⟩
  obtain ⟨G, Y, wk, hG, hY⟩ := io
  generalize ht : (fun d ρ1 => (R.of (assign g d ρ1)).bind fun ρ2 => evSs C ss ρ2) = turn at hp
  let Pv : Nat → L2.St → Hp → Prop := fun i σ H => ∃ ρi, I σ ∧ SS X.K X.mg H (src ++ F) ρi σ ∧ (loopF turn (p.1.drop i) ρi).thn (FlP X I F D) (ExS X W I F)
  refine for_it wk (Pv := Pv) ⟨p.2, i0, s1, hp⟩ (fun i σ H _ pv => ?_) (fun i x σ H H' hi pv y => ?_) fun σ H pv => ?_
  · obtain ⟨ρi, _, s2, _⟩ := pv
    exact hG H _ s2.st fun r hr => List.mem_append_left _ (List.mem_append_left _ hr)
  · obtain ⟨ρi, ii, s2, hl⟩ := pv
    have hd : p.1.drop i = p.1[i] :: p.1.drop (i + 1) := List.drop_eq_getElem_cons hi
    rw [hd] at hl
    have sx : SS X.K X.mg H' ((p.1[i], x) :: (src ++ F)) ρi σ := ⟨s2.wd, by
      exact hY i H x H' _ _ s2.st (fun r hr => List.mem_append_left _ (List.mem_append_left _ hr)) (List.getElem?_eq_getElem hi) y⟩
    have hl2 : (turn p.1[i] ρi).thn (fun f => (match f with
        | .nx ρ' => loopF turn (p.1.drop (i + 1)) ρ'
        | .ct ρ' => loopF turn (p.1.drop (i + 1)) ρ'
        | .bk ρ' => .ok (.nx ρ')
        | .ret v ρ' => .ok (.ret v ρ') : R Fl).thn (FlP X I F D) (ExS X W I F)) (ExS X W I F) := by
      unfold loopF at hl
      cases hx : turn p.1[i] ρi with
      | ok f =>
        rw [hx] at hl
        cases f <;> exact hl
      | exc x ρ' =>
        rw [hx] at hl
        exact hl
      | fail =>
        rw [hx] at hl
        exact hl
    rw [← ht] at hl2
    rw [R.thn_bind] at hl2
    obtain ⟨ρ2, e1, hl3⟩ := R.thn_of hl2
    rw [ht] at hl3
    refine ⟨src ++ F, ρi, _, ρ2, sx, e1, fun σ2 H3 ch s3 => ⟨src ++ F, ρ2, hI σ σ2 _ ii ch hok, s3, hl3.mono (fun f hf => ?_) fun x ρ' z => z.sub (List.sublist_append_right _ _)⟩⟩
    cases f with
    | nx ρ' => exact fun σ4 H4 i4 s4 => ⟨ρ', i4, s4, hf⟩
    | ct ρ' => exact fun σ4 H4 i4 s4 => ⟨ρ', i4, s4, hf⟩
    | bk ρ' => exact fun σ4 H4 i4 s4 => hf σ4 H4 i4 (s4.sub (List.sublist_append_right _ _))
    | ret v ρ' => exact fun w σ4 H4 i4 s4 => hf w σ4 H4 i4 (s4.sub ((List.sublist_append_right _ _).cons_cons _))
  · obtain ⟨ρi, ii, s2, hl⟩ := pv
    rw [List.drop_eq_nil_of_le (Nat.le_refl _)] at hl
    exact hl σ H ii (s2.sub (List.sublist_append_right _ _))
end
end Cs
/-! Cs11: the program's text read into the compact language. -/
namespace Cs
open PySem L2
/-- what is read besides the text: the slots, how many of them are parameters, which are stored to; the names known -/
structure Tc where
  Γ : Gam
  np : Nat
  asg : List Nat
  cons : List Str
def notStar : Expr → Bool
  | .Starred _ _ => false
  | _ => true
def isStar : Expr → Bool
  | .Starred _ _ => true
  | _ => false
def unStar : Expr → Expr
  | .Starred e _ => e
  | e => e
def isTupE : Expr → Bool
  | .Tuple _ _ _ => true
  | _ => false
def notSet : Expr → Bool
  | .Set _ _ _ => false
  | _ => true
def notComp : Expr → Bool
  | .ListComp _ _ _ _ => false
  | .SetComp _ _ _ _ => false
  | .DictComp _ _ _ _ _ => false
  | _ => true
def notCall0 : Expr → Bool
  | .Call (.Name _ _) [] [] _ => false
  | _ => true
def notSlice : Expr → Bool
  | .Slice _ _ _ _ => false
  | _ => true
def notTup : Expr → Bool
  | .Tuple _ _ _ => false
  | _ => true
/-- its truth is its value's -/
def plainT : Expr → Bool
  | .UnaryOp .Not _ _ => false
  | .BoolOp _ _ _ => false
  | .IfExp _ _ _ _ => false
  | .Compare _ _ _ _ => false
  | _ => true
def notVar : CE → Bool
  | .var _ => false
  | _ => true
def kindS (sc : Scope) (x : Str) : Option NameKind := sc.names.lookup x
def visB (sc : Scope) (x : Str) : Bool := match kindS sc x with
  | some .local => true
  | some .cell => true
  | some .free => true
  | _ => false
def nmOk (x : Str) : Bool := !(x == ("__debug__" : Str)) && !(x == ("__classdict__" : Str))
def slotOf (N : List Str) (x : Str) : Option Nat := match N.findIdx? (fun y => decide (y = x)) with
  | some i => if N[i]? = some x then some i else none
  | none => none
def glbB (sc : Scope) (x : Str) : Bool := decide (kindS sc x = some .globalImplicit)
def biTab : List (Str × Nat × BI) := [("len", 1, .len), ("abs", 1, .abs), ("min", 1, .min1), ("max", 1, .max1), ("min", 2, .min2), ("max", 2, .max2), ("sum", 1, .sum), ("sorted", 1, .sorted), ("all", 1, .all), ("any", 1, .any),
  ("list", 1, .list), ("tuple", 1, .tuple), ("int", 1, .int), ("str", 1, .str), ("repr", 1, .repr), ("bool", 1, .bool)]
def biOf (f : Str) (n : Nat) : Option BI := (biTab.find? fun r => decide (r.1 = f) && decide (r.2.1 = n)).bind fun r => if biN r.2.2 = f then some r.2.2 else none
def tnOf (x : Str) : Option TN := ([.bool, .int, .str, .tuple, .list] : List TN).find? fun T => decide (tnN T = x)
/-- isinstance(a, T) -/
def isiOf (f : Str) (es : List Expr) : Option (Expr × TN) := if f = ("isinstance" : Str) then match es with
  | [a, .Name t _] => (tnOf t).map fun T => (a, T)
  | _ => none else none
def trL (f : Expr → Option CE) : List Expr → Option CEs
  | [] => some .nil
  | e :: es => if notStar e then (f e).bind fun c => (trL f es).map fun cs => .cons c cs else none
def trKw (f : Expr → Option CE) : List Keyword → Option CEs
  | [] => some .nil
  | ⟨some _, e, _⟩ :: ks => (f e).bind fun c => (trKw f ks).map fun cs => .cons c cs
  | ⟨none, _, _⟩ :: _ => none
def kwN (kws : List Keyword) : List Str := kws.filterMap (·.arg)
def shpOf (l : List Shp) (f : Str) (n : Nat) (ks : List Str) : Option Shp := l.find? fun s => decide (s.f = f) && (decide (s.n = n) && decide (s.ks = ks))
/-- a call by one of the forms -/
def trK (Γ : Gam) (fE : Expr → Option CE) (f : Str) (es : List Expr) (kws : List Keyword) : Option CE := match es with
  | [] => none
  | e :: es => match shpOf Γ.sh f (es.length + 1) (kwN kws) with
    | some s => (trL fE (e :: es)).bind fun cs => (trKw fE kws).map fun ck => .callK s cs ck
    | none => match shpOf Γ.ih f (es.length + 1) (kwN kws) with
      | some s => (trL fE (e :: es)).bind fun cs => (trKw fE kws).map fun ck => .mkK s cs ck
      | none => none
def trB (f : Expr → Option CE) (g : CE → CE → CE) : List Expr → Option CE
  | [] => none
  | [a] => f a
  | a :: b :: es => (f a).bind fun c => (trB f g (b :: es)).map fun d => g c d
def trTB (f : Expr → Option CT) (g : CT → CT → CT) : List Expr → Option CT
  | [] => none
  | [a] => f a
  | a :: b :: es => (f a).bind fun c => (trTB f g (b :: es)).map fun d => g c d
def trO (f : Expr → Option CE) : Option Expr → Option CO
  | none => some .none
  | some e => (f e).map .some
def trGs (f : Expr → Option CG) : List Expr → Option CGs
  | [] => some .nil
  | e :: es => if notStar e then (f e).bind fun g => (trGs f es).map fun gs => .cons g gs else none
/-- targets, one of them with a star -/
def trGx (f : Expr → Option CG) : List Expr → Option CGs
  | [] => some .nil
  | e :: es => (f (unStar e)).bind fun g => (trGx f es).map fun gs => .cons g gs
/-- a target: lk tells the kinds of names as the block itself has them -/
def trG (N : List Str) (lk : Str → Option NameKind) : Nat → Expr → Option CG
  | 0, _ => none
  | n + 1, e => match e with
    | .Name x _ => if lk x = some .local ∨ lk x = some .cell then (slotOf N x).map .name else none
    | .Tuple es _ _ => match es.findIdx? isStar with
      | none => (trGs (trG N lk n) es).map .tup
      | some i => (trGx (trG N lk n) es).map (.star es.length i)
    | _ => none
/-- the block's own names among the slots -/
def ownOf (N : List Str) (scope : Scope) : List (Str × Nat) := scope.names.filterMap fun p => match p.2 with
  | .local => (slotOf N p.1).map fun i => (p.1, i)
  | .cell => (slotOf N p.1).map fun i => (p.1, i)
  | _ => none
def ownI (N : List Str) (scope : Scope) : List Nat := (ownOf N scope).map Prod.snd
def trIf (f : Expr → Option CT) : List Expr → Option CT
  | [] => some .yes
  | [q] => f q
  | _ => none
def trLc (N : List Str) (sc : Scope) (fE : Scope → Expr → Option CE) (fT : Scope → Expr → Option CT) (fI : Scope → Bool → Expr → Option CI) (elt : Expr) (gens : List Comprehension) (scope : Scope) : Option CE :=
  if blkC N sc scope (ownOf N scope) && decide (ownI N scope).Nodup then match gens with
    | [⟨tg, it, ifs, 0⟩] => if notSet it then (trG N (kindS scope) 9 tg).bind fun g => if (slotsG g).all fun i => decide (i ∈ ownI N scope) then (fI sc (isTupE tg) it).bind fun ci => (trIf (fT (relS scope sc)) ifs).bind fun ct =>
        (fE (relS scope sc) elt).map fun ce => .lc (ownI N scope) g ci ct ce else none else none
    | [⟨tg, it, ifs, 0⟩, ⟨tg1, it1, ifs1, 0⟩] => if notSet it && notSet it1 then (trG N (kindS scope) 9 tg).bind fun g => (trG N (kindS scope) 9 tg1).bind fun g1 => if ((slotsG g).all fun i => decide (i ∈ ownI N scope)) && (slotsG g1).all fun i => decide (i ∈ ownI N scope) then
        (fI sc (isTupE tg) it).bind fun ci => (trIf (fT (relS scope sc)) ifs).bind fun ct => (fI (relS scope sc) (isTupE tg1) it1).bind fun ci1 => (trIf (fT (relS scope sc)) ifs1).bind fun ct1 => (fE (relS scope sc) elt).map fun ce => .lc2 (ownI N scope) g ci ct (slotsG g1) g1 ci1 ct1 ce else none else none
    | _ => none
  else none
/-- sorted of a set's comprehension, from the list's -/
def toSs : CE → Option CE
  | .lc2 own g it t vs g1 it1 t1 elt => some (.ss2 own g it t vs g1 it1 t1 elt)
  | _ => none
section
variable (T : Tc)
mutual
def trE : Nat → Scope → Expr → Option CE
  | 0, _, _ => none
  | n + 1, sc, e => match e with
    | .Name x _ => if nmOk x then (if visB sc x then (slotOf T.Γ.N x).map .var else if glbB sc x && decide (x ∈ T.cons) then some (.con x) else none) else none
    | .Constant (.int i) _ _ => some (.int i)
    | .Constant (.bool i) _ _ => some (.bl i)
    | .Constant (.str i) _ _ => some (.str i)
    | .Constant .none _ _ => some .non
    | .Tuple es _ _ => (trL (trE n sc) es).map .tup
    | .List es _ => (trL (trE n sc) es).map .lst
    | .BinOp a op b _ => (trE n sc a).bind fun c => (trE n sc b).map fun d => .bin op c d
    | .UnaryOp .USub a _ => (trE n sc a).map .neg
    | .UnaryOp .Not a _ => (trE n sc a).map .notv
    | .Compare a [op] [b] _ => if behindInMarks op b then none else (trE n sc a).bind fun c => (trE n sc b).map fun d => .cmp op c d
    | .Compare a [o1, o2] [b, b2] _ => if lastMarks [o1, o2] [b, b2] then none else (trE n sc a).bind fun c => (trE n sc b).bind fun d => (trE n sc b2).map fun d2 => .chain o1 o2 c d d2
    | .BoolOp .And es _ => (trB (trE n sc) .andv es).bind fun c => if notVar c then some c else none
    | .BoolOp .Or es _ => (trB (trE n sc) .orv es).bind fun c => if notVar c then some c else none
    | .IfExp t a b _ => (trT n sc t).bind fun q => (trE n sc a).bind fun c => (trE n sc b).map fun d => .ifx q c d
    | .Subscript a (.Slice lo hi none _) _ => (trE n sc a).bind fun c => (trO (trE n sc) lo).bind fun l => (trO (trE n sc) hi).map fun h => .slc c l h
    | .Subscript a (.Slice lo hi (some (.Constant (.int k) _ _)) _) _ => if decide (k = 0) then none else (trE n sc a).bind fun c => (trO (trE n sc) lo).bind fun l => (trO (trE n sc) hi).map fun h => .slk c l h k
    | .Subscript a i _ => if notSlice i then (trE n sc a).bind fun c => (trE n sc i).map fun d => .idx c d else none
    | .Call (.Name f _) [.SetComp elt gens scope _] [] _ => if nmOk f && (glbB sc f && (decide (f = "sorted") && decide (("sorted" : Str) ∈ T.Γ.bl))) then (trLc T.Γ.N sc (trE n) (trT n) (trI n) elt gens scope).bind toSs else none
    | .Call (.Name f _) es [] _ => if nmOk f && glbB sc f then (match trK T.Γ (trE n sc) f es [] with
      | some c => some c
      | none => (if decide (f ∈ T.Γ.fl) then (trL (trE n sc) es).map fun cs => .call f cs else if decide (f ∈ T.Γ.kl) then (trL (trE n sc) es).map fun cs => .mk f cs else match isiOf f es with
      | some p => if decide (f ∈ T.Γ.bl) && (decide (tnN p.2 ∈ T.Γ.bl) && (glbB sc (tnN p.2) && notStar p.1)) then (trE n sc p.1).map fun c => .isT c p.2 else none
      | none => (biOf f es.length).bind fun b => if decide (biN b ∈ T.Γ.bl) then (trL (trE n sc) es).map fun cs => .bi b cs else none)) else none
    | .Call (.Name f _) es (k :: kws) _ => if nmOk f && glbB sc f then trK T.Γ (trE n sc) f es (k :: kws) else none
    | .Attribute e f _ => if notCall0 e then (trE n sc e).map fun c => .fld c f else none
    | .Call (.Attribute o m ap) es [] p => if notCall0 o && (decide (es.length < 30) && (ap.endLine == p.line)) then (trE n sc o).bind fun c => (trL (trE n sc) es).map fun cs => .meth c m cs else none
    | .ListComp elt gens scope _ => trLc T.Γ.N sc (trE n) (trT n) (trI n) elt gens scope
    | _ => none
def trT : Nat → Scope → Expr → Option CT
  | 0, _, _ => none
  | n + 1, sc, e => match e with
    | .UnaryOp .Not a _ => (trT n sc a).map .not
    | .BoolOp .And es _ => trTB (trT n sc) .and es
    | .BoolOp .Or es _ => trTB (trT n sc) .or es
    | .Compare a [op] [b] _ => if behindInMarks op b then none else (trE n sc a).bind fun c => (trE n sc b).map fun d => .cmp op c d
    | .Compare a [o1, o2] [b, b2] _ => if lastMarks [o1, o2] [b, b2] then none else (trE n sc a).bind fun c => (trE n sc b).bind fun d => (trE n sc b2).map fun d2 => .chain o1 o2 c d d2
    | e => if plainT e then (trE n sc e).map .val else none
def trI : Nat → Scope → Bool → Expr → Option CI
  | 0, _, _, _ => none
  | n + 1, sc, tu, e => match e with
    | .Call (.Name f p) [a] [] q => if f = ("range" : Str) ∧ ("range" : Str) ∈ T.Γ.bl ∧ glbB sc f = true ∧ notStar a = true then (trE n sc a).map .rng1
      else if tu = true ∧ f = ("enumerate" : Str) ∧ ("enumerate" : Str) ∈ T.Γ.bl ∧ glbB sc f = true ∧ notStar a = true then (trE n sc a).map .enm else (trE n sc (.Call (.Name f p) [a] [] q)).map .seq
    | .Call (.Name f p) [a, b] [] q => if f = ("range" : Str) ∧ ("range" : Str) ∈ T.Γ.bl ∧ glbB sc f = true ∧ notStar a = true ∧ notStar b = true then (trE n sc a).bind fun c => (trE n sc b).map fun d => .rng2 c d
      else if tu = true ∧ f = ("zip" : Str) ∧ ("zip" : Str) ∈ T.Γ.bl ∧ glbB sc f = true ∧ notStar a = true ∧ notStar b = true then (trE n sc a).bind fun c => (trE n sc b).map fun d => .zip c d else (trE n sc (.Call (.Name f p) [a, b] [] q)).map .seq
    | .Call (.Name f p) [a, b] [⟨some k, .Constant (.bool true) j cp, kp⟩] q => if tu = true ∧ f = ("zip" : Str) ∧ k = ("strict" : Str) ∧ ("zip" : Str) ∈ T.Γ.bl ∧ glbB sc f = true ∧ notStar a = true ∧ notStar b = true then (trE n sc a).bind fun c => (trE n sc b).map fun d => .zps c d else none
    | e => (trE n sc e).map .seq
end
end
end Cs
/-! Cs12: what is read is what is run: expressions. -/
namespace Cs
open PySem L2
theorem star_cons {e : Expr} (h : notStar e = true) (es : List Expr) (env : PySem.Env) : starEach (e :: es) env = (false, eval e env) :: starEach es env := by
  cases e <;> first | rfl | cases h
theorem plain_ix {b : Expr} (h : notSlice b = true) : PlainIx b := fun o i => by
  cases b <;> first | rfl | cases h
theorem base_eq {o : Expr} {f : Str} {env : PySem.Env} {x : Sem Value} (h : notCall0 o = true) : attributeBase o f env x = x := by
  unfold attributeBase
  split
  · cases h
  · rfl
theorem all_star {p : Pos} {env : PySem.Env} : ∀ {es : List Expr}, (∀ e ∈ es, notStar e = true) → (backTo p (starEach es env)).all (!·.1) = true
  | [], _ => rfl
  | e :: es, h => by
    rw [star_cons (h e List.mem_cons_self)]
    show (true && (backTo p (starEach es env)).all (!·.1)) = true
    rw [all_star fun e he => h e (List.mem_cons_of_mem _ he)]; rfl
theorem meth_eq {o : Expr} {m : Str} {apos pos : Pos} {es : List Expr} {env : PySem.Env} (h0 : notCall0 o = true) (hs : ∀ e ∈ es, notStar e = true) (hl : es.length < 30) (hline : (apos.endLine == pos.line) = true) :
    eval (.Call (.Attribute o m apos) es [] pos) env = (do
      let ov ← eval o env
      standAt apos.atName
      let (f, first) ← holding [ov] (getMethod ov m (do return (← importBound o env).getD true))
      callWith pos f first (backTo pos (starEach es env)) (backToKw pos (keywordEach [] env))) := by
  rw [arm_eval_Call, base_eq h0]
  unfold methodCall
  have hf : methodCallForm (es.length + ([] : List Keyword).length) (backTo pos (starEach es env)) (backToKw pos (keywordEach [] env)) = true := by
    unfold methodCallForm
    rw [all_star hs]
    show (true && true && decide (es.length + 0 + 0 < 30)) = true
    rw [decide_eq_true (by omega)]; rfl
  rw [hf]
  unfold calleeOf methodCallPos
  simp only [if_true, hline, Bool.not_true, Bool.false_or, pure_bind]
theorem isi_of {f : Str} {es : List Expr} {p : Expr × TN} (h : isiOf f es = some p) : f = "isinstance" ∧ ∃ q, es = [p.1, .Name (tnN p.2) q] := by
  unfold isiOf at h
  split at h
  case isFalse => cases h
  rename_i hf
  refine ⟨hf, ?_⟩
  split at h
  case h_2 => cases h
  obtain ⟨T, h1, h2⟩ := Option.map_eq_some_iff.mp h
  subst h2
  have h3 := of_decide_eq_true (List.find?_some (p := fun T => decide (tnN T = _)) h1)
  exact ⟨_, by rw [h3]⟩
theorem plain_t {e : Expr} (h : plainT e = true) (env : PySem.Env) : ∀ whole, isTrue e env whole = (do let v ← whole; standAt e.pos; holding [v] (truthy v)) := fun whole => by
  cases e with
  | UnaryOp op a p => cases op <;> first | rfl | cases h
  | BoolOp _ _ _ => cases h
  | IfExp _ _ _ _ => cases h
  | Compare _ _ _ _ => cases h
  | _ => rfl
theorem set_it {e : Expr} (h : notSet e = true) (env : PySem.Env) : ∀ x, foldedSetIterable e env x = pure x := fun x => by
  cases e <;> first | rfl | cases h
theorem vis_of {sc : Scope} {x : Str} (h : visB sc x = true) : Vis sc x := by
  unfold visB kindS at h
  unfold Vis
  split at h
  · exact .inl (by assumption)
  · exact .inr (.inl (by assumption))
  · exact .inr (.inr (by assumption))
  · cases h
theorem nm_of {x : Str} (h : nmOk x = true) : (x == ("__debug__" : Str)) = false ∧ (x == ("__classdict__" : Str)) = false := by
  unfold nmOk at h
  rw [Bool.and_eq_true] at h
  exact ⟨by simpa using h.1, by simpa using h.2⟩
theorem slot_of {N : List Str} {x : Str} {i : Nat} (h : slotOf N x = some i) : N[i]? = some x := by
  unfold slotOf at h
  split at h
  · split at h
    · rename_i z
      cases h
      exact z
    · cases h
  · cases h
theorem any_star {p : Pos} {env : PySem.Env} : ∀ {es : List Expr}, (∀ e ∈ es, notStar e = true) → (backTo p (starEach es env)).any (·.1) = false
  | [], _ => rfl
  | e :: es, h => by
    rw [star_cons (h e List.mem_cons_self)]
    show (false || (backTo p (starEach es env)).any (·.1)) = false
    rw [any_star fun e he => h e (List.mem_cons_of_mem _ he)]; rfl
theorem trL_star {f : Expr → Option CE} : ∀ {es : List Expr} {cs : CEs}, trL f es = some cs → ∀ e ∈ es, notStar e = true
  | [], _, _, _, h => nomatch h
  | a :: es, cs, h, e, he => by
    unfold trL at h
    split at h
    · rename_i z
      obtain ⟨c, h1, h2⟩ := Option.bind_eq_some_iff.mp h
      obtain ⟨cs', h3, h4⟩ := Option.map_eq_some_iff.mp h2
      rcases List.mem_cons.mp he with q | q
      · rw [q]; exact z
      · exact trL_star h3 e q
    · cases h
section
variable {X : Cx} {C : Ctx} {W : WX} {Γ : Gam} {f : Expr → Option CE} {ft : Expr → Option CT}
theorem trL_es (hf : ∀ e c, f e = some c → PE X e (tEv X C W c)) : ∀ {es : List Expr} {cs : CEs}, trL f es = some cs → PA X es (tEs X C W cs)
  | [], _, h => by cases h; exact snd_nil
  | e :: es, cs, h => by
    unfold trL at h
    split at h
    · rename_i z
      obtain ⟨c, h1, h2⟩ := Option.bind_eq_some_iff.mp h
      obtain ⟨cs', h3, h4⟩ := Option.map_eq_some_iff.mp h2
      subst h4
      exact snd_cons (hf e c h1) (trL_es hf h3) (star_cons z _ _)
    · cases h
theorem trL_rs (hf : ∀ e c, f e = some c → PE X e (tRf X C W c)) : ∀ {es : List Expr} {cs : CEs}, trL f es = some cs → PA X es (tRs X C W cs)
  | [], _, h => by cases h; exact rnd_nil
  | e :: es, cs, h => by
    unfold trL at h
    split at h
    · rename_i z
      obtain ⟨c, h1, h2⟩ := Option.bind_eq_some_iff.mp h
      obtain ⟨cs', h3, h4⟩ := Option.map_eq_some_iff.mp h2
      subst h4
      exact rnd_cons (hf e c h1) (trL_rs hf h3) (star_cons z _ _)
    · cases h
theorem kw_map {p : Pos} {env : PySem.Env} : ∀ {kws : List Keyword}, (backToKw p (keywordEach kws env)).map (·.1) = kws.map (·.arg)
  | [] => rfl
  | ⟨n, e, q⟩ :: kws => by
    show n :: (backToKw p (keywordEach kws env)).map (·.1) = n :: kws.map (·.arg)
    rw [kw_map]
theorem trKw_pk (hf : ∀ e c, f e = some c → PE X e (tRf X C W c)) : ∀ {kws : List Keyword} {cs : CEs}, trKw f kws = some cs → PK X kws (tRs X C W cs) ∧ kws.all (·.arg.isSome) = true
  | [], _, h => by cases h; exact ⟨knd_nil, rfl⟩
  | ⟨some n, e, q⟩ :: kws, cs, h => by
    obtain ⟨c, h1, h2⟩ := Option.bind_eq_some_iff.mp (show (f e).bind (fun c => (trKw f kws).map fun cs => CEs.cons c cs) = some cs from h)
    obtain ⟨cs', h3, h4⟩ := Option.map_eq_some_iff.mp h2
    subst h4
    obtain ⟨q1, q2⟩ := trKw_pk hf h3
    exact ⟨knd_cons (hf e c h1) q1, q2⟩
  | ⟨none, e, q⟩ :: kws, cs, h => nomatch h
theorem shp_of {l : List Shp} {f : Str} {n : Nat} {ks : List Str} {s : Shp} (h : shpOf l f n ks = some s) : s ∈ l ∧ s.f = f ∧ s.n = n ∧ s.ks = ks := by
  have h1 := List.find?_some h
  have h2 := List.mem_of_find?_eq_some h
  rw [Bool.and_eq_true, Bool.and_eq_true] at h1
  exact ⟨h2, of_decide_eq_true h1.1, of_decide_eq_true h1.2.1, of_decide_eq_true h1.2.2⟩
theorem trK_ok {fn : Str} {p pos : Pos} {es : List Expr} {kws : List Keyword} {c : CE} (g : Gd Γ X C W) (hf : ∀ e c, f e = some c → PE X e (tRf X C W c)) (hg : Gl X fn) (hdb : (fn == ("__debug__" : Str)) = false) (h : trK Γ f fn es kws = some c) : PE X (.Call (.Name fn p) es kws pos) (tEv X C W c) ∧ ∀ i, c ≠ .var i := by
  unfold trK at h
  split at h
  case h_1 => cases h
  rename_i e es
  have kk : ∀ ck, trKw f kws = some ck → (backToKw pos (keywordEach kws X.env)).all (·.1.isSome) = true ∧ (backToKw pos (keywordEach kws X.env)).filterMap (·.1) = kwN kws ∧ (backToKw pos (keywordEach kws X.env)).any (·.1.isNone) = false := fun ck h => by
    have ha := (trKw_pk hf h).2
    have e1 : ∀ l : List (Option Str × Sem Value), l.all (·.1.isSome) = (l.map (·.1)).all (·.isSome) := fun l => by rw [List.all_map]; rfl
    have e2 : ∀ l : List (Option Str × Sem Value), l.filterMap (·.1) = (l.map (·.1)).filterMap id := fun l => by rw [List.filterMap_map]; rfl
    have e3 : ∀ l : List (Option Str × Sem Value), l.any (·.1.isNone) = (l.map (·.1)).any (·.isNone) := fun l => by rw [List.any_map]; rfl
    rw [e1, e2, e3, kw_map]
    refine ⟨by rw [List.all_map]; exact ha, by rw [List.filterMap_map]; rfl, ?_⟩
    rw [List.any_map]
    cases q : kws.any ((fun x : Option Str => x.isNone) ∘ fun x => x.arg) with
    | false => rfl
    | true =>
      obtain ⟨k, k1, k2⟩ := List.any_eq_true.mp q
      have := List.all_eq_true.mp ha k k1
      cases hk : k.arg with
      | none => rw [hk] at this; cases this
      | some x => rw [Function.comp, hk] at k2; cases k2
  split at h
  · rename_i s hs
    obtain ⟨cs, h1, h2⟩ := Option.bind_eq_some_iff.mp h
    obtain ⟨ck, h3, h4⟩ := Option.map_eq_some_iff.mp h2
    subst h4
    obtain ⟨q1, rfl, q3, q4⟩ := shp_of hs
    obtain ⟨k1, k2, k3⟩ := kk ck h3
    have st := trL_star h1
    refine ⟨snd_callK g q1 hg (trL_rs hf h1) (trKw_pk hf h3).1 hdb k1 (by rw [k2, q4]) (star_cons (st e List.mem_cons_self) _ _) ?_, fun i q => by cases q⟩
    rw [any_star st, k3]; rfl
  · split at h
    · rename_i s hs
      obtain ⟨cs, h1, h2⟩ := Option.bind_eq_some_iff.mp h
      obtain ⟨ck, h3, h4⟩ := Option.map_eq_some_iff.mp h2
      subst h4
      obtain ⟨q1, rfl, q3, q4⟩ := shp_of hs
      obtain ⟨k1, k2, k3⟩ := kk ck h3
      have st := trL_star h1
      refine ⟨snd_mkK g q1 hg (trL_rs hf h1) (trKw_pk hf h3).1 hdb k1 (by rw [k2, q4]) (star_cons (st e List.mem_cons_self) _ _) ?_, fun i q => by cases q⟩
      rw [any_star st, k3]; rfl
    · cases h
theorem trB_and {pos : Pos} (hf : ∀ e c, f e = some c → PE X e (tEv X C W c)) : ∀ {es : List Expr} {c : CE}, trB f .andv es = some c → PE X (.BoolOp .And es pos) (tEv X C W c)
  | [], _, h => nomatch h
  | [a], c, h => snd_one (hf a c h)
  | a :: b :: es, c, h => by
    unfold trB at h
    obtain ⟨c1, h1, h2⟩ := Option.bind_eq_some_iff.mp h
    obtain ⟨c2, h3, h4⟩ := Option.map_eq_some_iff.mp h2
    subst h4
    exact snd_andv (hf a c1 h1) (trB_and hf h3)
theorem trB_or {pos : Pos} (hf : ∀ e c, f e = some c → PE X e (tEv X C W c)) : ∀ {es : List Expr} {c : CE}, trB f .orv es = some c → PE X (.BoolOp .Or es pos) (tEv X C W c)
  | [], _, h => nomatch h
  | [a], c, h => snd_one (hf a c h)
  | a :: b :: es, c, h => by
    unfold trB at h
    obtain ⟨c1, h1, h2⟩ := Option.bind_eq_some_iff.mp h
    obtain ⟨c2, h3, h4⟩ := Option.map_eq_some_iff.mp h2
    subst h4
    exact snd_orv (hf a c1 h1) (trB_or hf h3)
theorem trTB_and {pos : Pos} (hf : ∀ e c, ft e = some c → PT X e (tTs X C W c)) : ∀ {es : List Expr} {c : CT}, trTB ft .and es = some c → PW X (.BoolOp .And es pos) (tTs X C W c)
  | [], _, h => nomatch h
  | [a], c, h => wnd_one1 (hf a c h)
  | a :: b :: es, c, h => by
    unfold trTB at h
    obtain ⟨c1, h1, h2⟩ := Option.bind_eq_some_iff.mp h
    obtain ⟨c2, h3, h4⟩ := Option.map_eq_some_iff.mp h2
    subst h4
    exact wnd_and (hf a c1 h1) (trTB_and hf h3)
theorem trTB_or {pos : Pos} (hf : ∀ e c, ft e = some c → PT X e (tTs X C W c)) : ∀ {es : List Expr} {c : CT}, trTB ft .or es = some c → PW X (.BoolOp .Or es pos) (tTs X C W c)
  | [], _, h => nomatch h
  | [a], c, h => wnd_one2 (hf a c h)
  | a :: b :: es, c, h => by
    unfold trTB at h
    obtain ⟨c1, h1, h2⟩ := Option.bind_eq_some_iff.mp h
    obtain ⟨c2, h3, h4⟩ := Option.map_eq_some_iff.mp h2
    subst h4
    exact wnd_or (hf a c1 h1) (trTB_or hf h3)
theorem trO_po (hf : ∀ e c, f e = some c → PE X e (tEv X C W c)) {o : Option Expr} {c : CO} (h : trO f o = some c) : PO X o (tOo X C W c) := by
  cases o with
  | none => cases h; exact snd_ono
  | some e =>
    obtain ⟨c1, h1, h2⟩ := Option.map_eq_some_iff.mp (show (f e).map CO.some = some c from h)
    subst h2
    exact snd_osm (hf e c1 h1)
/-! ### targets -/
/-- the names that a block may store to: as it has them itself -/
def LkOk (X : Cx) (lk : Str → Option NameKind) : Prop := ∀ x, (lk x = some .local → X.env.scope.names.lookup x = some .local) ∧ (lk x = some .cell → X.env.scope.names.lookup x = some .cell ∧ X.fn x = true)
theorem trGs_pg {f : Expr → Option CG} (hf : ∀ e g, f e = some g → PG X e (tTg X g)) : ∀ (es : List Expr) (gs : CGs), trGs f es = some gs →
    PGs X es (tTgs X gs) ∧ (assignEach es X.env).findIdx? (·.1) = none ∧ (assignEach es X.env).length = es.length ∧ ∀ ds ρ ρ', assigns gs ds ρ = some ρ' → ds.length = es.length
  | [], gs, h => by
    cases h
    exact ⟨gnd_nil, rfl, rfl, fun ds ρ ρ' e => by cases ds with | nil => rfl | cons _ _ => cases e⟩
  | e :: es, gs, h => by
    unfold trGs at h
    split at h
    · rename_i z
      obtain ⟨g, h1, h2⟩ := Option.bind_eq_some_iff.mp h
      obtain ⟨gs', h3, h4⟩ := Option.map_eq_some_iff.mp h2
      subst h4
      obtain ⟨q1, q2, q3, q4⟩ := trGs_pg hf es gs' h3
      have ha : assignEach (e :: es) X.env = (false, PySem.assign e X.env) :: assignEach es X.env := by cases e <;> first | rfl | cases z
      refine ⟨gnd_cons (hf e g h1) q1 (by rw [ha]; rfl), ?_, by rw [ha, List.length_cons, q3]; rfl, fun ds ρ ρ' k => ?_⟩
      · rw [ha, List.findIdx?_cons, q2]; rfl
      · rw [assigns_len (g := g) (gs := gs') (n := es.length) (ds := ds) (ρ := ρ) (ρ' := ρ') q4 ds ρ ρ' k]; rfl
    · cases h
theorem asg_each {e : Expr} {es : List Expr} {env : PySem.Env} : ∃ f, assignEach (e :: es) env = (isStar e, f) :: assignEach es env := by
  cases e <;> exact ⟨_, rfl⟩
theorem asg_un {e : Expr} {es : List Expr} {env : PySem.Env} : (assignEach (e :: es) env).map (·.2) = PySem.assign (unStar e) env :: (assignEach es env).map (·.2) := by
  cases e <;> rfl
theorem asg_ix {env : PySem.Env} : ∀ es : List Expr, (assignEach es env).findIdx? (·.1) = es.findIdx? isStar ∧ (assignEach es env).length = es.length
  | [] => ⟨rfl, rfl⟩
  | e :: es => by
    obtain ⟨f, h⟩ := asg_each (e := e) (es := es) (env := env)
    obtain ⟨h1, h2⟩ := asg_ix (env := env) es
    rw [h]
    exact ⟨by rw [List.findIdx?_cons, List.findIdx?_cons, h1], by rw [List.length_cons, List.length_cons, h2]⟩
theorem pgs_un {e e' : Expr} {es : List Expr} {t : TG} {u : TGs} (h1 : PG X e' t) (h2 : PGs X es u) (hs : (assignEach (e :: es) X.env).map (·.2) = PySem.assign e' X.env :: (assignEach es X.env).map (·.2)) : PGs X (e :: es) (gCons t u) := by
  refine ⟨fun pins s σ H vs us Q I r h => ?_⟩
  obtain ⟨v, vr, e1, h⟩ := h
  subst e1
  cases r with
  | cons r rr =>
    rw [hs]
    exact PyProof.Rows.assignInOrder_cons (thn (h1.run pins s σ H _ _ _ I r h) fun _ s1 ⟨σ1, H1, I1, q1⟩ => h2.run pins s1 σ1 H1 _ _ Q I1 rr q1)
theorem gnd_un {e e' : Expr} {es : List Expr} {g : CG} {gs : CGs} (h1 : PG X e' (tTg X g)) (h2 : PGs X es (tTgs X gs)) (hs : (assignEach (e :: es) X.env).map (·.2) = PySem.assign e' X.env :: (assignEach es X.env).map (·.2)) : PGs X (e :: es) (tTgs X (.cons g gs)) :=
  pgs_imp (pgs_un h1 h2 hs) fun vs σ H Q ⟨F, ρ, ds, ρ', l, ss, e, k⟩ => by
    cases ds with
    | nil => cases e
    | cons d ds =>
      cases vs with
      | nil => cases l
      | cons v vs =>
        obtain ⟨ρ1, e1, e2⟩ := Option.bind_eq_some_iff.mp (show (assign g d ρ).bind (assigns gs ds) = some ρ' from e)
        refine ⟨v, vs, rfl, ds.zip vs ++ F, ρ, d, ρ1, ss, e1, fun σ1 H1 c1 s1 => ?_⟩
        exact ⟨F, ρ1, ds, ρ', by simpa using l, s1, e2, fun σ2 H2 c2 s2 => k σ2 H2 (c1.trans c2) s2⟩
theorem trGx_pg {f : Expr → Option CG} (hf : ∀ e g, f e = some g → PG X e (tTg X g)) : ∀ (es : List Expr) (gs : CGs), trGx f es = some gs → PGs X es (tTgs X gs)
  | [], gs, h => by cases h; exact gnd_nil
  | e :: es, gs, h => by
    unfold trGx at h
    obtain ⟨g, h1, h2⟩ := Option.bind_eq_some_iff.mp h
    obtain ⟨gs', h3, h4⟩ := Option.map_eq_some_iff.mp h2
    subst h4
    exact gnd_un (hf _ g h1) (trGx_pg hf es gs' h3) asg_un
theorem trG_pg (hc : X.calm = true) (hN : X.N.Nodup) {lk : Str → Option NameKind} (hl : LkOk X lk) : ∀ (n : Nat) (e : Expr) (g : CG), trG X.N lk n e = some g → PG X e (tTg X g)
  | 0, _, _, h => nomatch h
  | n + 1, e, g, h => by
    unfold trG at h
    split at h
    · rename_i x p
      split at h
      · rename_i z
        obtain ⟨i, h1, h2⟩ := Option.map_eq_some_iff.mp h
        subst h2
        rcases z with z | z
        · have q := (hl x).1 z
          exact gnd_name hN (slot_of h1) (.inl q) (.inr q)
        · have q := (hl x).2 z
          exact gnd_name hN (slot_of h1) (.inr q.1) (.inl q.2)
      · cases h
    · split at h
      · obtain ⟨gs, h1, h2⟩ := Option.map_eq_some_iff.mp h
        subst h2
        obtain ⟨q1, q2, q3, q4⟩ := trGs_pg (trG_pg hc hN hl n) _ gs h1
        exact gnd_tup hc q1 q2 q3 q4
      · rename_i hi
        obtain ⟨gs, h1, h2⟩ := Option.map_eq_some_iff.mp h
        subst h2
        obtain ⟨q1, q2⟩ := asg_ix (env := X.env) _
        exact gnd_star hc (trGx_pg (trG_pg hc hN hl n) _ gs h1) (q1.trans hi) q2
    · cases h
/-! ### a comprehension's block -/
theorem relabel_local {scope : Scope} {env : PySem.Env} {x : Str} (h : scope.names.lookup x = some .local) : (relabel scope env).names.lookup x = some .local := lookup_relabel_local h
theorem relabel_is {scope : Scope} {env : PySem.Env} : relabel scope env = relS scope env.scope := rfl
theorem Gd.blk (g : Gd Γ X C W) {scope : Scope} (hk : scope.kind = .function) (s : Shared) (H : Hp) (A : Addr) (cl : List (Str × Addr)) (fp : List Addr) : Gd Γ (X.blk s H scope (compEnvC scope cl A X.env) fp) C (fun _ _ _ _ => False) where
  N := g.N
  nd := g.nd
  kind := hk
  calm := g.calm
  tk := takes0
  pass := PassesOwn.never
  units := g.units
  fns := g.fns
  blt := g.blt
  fld := g.fld
  met := g.met
  mak := g.mak
  shp := g.shp
  ihp := g.ihp
  con := g.con
  whl := g.whl
theorem lk_blk {scope : Scope} {s : Shared} {H : Hp} {A : Addr} {cl : List (Str × Addr)} {fp : List Addr} : LkOk (X.blk s H scope (compEnvC scope cl A X.env) fp) (kindS scope) := fun x => by
  refine ⟨fun h => relabel_local h, fun h => ⟨lookup_relS_keep (sc := X.env.scope) (by intro z; cases z) h, ?_⟩⟩
  show (scope.names.lookup x == some NameKind.cell) = true
  rw [show scope.names.lookup x = some .cell from h]; rfl
theorem own_snd {N : List Str} {scope : Scope} : ownI N scope = (ownOf N scope).map (·.2) := rfl
theorem blkC_kind {N : List Str} {sc scope : Scope} {own : List (Str × Nat)} (h : blkC N sc scope own = true) : scope.kind = .function := (blkOk_by h).kind
theorem bi_of {f : Str} {n : Nat} {b : BI} (h : biOf f n = some b) : biN b = f := by
  obtain ⟨r, h1, h2⟩ := Option.bind_eq_some_iff.mp h
  split at h2
  · rename_i z
    cases h2
    exact z
  · cases h2
end
end Cs
/-! Cs13: what is read is what is run: expressions, whole. -/
namespace Cs
open PySem L2
structure Rd3 (T : Tc) (C : Ctx) (n : Nat) : Prop where
  e : ∀ {X : Cx} {W : WX} {sc : Scope}, Gd T.Γ X C W → X.env.scope = sc → ∀ e c, trE T n sc e = some c → PE X e (tEv X C W c) ∧ PE X e (tRf X C W c)
  t : ∀ {X : Cx} {W : WX} {sc : Scope}, Gd T.Γ X C W → X.env.scope = sc → ∀ e c, trT T n sc e = some c → PT X e (tTs X C W c)
  i : ∀ {X : Cx} {W : WX} {sc : Scope}, Gd T.Γ X C W → X.env.scope = sc → ∀ e c tg, trI T n sc (isTupE tg) e = some c → PI X tg e (tIt X C W c)
section
variable {T : Tc} {C : Ctx}
theorem gl_of {X : Cx} {sc : Scope} {x : Str} (hs : X.env.scope = sc) (h : glbB sc x = true) : Gl X x := by
  unfold glbB kindS at h
  have h := of_decide_eq_true h
  unfold Gl PySem.Env.kindOf
  rw [hs]
  exact h
theorem call_len {es : List Expr} {f : Expr → Option CE} {cs : CEs} (h : trL f es = some cs) : es = [] → cs = .nil := fun e => by subst e; cases h; rfl
theorem tup_of {tg : Expr} (h : isTupE tg = true) : ∃ es k p, tg = .Tuple es k p := by
  cases tg <;> first | exact ⟨_, _, _, rfl⟩ | cases h
/-- what a block's parts come to -/
structure Blk (X : Cx) (C : Ctx) (scope : Scope) (own : List (Str × Nat)) : Prop where
  ok : BlkOk X.N X.env.scope scope own
  nd : (own.map (·.2)).Nodup
abbrev InBlk (X : Cx) (scope : Scope) (P : Cx → Prop) : Prop := ∀ (s : Shared) (H : Hp) (A : Addr) (cl : List (Str × Addr)) (fp : List Addr), P (X.blk s H scope (compEnvC scope cl A X.env) fp)
/-- a list comprehension read -/
theorem lc_parts {X : Cx} {W : WX} {sc : Scope} {fE : Scope → Expr → Option CE} {fT : Scope → Expr → Option CT} {fI : Scope → Bool → Expr → Option CI} (g : Gd T.Γ X C W) (hs : X.env.scope = sc)
    (hE : ∀ {X : Cx} {W : WX} {sc : Scope}, Gd T.Γ X C W → X.env.scope = sc → ∀ e c, fE sc e = some c → PE X e (tEv X C W c) ∧ PE X e (tRf X C W c))
    (hT : ∀ {X : Cx} {W : WX} {sc : Scope}, Gd T.Γ X C W → X.env.scope = sc → ∀ e c, fT sc e = some c → PT X e (tTs X C W c))
    (hI : ∀ {X : Cx} {W : WX} {sc : Scope}, Gd T.Γ X C W → X.env.scope = sc → ∀ e c tg, fI sc (isTupE tg) e = some c → PI X tg e (tIt X C W c))
    {elt : Expr} {gens : List Comprehension} {scope : Scope} {c : CE} (h : trLc T.Γ.N sc fE fT fI elt gens scope = some c) :
    ∃ own, Blk X C scope own ∧ ((∃ tg it ifs, gens = [⟨tg, it, ifs, 0⟩] ∧ ∃ gg ci ct ce, c = .lc (own.map (·.2)) gg ci ct ce ∧ PI X tg it (tIt X C W ci) ∧ (∀ i ∈ slotsG gg, i ∈ own.map (·.2)) ∧
      InBlk X scope (fun Y => PG Y tg (tTg X gg)) ∧ InBlk X scope (fun Y => PTs Y ifs (tTs X C (fun _ _ _ _ => False) ct)) ∧ InBlk X scope (fun Y => PE Y elt (tEv X C (fun _ _ _ _ => False) ce)) ∧ ∀ x, foldedSetIterable it X.env x = pure x) ∨
      (∃ tg it ifs tg1 it1 ifs1, gens = [⟨tg, it, ifs, 0⟩, ⟨tg1, it1, ifs1, 0⟩] ∧ ∃ gg ci ct vs g1 ci1 ct1 ce, c = .lc2 (own.map (·.2)) gg ci ct vs g1 ci1 ct1 ce ∧ PI X tg it (tIt X C W ci) ∧ (∀ i ∈ vs, i ∈ own.map (·.2)) ∧ (∀ i ∈ slotsG gg, i ∈ own.map (·.2)) ∧ (∀ i ∈ slotsG g1, i ∈ vs) ∧
      InBlk X scope (fun Y => PG Y tg (tTg X gg)) ∧ InBlk X scope (fun Y => PTs Y ifs (tTs X C (fun _ _ _ _ => False) ct)) ∧ InBlk X scope (fun Y => PI Y tg1 it1 (tIt X C (fun _ _ _ _ => False) ci1)) ∧ InBlk X scope (fun Y => PG Y tg1 (tTg X g1)) ∧
      InBlk X scope (fun Y => PTs Y ifs1 (tTs X C (fun _ _ _ _ => False) ct1)) ∧ InBlk X scope (fun Y => PE Y elt (tEv X C (fun _ _ _ _ => False) ce)) ∧ (∀ x, foldedSetIterable it X.env x = pure x) ∧ ∀ env x, foldedSetIterable it1 env x = pure x)) := by
  unfold trLc at h
  split at h
  case isFalse => cases h
  rename_i z
  rw [Bool.and_eq_true] at z
  obtain ⟨z1, z2⟩ := z
  have hk := blkC_kind z1
  have gb := fun s H A cl fp => g.blk hk s H A cl fp
  have hsb : ∀ (s : Shared) (H : Hp) (A : Addr) (cl : List (Str × Addr)) (fp : List Addr), (X.blk s H scope (compEnvC scope cl A X.env) fp).env.scope = relS scope sc := fun s H A cl fp => by
    show relabel scope X.env = _
    rw [← hs]; rfl
  have z1' : blkC X.N X.env.scope scope (ownOf T.Γ.N scope) = true := by rw [g.N, hs]; exact z1
  have tgs : ∀ {e : Expr} {gg : CG}, trG T.Γ.N (kindS scope) 9 e = some gg → InBlk X scope (fun Y => PG Y e (tTg X gg)) := fun {e gg} h1 s H A cl fp => by
    refine trG_pg (X := X.blk s H scope (compEnvC scope cl A X.env) fp) g.calm g.nd lk_blk 9 e gg ?_
    show trG X.N _ _ _ = _
    rw [g.N]; exact h1
  have ifsP : ∀ {ifs : List Expr} {ct : CT}, trIf (fT (relS scope sc)) ifs = some ct → InBlk X scope (fun Y => PTs Y ifs (tTs X C (fun _ _ _ _ => False) ct)) := fun {ifs ct} h5 s H A cl fp => by
    cases ifs with
    | nil =>
      cases h5
      exact ⟨fun pins s σ H Q I q => by
        obtain ⟨F, ρ, ss, h⟩ := q
        rw [evT] at h
        exact pts_nil.run pins s σ H Q I (h H ss)⟩
    | cons q1 ifs =>
      cases ifs with
      | nil => exact pts_one (hT (gb s H A cl fp) (hsb s H A cl fp) q1 ct h5)
      | cons _ _ => cases h5
  refine ⟨ownOf T.Γ.N scope, ⟨blkOk_by z1', of_decide_eq_true z2⟩, ?_⟩
  split at h
  · rename_i tg it ifs
    split at h
    case isFalse => cases h
    rename_i z3
    obtain ⟨gg, h1, h2⟩ := Option.bind_eq_some_iff.mp h
    split at h2
    case isFalse => cases h2
    rename_i zs
    obtain ⟨ci, h3, h4⟩ := Option.bind_eq_some_iff.mp h2
    obtain ⟨ct, h5, h6⟩ := Option.bind_eq_some_iff.mp h4
    obtain ⟨ce, h7, h8⟩ := Option.map_eq_some_iff.mp h6
    subst h8
    have zi : ∀ i ∈ slotsG gg, i ∈ ownI T.Γ.N scope := fun i hi => of_decide_eq_true (List.all_eq_true.mp zs i hi)
    exact .inl ⟨tg, it, ifs, rfl, gg, ci, ct, ce, rfl, hI g hs it ci tg h3, zi, tgs h1, ifsP h5, fun s H A cl fp => (hE (gb s H A cl fp) (hsb s H A cl fp) elt ce h7).1, set_it z3 _⟩
  · rename_i tg it ifs tg1 it1 ifs1
    split at h
    case isFalse => cases h
    rename_i z3
    rw [Bool.and_eq_true] at z3
    obtain ⟨gg, h1, h2⟩ := Option.bind_eq_some_iff.mp h
    obtain ⟨g1, h1', h2⟩ := Option.bind_eq_some_iff.mp h2
    split at h2
    case isFalse => cases h2
    rename_i zs
    rw [Bool.and_eq_true] at zs
    obtain ⟨ci, h3, h4⟩ := Option.bind_eq_some_iff.mp h2
    obtain ⟨ct, h5, h6⟩ := Option.bind_eq_some_iff.mp h4
    obtain ⟨ci1, h3', h6⟩ := Option.bind_eq_some_iff.mp h6
    obtain ⟨ct1, h5', h6⟩ := Option.bind_eq_some_iff.mp h6
    obtain ⟨ce, h7, h8⟩ := Option.map_eq_some_iff.mp h6
    subst h8
    have zi : ∀ i ∈ slotsG gg, i ∈ ownI T.Γ.N scope := fun i hi => of_decide_eq_true (List.all_eq_true.mp zs.1 i hi)
    have zi1 : ∀ i ∈ slotsG g1, i ∈ ownI T.Γ.N scope := fun i hi => of_decide_eq_true (List.all_eq_true.mp zs.2 i hi)
    exact .inr ⟨tg, it, ifs, tg1, it1, ifs1, rfl, gg, ci, ct, slotsG g1, g1, ci1, ct1, ce, rfl, hI g hs it ci tg h3, zi1, zi, fun _ h => h, tgs h1, ifsP h5, fun s H A cl fp => hI (gb s H A cl fp) (hsb s H A cl fp) it1 ci1 tg1 h3', tgs h1', ifsP h5',
      fun s H A cl fp => (hE (gb s H A cl fp) (hsb s H A cl fp) elt ce h7).1, set_it z3.1 _, fun env => set_it z3.2 env⟩
  · cases h
theorem trE_ok (hcons : ∀ x ∈ T.cons, ∃ d, C.kn.cons x = some d) : ∀ n, Rd3 T C n
  | 0 => by
    refine ⟨fun {X W sc} g hs e c h => ?_, fun {X W sc} g hs e c h => ?_, fun {X W sc} g hs e c tg h => ?_⟩
    · unfold trE at h; cases h
    · unfold trT at h; cases h
    · unfold trI at h; cases h
  | n + 1 => by
    have ih := trE_ok hcons n
    refine ⟨fun {X W sc} g hs e c h => ?_, fun {X W sc} g hs e c h => ?_, fun {X W sc} g hs e c tg h => ?_⟩
    · have fE : ∀ e c, trE T n sc e = some c → PE X e (tEv X C W c) := fun e c q => (ih.e g hs e c q).1
      have fR : ∀ e c, trE T n sc e = some c → PE X e (tRf X C W c) := fun e c q => (ih.e g hs e c q).2
      have fT := fun e c q => ih.t g hs e c q
      have both : ∀ {e : Expr} {c : CE}, (∀ i, c ≠ .var i) → PE X e (tEv X C W c) → PE X e (tEv X C W c) ∧ PE X e (tRf X C W c) := fun hc p => ⟨p, rf_of hc p⟩
      unfold trE at h
      split at h
      · -- a name
        rename_i x p
        split at h
        · rename_i hn
          obtain ⟨n1, n2⟩ := nm_of hn
          split at h
          · rename_i hv
            obtain ⟨i, h1, h2⟩ := Option.map_eq_some_iff.mp h
            subst h2
            have hN : X.N[i]? = some x := by rw [g.N]; exact slot_of h1
            have v : Vis X.env.scope x := by rw [hs]; exact vis_of hv
            exact ⟨snd_var hN v n1 n2, rf_var hN v n1 n2⟩
          · split at h
            · rename_i z
              cases h
              rw [Bool.and_eq_true] at z
              obtain ⟨d, hd⟩ := hcons x (of_decide_eq_true z.2)
              exact both (fun i q => by cases q) (snd_con g (gl_of hs z.1) hd n1)
            · cases h
        · cases h
      · cases h; exact both (fun i q => by cases q) snd_int
      · cases h; exact both (fun i q => by cases q) snd_bl
      · cases h; exact both (fun i q => by cases q) snd_str
      · cases h; exact both (fun i q => by cases q) snd_non
      · obtain ⟨cs, h1, h2⟩ := Option.map_eq_some_iff.mp h
        subst h2
        exact both (fun i q => by cases q) (pe_imp (pe_tup (trL_es fE h1)) fun _ _ _ => ent_tup)
      · obtain ⟨cs, h1, h2⟩ := Option.map_eq_some_iff.mp h
        subst h2
        exact both (fun i q => by cases q) (pe_imp (pe_lst (trL_es fE h1)) fun _ _ _ => ent_lst)
      · obtain ⟨c1, h1, h2⟩ := Option.bind_eq_some_iff.mp h
        obtain ⟨c2, h3, h4⟩ := Option.map_eq_some_iff.mp h2
        subst h4
        exact both (fun i q => by cases q) (snd_bin (fR _ _ h1) (fR _ _ h3))
      · obtain ⟨c1, h1, h2⟩ := Option.map_eq_some_iff.mp h
        subst h2
        exact both (fun i q => by cases q) (snd_neg (fE _ _ h1))
      · obtain ⟨c1, h1, h2⟩ := Option.map_eq_some_iff.mp h
        subst h2
        exact both (fun i q => by cases q) (snd_notv (fE _ _ h1))
      · split at h
        · cases h
        · rename_i hm
          obtain ⟨c1, h1, h2⟩ := Option.bind_eq_some_iff.mp h
          obtain ⟨c2, h3, h4⟩ := Option.map_eq_some_iff.mp h2
          subst h4
          exact both (fun i q => by cases q) (snd_cmp g.units (fR _ _ h1) (fR _ _ h3) (Bool.eq_false_iff.mpr hm))
      · split at h
        · cases h
        · rename_i hm
          obtain ⟨c1, h1, h2⟩ := Option.bind_eq_some_iff.mp h
          obtain ⟨c2, h3, h4⟩ := Option.bind_eq_some_iff.mp h2
          obtain ⟨c3, h5, h6⟩ := Option.map_eq_some_iff.mp h4
          subst h6
          exact both (fun i q => by cases q) (snd_chain g.units (fE _ _ h1) (fE _ _ h3) (fE _ _ h5) (Bool.eq_false_iff.mpr hm))
      · obtain ⟨c1, h1, h2⟩ := Option.bind_eq_some_iff.mp h
        split at h2
        · rename_i z
          cases h2
          exact both (fun i q => by subst q; cases z) (trB_and fE h1)
        · cases h2
      · obtain ⟨c1, h1, h2⟩ := Option.bind_eq_some_iff.mp h
        split at h2
        · rename_i z
          cases h2
          exact both (fun i q => by subst q; cases z) (trB_or fE h1)
        · cases h2
      · obtain ⟨q1, h1, h2⟩ := Option.bind_eq_some_iff.mp h
        obtain ⟨c1, h3, h4⟩ := Option.bind_eq_some_iff.mp h2
        obtain ⟨c2, h5, h6⟩ := Option.map_eq_some_iff.mp h4
        subst h6
        exact both (fun i q => by cases q) (snd_ifx (fT _ _ h1) (fE _ _ h3) (fE _ _ h5))
      · obtain ⟨c1, h1, h2⟩ := Option.bind_eq_some_iff.mp h
        obtain ⟨l, h3, h4⟩ := Option.bind_eq_some_iff.mp h2
        obtain ⟨u, h5, h6⟩ := Option.map_eq_some_iff.mp h4
        subst h6
        exact both (fun i q => by cases q) (snd_slc (fR _ _ h1) (trO_po fE h3) (trO_po fE h5))
      · split at h
        · cases h
        · rename_i z
          obtain ⟨c1, h1, h2⟩ := Option.bind_eq_some_iff.mp h
          obtain ⟨l, h3, h4⟩ := Option.bind_eq_some_iff.mp h2
          obtain ⟨u, h5, h6⟩ := Option.map_eq_some_iff.mp h4
          subst h6
          exact both (fun i q => by cases q) (snd_slk (fun e => z (decide_eq_true e)) (fR _ _ h1) (trO_po fE h3) (trO_po fE h5))
      · split at h
        · rename_i z
          obtain ⟨c1, h1, h2⟩ := Option.bind_eq_some_iff.mp h
          obtain ⟨c2, h3, h4⟩ := Option.map_eq_some_iff.mp h2
          subst h4
          exact both (fun i q => by cases q) (snd_idx (fR _ _ h1) (fR _ _ h3) (plain_ix z))
        · cases h
      · rename_i f p elt gens scope q1 q2
        split at h
        case isFalse => cases h
        rename_i z
        rw [Bool.and_eq_true, Bool.and_eq_true, Bool.and_eq_true] at z
        obtain ⟨_, z2, z3, z4⟩ := z
        obtain ⟨c1, h1, h2⟩ := Option.bind_eq_some_iff.mp h
        have ef : f = "sorted" := of_decide_eq_true z3
        subst ef
        obtain ⟨own, bk, q | q⟩ := lc_parts g hs (fun {X W sc} => ih.e (X := X) (W := W) (sc := sc)) (fun {X W sc} => ih.t (X := X) (W := W) (sc := sc)) (fun {X W sc} => ih.i (X := X) (W := W) (sc := sc)) h1
        · obtain ⟨tg, it, ifs, rfl, gg, ci, ct, ce, rfl, _⟩ := q
          cases h2
        · obtain ⟨tg, it, ifs, tg1, it1, ifs1, rfl, gg, ci, ct, vs, g1, ci1, ct1, ce, rfl, r1, r2, r3, r4, r5, r6, r7, r8, r9, r10, r11, r12⟩ := q
          cases h2
          exact both (fun i q => by cases q) (snd_ss2 g (of_decide_eq_true z4) (gl_of hs z2) r1 bk.ok bk.nd r2 r3 r4 r5 r6 r7 r8 r9 r10 r11 r12)
      · rename_i f p es q _
        split at h
        · rename_i z
          rw [Bool.and_eq_true] at z
          obtain ⟨n1, n2⟩ := nm_of z.1
          have hg := gl_of hs z.2
          split at h
          · rename_i c2 hc2
            cases h
            obtain ⟨r1, r2⟩ := trK_ok (p := p) (pos := q) g fR hg n1 hc2
            exact both r2 r1
          · split at h
            · rename_i zf
              obtain ⟨cs, h1, h2⟩ := Option.map_eq_some_iff.mp h
              subst h2
              have st := trL_star h1
              have ra := trL_rs fR h1
              refine both (fun i q => by cases q) ?_
              cases es with
              | nil =>
                cases h1
                exact snd_call0 g (of_decide_eq_true zf) hg n1
              | cons e1 es => exact snd_call g (of_decide_eq_true zf) hg ra n1 (star_cons (st e1 List.mem_cons_self) _ _) (any_star fun e he => st e (List.mem_cons_of_mem _ he))
            split at h
            · rename_i zf
              obtain ⟨cs, h1, h2⟩ := Option.map_eq_some_iff.mp h
              subst h2
              have st := trL_star h1
              have ra := trL_rs fR h1
              refine both (fun i q => by cases q) ?_
              cases es with
              | nil =>
                cases h1
                exact snd_mk0 g (of_decide_eq_true zf) hg n1
              | cons e1 es => exact snd_mk g (of_decide_eq_true zf) hg ra n1 (star_cons (st e1 List.mem_cons_self) _ _) (any_star fun e he => st e (List.mem_cons_of_mem _ he))
            split at h
            · rename_i pp hp
              split at h
              case isFalse => cases h
              rename_i zz
              rw [Bool.and_eq_true, Bool.and_eq_true, Bool.and_eq_true] at zz
              obtain ⟨y1, y2, y3, y4⟩ := zz
              obtain ⟨rfl, q5, rfl⟩ := isi_of hp
              obtain ⟨c1, h1, h2⟩ := Option.map_eq_some_iff.mp h
              subst h2
              exact both (fun i q => by cases q) (snd_isT g (of_decide_eq_true y1) hg (of_decide_eq_true y2) (gl_of hs y3) (fR _ _ h1) (star_cons y4 _ _))
            · obtain ⟨b, h1, h2⟩ := Option.bind_eq_some_iff.mp h
              split at h2
              · rename_i zb
                obtain ⟨cs, h3, h4⟩ := Option.map_eq_some_iff.mp h2
                subst h4
                have st := trL_star h3
                have ra := trL_rs fR h3
                have eb := bi_of h1
                subst eb
                refine both (fun i q => by cases q) ?_
                cases es with
                | nil =>
                  exfalso
                  cases b <;> exact absurd h1 (by decide +kernel)
                | cons e1 es => exact snd_bi g (of_decide_eq_true zb) hg ra (star_cons (st e1 List.mem_cons_self) _ _) (any_star fun e he => st e (List.mem_cons_of_mem _ he))
              · cases h2
        · cases h
      · rename_i f p es kk kws q
        split at h
        · rename_i z
          rw [Bool.and_eq_true] at z
          obtain ⟨n1, n2⟩ := nm_of z.1
          obtain ⟨r1, r2⟩ := trK_ok (p := p) (pos := q) g fR (gl_of hs z.2) n1 h
          exact both r2 r1
        · cases h
      · split at h
        · rename_i z
          obtain ⟨c1, h1, h2⟩ := Option.map_eq_some_iff.mp h
          subst h2
          exact both (fun i q => by cases q) (snd_fld g (fR _ _ h1) (base_eq z))
        · cases h
      · rename_i o m ap es p
        split at h
        · rename_i z
          rw [Bool.and_eq_true, Bool.and_eq_true] at z
          obtain ⟨z1, z2, z3⟩ := z
          obtain ⟨c1, h1, h2⟩ := Option.bind_eq_some_iff.mp h
          obtain ⟨cs, h3, h4⟩ := Option.map_eq_some_iff.mp h2
          subst h4
          have st := trL_star h3
          refine both (fun i q => by cases q) (snd_meth g (fR _ _ h1) (trL_rs fR h3) (call_len h3) (fun e1 es' ee => ?_) (meth_eq z1 st (of_decide_eq_true z2) z3))
          subst ee
          exact ⟨star_cons (st e1 List.mem_cons_self) _ _, any_star fun e he => st e (List.mem_cons_of_mem _ he)⟩
        · cases h
      · rename_i elt gens scope p
        obtain ⟨own, bk, q | q⟩ := lc_parts g hs (fun {X W sc} => ih.e (X := X) (W := W) (sc := sc)) (fun {X W sc} => ih.t (X := X) (W := W) (sc := sc)) (fun {X W sc} => ih.i (X := X) (W := W) (sc := sc)) h
        · obtain ⟨tg, it, ifs, rfl, gg, ci, ct, ce, rfl, q1, q4, q5, q6, q7, q8⟩ := q
          exact both (fun i q => by cases q) (snd_lc g.calm g.nd q1 bk.ok bk.nd q4 q5 q6 q7 q8)
        · obtain ⟨tg, it, ifs, tg1, it1, ifs1, rfl, gg, ci, ct, vs, g1, ci1, ct1, ce, rfl, q1, q2, q3, q4, q5, q6, q7, q8, q9, q10, q11, q12⟩ := q
          exact both (fun i q => by cases q) (snd_lc2 g.calm g.nd q1 bk.ok bk.nd q2 q3 q4 q5 q6 q7 q8 q9 q10 q11 q12)
      · cases h
    · have fE : ∀ e c, trE T n sc e = some c → PE X e (tEv X C W c) := fun e c q => (ih.e g hs e c q).1
      have fR : ∀ e c, trE T n sc e = some c → PE X e (tRf X C W c) := fun e c q => (ih.e g hs e c q).2
      have fT := fun e c q => ih.t g hs e c q
      unfold trT at h
      split at h
      · obtain ⟨c1, h1, h2⟩ := Option.map_eq_some_iff.mp h
        subst h2
        exact tnd_not (fT _ _ h1)
      · exact (trTB_and fT h).pt
      · exact (trTB_or fT h).pt
      · split at h
        · cases h
        · rename_i hm
          obtain ⟨c1, h1, h2⟩ := Option.bind_eq_some_iff.mp h
          obtain ⟨c2, h3, h4⟩ := Option.map_eq_some_iff.mp h2
          subst h4
          exact tnd_cmp g.units (fR _ _ h1) (fR _ _ h3) (Bool.eq_false_iff.mpr hm)
      · split at h
        · cases h
        · rename_i hm
          obtain ⟨c1, h1, h2⟩ := Option.bind_eq_some_iff.mp h
          obtain ⟨c2, h3, h4⟩ := Option.bind_eq_some_iff.mp h2
          obtain ⟨c3, h5, h6⟩ := Option.map_eq_some_iff.mp h4
          subst h6
          exact tnd_chain g.units (fE _ _ h1) (fE _ _ h3) (fE _ _ h5) (Bool.eq_false_iff.mpr hm)
      · split at h
        · rename_i z
          obtain ⟨c1, h1, h2⟩ := Option.map_eq_some_iff.mp h
          subst h2
          exact tnd_val (fR _ _ h1) (plain_t z _)
        · cases h
    · have fE : ∀ e c, trE T n sc e = some c → PE X e (tEv X C W c) := fun e c q => (ih.e g hs e c q).1
      unfold trI at h
      split at h
      · split at h
        · rename_i z
          obtain ⟨rfl, zb, zg, za⟩ := z
          obtain ⟨c1, h1, h2⟩ := Option.map_eq_some_iff.mp h
          subst h2
          exact ind_rng1 (gl_of hs zg) (g.blt _ zb) (fE _ _ h1) (star_cons za [] _)
        · split at h
          · rename_i z
            obtain ⟨zt, rfl, zb, zg, za⟩ := z
            obtain ⟨es, k, p, rfl⟩ := tup_of zt
            obtain ⟨c1, h1, h2⟩ := Option.map_eq_some_iff.mp h
            subst h2
            exact ind_enm (gl_of hs zg) (g.blt _ zb) (fE _ _ h1) (star_cons za [] _)
          · obtain ⟨c1, h1, h2⟩ := Option.map_eq_some_iff.mp h
            subst h2
            exact ind_seq (fE _ _ h1)
      · split at h
        · rename_i z
          obtain ⟨rfl, zb, zg, za, zc⟩ := z
          obtain ⟨c1, h1, h2⟩ := Option.bind_eq_some_iff.mp h
          obtain ⟨c2, h3, h4⟩ := Option.map_eq_some_iff.mp h2
          subst h4
          exact ind_rng2 (gl_of hs zg) (g.blt _ zb) (fE _ _ h1) (fE _ _ h3) (by rw [star_cons za, star_cons zc]; rfl) (star_cons zc [] _)
        · split at h
          · rename_i z
            obtain ⟨zt, rfl, zb, zg, za, zc⟩ := z
            obtain ⟨es, k, p, rfl⟩ := tup_of zt
            obtain ⟨c1, h1, h2⟩ := Option.bind_eq_some_iff.mp h
            obtain ⟨c2, h3, h4⟩ := Option.map_eq_some_iff.mp h2
            subst h4
            exact ind_zip (gl_of hs zg) (g.blt _ zb) (fE _ _ h1) (fE _ _ h3) (star_cons za _ _) (star_cons zc _ _)
          · obtain ⟨c1, h1, h2⟩ := Option.map_eq_some_iff.mp h
            subst h2
            exact ind_seq (fE _ _ h1)
      · split at h
        · rename_i z
          obtain ⟨zt, rfl, rfl, zb, zg, za, zc⟩ := z
          obtain ⟨es, k, p, rfl⟩ := tup_of zt
          obtain ⟨c1, h1, h2⟩ := Option.bind_eq_some_iff.mp h
          obtain ⟨c2, h3, h4⟩ := Option.map_eq_some_iff.mp h2
          subst h4
          exact ind_zps (gl_of hs zg) (g.blt _ zb) (fE _ _ h1) (fE _ _ h3) (star_cons za _ _) (star_cons zc _ _)
        · cases h
      · obtain ⟨c1, h1, h2⟩ := Option.map_eq_some_iff.mp h
        subst h2
        exact ind_seq (fE _ _ h1)
end
end Cs
/-! Cs14: statements read, and what is read is what is run. -/
namespace Cs
open PySem L2
def okSlot (T : Tc) (i : Nat) : Bool := decide (T.np ≤ i) || decide (i ∈ T.asg)
def locB (sc : Scope) (x : Str) : Bool := decide (kindS sc x = some .local) || decide (kindS sc x = some .cell)
def isLc : Expr → Bool
  | .ListComp _ _ _ _ => true
  | _ => false
/-- name = [..]: the name is stored within -/
def swB (sc : Scope) (y : Str) (py : Pos) : Expr → Bool
  | .ListComp _ _ scope p => decide (kindS sc y = some .local) && (py.line == p.line) && !(scope.names.any fun (n, k) => n == y && (k == .local || k == .cell))
  | _ => false
def parB (sc : Scope) (x y : Str) (px py : Pos) (a b : Expr) : Bool := decide (kindS sc x = some .local) && decide (kindS sc y = some .local) && (py.line == px.line) && decide (x ≠ y) && notStar a && notStar b && !([a, b].all (foldedForSure 8)) && !([a, b].all (constantsAlone 8))
def trSl (f : Stmt → Option CS) : List Stmt → Option CSs
  | [] => some .nil
  | s :: ss => (f s).bind fun c => (trSl f ss).map fun cs => .cons c cs
section
variable (T : Tc)
def trS : Nat → Scope → Stmt → Option CS
  | 0, _, _ => none
  | n + 1, sc, st => match st with
    | .Assign [.Name y py] e _ => (slotOf T.Γ.N y).bind fun i => if okSlot T i && locB sc y && (notComp e || isLc e) then (trE T n sc e).map fun c => .asg (.name i) c else none
    | .Assign [.Tuple [.Name x px, .Name y py] kt pt] (.Tuple [a, b] k2 p2) _ => if parB sc x y px py a b then (slotOf T.Γ.N x).bind fun i => (slotOf T.Γ.N y).bind fun j => if okSlot T i && okSlot T j && decide (i ≠ j) then (trE T n sc a).bind fun c => (trE T n sc b).map fun d => .par i j c d else none else none
    | .Assign [.Tuple es k p] e _ => if notTup e then (trG T.Γ.N (kindS sc) 9 (.Tuple es k p)).bind fun g => if (slotsG g).all (okSlot T) then (trE T n sc e).map fun c => .asg g c else none else none
    | .Assign [.Subscript (.Name x _) ie _] e _ => if nmOk x && visB sc x && notSlice ie && notComp e then (slotOf T.Γ.N x).bind fun i => (trE T n sc e).bind fun c => (trE T n sc ie).map fun d => .setI c i d else none
    | .AugAssign (.Name x _) op e _ => (slotOf T.Γ.N x).bind fun i => if okSlot T i && locB sc x then (trE T n sc e).map fun c => .aug i op c else none
    | .Expr (.Call (.Attribute (.Name x p2) m apos) [e] [] cpos) _ => if decide (m = ("append" : Str)) && nmOk x && visB sc x && notStar e && (apos.endLine == cpos.line) then (slotOf T.Γ.N x).bind fun i => (trE T n sc e).map fun c => .app i c else (trE T n sc (.Call (.Attribute (.Name x p2) m apos) [e] [] cpos)).map .drop
    | .Assign [.Attribute (.Name x _) f _] e _ => if nmOk x && visB sc x && notComp e then (slotOf T.Γ.N x).bind fun i => (trE T n sc e).map fun c => .setF c i f else none
    | .Expr e _ => if notComp e then (trE T n sc e).map .drop else none
    | .Return (some e) _ => match e with
      | .Name x p => if nmOk x && visB sc x then (slotOf T.Γ.N x).bind fun i => if T.np ≤ i then some (.ret (.mv i)) else some (.ret (.var i)) else (trE T n sc (.Name x p)).map .ret
      | e => (trE T n sc e).map .ret
    | .Return none _ => some .retN
    | .Pass _ => some .pass
    | .Break _ => some .brk
    | .Continue _ => some .cont
    | .If t a b _ => (trT T n sc t).bind fun q => (trSl (trS n sc) a).bind fun c => (trSl (trS n sc) b).map fun d => .ife q c d
    | .While t b [] _ => (trT T n sc t).bind fun q => (trSl (trS n sc) b).map fun c => .whl q c
    | .For tg it b [] _ => if notSet it then (trG T.Γ.N (kindS sc) 9 tg).bind fun g => if (slotsG g).all (okSlot T) then (trI T n sc (isTupE tg) it).bind fun ci => (trSl (trS n sc) b).map fun c => .for g ci c else none else none
    | _ => none
end
theorem no_swap {e : Expr} {tg : Option Expr} {l : Nat} {env : PySem.Env} (h : notComp e = true) : swapsWith e tg l env = pure false := by
  cases e <;> first | rfl | cases h
theorem no_swapS {e tg : Expr} {l : Nat} {env : PySem.Env} (h : notComp e = true) : swapsWithSole [tg] e l env = pure false := no_swap h
theorem no_swapT {es : List Expr} {k : Nat} {p : Pos} {e : Expr} {l : Nat} {env : PySem.Env} : swapsWithSole [.Tuple es k p] e l env = pure false := by
  cases e <;> rfl
theorem no_stores_name {x : Str} {p : Pos} {e : Expr} {env : PySem.Env} : swappedStores [.Name x p] e env = pure none := by
  cases e <;> rfl
theorem no_stores_sub {a b : Expr} {p : Pos} {e : Expr} {env : PySem.Env} : swappedStores [.Subscript a b p] e env = pure none := by
  cases e <;> rfl
theorem no_stores_tup {ts : List Expr} {k : Nat} {p : Pos} {e : Expr} {env : PySem.Env} (h : notTup e = true) : swappedStores [.Tuple ts k p] e env = pure none := by
  cases e <;> first | rfl | cases h
theorem par_stores {env : PySem.Env} {x y : Str} {px py pt p2 : Pos} {kt k2 : Nat} {a b : Expr} (hk : env.scope.kind = .function) (h : parB env.scope x y px py a b = true) : swappedStores [.Tuple [.Name x px, .Name y py] kt pt] (.Tuple [a, b] k2 p2) env = pure (some [x, y]) := by
  unfold parB kindS at h
  simp only [Bool.and_eq_true, decide_eq_true_eq, Bool.not_eq_true'] at h
  obtain ⟨⟨⟨⟨⟨⟨⟨h1, h2⟩, h3⟩, h4⟩, h5⟩, h6⟩, h7⟩, h8⟩ := h
  have hb : env.blockKind = .function := by unfold Env.blockKind; rw [hk]; rfl
  have k1 : env.kindOf x = some .local := h1
  have k2 : env.kindOf y = some .local := h2
  have hs : ∀ f : Expr → Bool, (∀ e, notStar e = true → f e = false) → [a, b].any f = false := fun f hf => by
    rw [List.any_cons, List.any_cons, hf a h5, hf b h6]; rfl
  have h3' : py.line = px.line := by simpa using h3
  have hd : ([x, y] : List Str).eraseDups = [x, y] := by
    simp [List.eraseDups_cons, Ne.symm h4]
  have hf : ∀ f : Expr → Option Str, f (.Name x px) = some x → f (.Name y py) = some y → [Expr.Name x px, Expr.Name y py].filterMap f = [x, y] := fun f e1 e2 => by
    rw [List.filterMap_cons, e1, List.filterMap_cons, e2]; rfl
  unfold swappedStores
  dsimp only
  rw [if_neg (by rw [hb]; simp)]
  rw [if_neg (by rw [hs _ fun e he => by cases e <;> first | rfl | cases he]; decide)]
  rw [hf _ (by simp [k1, Expr.pos]) (by simp [k2, Expr.pos, h3']), hd, h7, h8]
  rfl
end Cs
/-! Cs15: what is read is what is run: statements. -/
namespace Cs
open PySem L2
section
variable {T : Tc} {C : Ctx} {X : Cx} {W : WX} {I : L2.St → Prop} {sc : Scope}
theorem loc_of {x : Str} (hs : X.env.scope = sc) (h : locB sc x = true) : Loc X.env.scope x := by
  unfold locB kindS at h
  rw [Bool.or_eq_true] at h
  rw [hs]
  rcases h with h | h
  · exact .inl (of_decide_eq_true h)
  · exact .inr (of_decide_eq_true h)
theorem trSl_ok {f : Stmt → Option CS} (hf : ∀ s c, f s = some c → PS X s (tSt X C W I c)) : ∀ {ss : List Stmt} {cs : CSs}, trSl f ss = some cs → PSs X ss (tSs X C W I cs)
  | [], _, h => by cases h; exact bnd_nil
  | s :: ss, cs, h => by
    unfold trSl at h
    obtain ⟨c, h1, h2⟩ := Option.bind_eq_some_iff.mp h
    obtain ⟨cs', h3, h4⟩ := Option.map_eq_some_iff.mp h2
    subst h4
    exact bnd_cons (hf s c h1) (trSl_ok hf h3)
theorem as_sub {x : Str} {p2 tpos : Pos} {ie : Expr} {env : PySem.Env} (z : notSlice ie = true) : ∀ v, PySem.assign (.Subscript (.Name x p2) ie tpos) env v = (do
      let ov ← holding [v] (eval (.Name x p2) env)
      let iv ← holding [v, ov] (eval ie env)
      standAt tpos
      holding [v, ov, iv] (setItem ov iv v)
      release [v, ov, iv] []) := fun v => by
  cases ie <;> first | rfl | cases z
theorem loc_fn {x : Str} (hs : X.env.scope = sc) (lk : LkOk X (kindS sc)) (h : locB sc x = true) : X.fn x = true ∨ X.env.scope.names.lookup x = some .local := by
  unfold locB at h
  rw [Bool.or_eq_true] at h
  rcases h with h | h
  · exact .inr ((lk x).1 (of_decide_eq_true h))
  · exact .inl ((lk x).2 (of_decide_eq_true h)).2
theorem sw_of {y : Str} {py : Pos} {elt : Expr} {gens : List Comprehension} {scope : Scope} {p : Pos} {l : Nat} (hk : X.env.scope.kind = .function) (hs : X.env.scope = sc) : swapsWith (.ListComp elt gens scope p) (some (.Name y py)) l X.env = pure (swB sc y py (.ListComp elt gens scope p)) := by
  have hb : X.env.blockKind = .function := by unfold Env.blockKind; rw [hk]; rfl
  unfold swapsWith
  dsimp only
  rw [hb]
  unfold Env.kindOf
  rw [hs]
  show (pure _ : Sem Bool) = pure _
  congr 1
  unfold swB kindS
  dsimp only [Expr.pos]
  cases hq : List.lookup y sc.names with
  | none => rfl
  | some k => cases k <;> rfl
theorem trS_ok (hcons : ∀ x ∈ T.cons, ∃ d, C.kn.cons x = some d) (g : Gd T.Γ X C W) (hs : X.env.scope = sc) (lk : LkOk X (kindS sc)) (hI : Cl I (okSlot T)) : ∀ (n : Nat) (st : Stmt) (c : CS), trS T n sc st = some c → PS X st (tSt X C W I c)
  | 0, st, c, h => by unfold trS at h; cases h
  | n + 1, st, c, h => by
    have ih := trS_ok hcons g hs lk hI n
    have fE : ∀ e c, trE T n sc e = some c → PE X e (tEv X C W c) := fun e c q => ((trE_ok hcons n).e g hs e c q).1
    have fT : ∀ e c, trT T n sc e = some c → PT X e (tTs X C W c) := fun e c q => (trE_ok hcons n).t g hs e c q
    have fI : ∀ e c tg, trI T n sc (isTupE tg) e = some c → PI X tg e (tIt X C W c) := fun e c tg q => (trE_ok hcons n).i g hs e c tg q
    have sl : ∀ {x : Str} {i : Nat}, slotOf T.Γ.N x = some i → X.N[i]? = some x := fun q => by rw [g.N]; exact slot_of q
    have vs : ∀ {x : Str}, visB sc x = true → Vis X.env.scope x := fun q => by rw [hs]; exact vis_of q
    have pg : ∀ {e : Expr} {gg : CG}, trG T.Γ.N (kindS sc) 9 e = some gg → PG X e (tTg X gg) := fun {e gg} q => trG_pg g.calm g.nd lk 9 e gg (by rw [g.N]; exact q)
    unfold trS at h
    split at h
    · -- y = e
      rename_i y py e _
      obtain ⟨i, h1, h2⟩ := Option.bind_eq_some_iff.mp h
      split at h2
      · rename_i z
        simp only [Bool.and_eq_true, Bool.or_eq_true] at z
        obtain ⟨⟨z1, z2⟩, z3⟩ := z
        obtain ⟨c1, h3, h4⟩ := Option.map_eq_some_iff.mp h2
        subst h4
        have hg1 : ∀ j ∈ slotsG (.name i), okSlot T j = true := fun j hj => by rw [List.mem_singleton.mp hj]; exact z1
        have pn : PG X (.Name y py) (tTg X (.name i)) := gnd_name g.nd (sl h1) (loc_of hs z2) (loc_fn hs lk z2)
        rcases z3 with z3 | z3
        · exact bnd_asg hI hg1 (fE _ _ h3) pn (no_swapS z3) no_stores_name rfl
        · cases e <;> first | cases z3 | skip
          rename_i elt gens scope p
          cases hb : swB sc y py (.ListComp elt gens scope p) with
          | false =>
            have hw : ∀ l, swapsWithSole [.Name y py] (.ListComp elt gens scope p) l X.env = pure false := fun l => (sw_of (l := l) g.kind hs).trans (by rw [hb])
            exact bnd_asg hI hg1 (fE _ _ h3) pn (hw _) no_stores_name rfl
          | true =>
            cases n with
            | zero => unfold trE at h3; cases h3
            | succ n =>
              have i3 := trE_ok hcons n
              have h3' : trLc T.Γ.N sc (trE T n) (trT T n) (trI T n) elt gens scope = some c1 := by
                unfold trE at h3
                exact h3
              obtain ⟨own, bk, qq⟩ := lc_parts g hs (fun {X W sc} => i3.e (X := X) (W := W) (sc := sc)) (fun {X W sc} => i3.t (X := X) (W := W) (sc := sc)) (fun {X W sc} => i3.i (X := X) (W := W) (sc := sc)) h3'
              have hloc : X.env.scope.names.lookup y = some .local := by
                unfold swB at hb
                simp only [Bool.and_eq_true, decide_eq_true_eq] at hb
                rw [hs]
                exact hb.1.1
              have hw : ∀ l, swapsWith (.ListComp elt gens scope p) (some (.Name y py)) l X.env = pure true := fun l => (sw_of (l := l) g.kind hs).trans (by rw [hb])
              rcases qq with qq | qq
              · obtain ⟨tg, it, ifs, rfl, gg, ci, ct, ce, rfl, q1, q4, q5, q6, q7, q8⟩ := qq
                exact bnd_setLc hI z1 g.calm g.nd (sl h1) hloc (hw _) q1 bk.ok bk.nd q4 q5 q6 q7 q8
              · obtain ⟨tg, it, ifs, tg1, it1, ifs1, rfl, gg, ci, ct, vs, g1, ci1, ct1, ce, rfl, q1, q2, q3, q4, q5, q6, q7, q8, q9, q10, q11, q12⟩ := qq
                exact bnd_setLc2 hI z1 g.calm g.nd (sl h1) hloc (hw _) q1 bk.ok bk.nd q2 q3 q4 q5 q6 q7 q8 q9 q10 q11 q12
      · cases h2
    · -- x, y = a, b
      rename_i x px y py kt pt a b k2 p2 _
      split at h
      · rename_i z
        obtain ⟨i, h1, h2⟩ := Option.bind_eq_some_iff.mp h
        obtain ⟨j, h3, h4⟩ := Option.bind_eq_some_iff.mp h2
        split at h4
        · rename_i zz
          rw [Bool.and_eq_true, Bool.and_eq_true] at zz
          obtain ⟨⟨o1, o2⟩, o3⟩ := zz
          obtain ⟨c1, h5, h6⟩ := Option.bind_eq_some_iff.mp h4
          obtain ⟨c2, h7, h8⟩ := Option.map_eq_some_iff.mp h6
          subst h8
          have zz := z
          unfold parB at zz
          simp only [Bool.and_eq_true, decide_eq_true_eq, Bool.not_eq_true'] at zz
          obtain ⟨⟨⟨⟨⟨⟨⟨z1, z2⟩, z3⟩, z4⟩, z5⟩, z6⟩, z7⟩, z8⟩ := zz
          exact bnd_par hI o1 o2 g.calm g.nd (sl h1) (sl h3) (of_decide_eq_true o3) ((lk x).1 z1) ((lk y).1 z2) (fE _ _ h5) (fE _ _ h7) (star_cons z5 _ _) (star_cons z6 _ _) (par_stores g.kind (by rw [hs]; exact z))
        · cases h4
      · cases h
    · -- tuple target
      split at h
      · rename_i z
        obtain ⟨gg, h1, h2⟩ := Option.bind_eq_some_iff.mp h
        split at h2
        · rename_i zs
          obtain ⟨c1, h3, h4⟩ := Option.map_eq_some_iff.mp h2
          subst h4
          exact bnd_asg hI (List.all_eq_true.mp zs) (fE _ _ h3) (pg h1) no_swapT (no_stores_tup z) rfl
        · cases h2
      · cases h
    · -- x[i] = e
      split at h
      · rename_i z
        simp only [Bool.and_eq_true] at z
        obtain ⟨⟨⟨z1, z2⟩, z3⟩, z4⟩ := z
        obtain ⟨i, h1, h2⟩ := Option.bind_eq_some_iff.mp h
        obtain ⟨c1, h3, h4⟩ := Option.bind_eq_some_iff.mp h2
        obtain ⟨c2, h5, h6⟩ := Option.map_eq_some_iff.mp h4
        subst h6
        obtain ⟨n1, n2⟩ := nm_of z1
        exact bnd_setI hI (sl h1) (vs z2) n1 n2 (fE _ _ h3) (fE _ _ h5) (as_sub z3) (no_swapS z4) no_stores_sub rfl
      · cases h
    · -- x op= e
      obtain ⟨i, h1, h2⟩ := Option.bind_eq_some_iff.mp h
      split at h2
      · rename_i z
        rw [Bool.and_eq_true] at z
        obtain ⟨c1, h3, h4⟩ := Option.map_eq_some_iff.mp h2
        subst h4
        exact bnd_aug hI z.1 g.nd (sl h1) (loc_of hs z.2) (fE _ _ h3) (loc_fn hs lk z.2)
      · cases h2
    · -- x.append(e)
      split at h
      · rename_i z
        simp only [Bool.and_eq_true, decide_eq_true_eq] at z
        obtain ⟨⟨⟨⟨z1, z2⟩, z3⟩, z4⟩, z5⟩ := z
        subst z1
        obtain ⟨i, h1, h2⟩ := Option.bind_eq_some_iff.mp h
        obtain ⟨c1, h3, h4⟩ := Option.map_eq_some_iff.mp h2
        subst h4
        obtain ⟨n1, n2⟩ := nm_of z2
        exact bnd_app hI (sl h1) (vs z3) n1 n2 (fE _ _ h3) (star_cons z4 _ _) z5 (by rw [star_cons z4]; rfl)
      · obtain ⟨c1, h3, h4⟩ := Option.map_eq_some_iff.mp h
        subst h4
        exact bnd_drop (fE _ _ h3) (no_swap rfl)
    · -- x.f = e
      split at h
      · rename_i z
        simp only [Bool.and_eq_true] at z
        obtain ⟨⟨z1, z2⟩, z3⟩ := z
        obtain ⟨i, h1, h2⟩ := Option.bind_eq_some_iff.mp h
        obtain ⟨c1, h3, h4⟩ := Option.map_eq_some_iff.mp h2
        subst h4
        obtain ⟨n1, n2⟩ := nm_of z1
        exact bnd_setF g hI (sl h1) (vs z2) n1 n2 (fE _ _ h3) (no_swap z3)
      · cases h
    · -- e
      split at h
      · rename_i z
        obtain ⟨c1, h3, h4⟩ := Option.map_eq_some_iff.mp h
        subst h4
        exact bnd_drop (fE _ _ h3) (no_swap z)
      · cases h
    · -- return e
      split at h
      · split at h
        · rename_i z
          rw [Bool.and_eq_true] at z
          obtain ⟨n1, n2⟩ := nm_of z.1
          obtain ⟨i, h1, h2⟩ := Option.bind_eq_some_iff.mp h
          split at h2
          · cases h2
            exact bnd_ret (snd_mv (sl h1) (vs z.2) n1 n2)
          · cases h2
            exact bnd_ret (snd_var (sl h1) (vs z.2) n1 n2)
        · obtain ⟨c1, h3, h4⟩ := Option.map_eq_some_iff.mp h
          subst h4
          exact bnd_ret (fE _ _ h3)
      · obtain ⟨c1, h3, h4⟩ := Option.map_eq_some_iff.mp h
        subst h4
        exact bnd_ret (fE _ _ h3)
    · cases h; exact bnd_retN
    · cases h; exact bnd_pass
    · cases h; exact bnd_brk
    · cases h; exact bnd_cont
    · obtain ⟨q, h1, h2⟩ := Option.bind_eq_some_iff.mp h
      obtain ⟨c1, h3, h4⟩ := Option.bind_eq_some_iff.mp h2
      obtain ⟨c2, h5, h6⟩ := Option.map_eq_some_iff.mp h4
      subst h6
      exact bnd_if (fT _ _ h1) (trSl_ok ih h3) (trSl_ok ih h5)
    · obtain ⟨q, h1, h2⟩ := Option.bind_eq_some_iff.mp h
      obtain ⟨c1, h3, h4⟩ := Option.map_eq_some_iff.mp h2
      subst h4
      exact bnd_whl g (fT _ _ h1) (trSl_ok ih h3)
    · split at h
      · rename_i z
        obtain ⟨gg, h1, h2⟩ := Option.bind_eq_some_iff.mp h
        split at h2
        · rename_i zs
          obtain ⟨ci, h3, h4⟩ := Option.bind_eq_some_iff.mp h2
          obtain ⟨c2, h5, h6⟩ := Option.map_eq_some_iff.mp h4
          subst h6
          exact bnd_for g (fI _ _ _ h3) (pg h1) (trSl_ok ih h5) (set_it z _) hI (List.all_eq_true.mp zs)
        · cases h2
      · cases h
    · cases h
end
end Cs
/-! Cs16: defs: what the evaluator says of a body holds of a call. -/
namespace Cs
open PySem L2
/-- a def, as the evaluator has it: slots, parameters, the parameters that are stored to, its body -/
structure Fe where
  n : Nat
  np : Nat
  asg : List Nat
  body : CSs
def startD (n : Nat) (ds : List D) : Env := ds ++ List.replicate (n - ds.length) .undef
/-- what the parameters hold at the end -/
def endD (asg : List Nat) : Nat → Nat → Env → List D
  | i, n + 1, d :: ρ => (if i ∈ asg then .undef else d) :: endD asg (i + 1) n ρ
  | _, _, _ => []
def run1 (C : Ctx) (e : Fe) (ds : List D) : R (D × List D) := if ds.length = e.np then match evSs C e.body (startD e.n ds) with
  | .ok (.nx ρ) => .ok (.non, endD e.asg 0 e.np ρ)
  | .ok (.ret d ρ) => .ok (d, endD e.asg 0 e.np ρ)
  | .ok _ => .fail
  | .exc x ρ => .exc x (endD e.asg 0 e.np ρ)
  | .fail => .fail else .fail
open Classical in
noncomputable def whlC : WStep → Env → R Fl := fun step ρ => if h : ∃ n r, loopW step n ρ = r ∧ (match r with | .fail => False | _ => True) then loopW step h.choose ρ else .fail
theorem whlC_some (step : WStep) (ρ : Env) : ∃ n, whlC step ρ = loopW step n ρ := by
  unfold whlC
  split
  · exact ⟨_, rfl⟩
  · exact ⟨0, rfl⟩
def R.good {α : Type} : R α → Prop
  | .fail => False
  | _ => True
theorem loopW_mono {step : WStep} : ∀ {n : Nat} {ρ : Env} (m : Nat), (loopW step n ρ).good → loopW step (n + m) ρ = loopW step n ρ
  | 0, ρ, m, h => h.elim
  | n + 1, ρ, m, h => by
    have e : n + 1 + m = (n + m) + 1 := by omega
    rw [e]
    unfold loopW at h ⊢
    cases hs : step ρ with
    | ok r =>
      rw [hs] at h
      cases r with
      | inl ρ' => exact loopW_mono m h
      | inr f => rfl
    | exc x ρ' => rfl
    | fail => rfl
theorem whlC_eq {step : WStep} {ρ : Env} {n : Nat} {r : R Fl} (h : loopW step n ρ = r) (g : r.good) : whlC step ρ = r := by
  have hx : ∃ n r, loopW step n ρ = r ∧ (match r with | .fail => False | _ => True) := ⟨n, r, h, by cases r <;> exact g⟩
  unfold whlC
  rw [dif_pos hx]
  obtain ⟨r', q1, q2⟩ := hx.choose_spec
  have g1 : (loopW step hx.choose ρ).good := by
    rw [q1]
    cases r' <;> exact q2
  have g2 : (loopW step n ρ).good := by rw [h]; exact g
  have a := loopW_mono n g1
  have b := loopW_mono hx.choose g2
  rw [Nat.add_comm] at b
  rw [← a, b, h]
/-- an entry: a body read, or a promise of its own; ini: a class's __init__ (called one level deeper) -/
abbrev Fns := Str → List D → R (D × List D)
inductive Ent where
  | code (e : Fe)
  | prim (g : Fns → List D → R (D × List D))
  | ini (e : Fe)
section
variable (tab : Str → Option Ent) (kn : Kn)
noncomputable def callN : Nat → Fns
  | 0, _, _ => .fail
  | 1, f, ds => match tab f with
    | some (.code e) => run1 ⟨callN 0, kn, whlC⟩ e ds
    | some (.prim g) => g (callN 0) ds
    | _ => .fail
  | k + 2, f, ds => match tab f with
    | some (.code e) => run1 ⟨callN (k + 1), kn, whlC⟩ e ds
    | some (.prim g) => g (callN (k + 1)) ds
    | some (.ini e) => run1 ⟨callN k, kn, whlC⟩ e ds
    | none => .fail
end
theorem call_code {tab : Str → Option Ent} {kn : Kn} {k : Nat} {f : Str} {e : Fe} (h : tab f = some (.code e)) : callN tab kn (k + 1) f = run1 ⟨callN tab kn k, kn, whlC⟩ e := by
  funext ds
  cases k with
  | zero => rw [callN, h]
  | succ k => rw [callN, h]
theorem call_prim {tab : Str → Option Ent} {kn : Kn} {k : Nat} {f : Str} {g : Fns → List D → R (D × List D)} (h : tab f = some (.prim g)) : callN tab kn (k + 1) f = g (callN tab kn k) := by
  funext ds
  cases k with
  | zero => rw [callN, h]
  | succ k => rw [callN, h]
theorem call_ini {tab : Str → Option Ent} {kn : Kn} {k : Nat} {f : Str} {e : Fe} (h : tab f = some (.ini e)) : callN tab kn (k + 2) f = run1 ⟨callN tab kn k, kn, whlC⟩ e := by
  funext ds
  rw [callN, h]
theorem call_ini1 {tab : Str → Option Ent} {kn : Kn} {f : Str} {e : Fe} (h : tab f = some (.ini e)) : callN tab kn 1 f = fun _ => .fail := by
  funext ds
  rw [callN, h]
section
variable {K : PySem.W.Frag} {mg : Str → Option Value} {H : Hp}
theorem undefs {rs : Roots} : ∀ n, St K mg H rs → St K mg H (rs ++ rts (List.replicate n .undef) (List.replicate n none))
  | 0, h => by rw [List.replicate_zero, List.replicate_zero]; show St K mg H (rs ++ []); rw [List.append_nil]; exact h
  | n + 1, h => by
    have q := (undefs n h).undef .non
    rw [List.replicate_succ, List.replicate_succ]
    exact q.perm List.perm_middle.symm
theorem rts_app : ∀ {ds : List D} {vs : List V} {ρ : Env} {σ : L2.St}, ds.length = vs.length → rts (ds ++ ρ) (vs.map some ++ σ) = ds.zip vs ++ rts ρ σ
  | [], [], _, _, _ => rfl
  | d :: ds, v :: vs, ρ, σ, h => by
    show (d, v) :: rts (ds ++ ρ) (vs.map some ++ σ) = (d, v) :: (ds.zip vs ++ rts ρ σ)
    rw [rts_app (by simpa using h)]
  | [], _ :: _, _, _, h => nomatch h
  | _ :: _, [], _, _, h => nomatch h
theorem wd_app : ∀ {ds : List D} {vs : List V} {n : Nat}, ds.length = vs.length → Wd (ds ++ List.replicate n .undef) (vs.map some ++ List.replicate n none)
  | [], [], 0, _ => trivial
  | [], [], n + 1, _ => ⟨.inl rfl, wd_app (ds := []) (vs := []) (n := n) rfl⟩
  | d :: ds, v :: vs, n, h => ⟨.inr ⟨v, rfl⟩, wd_app (by simpa using h)⟩
  | [], _ :: _, _, h => nomatch h
  | _ :: _, [], _, h => nomatch h
theorem start_ss {ds : List D} {vs : List V} {rs : Roots} {N : List Str} {n : Nat} (hn : n = N.length) (hl : ds.length = vs.length) (h : St K mg H (ds.zip vs ++ rs)) : SS K mg H rs (startD n ds) (start N vs) := by
  subst hn
  unfold startD L2.start
  rw [hl]
  refine ⟨wd_app hl, ?_⟩
  rw [rts_app hl]
  have q := undefs (N.length - vs.length) h
  refine q.perm ?_
  rw [← List.append_assoc]
  exact List.Perm.append_right _ List.perm_append_comm
/-- the parameters' roots, at the end -/
theorem end_roots {asg : List Nat} : ∀ {n i : Nat} {ρ : Env} {σ : L2.St} {vs : List V} {R : Roots}, vs.length = n → n ≤ σ.length → ρ.length = σ.length → (∀ j v, i + j ∉ asg → vs[j]? = some v → σ[j]? = some (some v)) → St K mg H (R ++ rts ρ σ) →
    St K mg H ((endD asg i n ρ).zip vs ++ R) ∧ (endD asg i n ρ).length = n
  | 0, i, ρ, σ, vs, R, hv, hs, hl, hI, h => by
    have e : endD asg i 0 ρ = [] := by cases ρ <;> rfl
    rw [e]
    exact ⟨h.sub (List.sublist_append_left _ _), rfl⟩
  | n + 1, i, [], σ, vs, R, hv, hs, hl, hI, h => by
    rw [List.length_nil] at hl
    omega
  | n + 1, i, d :: ρ, [], vs, R, hv, hs, hl, hI, h => by cases hl
  | n + 1, i, d :: ρ, o :: σ, [], R, hv, hs, hl, hI, h => by cases hv
  | n + 1, i, d :: ρ, o :: σ, v :: vs, R, hv, hs, hl, hI, h => by
    have h : St K mg H (R ++ (d, o.getD .non) :: rts ρ σ) := h
    have hI' : ∀ j w, i + 1 + j ∉ asg → vs[j]? = some w → σ[j]? = some (some w) := fun j w q1 q2 => by
      have := hI (j + 1) w (by rw [show i + (j + 1) = i + 1 + j by omega]; exact q1) (by simpa using q2)
      simpa using this
    have hd : St K mg H (R ++ rts ρ σ) := h.sub ((List.Sublist.refl _).append (List.sublist_cons_self _ _))
    unfold endD
    by_cases ha : i ∈ asg
    · rw [if_pos ha]
      obtain ⟨q1, q2⟩ := end_roots (R := R) (by simpa using hv) (by simpa using hs) (by simpa using hl) hI' hd
      exact ⟨q1.undef v, by rw [List.length_cons, q2]⟩
    · rw [if_neg ha]
      have e := hI 0 v ha rfl
      rw [List.getElem?_cons_zero] at e
      cases e
      have h2 : St K mg H (((d, v) :: R) ++ rts ρ σ) := h.perm List.perm_middle
      obtain ⟨q1, q2⟩ := end_roots (R := (d, v) :: R) (by simpa using hv) (by simpa using hs) (by simpa using hl) hI' h2
      refine ⟨?_, by rw [List.length_cons, q2]⟩
      exact q1.perm List.perm_middle
end
/-- the parameters that are not stored to hold what was handed in -/
def Keep (np : Nat) (asg : List Nat) (vs : List V) : L2.St → Prop := fun σ => np ≤ σ.length ∧ ∀ j v, j ∉ asg → vs[j]? = some v → σ[j]? = some (some v)
theorem keep_cl {T : Tc} {vs : List V} (h : vs.length = T.np) : Cl (Keep T.np T.asg vs) (okSlot T) := fun σ σ' is ⟨k1, k2⟩ ⟨c1, c2⟩ ok => by
  refine ⟨by rw [c1]; exact k1, fun j v q1 q2 => ?_⟩
  have hj : j < vs.length := (List.getElem?_eq_some_iff.mp q2).1
  rw [c2 j fun hi => ?_]
  · exact k2 j v q1 q2
  · have z := ok j hi
    unfold okSlot at z
    rw [Bool.or_eq_true] at z
    rcases z with z | z
    · have z := of_decide_eq_true z
      omega
    · exact q1 (of_decide_eq_true z)
/-- what is known of the module's defs and classes at level k -/
structure Lvs (P : Program) (w : World) (K : PySem.W.Frag) (mg : Str → Option Value) (base : Heap) (fl kl : List Str) (sh ih : List Shp) (kn : Kn) (k : Nat) (fns : Fns) : Prop where
  fn : ∀ f ∈ fl, ∃ (a : Addr) (fd : FuncData) (ps : List Str), mg f = some (.ref a) ∧ PySem.W.keepIn K (.ref a) = true ∧ Binds K fd ps [] ∧ FnOk P w K mg base (L2.CX P w) (k + 1) a fd ps (spF K mg (fns f))
  fld : ∀ c f, (c, f) ∈ kn.al → ∃ CA, mg c = some (.ref CA) ∧ Cls K CA ∧ NoAttr K CA f
  met : ∀ c m, (c, m) ∈ kn.ml → ∃ CA, mg c = some (.ref CA) ∧ Cls K CA ∧ ∃ (a : Addr) (fd : FuncData) (ps : List Str), Meth K CA m a ∧ Binds K fd ps [] ∧ FnOk P w K mg base (L2.CX P w) (k + 1) a fd ps (spF K mg (fns (mkey c m)))
  mak : ∀ c ∈ kl, ∃ CA, mg c = some (.ref CA) ∧ ∃ (a : Addr) (fd : FuncData) (ps : List Str), Mk K CA a ∧ Binds K fd ps [] ∧ FnOk P w K mg base (L2.CX P w) k a fd ps (spF K mg (fns (mkey c "__init__")))
  shp : ∀ s ∈ sh, ∃ (a : Addr) (fd : FuncData) (ps : List Str) (g : List Value → List Value → List Value), mg s.f = some (.ref a) ∧ PySem.W.keepIn K (.ref a) = true ∧ KBn K fd ps s.n s.ks g (fun vs zs => (mrg Cn.v s.pl (vs ++ zs)).getD []) ∧ FnOk P w K mg base (L2.CX P w) (k + 1) a fd ps (spF K mg (fns s.f))
  ihp : ∀ s ∈ ih, ∃ CA, mg s.f = some (.ref CA) ∧ ∃ (a : Addr) (fd : FuncData) (ps : List Str) (g : List Value → List Value → List Value), Mk K CA a ∧ KBn K fd ps (s.n + 1) s.ks g (fun vs zs => (mrg Cn.v (none :: s.pl) (vs ++ zs)).getD []) ∧ FnOk P w K mg base (L2.CX P w) k a fd ps (spF K mg (fns (mkey s.f "__init__")))
section
variable {P : Program} {w : World} {K : PySem.W.Frag} {mg : Str → Option Value} {base : Heap}
theorem run1_ok {T : Tc} {C : Ctx} {f q : Str} {pr : Arguments} {bd : List Stmt} {scp : Scope} {dvs : List V} {kws : List (Str × V)} {a : Addr} {fd : FuncData} {ps : List Str} {e : Fe} {k : Nat} {kd : Nat}
    (F : FunD K f q pr bd scp dvs kws a fd) (S : FnScope T.Γ.N ps scp) (hnp : T.np = ps.length) (hasg : T.asg = e.asg) (hep : e.np = ps.length) (hen : e.n = T.Γ.N.length) (htr : trSl (trS T kd scp) bd = some e.body)
    (hcons : ∀ x ∈ T.cons, ∃ d, C.kn.cons x = some d) (hcon : ∀ x d, C.kn.cons x = some d → ∃ u v, mg x = some u ∧ RelV v u ∧ ∀ Hf H, Rp K mg Hf H d v []) (hw : C.whl = whlC) (hbl : ∀ x ∈ T.Γ.bl, mg x = none)
    (hf : Lvs P w K mg base T.Γ.fl T.Γ.kl T.Γ.sh T.Γ.ih C.kn k C.fns) : FnOk P w K mg base (L2.CX P w) (k + 2) a fd ps (spF K mg (run1 C e)) := by
  refine F.ok S (fun vs H Q E h => ?_) fun cdv A outer s H vs Q E hr hsp => ?_
  · obtain ⟨ds, rs, hl, _, h⟩ := h
    unfold run1 at h
    split at h
    · rename_i z
      rw [← hl, z, hep]
    · exact h.elim
  · obtain ⟨ds, rs, hl, hst, h⟩ := hsp
    unfold run1 at h
    split at h
    case isFalse => exact h.elim
    rename_i z
    have hvl : vs.length = T.np := by rw [← hl, z, hep, hnp]
    have hpl : ps.length ≤ T.Γ.N.length := by have := congrArg List.length S.pre; rw [List.length_take] at this; omega
    let X := cxOf (L2.CX P w) P w K mg base T.Γ.N q scp a cdv A outer s H E
    have g : Gd T.Γ X C (fun cls d _ H => E cls d H) := {
      N := rfl
      nd := S.nd
      kind := S.kind
      calm := rfl
      tk := takes_of rfl rfl rfl rfl
      pass := passes_of rfl
      units := hr.units
      fns := fun g hg => by
        obtain ⟨a', fd', ps', q1, q2, q3, q4⟩ := hf.fn g hg
        exact ⟨k + 1, a', fd', ps', q1, q2, q3, hr, q4⟩
      fld := hf.fld
      met := fun c m hc => by
        obtain ⟨CA, q1, q2, a', fd', ps', q3, q4, q5⟩ := hf.met c m hc
        exact ⟨CA, q1, q2, k + 1, a', fd', ps', q3, q4, hr, q5⟩
      mak := fun c hc => by
        obtain ⟨CA, q1, a', fd', ps', q2, q3, q4⟩ := hf.mak c hc
        exact ⟨CA, q1, k, a', fd', ps', q2, q3, hr, q4⟩
      shp := fun s hs => by
        obtain ⟨a', fd', ps', gg, q1, q2, q3, q4⟩ := hf.shp s hs
        exact ⟨k + 1, a', fd', ps', gg, q1, q2, q3, hr, q4⟩
      ihp := fun s hs => by
        obtain ⟨CA, q1, a', fd', ps', gg, q2, q3, q4⟩ := hf.ihp s hs
        exact ⟨CA, q1, k, a', fd', ps', gg, q2, q3, hr, q4⟩
      blt := hbl
      con := hcon
      whl := fun step ρ => by rw [hw]; exact whlC_some step ρ }
    have lk : LkOk X (kindS scp) := fun x => ⟨fun q => q, fun q => ⟨q, rfl⟩⟩
    have cl := keep_cl (T := T) hvl
    refine ⟨_, trSl_ok (trS_ok hcons g rfl lk cl kd) htr, ?_⟩
    refine ⟨rs, startD e.n ds, ?_, start_ss hen hl hst, ?_⟩
    · refine ⟨?_, fun j v q1 q2 => ?_⟩
      · unfold L2.start
        rw [List.length_append, List.length_map, List.length_replicate, hnp]
        omega
      · unfold L2.start
        rw [List.getElem?_append_left (by rw [List.length_map]; exact (List.getElem?_eq_some_iff.mp q2).1), List.getElem?_map, q2]; rfl
    · have fin : ∀ {R : Roots} {ρ' : Env} {σ' : L2.St} {H' : Hp}, Keep T.np T.asg vs σ' → SS K mg H' R ρ' σ' → St K mg H' ((endD e.asg 0 e.np ρ').zip vs ++ R) := fun {R ρ' σ' H'} k s => by
        rw [← hasg]
        exact (end_roots (by rw [hvl, hnp, hep]) (by rw [hep, ← hnp]; exact k.1) s.len (fun j v q1 q2 => k.2 j v (by rw [Nat.zero_add] at q1; exact q1) q2) s.st).1
      cases hev : evSs C e.body (startD e.n ds) with
      | ok fl =>
        rw [hev] at h
        cases fl with
        | nx ρ' => exact fun σ' H' i' s' => h .non H' (fin i' s').non
        | ret d ρ' => exact fun v σ' H' i' s' => h v H' ((fin i' s').perm List.perm_middle)
        | bk ρ' => exact h.elim
        | ct ρ' => exact h.elim
      | exc x ρ' =>
        rw [hev] at h
        refine fun σ' i' cls d H' ws xa s' => h cls d H' ws xa ?_
        have q := fin i' s'
        refine q.perm ?_
        rw [← List.append_assoc, ← List.append_assoc]
        exact List.Perm.append_right _ List.perm_append_comm
      | fail =>
        rw [hev] at h
        exact h.elim
end
end Cs
/-! Cs17: a table of defs, and a law's end. -/
namespace Cs
open PySem L2
/-- a row of the table: its key, the def as the text has it; its slots, parameters, which of them are stored to; its body read; a class's __init__ or not -/
structure Row where
  key : Str
  d : He.DefD
  N : List Str
  ps : List Str
  asg : List Nat
  body : CSs
  ini : Bool := false
def Row.fe (r : Row) : Fe := ⟨r.N.length, r.ps.length, r.asg, r.body⟩
abbrev Prims := List (Str × (Fns → List D → R (D × List D)))
def tabOf (rows : List Row) (prims : Prims) : Str → Option Ent := fun f => match rows.find? (fun r => decide (r.key = f)) with
  | some r => some (if r.ini then .ini r.fe else .code r.fe)
  | none => (prims.lookup f).map .prim
/-- the names: of defs, of built-ins, of classes to be made, of constants -/
structure Nms where
  fl : List Str
  bl : List Str
  kl : List Str
  cn : List Str
  sh : List Shp := []
  ih : List Shp := []
def Row.tc (n : Nms) (r : Row) : Tc := ⟨⟨r.N, n.fl, n.bl, n.kl, n.sh, n.ih⟩, r.ps.length, r.asg, n.cn⟩
/-- what a row must keep -/
structure RowOk (n : Nms) (kd : Nat) (r : Row) : Prop where
  sc : FnScope r.N r.ps r.d.scope
  tr : trSl (trS (r.tc n) kd r.d.scope) r.d.body = some r.body
def scB (N P : List Str) (sc : Scope) : Bool :=
  decide (sc.kind = .function) && (!sc.isCoroutine && (!sc.isGenerator && (decide N.Nodup && (decide (N.take P.length = P) && (P.all (fun x => decide (sc.names.lookup x = some .local) || decide (sc.names.lookup x = some .cell)) && sc.names.all fun y => !decide (y.2 = .free))))))
theorem sc_of {N P : List Str} {sc : Scope} (h : scB N P sc = true) : FnScope N P sc := by
  unfold scB at h
  simp only [Bool.and_eq_true, Bool.not_eq_true', decide_eq_true_eq, List.all_eq_true, Bool.or_eq_true, decide_eq_false_iff_not] at h
  obtain ⟨h1, h2, h3, h4, h5, h6, h7⟩ := h
  exact ⟨h1, h2, h3, h4, h5, h6, h7⟩
section
variable {P : Program} {w : World} {K : PySem.W.Frag} {mg : Str → Option Value} {base : Heap} {h : Heap}
/-- a def's promise at every level -/
abbrev Kept (P : Program) (w : World) (K : PySem.W.Frag) (mg : Str → Option Value) (base : Heap) (n : Nms) (kn : Kn) (tab : Str → Option Ent) (o : Nat) (a : Addr) (fd : FuncData) (ps : List Str) (f : Str) : Prop :=
  ∀ k, Lvs P w K mg base n.fl n.kl n.sh n.ih kn k (callN tab kn k) → FnOk P w K mg base (L2.CX P w) (k + 2) a fd ps (spF K mg (callN tab kn (k + o) f))
/-- what the head tells, and what the rows keep -/
structure Said (P : Program) (w : World) (K : PySem.W.Frag) (mg : Str → Option Value) (base : Heap) (n : Nms) (kn : Kn) (tab : Str → Option Ent) : Prop where
  fn : ∀ f ∈ n.fl, ∃ (a : Addr) (fd : FuncData) (ps : List Str), mg f = some (.ref a) ∧ PySem.W.keepIn K (.ref a) = true ∧ Binds K fd ps [] ∧ Kept P w K mg base n kn tab 1 a fd ps f
  fld : ∀ c f, (c, f) ∈ kn.al → ∃ CA, mg c = some (.ref CA) ∧ Cls K CA ∧ NoAttr K CA f
  met : ∀ c m, (c, m) ∈ kn.ml → ∃ CA, mg c = some (.ref CA) ∧ Cls K CA ∧ ∃ (a : Addr) (fd : FuncData) (ps : List Str), Meth K CA m a ∧ Binds K fd ps [] ∧ Kept P w K mg base n kn tab 1 a fd ps (mkey c m)
  mak : ∀ c ∈ n.kl, ∃ CA, mg c = some (.ref CA) ∧ (∃ e, tab (mkey c "__init__") = some (.ini e)) ∧ ∃ (a : Addr) (fd : FuncData) (ps : List Str), Mk K CA a ∧ Binds K fd ps [] ∧ Kept P w K mg base n kn tab 2 a fd ps (mkey c "__init__")
  shp : ∀ s ∈ n.sh, ∃ (a : Addr) (fd : FuncData) (ps : List Str) (g : List Value → List Value → List Value), mg s.f = some (.ref a) ∧ PySem.W.keepIn K (.ref a) = true ∧ KBn K fd ps s.n s.ks g (fun vs zs => (mrg Cn.v s.pl (vs ++ zs)).getD []) ∧ Kept P w K mg base n kn tab 1 a fd ps s.f
  ihp : ∀ s ∈ n.ih, ∃ CA, mg s.f = some (.ref CA) ∧ (∃ e, tab (mkey s.f "__init__") = some (.ini e)) ∧ ∃ (a : Addr) (fd : FuncData) (ps : List Str) (g : List Value → List Value → List Value), Mk K CA a ∧ KBn K fd ps (s.n + 1) s.ks g (fun vs zs => (mrg Cn.v (none :: s.pl) (vs ++ zs)).getD []) ∧ Kept P w K mg base n kn tab 2 a fd ps (mkey s.f "__init__")
theorem no_fn {k : Nat} {a : Addr} {fd : FuncData} {ps : List Str} {g : List D → R (D × List D)} (h : ∀ ds, g ds = .fail) : FnOk P w K mg base (L2.CX P w) k a fd ps (spF K mg g) := by
  have no : ∀ vs H Q E, spF K mg g vs H Q E → False := fun vs H Q E ⟨ds, rs, _, _, z⟩ => by
    rw [h] at z
    exact z
  exact ⟨fun vs H Q E z => (no vs H Q E z).elim, fun A outer s H args us vs Q E _ _ _ _ z => (no vs H Q E z).elim⟩
theorem Said.lvs {n : Nms} {kn : Kn} {tab : Str → Option Ent} (s : Said P w K mg base n kn tab) : ∀ k, Lvs P w K mg base n.fl n.kl n.sh n.ih kn k (callN tab kn k)
  | 0 => ⟨fun f hf => by
      obtain ⟨a, fd, ps, h1, h2, h3, _⟩ := s.fn f hf
      exact ⟨a, fd, ps, h1, h2, h3, no_fn fun ds => by rw [callN]⟩, s.fld, fun c m hc => by
      obtain ⟨CA, h1, h2, a, fd, ps, h3, h4, _⟩ := s.met c m hc
      exact ⟨CA, h1, h2, a, fd, ps, h3, h4, no_fn fun ds => by rw [callN]⟩, fun c hc => by
      obtain ⟨CA, h1, _, a, fd, ps, h3, h4, _⟩ := s.mak c hc
      exact ⟨CA, h1, a, fd, ps, h3, h4, no_fn fun ds => by rw [callN]⟩, fun p hp => by
      obtain ⟨a, fd, ps, g, h1, h2, h3, _⟩ := s.shp p hp
      exact ⟨a, fd, ps, g, h1, h2, h3, no_fn fun ds => by rw [callN]⟩, fun p hp => by
      obtain ⟨CA, h1, _, a, fd, ps, g, h3, h4, _⟩ := s.ihp p hp
      exact ⟨CA, h1, a, fd, ps, g, h3, h4, no_fn fun ds => by rw [callN]⟩⟩
  | 1 => ⟨fun f hf => by
      obtain ⟨a, fd, ps, h1, h2, h3, h4⟩ := s.fn f hf
      exact ⟨a, fd, ps, h1, h2, h3, h4 0 (s.lvs 0)⟩, s.fld, fun c m hc => by
      obtain ⟨CA, h1, h2, a, fd, ps, h3, h4, h5⟩ := s.met c m hc
      exact ⟨CA, h1, h2, a, fd, ps, h3, h4, h5 0 (s.lvs 0)⟩, fun c hc => by
      obtain ⟨CA, h1, ⟨e, he⟩, a, fd, ps, h3, h4, _⟩ := s.mak c hc
      exact ⟨CA, h1, a, fd, ps, h3, h4, no_fn fun ds => by rw [call_ini1 he]⟩, fun p hp => by
      obtain ⟨a, fd, ps, g, h1, h2, h3, h4⟩ := s.shp p hp
      exact ⟨a, fd, ps, g, h1, h2, h3, h4 0 (s.lvs 0)⟩, fun p hp => by
      obtain ⟨CA, h1, ⟨e, he⟩, a, fd, ps, g, h3, h4, _⟩ := s.ihp p hp
      exact ⟨CA, h1, a, fd, ps, g, h3, h4, no_fn fun ds => by rw [call_ini1 he]⟩⟩
  | k + 2 => ⟨fun f hf => by
      obtain ⟨a, fd, ps, h1, h2, h3, h4⟩ := s.fn f hf
      exact ⟨a, fd, ps, h1, h2, h3, h4 (k + 1) (s.lvs (k + 1))⟩, s.fld, fun c m hc => by
      obtain ⟨CA, h1, h2, a, fd, ps, h3, h4, h5⟩ := s.met c m hc
      exact ⟨CA, h1, h2, a, fd, ps, h3, h4, h5 (k + 1) (s.lvs (k + 1))⟩, fun c hc => by
      obtain ⟨CA, h1, _, a, fd, ps, h3, h4, h5⟩ := s.mak c hc
      exact ⟨CA, h1, a, fd, ps, h3, h4, h5 k (s.lvs k)⟩, fun p hp => by
      obtain ⟨a, fd, ps, g, h1, h2, h3, h4⟩ := s.shp p hp
      exact ⟨a, fd, ps, g, h1, h2, h3, h4 (k + 1) (s.lvs (k + 1))⟩, fun p hp => by
      obtain ⟨CA, h1, _, a, fd, ps, g, h3, h4, h5⟩ := s.ihp p hp
      exact ⟨CA, h1, a, fd, ps, g, h3, h4, h5 k (s.lvs k)⟩⟩
/-- what a row leans on -/
structure Lean0 (K : PySem.W.Frag) (mg : Str → Option Value) (n : Nms) (kn : Kn) : Prop where
  cn : ∀ x ∈ n.cn, ∃ d, kn.cons x = some d
  con : ∀ x d, kn.cons x = some d → ∃ u v, mg x = some u ∧ RelV v u ∧ ∀ Hf H, Rp K mg Hf H d v []
  bl : ∀ x ∈ n.bl, mg x = none
theorem RowOk.kept {n : Nms} {kd : Nat} {kn : Kn} {tab : Str → Option Ent} {r : Row} {a : Addr} {fd : FuncData} (ok : RowOk n kd r) (l : Lean0 K mg n kn) (F : FunD K r.d.name r.d.qual r.d.params r.d.body r.d.scope (r.d.dvs K) (r.d.kws K) a fd) (ht : tab r.key = some (.code r.fe)) :
    Kept P w K mg base n kn tab 1 a fd r.ps r.key := fun k ih => by
  rw [call_code ht]
  exact run1_ok (T := r.tc n) (e := r.fe) (C := ⟨callN tab kn k, kn, whlC⟩) F ok.sc rfl rfl rfl rfl ok.tr l.cn l.con rfl l.bl ih
theorem RowOk.keptI {n : Nms} {kd : Nat} {kn : Kn} {tab : Str → Option Ent} {r : Row} {a : Addr} {fd : FuncData} (ok : RowOk n kd r) (l : Lean0 K mg n kn) (F : FunD K r.d.name r.d.qual r.d.params r.d.body r.d.scope (r.d.dvs K) (r.d.kws K) a fd) (ht : tab r.key = some (.ini r.fe)) :
    Kept P w K mg base n kn tab 2 a fd r.ps r.key := fun k ih => by
  rw [call_ini ht]
  exact run1_ok (T := r.tc n) (e := r.fe) (C := ⟨callN tab kn k, kn, whlC⟩) F ok.sc rfl rfl rfl rfl ok.tr l.cn l.con rfl l.bl ih
theorem fun_of {fa : List He.Fa} {fn : List He.DefD} {d : He.DefD} (c : He.SaysD fa fn K) (hd : d ∈ fn) : ∃ fd, FunD K d.name d.qual d.params d.body d.scope (d.dvs K) (d.kws K) (He.fAd K d.at_) fd := by
  obtain ⟨i, hi, e⟩ := List.mem_iff_getElem.mp hd
  exact c.def_ i (d := d) (by rw [List.getElem?_eq_getElem hi, e])
theorem dvs0 {d : He.DefD} (h : d.dfl = []) : d.dvs K = [] := by unfold He.DefD.dvs; rw [h]; rfl
/-- a def without defaults, its values by place -/
theorem Row.bindsN {r : Row} {a : Addr} {fd : FuncData} (F : FunD K r.d.name r.d.qual r.d.params r.d.body r.d.scope (r.d.dvs K) (r.d.kws K) a fd) (h : r.d.dfl = [])
    (b : ∀ (kV doc pm : Value) (an : Option Addr) (cdv ct : Value) (us : List Value), us.length = r.ps.length → bindArgs (PySem.W.fnOf r.d.name r.d.qual r.d.params r.d.body r.d.scope .none kV doc pm an cdv ct) ⟨us, []⟩ = pure (r.ps.zip us)) : Binds K fd r.ps [] := by
  rw [dvs0 h] at F
  exact F.bindsN b
/-- a row's values, all by place -/
def Byp (K : PySem.W.Frag) (r : Row) : Prop := ∀ (a : Addr) (fd : FuncData), FunD K r.d.name r.d.qual r.d.params r.d.body r.d.scope (r.d.dvs K) (r.d.kws K) a fd → Binds K fd r.ps []
/-- a row's values by a shape (o: the values ahead of it, an instance's own) -/
def Bys (K : PySem.W.Frag) (r : Row) (o : Nat) (s : Shp) : Prop := ∀ (a : Addr) (fd : FuncData), FunD K r.d.name r.d.qual r.d.params r.d.body r.d.scope (r.d.dvs K) (r.d.kws K) a fd →
  ∃ g : List Value → List Value → List Value, KBn K fd r.ps (s.n + o) s.ks g (fun vs zs => (mrg Cn.v (List.replicate o none ++ s.pl) (vs ++ zs)).getD [])
theorem fact_of {fa : List He.Fa} {fn : List He.DefD} {f : He.Fa} (c : He.SaysD fa fn K) (hf : f ∈ fa) : f.ok K = true := by
  obtain ⟨j, hj, e2⟩ := List.mem_iff_getElem.mp hf
  exact c.fact j (f := f) (by rw [List.getElem?_eq_getElem hj, e2])
theorem free_of {fa : List He.Fa} {fn : List He.DefD} {x : Str} (c : He.SaysD fa fn K) (X : K.In h) (G : h.Ns mainGlobals mg) (hf : He.Fa.free x ∈ fa) : mg x = none := He.free_ok X G (fact_of c hf)
theorem glo_of {fa : List He.Fa} {fn : List He.DefD} {x : Str} (c : He.SaysD fa fn K) (X : K.In h) (G : h.Ns mainGlobals mg) (hf : He.Fa.glo x ∈ fa) : mg x = some (.ref (He.ga K x)) := He.glo_ok X G (fact_of c hf)
/-- all that is told of a program: by rows, by names -/
structure Tells (K : PySem.W.Frag) (mg : Str → Option Value) (fa : List He.Fa) (fn : List He.DefD) (n : Nms) (kn : Kn) (rows : List Row) (prims : Prims) (kd : Nat) : Prop where
  row : ∀ r ∈ rows, RowOk n kd r
  fls : ∀ f ∈ n.fl, (∃ r ∈ rows, r.key = f ∧ r.d.at_ = (f, none) ∧ r.d ∈ fn ∧ Byp K r ∧ tabOf rows prims f = some (.code r.fe)) ∨ f ∈ prims.map (·.1)
  glo : ∀ f ∈ n.fl, He.Fa.glo f ∈ fa
  alf : ∀ p ∈ kn.al, He.Fa.glo p.1 ∈ fa ∧ He.Fa.cls p.1 ∈ fa ∧ He.Fa.noat p.1 p.2 ∈ fa
  mlf : ∀ p ∈ kn.ml, He.Fa.glo p.1 ∈ fa ∧ He.Fa.cls p.1 ∈ fa ∧ He.Fa.meth p.1 p.2 ∈ fa ∧ ∃ r ∈ rows, r.key = mkey p.1 p.2 ∧ r.d.at_ = (p.1, some p.2) ∧ r.d ∈ fn ∧ Byp K r ∧ tabOf rows prims (mkey p.1 p.2) = some (.code r.fe)
  klf : ∀ c ∈ n.kl, He.Fa.glo c ∈ fa ∧ He.Fa.mkr c ∈ fa ∧ ∃ r ∈ rows, r.key = mkey c "__init__" ∧ r.d.at_ = (c, some ("__init__" : Str)) ∧ r.d ∈ fn ∧ Byp K r ∧ tabOf rows prims (mkey c "__init__") = some (.ini r.fe)
  shf : ∀ s ∈ n.sh, He.Fa.glo s.f ∈ fa ∧ ∃ r ∈ rows, r.key = s.f ∧ r.d.at_ = (s.f, none) ∧ r.d ∈ fn ∧ Bys K r 0 s ∧ tabOf rows prims s.f = some (.code r.fe)
  ihf : ∀ s ∈ n.ih, He.Fa.glo s.f ∈ fa ∧ He.Fa.mkr s.f ∈ fa ∧ ∃ r ∈ rows, r.key = mkey s.f "__init__" ∧ r.d.at_ = (s.f, some ("__init__" : Str)) ∧ r.d ∈ fn ∧ Bys K r 1 s ∧ tabOf rows prims (mkey s.f "__init__") = some (.ini r.fe)
  lean : Lean0 K mg n kn
theorem Tells.said {fa : List He.Fa} {fn : List He.DefD} {n : Nms} {kn : Kn} {rows : List Row} {prims : Prims} {kd : Nat} (t : Tells K mg fa fn n kn rows prims kd) (c : He.SaysD fa fn K) (X : K.In h) (G : h.Ns mainGlobals mg)
    (hpr : ∀ f ∈ prims.map (·.1), f ∈ n.fl → ∃ (a : Addr) (fd : FuncData) (ps : List Str), mg f = some (.ref a) ∧ PySem.W.keepIn K (.ref a) = true ∧ Binds K fd ps [] ∧ Kept P w K mg base n kn (tabOf rows prims) 1 a fd ps f) :
    Said P w K mg base n kn (tabOf rows prims) where
  fn := fun f hf => by
    rcases t.fls f hf with ⟨r, hr, hk, ha, hd, hb, ht⟩ | hp
    · have ok := t.row r hr
      obtain ⟨fd, F⟩ := fun_of c hd
      rw [ha] at F
      subst hk
      exact ⟨_, fd, r.ps, glo_of c X G (t.glo _ hf), F.kp, hb _ _ F, ok.kept t.lean F ht⟩
    · exact hpr f hp hf
  fld := fun cn f hf => by
    obtain ⟨h1, h2, h3⟩ := t.alf _ hf
    exact ⟨_, glo_of c X G h1, He.cls_ok (fact_of c h2), He.noat_ok (fact_of c h3)⟩
  met := fun cn m hm => by
    obtain ⟨h1, h2, h3, r, hr, hk, ha, hd, hb, ht⟩ := t.mlf _ hm
    have ok := t.row r hr
    obtain ⟨fd, F⟩ := fun_of c hd
    rw [ha] at F
    have hk : r.key = mkey cn m := hk
    rw [← hk] at ht ⊢
    exact ⟨_, glo_of c X G h1, He.cls_ok (fact_of c h2), _, fd, r.ps, He.meth_ok (fact_of c h3), hb _ _ F, ok.kept t.lean F ht⟩
  mak := fun cn hc => by
    obtain ⟨h1, h2, r, hr, hk, ha, hd, hb, ht⟩ := t.klf _ hc
    have ok := t.row r hr
    obtain ⟨fd, F⟩ := fun_of c hd
    rw [ha] at F
    have hk : r.key = mkey cn "__init__" := hk
    rw [← hk] at ht ⊢
    exact ⟨_, glo_of c X G h1, ⟨_, ht⟩, _, fd, r.ps, He.mkr_ok (fact_of c h2), hb _ _ F, ok.keptI t.lean F ht⟩
  shp := fun s hs => by
    obtain ⟨h1, r, hr, hk, ha, hd, hb, ht⟩ := t.shf _ hs
    have ok := t.row r hr
    obtain ⟨fd, F⟩ := fun_of c hd
    rw [ha] at F
    obtain ⟨g, hg⟩ := hb _ _ F
    have q := glo_of c X G h1
    rw [← hk] at ht
    have kp := ok.kept (P := P) (w := w) (base := base) t.lean F ht
    rw [hk] at kp
    exact ⟨_, fd, r.ps, g, q, F.kp, hg, kp⟩
  ihp := fun s hs => by
    obtain ⟨h1, h2, r, hr, hk, ha, hd, hb, ht⟩ := t.ihf _ hs
    have ok := t.row r hr
    obtain ⟨fd, F⟩ := fun_of c hd
    rw [ha] at F
    obtain ⟨g, hg⟩ := hb _ _ F
    have hk : r.key = mkey s.f "__init__" := hk
    rw [← hk] at ht ⊢
    exact ⟨_, glo_of c X G h1, ⟨_, ht⟩, _, fd, r.ps, g, He.mkr_ok (fact_of c h2), hg, ok.keptI t.lean F ht⟩
end
/-! ### a law's end -/
theorem law_sp {K : PySem.W.Frag} {mg : Str → Option Value} {g : List D → R (D × List D)} {H : Hp} {a : Addr} {ns : List Int} (hS : SqL K H a (ns.map V.int)) (h : ∃ p, g [.lkd (ns.map .int)] = .ok (.bl true, p)) : spF K mg g [.ref a] H (fun v _ => v = .bl true) fun _ _ _ => False := by
  obtain ⟨p, e⟩ := h
  have hz : ∀ (H1 : Hp) (ms : List Int), Rps K mg H H1 (ms.map D.int) (ms.map V.int) [] := fun H1 ms => by
    induction ms with
    | nil => exact ⟨rfl, rfl⟩
    | cons m ms ih => exact ⟨.int m, _, [], [], rfl, rfl, ⟨rfl, rfl⟩, ih⟩
  refine ⟨[.lkd (ns.map .int)], [], rfl, ⟨H, [], fun _ _ e => e, ⟨[], [], rfl, ⟨rfl, a, _, rfl, hS, hz H ns⟩, rfl⟩, List.nodup_nil, fun _ q => nomatch q⟩, ?_⟩
  rw [e]
  rintro v H' ⟨Hf, fp, s⟩
  obtain ⟨f1, r1⟩ := s.at (List.mem_cons_self)
  exact r1.1
theorem walk_x {l : PySem.W.OpenLaw} {n k : Nat} {q : Program} {loose : List Str} {XP : (Str → Option Value) → Heap → Prop} {YP : World → Heap → Prop} {d : DefRec} {x : Str} (hm : l.most = some n) (hs : n ≤ sizeLine) (hd0 : d.params.defaults = []) (hr : Room k callerA)
    (F : ∀ (w : World) (mg : Str → Option Value) (fa : Addr) (h : Heap), YP w h → h.Ns mainGlobals mg → mg d.name = some (.ref fa) → ∃ (K : PySem.W.Frag) (fd : FuncData) (g : List D → R (D × List D)), K.In h ∧ (∀ (s : Shared) (u : Value), BindsTo s fd ⟨[u], []⟩ [(x, u)]) ∧
      (∀ ns : List Int, ns.length ≤ n → ∃ p, g [.lkd (ns.map .int)] = .ok (.bl true, p)) ∧ ∀ base : Heap, K.In base → base.Ns mainGlobals mg → FnOk l.prog w K mg base (L2.CX l.prog w) k fa fd [x] (spF K mg g)) :
    PySem.W.WalkO q loose XP YP l.row.toRowW d [] (fun f vs => PySem.call f vs) :=
  Att.attach_call hm hd0 fun w s₀ s₁ mg mb fa o pm cd doc a vs ns G Y ho hd hcd hmg hobj hints hlen hg => by
    obtain ⟨K, fd, g, KX, hb, hsp, hF⟩ := F w mg fa _ Y G.T.g hmg
    refine law_call KX G.T.g G.T.b G.T.builtins G.T.nolimit hg hobj hints (Nat.le_trans hlen hs) hr hF hb (fun H _ hS => law_sp hS (hsp ns hlen)) fun H e s' z => ?_
    obtain ⟨_, _, _, _, _, _, _, _, _, _, _, _, z⟩ := z
    exact z
end Cs
/-! Cs17b: a row's values by place, by keywords, by defaults. -/
namespace Cs
open PySem L2
/-- the written values and the defaults, by the plan -/
def fillG {α : Type} : Plan → List α → List α → Option (List α)
  | [], [], [] => some []
  | none :: p, ds, a :: as => (fillG p ds as).map (a :: ·)
  | some _ :: p, d :: ds, as => (fillG p ds as).map (d :: ·)
  | _, _, _ => none
def cns : Plan → List Cn
  | [] => []
  | none :: p => cns p
  | some k :: p => k :: cns p
theorem cns_rep : ∀ (o : Nat) (p : Plan), cns (List.replicate o none ++ p) = cns p
  | 0, _ => rfl
  | o + 1, p => cns_rep o p
theorem fillG_mrg {α : Type} (c : Cn → α) : ∀ (p : Plan) (as : List α), fillG p ((cns p).map c) as = mrg c p as
  | [], [] => rfl
  | [], _ :: _ => rfl
  | none :: p, [] => by
    show fillG (none :: p) ((cns p).map c) [] = none
    cases (cns p).map c <;> rfl
  | none :: p, a :: as => by
    show fillG (none :: p) ((cns p).map c) (a :: as) = (mrg c p as).map (a :: ·)
    rw [← fillG_mrg c p as]
    cases (cns p).map c <;> rfl
  | some k :: p, as => by
    show fillG (some k :: p) (c k :: (cns p).map c) as = (mrg c p as).map (c k :: ·)
    rw [← fillG_mrg c p as]
    cases as <;> rfl
def OV : Option (List V) → Option (List Value) → Prop
  | none, none => True
  | some a, some b => Vals a b
  | _, _ => False
theorem OV.getD {a : Option (List V)} {b : Option (List Value)} (h : OV a b) : Vals (a.getD []) (b.getD []) := by
  match a, b, h with
  | none, none, _ => exact .nil
  | some a, some b, h => exact h
theorem OV.cons {a : Option (List V)} {b : Option (List Value)} {v : V} {u : Value} (r : RelV v u) (h : OV a b) : OV (a.map (v :: ·)) (b.map (u :: ·)) := by
  match a, b, h with
  | none, none, _ => trivial
  | some a, some b, h => exact Paired.cons r h
theorem fillG_rel : ∀ {p : Plan} {ds as : List V} {es bs : List Value}, Vals ds es → Vals as bs → OV (fillG p ds as) (fillG p es bs)
  | [], _, _, _, _, .nil, .nil => Paired.nil
  | [], _, _, _, _, .nil, .cons _ _ => trivial
  | [], _, _, _, _, .cons _ _, .nil => trivial
  | [], _, _, _, _, .cons _ _, .cons _ _ => trivial
  | none :: p, _, _, _, _, .nil, .nil => trivial
  | none :: p, _, _, _, _, .cons _ _, .nil => trivial
  | none :: p, _, _, _, _, .nil, .cons r t => OV.cons r (fillG_rel (p := p) .nil t)
  | none :: p, _, _, _, _, .cons q s, .cons r t => OV.cons r (fillG_rel (p := p) (.cons q s) t)
  | some _ :: p, _, _, _, _, .nil, .nil => trivial
  | some _ :: p, _, _, _, _, .nil, .cons _ _ => trivial
  | some _ :: p, _, _, _, _, .cons q s, .nil => OV.cons q (fillG_rel (p := p) s .nil)
  | some _ :: p, _, _, _, _, .cons q s, .cons r t => OV.cons q (fillG_rel (p := p) s (.cons r t))
def sel {α : Type} : List Bool → List α → List α
  | true :: k, x :: xs => x :: sel k xs
  | false :: k, _ :: xs => sel k xs
  | _, _ => []
theorem sel_rel : ∀ {k : List Bool} {ds : List V} {es : List Value}, Vals ds es → Vals (sel k ds) (sel k es)
  | [], _, _, .nil => .nil
  | [], _, _, .cons _ _ => .nil
  | true :: k, _, _, .nil => .nil
  | false :: k, _, _, .nil => .nil
  | true :: k, _, _, .cons r t => .cons r (sel_rel t)
  | false :: k, _, _, .cons r t => sel_rel (k := k) t
section
variable {K : PySem.W.Frag}
theorem byp_of {r : Row} (h : r.d.dfl = []) (b : ∀ (kV doc pm : Value) (an : Option Addr) (cdv ct : Value) (us : List Value), us.length = r.ps.length → bindArgs (PySem.W.fnOf r.d.name r.d.qual r.d.params r.d.body r.d.scope .none kV doc pm an cdv ct) ⟨us, []⟩ = pure (r.ps.zip us)) : Byp K r :=
  fun _ _ F => Row.bindsN F h b
/-- defaults by place -/
theorem bysD {r : Row} {o : Nat} {s : Shp} (kp : List Bool) (hd : r.d.dfl ≠ []) (hs : sel kp (r.d.dvs K) = (cns s.pl).map Cn.v)
    (h : ∀ (T : Addr) (kV doc pm : Value) (an : Option Addr) (cdv ct : Value) (us its ws : List Value), us.length = s.n + o → its.length = r.d.dfl.length → ws.length = s.ks.length →
      ∃ k, bindArgs (PySem.W.fnOf r.d.name r.d.qual r.d.params r.d.body r.d.scope (.ref T) kV doc pm an cdv ct) ⟨us, s.ks.zip ws⟩ = seqItems? (.ref T) >>= k ∧
        k (some its.toArray) = pure (r.ps.zip ((fillG (List.replicate o none ++ s.pl) (sel kp its) (us ++ ws)).getD []))) : Bys K r o s := fun a fd F => by
  have hd' : r.d.dvs K ≠ [] := by
    unfold He.DefD.dvs
    intro e
    exact hd (List.map_eq_nil_iff.mp e)
  obtain ⟨its, q⟩ := F.kbindsD (ps := r.ps) (s.n + o) s.ks (fun vs ds zs => (fillG (List.replicate o none ++ s.pl) (sel kp ds) (vs ++ zs)).getD []) hd' (fun a b c => (fillG_rel (sel_rel b) (Vals.append a c)).getD)
    fun T kV doc pm an cdv ct us its ws l1 l2 l3 => h T kV doc pm an cdv ct us its ws l1 (by rw [l2]; unfold He.DefD.dvs; rw [List.length_map]) l3
  refine ⟨fun us ws => (fillG (List.replicate o none ++ s.pl) (sel kp its) (us ++ ws)).getD [], ?_⟩
  have e : (fun (vs zs : List V) => (fillG (List.replicate o none ++ s.pl) (sel kp (r.d.dvs K)) (vs ++ zs)).getD []) = fun vs zs => (mrg Cn.v (List.replicate o none ++ s.pl) (vs ++ zs)).getD [] := by
    funext vs zs
    rw [hs, ← fillG_mrg, cns_rep]
  rw [← e]
  exact q
/-- defaults by name alone -/
theorem bysK {r : Row} {o : Nat} {s : Shp} (ms : List (Str × V)) (hd : r.d.dfl = []) (hk : r.d.kws K ≠ []) (hm : ∀ q ∈ ms, q ∈ r.d.kws K) (hs : ms.map (·.2) = (cns s.pl).map Cn.v)
    (h : ∀ (D : Addr) (doc pm : Value) (an : Option Addr) (cdv ct : Value) (us mv ws : List Value), us.length = s.n + o → mv.length = ms.length → ws.length = s.ks.length →
      KwChain D ((ms.map (·.1)).zip mv) (bindArgs (PySem.W.fnOf r.d.name r.d.qual r.d.params r.d.body r.d.scope .none (.ref D) doc pm an cdv ct) ⟨us, s.ks.zip ws⟩) (r.ps.zip ((fillG (List.replicate o none ++ s.pl) mv (us ++ ws)).getD []))) : Bys K r o s := fun a fd F => by
  rw [dvs0 hd] at F
  obtain ⟨mv, q⟩ := F.kbinds0 (ps := r.ps) (s.n + o) s.ks ms (fun vs mz zs => (fillG (List.replicate o none ++ s.pl) mz (vs ++ zs)).getD []) hk hm (fun a b c => (fillG_rel b (Vals.append a c)).getD) h
  refine ⟨fun us ws => (fillG (List.replicate o none ++ s.pl) mv (us ++ ws)).getD [], ?_⟩
  have e : (fun (vs zs : List V) => (fillG (List.replicate o none ++ s.pl) (ms.map (·.2)) (vs ++ zs)).getD []) = fun vs zs => (mrg Cn.v (List.replicate o none ++ s.pl) (vs ++ zs)).getD [] := by
    funext vs zs
    rw [hs, ← fillG_mrg, cns_rep]
  rw [← e]
  exact q
/-- no defaults: by place, by keywords -/
theorem bysP {r : Row} {o : Nat} {s : Shp} (hd : r.d.dfl = []) (hs : cns s.pl = [])
    (h : ∀ (kV doc pm : Value) (an : Option Addr) (cdv ct : Value) (us ws : List Value), us.length = s.n + o → ws.length = s.ks.length →
      bindArgs (PySem.W.fnOf r.d.name r.d.qual r.d.params r.d.body r.d.scope .none kV doc pm an cdv ct) ⟨us, s.ks.zip ws⟩ = pure (r.ps.zip ((fillG (List.replicate o none ++ s.pl) [] (us ++ ws)).getD []))) : Bys K r o s := fun a fd F => by
  rw [dvs0 hd] at F
  obtain ⟨oc, od, dV, kV, doc, pm, an, cdv, ct, osl, rfl, lk, hcd, hD, hK⟩ := F.ex
  rcases hD with ⟨_, rfl⟩ | ⟨e, _⟩
  · refine ⟨fun us ws => (fillG (List.replicate o none ++ s.pl) [] (us ++ ws)).getD [], ⟨fun st us ws X l1 l2 => BindsTo.of_looks fun M => .of_pure (h kV doc pm an cdv ct us ws l1 l2), fun {vs us zs ws} r1 r2 => ?_⟩⟩
    have e : mrg Cn.v (List.replicate o none ++ s.pl) (vs ++ zs) = fillG (List.replicate o none ++ s.pl) [] (vs ++ zs) := by
      rw [← fillG_mrg, cns_rep, hs]
      rfl
    show Vals ((mrg Cn.v (List.replicate o none ++ s.pl) (vs ++ zs)).getD []) _
    rw [e]
    exact (fillG_rel .nil (Vals.append r1 r2)).getD
  · exact absurd rfl e
end
end Cs
/-! Cs18: a def that looks another one up in a table of the module, and calls it. -/
namespace Cs
open PySem L2
theorem ix_kd {X : Cx} {d : Addr} {es : Array DictEntry} {n : Nat} (D : KDict X.K X.w d es n) : IxR X (fun x y H Q => ∃ (z : Str) (u0 : Value) (v0 : V), x = .ref d ∧ y = .str z ∧ PySem.W.nsIn X.K d z = some (some u0) ∧ RelV v0 u0 ∧ Q v0 H) := by
  intro value slice pins s σ H x y v u Q I rx ry h hs
  obtain ⟨z, u0, v0, rfl, rfl, e, r, q⟩ := h
  cases rx
  exact PyProof.Rows.tail_any (kd_type D I) PySem.F.slot_dict_getitem.lookup (op_item_kd D pins s σ H (.ref d) (.str z) _ _ Q I rfl ry ⟨z, u0, v0, rfl, rfl, e, r, q⟩) hs
/-- the i-th slot holds one of the known defs -/
def tCallG (X : Cx) (C : Ctx) (fl : List Str) (i : Nat) (E : XK) (t : TA) : TE := fun σ H Q => ∃ (f : Str) (a : Addr), f ∈ fl ∧ X.mg f = some (.ref a) ∧ σ[i]? = some (some (.ref a)) ∧ t σ H fun vs H1 => spF X.K X.mg (C.fns f) vs H1 Q E
theorem pe_callG {X : Cx} {C : Ctx} {Γ : Gam} {i : Nat} {x : Str} {e : Expr} {es : List Expr} {t : TA} {E : XK} {p pos : Pos} (g : Gd Γ X C (fun cls d _ H => E cls d H)) (hN : X.N[i]? = some x) (hv : Vis X.env.scope x) (ha : PA X (e :: es) t) (hdb : (x == ("__debug__" : Str)) = false) (hcd : (x == ("__classdict__" : Str)) = false)
    (he : starEach (e :: es) X.env = (false, eval e X.env) :: starEach es X.env) (hpl : (backTo pos (starEach es X.env)).any (·.1) = false) : PE X (.Call (.Name x p) (e :: es) [] pos) (tCallG X C Γ.fl i E t) := by
  refine ⟨fun pins s σ H Q I h => ?_⟩
  obtain ⟨f, a, hf, hm, hs, ht⟩ := h
  obtain ⟨j, a', fd, ps, q1, q2, q3, q4, q5⟩ := g.fns f hf
  rw [hm] at q1
  cases q1
  refine (pe_callL (i := i) (f := a) (sp := spF X.K X.mg (C.fns f)) (dvs := []) (E := E) q5 q4 hN hv q2 q3 .nil (passes_call g.tk fun _ _ _ _ z => z) ha hdb hcd he hpl).run pins s σ H Q I ⟨hs, ?_⟩
  have e0 : (fun (vs : List V) (H1 : Hp) => spF X.K X.mg (C.fns f) (vs ++ []) H1 Q E) = fun vs H1 => spF X.K X.mg (C.fns f) vs H1 Q E := by
    funext vs H1
    rw [List.append_nil]
  show t σ H (fun vs H1 => spF X.K X.mg (C.fns f) (vs ++ []) H1 Q E)
  rw [e0]
  exact ht
/-- the promise: by the word the def, by the def the rest -/
def lookE (look : Str → Option Str) : Fns → List D → R (D × List D) := fun fns ds => match ds with
  | [.str w, d1, d2] => match look w with
    | some f => match fns f [d1, d2] with
      | .ok r => .ok (r.1, .str w :: r.2)
      | .exc x es => .exc x (.str w :: es)
      | .fail => .fail
    | none => .fail
  | _ => .fail
/-- the def's text -/
def lookB (x y z u tn : Str) (bd : List Stmt) : Bool := match bd with
  | [.Assign [.Name u1 _] (.Subscript (.Name tn1 _) (.Name x1 _) _) _, .Return (some (.Call (.Name u2 _) [.Name y1 _, .Name z1 _] [] _)) _] => decide (u = u1 ∧ tn = tn1 ∧ x = x1 ∧ u = u2 ∧ y = y1 ∧ z = z1)
  | _ => false
section
variable {P : Program} {w : World} {K : PySem.W.Frag} {mg : Str → Option Value} {base : Heap}
theorem look_ok {Γ : Gam} {C : Ctx} {f q : Str} {pr : Arguments} {scp : Scope} {dvs : List V} {kws : List (Str × V)} {a dct : Addr} {fd : FuncData} {k : Nat} {x y z u tn : Str} {bd : List Stmt} {look : Str → Option Str} {es : Array DictEntry} {n : Nat}
    (hN : Γ.N = [x, y, z, u])
    (hbd : lookB x y z u tn bd = true) (F : FunD K f q pr bd scp dvs kws a fd) (S : FnScope [x, y, z, u] [x, y, z] scp)
    (hu : scp.names.lookup u = some .local) (htn : scp.names.lookup tn = some .globalImplicit) (hb : ([x, y, z, u, tn].all fun s => !(s == ("__debug__" : Str)) && !(s == ("__classdict__" : Str))) = true)
    (hcon : ∀ x d, C.kn.cons x = some d → ∃ u v, mg x = some u ∧ RelV v u ∧ ∀ Hf H, Rp K mg Hf H d v []) (hw : C.whl = whlC) (hbl : ∀ x ∈ Γ.bl, mg x = none)
    (hf : Lvs P w K mg base Γ.fl Γ.kl Γ.sh Γ.ih C.kn k C.fns) (D : KDict K w dct es n) (hm : mg tn = some (.ref dct)) (hl : ∀ s g, look s = some g → g ∈ Γ.fl ∧ ∃ a, mg g = some (.ref a) ∧ PySem.W.nsIn K dct s = some (some (.ref a))) :
    FnOk P w K mg base (L2.CX P w) (k + 2) a fd [x, y, z] (spF K mg (lookE look C.fns)) := by
  unfold lookB at hbd
  split at hbd
  case h_2 => cases hbd
  have hbd := of_decide_eq_true hbd
  obtain ⟨rfl, rfl, rfl, rfl, rfl, rfl⟩ := hbd
  have sv : ∀ s ∈ [x, y, z], Vis scp s := fun s hs => by
    rcases S.par s hs with h | h
    · exact .inl h
    · exact .inr (.inl h)
  have hb := List.all_eq_true.mp hb
  have nb : ∀ s ∈ [x, y, z, u, tn], (s == ("__debug__" : Str)) = false ∧ (s == ("__classdict__" : Str)) = false := fun s hs => by
    have h := hb s hs
    rw [Bool.and_eq_true] at h
    exact ⟨by simpa using h.1, by simpa using h.2⟩
  refine F.ok S (fun vs H Q E h => ?_) fun cdv A outer s H vs Q E hr hsp => ?_
  · obtain ⟨ds, rs, hl', _, h⟩ := h
    unfold lookE at h
    split at h
    · rw [← hl']; rfl
    · exact h.elim
  · obtain ⟨ds, rs, hl', hst, h⟩ := hsp
    let X := cxOf (L2.CX P w) P w K mg base [x, y, z, u] q scp a cdv A outer s H E
    have g : Gd Γ X C (fun cls d _ H => E cls d H) := {
      N := hN.symm
      nd := S.nd
      kind := S.kind
      calm := rfl
      tk := takes_of rfl rfl rfl rfl
      pass := passes_of rfl
      units := hr.units
      fns := fun g hg => by
        obtain ⟨a', fd', ps', q1, q2, q3, q4⟩ := hf.fn g hg
        exact ⟨k + 1, a', fd', ps', q1, q2, q3, hr, q4⟩
      fld := hf.fld
      met := fun c m hc => by
        obtain ⟨CA, q1, q2, a', fd', ps', q3, q4, q5⟩ := hf.met c m hc
        exact ⟨CA, q1, q2, k + 1, a', fd', ps', q3, q4, hr, q5⟩
      mak := fun c hc => by
        obtain ⟨CA, q1, a', fd', ps', q2, q3, q4⟩ := hf.mak c hc
        exact ⟨CA, q1, k, a', fd', ps', q2, q3, hr, q4⟩
      shp := fun s hs => by
        obtain ⟨a', fd', ps', gg, q1, q2, q3, q4⟩ := hf.shp s hs
        exact ⟨k + 1, a', fd', ps', gg, q1, q2, q3, hr, q4⟩
      ihp := fun s hs => by
        obtain ⟨CA, q1, a', fd', ps', gg, q2, q3, q4⟩ := hf.ihp s hs
        exact ⟨CA, q1, k, a', fd', ps', gg, q2, q3, hr, q4⟩
      blt := hbl
      con := hcon
      whl := fun step ρ => by rw [hw]; exact whlC_some step ρ }
    have hx := nb x (by simp)
    have hy := nb y (by simp)
    have hz := nb z (by simp)
    have hu' := nb u (by simp)
    have ht' := nb tn (by simp)
    refine ⟨_, pss_cons (ps_set (X := X) (i := 3) S.nd rfl (.inl hu) (pe_ix (ix_kd (X := X) D) (pe_glob htn hm (v := .ref dct) rfl ht'.1) (pe_var (i := 0) rfl (sv x (by simp)) hx.1 hx.2) (fun _ _ => rfl)) rfl (.inr hu))
      (pss_one (ps_ret (pe_callG g (i := 3) rfl (.inl hu) (pa_cons (pe_var (i := 1) rfl (sv y (by simp)) hy.1 hy.2) (pa_cons (pe_var (i := 2) rfl (sv z (by simp)) hz.1 hz.2) pa_nil)) hu'.1 hu'.2 rfl rfl))), ?_⟩
    unfold lookE at h
    split at h
    case h_2 => exact h.elim
    rename_i wd d1 d2
    match vs, hl' with
    | [v0, v1, v2], _ =>
    have e0 : v0 = .str wd := by
      obtain ⟨Hf, fp, s0⟩ := hst
      obtain ⟨f1, r1⟩ := s0.at (d := .str wd) (v := v0) List.mem_cons_self
      exact r1.1
    subst e0
    cases hlk : look wd with
    | none =>
      rw [hlk] at h
      exact h.elim
    | some fn =>
      rw [hlk] at h
      obtain ⟨hfn, a', hm', hns⟩ := hl wd fn hlk
      refine ⟨.str wd, rfl, wd, .ref a', .ref a', rfl, rfl, hns, rfl, ?_⟩
      refine ⟨fn, a', hfn, hm', rfl, v1, rfl, v2, rfl, [d1, d2], rs, rfl, hst.drop, ?_⟩
      cases hr1 : C.fns fn [d1, d2] with
      | ok r =>
        dsimp only at h
        rw [hr1] at h
        exact fun v H' st => h v H' (st.str wd).swap
      | exc x1 es1 =>
        dsimp only at h
        rw [hr1] at h
        exact fun cls dd H' ws xa st => h cls dd H' ws xa ((st.str wd).perm List.perm_middle.symm)
      | fail =>
        dsimp only at h
        rw [hr1] at h
        exact h.elim
end
end Cs
/-! Cs19: plain laws of the evaluator. -/
namespace Cs
open PySem L2
theorem bind_ok {α β : Type} {a : α} {f : α → R β} : (R.ok a).bind f = f a := rfl
theorem map_ok {α β : Type} {a : α} {f : α → β} : (R.ok a).map f = .ok (f a) := rfl
theorem of_some {α : Type} {a : α} : R.of (some a) = .ok a := rfl
theorem ite_t {α : Type} {a b : α} : (if true = true then a else b) = a := rfl
theorem ite_f {α : Type} {a b : α} : (if false = true then a else b) = b := rfl
/-! ### lists of numbers -/
theorem intsOf_ints : ∀ ns : List Int, intsOf (ns.map .int) = some ns
  | [] => rfl
  | n :: ns => by
    show (intsOf (ns.map .int)).map (n :: ·) = _
    rw [intsOf_ints ns]; rfl
theorem isFzs_ints : ∀ ns : List Int, isFzs (ns.map .int) = true
  | [] => rfl
  | n :: ns => by
    show (isFz (.int n) && isFzs (ns.map .int)) = true
    rw [isFzs_ints ns]; rfl
theorem fulls_ints (ns : List Int) : fulls (ns.map .int) = true := fulls_fz _ (isFzs_ints ns)
theorem frzs_ints (ns : List Int) : frzs (ns.map .int) = ns.map .int := frzs_fz _ (isFzs_ints ns)
theorem toPs_ints : ∀ ns : List Int, toPs (ns.map .int) = some (ns.map .int)
  | [] => rfl
  | n :: ns => by
    show (match toP (.int n), toPs (ns.map .int) with | some p, some ps => some (p :: ps) | _, _ => none) = _
    rw [toPs_ints ns]; rfl
theorem canLay_ints : ∀ ns : List Int, PyData.canLayAll0 (ns.map .int) = true
  | [] => rfl
  | n :: ns => by
    show (PyData.canLay0 (.int n) && PyData.canLayAll0 (ns.map .int)) = true
    rw [canLay_ints ns]; rfl
theorem eqD_refl {x y : D} {p : PyData} (hx : toP x = some p) (hy : toP y = some p) (h : SeqAt.shaped p = true) : eqD x y = some true := by
  unfold eqD
  rw [hx, hy]
  show (if (SeqAt.shaped p && SeqAt.shaped p) = true then some (PyData.eqv p p) else none) = _
  rw [h, SeqAt.eqv_refl p (SeqAt.canLay_of_shaped h)]; rfl
theorem depth_ints : ∀ ns : List Int, PyData.depthAll (ns.map .int) ≤ 1
  | [] => by decide
  | n :: ns => by
    show max (PyData.depth (.int n)) (PyData.depthAll (ns.map .int)) ≤ 1
    exact Nat.max_le.mpr ⟨by unfold PyData.depth; omega, depth_ints ns⟩
theorem shaped_ints (ns : List Int) : SeqAt.shaped (.list (ns.map .int)) = true := by
  unfold SeqAt.shaped
  have h := depth_ints ns
  have e : PyData.depth (.list (ns.map PyData.int)) ≤ 2 := by
    unfold PyData.depth
    omega
  rw [Bool.and_eq_true]
  exact ⟨canLay_ints ns, decide_eq_true (by omega)⟩
theorem atI_in {α : Type} {xs : List α} {i : Int} (h0 : 0 ≤ i) (h1 : i < xs.length) : atI xs i = some (xs[i.toNat]'(by omega)) := by
  unfold atI ixN
  rw [if_pos h0, if_pos h1]
  exact List.getElem?_eq_getElem _
theorem idx_ints {o : Bool} {ns : List Int} {i : Int} (h0 : 0 ≤ i) (h1 : i < ns.length) : idxD (.lst o (ns.map .int)) (.int i) = some (.int (ns[i.toNat]'(by omega))) := by
  show fzO (atI (ns.map D.int) i) = _
  rw [atI_in h0 (by rw [List.length_map]; exact h1), List.getElem_map]; rfl
theorem idx_lkd {ns : List Int} {i : Int} (h0 : 0 ≤ i) (h1 : i < ns.length) : idxD (.lkd (ns.map .int)) (.int i) = some (.int (ns[i.toNat]'(by omega))) := by
  show fzO (atI (ns.map D.int) i) = _
  rw [atI_in h0 (by rw [List.length_map]; exact h1), List.getElem_map]; rfl
theorem dvOk_small {t : Int} (h0 : 0 < t) (h1 : t < 2 ^ 62) : dvOk t = true := by
  unfold dvOk
  have h2 : t.natAbs < 2 ^ 62 := by omega
  have h3 : t.natAbs.log2 < 62 := (Nat.log2_lt (by omega)).mpr h2
  rw [Bool.and_eq_true]
  exact ⟨decide_eq_true (by omega), decide_eq_true (by omega)⟩
/-! ### loops -/
theorem loopF_ok {turn : D → Env → R Fl} (I : Nat → Env → Prop) : ∀ (ds : List D) (i : Nat) (ρ : Env), I i ρ → (∀ j d ρ, ds[j]? = some d → I (i + j) ρ → ∃ ρ', turn d ρ = .ok (.nx ρ') ∧ I (i + j + 1) ρ') → ∃ ρ', loopF turn ds ρ = .ok (.nx ρ') ∧ I (i + ds.length) ρ'
  | [], i, ρ, h, _ => ⟨ρ, rfl, h⟩
  | d :: ds, i, ρ, h, st => by
    obtain ⟨ρ1, e1, h1⟩ := st 0 d ρ rfl h
    obtain ⟨ρ2, e2, h2⟩ := loopF_ok I ds (i + 1) ρ1 h1 fun j d' ρ' hj hI => by
      have := st (j + 1) d' ρ' (by simpa using hj) (by rw [show i + (j + 1) = i + 1 + j by omega]; exact hI)
      rw [show i + (j + 1) + 1 = i + 1 + j + 1 by omega] at this
      exact this
    refine ⟨ρ2, ?_, by rw [List.length_cons, show i + (ds.length + 1) = i + 1 + ds.length by omega]; exact h2⟩
    unfold loopF
    rw [e1]
    exact e2
/-- a loop that keeps I -/
theorem loopF_inv {turn : D → Env → R Fl} (I : Env → Prop) {ds : List D} {ρ : Env} (h : I ρ) (st : ∀ d ∈ ds, ∀ ρ, I ρ → ∃ ρ', turn d ρ = .ok (.nx ρ') ∧ I ρ') : ∃ ρ', loopF turn ds ρ = .ok (.nx ρ') ∧ I ρ' :=
  loopF_ok (fun _ => I) ds 0 ρ h fun j d ρ' hj hI => st d (List.mem_of_getElem? hj) ρ' hI
/-- a comprehension, each turn puts one in -/
theorem loopC_all {turn : D → Env → R (Option D × Env)} (I : Env → Prop) (Pd : D → Prop) : ∀ (ds acc : List D) (ρ : Env), I ρ → (∀ d ∈ ds, ∀ ρ, I ρ → ∃ y ρ', turn d ρ = .ok (some y, ρ') ∧ Pd y ∧ I ρ') →
    ∃ ys ρ', loopC turn ds acc ρ = .ok (acc ++ ys, ρ') ∧ ys.length = ds.length ∧ (∀ y ∈ ys, Pd y) ∧ I ρ'
  | [], acc, ρ, h, _ => ⟨[], ρ, by rw [List.append_nil]; rfl, rfl, fun _ h => (nomatch h), h⟩
  | d :: ds, acc, ρ, h, st => by
    obtain ⟨y, ρ1, e1, p1, h1⟩ := st d List.mem_cons_self ρ h
    obtain ⟨ys, ρ2, e2, l2, p2, h2⟩ := loopC_all I Pd ds (acc ++ [y]) ρ1 h1 fun d' hd => st d' (List.mem_cons_of_mem _ hd)
    refine ⟨y :: ys, ρ2, ?_, by rw [List.length_cons, List.length_cons, l2], fun z hz => ?_, h2⟩
    · unfold loopC
      rw [e1]
      show loopC turn ds (acc ++ [y]) ρ1 = _
      rw [e2, List.append_assoc]; rfl
    · rcases List.mem_cons.mp hz with rfl | hz
      · exact p1
      · exact p2 z hz
/-- things that are all numbers with P -/
theorem ints_of {P : Int → Prop} : ∀ {ds : List D}, (∀ d ∈ ds, ∃ i, d = .int i ∧ P i) → ∃ ns : List Int, ds = ns.map .int ∧ ∀ n ∈ ns, P n
  | [], _ => ⟨[], rfl, fun _ h => (nomatch h)⟩
  | d :: ds, h => by
    obtain ⟨i, e, p⟩ := h d List.mem_cons_self
    obtain ⟨ns, e2, p2⟩ := ints_of (P := P) fun d' hd => h d' (List.mem_cons_of_mem _ hd)
    subst e; subst e2
    exact ⟨i :: ns, rfl, fun n hn => by
      rcases List.mem_cons.mp hn with rfl | hn
      · exact p
      · exact p2 n hn⟩
theorem rangeD_mem {lo hi : Int} {d : D} (h : d ∈ rangeD lo hi) : ∃ i : Nat, d = .int (lo + i) ∧ lo + i < hi := by
  unfold rangeD at h
  obtain ⟨i, h1, h2⟩ := List.mem_map.mp h
  exact ⟨i, h2.symm, by have := List.mem_range.mp h1; omega⟩
theorem rangeD_len {lo hi : Int} : (rangeD lo hi).length = (hi - lo).toNat := by
  unfold rangeD
  rw [List.length_map, List.length_range]
theorem itRng_small {lo hi : Int} (h0 : -(2 ^ 62) ≤ lo) (h1 : lo < 2 ^ 62) (h2 : -(2 ^ 62) ≤ hi) (h3 : hi < 2 ^ 62) : itRng lo hi = some (rangeD lo hi) := by
  unfold itRng smallI
  rw [if_pos]
  rw [Bool.and_eq_true]
  exact ⟨decide_eq_true ⟨h0, h1⟩, decide_eq_true ⟨h2, h3⟩⟩
/-! ### the weakest premise -/
def Wp {α : Type} (r : R α) (P : α → Prop) : Prop := ∃ a, r = .ok a ∧ P a
theorem wp_ok {α : Type} {a : α} {P : α → Prop} : Wp (.ok a) P = P a := propext ⟨fun ⟨_, e, h⟩ => by cases e; exact h, fun h => ⟨a, rfl, h⟩⟩
theorem wp_fail {α : Type} {P : α → Prop} : Wp (.fail) P = False := propext ⟨fun ⟨_, e, _⟩ => (nomatch e), fun h => h.elim⟩
theorem wp_exc {α : Type} {x : Exn} {ρ : Env} {P : α → Prop} : Wp (.exc x ρ) P = False := propext ⟨fun ⟨_, e, _⟩ => (nomatch e), fun h => h.elim⟩
theorem wp_bind {α β : Type} {r : R α} {f : α → R β} {P : β → Prop} : Wp (r.bind f) P = Wp r (fun a => Wp (f a) P) := by
  cases r with
  | ok a => rw [wp_ok]; rfl
  | exc x ρ => rw [wp_exc]; exact wp_exc
  | fail => rw [wp_fail]; exact wp_fail
theorem wp_map {α β : Type} {r : R α} {f : α → β} {P : β → Prop} : Wp (r.map f) P = Wp r (fun a => P (f a)) := by
  cases r with
  | ok a => rw [wp_ok]; exact wp_ok
  | exc x ρ => rw [wp_exc]; exact wp_exc
  | fail => rw [wp_fail]; exact wp_fail
def WO {α : Type} (o : Option α) (P : α → Prop) : Prop := ∃ a, o = some a ∧ P a
theorem wo_some {α : Type} {a : α} {P : α → Prop} : WO (some a) P = P a := propext ⟨fun ⟨_, e, h⟩ => by cases e; exact h, fun h => ⟨a, rfl, h⟩⟩
theorem wo_none {α : Type} {P : α → Prop} : WO none P = False := propext ⟨fun ⟨_, e, _⟩ => (nomatch e), fun h => h.elim⟩
theorem wo_map {α β : Type} {o : Option α} {f : α → β} {P : β → Prop} : WO (o.map f) P = WO o (fun a => P (f a)) := by
  cases o with
  | none => rw [wo_none]; exact wo_none
  | some a => rw [wo_some]; exact wo_some
theorem wo_bind {α β : Type} {o : Option α} {f : α → Option β} {P : β → Prop} : WO (o.bind f) P = WO o (fun a => WO (f a) P) := by
  cases o with
  | none => rw [wo_none]; exact wo_none
  | some a => rw [wo_some]; rfl
theorem wp_of {α : Type} {o : Option α} {P : α → Prop} : Wp (R.of o) P = WO o P := by
  cases o with
  | none => rw [show R.of (none : Option α) = .fail from rfl, wp_fail, wo_none]
  | some a => rw [show R.of (some a) = .ok a from rfl, wp_ok, wo_some]
theorem Wp.mono {α : Type} {r : R α} {P Q : α → Prop} (h : Wp r P) (k : ∀ a, P a → Q a) : Wp r Q := by
  obtain ⟨a, e, p⟩ := h
  exact ⟨a, e, k a p⟩
/-- what is due behind a statement -/
def Nx (C : Ctx) (ss : CSs) (P : Fl → Prop) : Fl → Prop
  | .nx ρ => Wp (evSs C ss ρ) P
  | f => P f
theorem nx_nx {C : Ctx} {ss : CSs} {P : Fl → Prop} {ρ : Env} : Nx C ss P (.nx ρ) = Wp (evSs C ss ρ) P := rfl
theorem nx_ret {C : Ctx} {ss : CSs} {P : Fl → Prop} {d : D} {ρ : Env} : Nx C ss P (.ret d ρ) = P (.ret d ρ) := rfl
theorem nx_bk {C : Ctx} {ss : CSs} {P : Fl → Prop} {ρ : Env} : Nx C ss P (.bk ρ) = P (.bk ρ) := rfl
theorem nx_ct {C : Ctx} {ss : CSs} {P : Fl → Prop} {ρ : Env} : Nx C ss P (.ct ρ) = P (.ct ρ) := rfl
theorem wp_nil {C : Ctx} {ρ : Env} {P : Fl → Prop} : Wp (evSs C .nil ρ) P = P (.nx ρ) := by rw [evSs, wp_ok]
theorem wp_cons {C : Ctx} {s : CS} {ss : CSs} {ρ : Env} {P : Fl → Prop} : Wp (evSs C (.cons s ss) ρ) P = Wp (evS C s ρ) (Nx C ss P) := by
  rw [evSs, wp_bind]
  congr 1
  funext f
  cases f with
  | nx ρ' => rfl
  | ret d ρ' => exact wp_ok
  | bk ρ' => exact wp_ok
  | ct ρ' => exact wp_ok
theorem wp_ife {C : Ctx} {t : CT} {a b : CSs} {ρ : Env} {P : Fl → Prop} : Wp (evS C (.ife t a b) ρ) P = Wp (evT C t ρ) (fun p => (p.1 = true → Wp (evSs C a p.2) P) ∧ (p.1 = false → Wp (evSs C b p.2) P)) := by
  rw [evS, wp_bind]
  congr 1
  funext p
  cases p.1 with
  | true => exact propext ⟨fun h => ⟨fun _ => h, fun z => nomatch z⟩, fun h => h.1 rfl⟩
  | false => exact propext ⟨fun h => ⟨fun z => (nomatch z), fun _ => h⟩, fun h => h.2 rfl⟩
/-- what a turn of a loop must come to -/
def Tn (J : Env → Prop) (P : Fl → Prop) : Fl → Prop
  | .nx ρ => J ρ
  | .ct ρ => J ρ
  | .bk ρ => P (.nx ρ)
  | .ret v ρ => P (.ret v ρ)
theorem wp_loopF {turn : D → Env → R Fl} {P : Fl → Prop} (J : Nat → Env → Prop) : ∀ (ds : List D) (i : Nat) (ρ : Env), J i ρ → (∀ j d ρ, ds[j]? = some d → J (i + j) ρ → Wp (turn d ρ) (Tn (J (i + j + 1)) P)) → (∀ ρ', J (i + ds.length) ρ' → P (.nx ρ')) → Wp (loopF turn ds ρ) P
  | [], i, ρ, h, _, e => by
    rw [loopF, wp_ok]
    exact e ρ h
  | d :: ds, i, ρ, h, st, e => by
    obtain ⟨f, e1, h1⟩ := st 0 d ρ rfl h
    have go : ∀ ρ1, J (i + 1) ρ1 → Wp (loopF turn ds ρ1) P := fun ρ1 h1 => wp_loopF J ds (i + 1) ρ1 h1 (fun j d' ρ' hj hI => by
      have := st (j + 1) d' ρ' (by simpa using hj) (by rw [show i + (j + 1) = i + 1 + j by omega]; exact hI)
      rw [show i + (j + 1) + 1 = i + 1 + j + 1 by omega] at this
      exact this) fun ρ' h' => e ρ' (by rw [List.length_cons, show i + (ds.length + 1) = i + 1 + ds.length by omega]; exact h')
    unfold loopF
    rw [e1]
    cases f with
    | nx ρ1 => exact go ρ1 h1
    | ct ρ1 => exact go ρ1 h1
    | bk ρ1 => exact (wp_ok).mpr h1
    | ret v ρ1 => exact (wp_ok).mpr h1
theorem wp_for {C : Ctx} {g : CG} {it : CI} {b : CSs} {ρ : Env} {P : Fl → Prop} (J : Nat → Env → Prop) (ds : List D) (ρ1 : Env) (h1 : Wp (evI C it ρ) (fun p => p.1 = ds ∧ p.2 = ρ1)) (h2 : J 0 ρ1)
    (st : ∀ j d ρ, ds[j]? = some d → J j ρ → ∃ ρ2, Cs.assign g d ρ = some ρ2 ∧ Wp (evSs C b ρ2) (Tn (J (j + 1)) P)) (e : ∀ ρ', J ds.length ρ' → P (.nx ρ')) : Wp (evS C (.for g it b) ρ) P := by
  rw [evS, wp_bind]
  refine h1.mono fun p ⟨e1, e2⟩ => ?_
  rw [e1, e2]
  refine wp_loopF J ds 0 ρ1 h2 (fun j d ρ hj hJ => ?_) fun ρ' h' => e ρ' (by rw [Nat.zero_add] at h'; exact h')
  rw [Nat.zero_add] at hJ ⊢
  obtain ⟨ρ2, a1, a2⟩ := st j d ρ hj hJ
  rw [wp_bind, wp_of]
  exact ⟨ρ2, a1, a2⟩
/-- a loop that keeps I -/
theorem wp_forI {C : Ctx} {g : CG} {it : CI} {b : CSs} {ρ : Env} {P : Fl → Prop} (I : Env → Prop) (ds : List D) (ρ1 : Env) (h1 : Wp (evI C it ρ) (fun p => p.1 = ds ∧ p.2 = ρ1)) (h2 : I ρ1)
    (st : ∀ d ∈ ds, ∀ ρ, I ρ → ∃ ρ2, Cs.assign g d ρ = some ρ2 ∧ Wp (evSs C b ρ2) (Tn I P)) (e : ∀ ρ', I ρ' → P (.nx ρ')) : Wp (evS C (.for g it b) ρ) P :=
  wp_for (fun _ => I) ds ρ1 h1 h2 (fun j d ρ hj hI => st d (List.mem_of_getElem? hj) ρ hI) e
theorem wp_loopC {turn : D → Env → R (Option D × Env)} {Q : List D × Env → Prop} (J : Nat → List D → Env → Prop) : ∀ (ds : List D) (i : Nat) (acc : List D) (ρ : Env), J i acc ρ → (∀ j d acc ρ, ds[j]? = some d → J (i + j) acc ρ → Wp (turn d ρ) (fun p => (∀ y, p.1 = some y → J (i + j + 1) (acc ++ [y]) p.2) ∧ (p.1 = none → J (i + j + 1) acc p.2))) →
    (∀ acc ρ, J (i + ds.length) acc ρ → Q (acc, ρ)) → Wp (loopC turn ds acc ρ) Q
  | [], i, acc, ρ, h, _, e => by
    rw [loopC, wp_ok]
    exact e acc ρ h
  | d :: ds, i, acc, ρ, h, st, e => by
    obtain ⟨⟨o, ρ1⟩, e1, h1, h2⟩ := st 0 d acc ρ rfl h
    have go : ∀ acc ρ1, J (i + 1) acc ρ1 → Wp (loopC turn ds acc ρ1) Q := fun acc ρ1 h1 => wp_loopC J ds (i + 1) acc ρ1 h1 (fun j d' acc' ρ' hj hI => by
      have := st (j + 1) d' acc' ρ' (by simpa using hj) (by rw [show i + (j + 1) = i + 1 + j by omega]; exact hI)
      rw [show i + (j + 1) + 1 = i + 1 + j + 1 by omega] at this
      exact this) fun acc' ρ' h' => e acc' ρ' (by rw [List.length_cons, show i + (ds.length + 1) = i + 1 + ds.length by omega]; exact h')
    unfold loopC
    rw [e1]
    cases o with
    | some y => exact go _ ρ1 (h1 y rfl)
    | none => exact go _ ρ1 (h2 rfl)
/-- a comprehension without a test, all of whose things have Pd, whose slots keep I -/
theorem wp_lc {C : Ctx} {own : List Nat} {g : CG} {it : CI} {elt : CE} {ρ : Env} {Q : D × Env → Prop} (I : Env → Prop) (Pd : D → Prop) (ds : List D) (ρ1 : Env) (h1 : Wp (evI C it ρ) (fun p => p.1 = ds ∧ p.2 = ρ1)) (hl : ds.length ≤ sizeLine) (h2 : I (wipeD ρ1 own))
    (st : ∀ d ∈ ds, ∀ ρ, I ρ → ∃ ρ2, Cs.assign g d ρ = some ρ2 ∧ Wp (evE C elt ρ2) (fun p => Pd p.1 ∧ I (wipeD p.2 own))) (e : ∀ ys ρ', ys.length = ds.length → (∀ y ∈ ys, Pd y) → I ρ' → Q (.lst true ys, putBack ρ1 ρ' own)) : Wp (evE C (.lc own g it .yes elt) ρ) Q := by
  rw [evE, wp_bind]
  refine h1.mono fun p ⟨e1, e2⟩ => ?_
  rw [e1, e2, wp_bind]
  refine wp_loopC (fun i acc ρ => acc.length = i ∧ (∀ y ∈ acc, Pd y) ∧ I ρ) ds 0 [] _ ⟨rfl, fun _ h => (nomatch h), h2⟩ (fun j d acc ρ hj ⟨a1, a2, a3⟩ => ?_) fun acc ρ ⟨a1, a2, a3⟩ => ?_
  · obtain ⟨ρ2, b1, b2⟩ := st d (List.mem_of_getElem? hj) ρ a3
    rw [wp_bind, wp_of]
    refine ⟨ρ2, b1, ?_⟩
    dsimp only
    rw [wp_bind, evT, wp_ok]
    show Wp ((evE C elt ρ2).map _) _
    rw [wp_map]
    refine b2.mono fun q ⟨c1, c2⟩ => ⟨fun y hy => ?_, fun z => nomatch z⟩
    cases hy
    refine ⟨by rw [List.length_append, a1]; rfl, fun y hy => ?_, c2⟩
    rcases List.mem_append.mp hy with hy | hy
    · exact a2 y hy
    · rw [List.mem_singleton.mp hy]; exact c1
  · rw [wp_of]
    refine ⟨_, ?_, e acc ρ (by rw [a1, Nat.zero_add]) a2 a3⟩
    rw [show szOk acc.length = true from decide_eq_true (by rw [a1, Nat.zero_add]; exact hl)]; rfl
theorem wp_asg {C : Ctx} {g : CG} {e : CE} {ρ : Env} {P : Fl → Prop} : Wp (evS C (.asg g e) ρ) P = Wp (evE C e ρ) (fun p => WO (Cs.assign g p.1 p.2) (fun ρ' => P (.nx ρ'))) := by
  rw [evS, wp_bind]
  simp only [wp_of, wo_map]
theorem wp_bilc {C : Ctx} {b : BI} {own : List Nat} {g : CG} {it : CI} {t : CT} {elt : CE} {ρ : Env} {P : D × Env → Prop} : Wp (evE C (.bi b (.cons (.lc own g it t elt) .nil)) ρ) P = Wp (evE C (.lc own g it t elt) ρ) (fun p => WO (biD b [p.1]) (fun d => P (d, p.2))) := by
  rw [evE, wp_bind, evRs, wp_bind]
  unfold refOf
  rw [wp_map]
  congr 1
  funext p
  rw [evRs]
  simp only [wp_map, wp_ok, wp_of, wo_map, Ref.gets, Ref.get]
  rfl
theorem run_wp {C : Ctx} {e : Fe} {ds : List D} {Q : D × List D → Prop} (hl : ds.length = e.np) (h : Wp (evSs C e.body (startD e.n ds)) (fun f => match f with
    | .nx ρ => Q (.non, endD e.asg 0 e.np ρ)
    | .ret d ρ => Q (d, endD e.asg 0 e.np ρ)
    | _ => False)) : Wp (run1 C e ds) Q := by
  obtain ⟨f, e1, h1⟩ := h
  unfold run1
  rw [if_pos hl, e1]
  cases f with
  | nx ρ => exact wp_ok.mpr h1
  | ret d ρ => exact wp_ok.mpr h1
  | bk ρ => exact h1.elim
  | ct ρ => exact h1.elim
theorem eqD_int (a b : Int) : eqD (.int a) (.int b) = some (a == b) := by
  unfold eqD
  show (if (SeqAt.shaped (.int a) && SeqAt.shaped (.int b)) = true then some (PyData.eqv (.int a) (.int b)) else none) = _
  have h : ∀ i : Int, SeqAt.shaped (.int i) = true := fun i => rfl
  rw [h, h]; rfl
theorem look_eq {look : Str → Option Str} {fns : Fns} {w f : Str} {d1 d2 r : D} {rs : List D} (h1 : look w = some f) (h2 : fns f [d1, d2] = .ok (r, rs)) : lookE look fns [.str w, d1, d2] = .ok (r, .str w :: rs) := by
  simp [lookE, h1, h2]
theorem str_ok (s : String) : PyData.strOk (Str.ofString s) = true := by
  unfold PyData.strOk
  rw [Str.ofString_eq_toList]
  rw [List.all_toArray, List.all_eq_true]
  intro n hn
  obtain ⟨c, _, rfl⟩ := List.mem_map.mp hn
  refine decide_eq_true ?_
  rcases c.valid with h | ⟨_, h⟩
  · exact Nat.lt_trans h (by decide)
  · exact h
theorem eqD_strs {x : Str} (h : PyData.strOk x = true) : eqD (.str x) (.str x) = some true := eqD_refl (p := .str x) rfl rfl (by
  unfold SeqAt.shaped
  rw [show PyData.canLay0 (.str x) = true from h]; rfl)
section
variable {i j : Int} {x y : D}
theorem b_add : binD .Add (.int i) (.int j) = some (.int (i + j)) := rfl
theorem b_sub : binD .Sub (.int i) (.int j) = some (.int (i - j)) := rfl
theorem b_mul : binD .Mult (.int i) (.int j) = if mulOk i j then some (.int (i * j)) else none := rfl
theorem b_fd : binD .FloorDiv (.int i) (.int j) = if dvOk j then some (.int (flr i j)) else none := rfl
theorem b_mod : binD .Mod (.int i) (.int j) = if decide (j ≠ 0) then some (.int (rst i j)) else none := rfl
theorem b_pow : binD .Pow (.int i) (.int j) = if decide (0 ≤ j ∧ j ≤ 1000000 ∧ i.natAbs < 2 ^ 64) then some (.int (i ^ j.toNat)) else none := rfl
theorem b_strs {a b : Str} : binD .Add (.str a) (.str b) = if szOk (a.length + b.length) then some (.str (a ++ b)) else none := rfl
theorem b_tups {a b : List D} : binD .Add (.tup a) (.tup b) = if szOk (a.length + b.length) && (isFzs a && isFzs b) then some (.tup (a ++ b)) else none := rfl
theorem b_lsts {o p : Bool} {a b : List D} : binD .Add (.lst o a) (.lst p b) = if szOk (a.length + b.length) && (isFzs a && isFzs b) then some (.lst true (a ++ b)) else none := rfl
theorem c_lt : cmpD .Lt (.int i) (.int j) = some (decide (i < j)) := rfl
theorem c_le : cmpD .LtE (.int i) (.int j) = some (decide (i ≤ j)) := rfl
theorem c_gt : cmpD .Gt (.int i) (.int j) = some (decide (j < i)) := rfl
theorem c_ge : cmpD .GtE (.int i) (.int j) = some (decide (j ≤ i)) := rfl
theorem c_eq : cmpD .Eq x y = eqD x y := rfl
theorem c_ne : cmpD .NotEq x y = (eqD x y).map (!·) := rfl
theorem c_in : cmpD .In x y = inD x y := rfl
theorem c_nin : cmpD .NotIn x y = (inD x y).map (!·) := rfl
theorem c_is : cmpD .Is x .non = isN x := rfl
theorem c_isn : cmpD .IsNot x .non = (isN x).map (!·) := rfl
theorem rst_pos (h : 0 < j) : rst i j = i % j := if_pos h
theorem flr_pos (h : 0 < j) : flr i j = i / j := if_pos h
theorem i_lenL {o : Bool} {xs : List D} : biD .len [.lst o xs] = some (.int xs.length) := rfl
theorem i_lenK {xs : List D} : biD .len [.lkd xs] = some (.int xs.length) := rfl
theorem i_lenT {xs : List D} : biD .len [.tup xs] = some (.int xs.length) := rfl
theorem i_lenS {a : Str} : biD .len [.str a] = if szOk a.length then some (.int a.length) else none := rfl
theorem i_min2 : biD .min2 [.int i, .int j] = some (.int (if j < i then j else i)) := rfl
theorem i_max2 : biD .max2 [.int i, .int j] = some (.int (if j > i then j else i)) := rfl
theorem i_min1 {o : Bool} {ns : List Int} : biD .min1 [.lst o (ns.map .int)] = (minL ns).map .int := by
  show (match intsOf (ns.map D.int) with | some ns => (minL ns).map D.int | none => none) = _
  rw [intsOf_ints]
theorem i_max1 {o : Bool} {ns : List Int} : biD .max1 [.lst o (ns.map .int)] = (maxL ns).map .int := by
  show (match intsOf (ns.map D.int) with | some ns => (maxL ns).map D.int | none => none) = _
  rw [intsOf_ints]
theorem i_sumT {ns : List Int} : biD .sum [.tup (ns.map .int)] = some (.int ns.sum) := by
  show (intsOf (ns.map D.int)).map (fun ns => D.int ns.sum) = _
  rw [intsOf_ints]; rfl
theorem i_sumL {o : Bool} {ns : List Int} : biD .sum [.lst o (ns.map .int)] = some (.int ns.sum) := by
  show (intsOf (ns.map D.int)).map (fun ns => D.int ns.sum) = _
  rw [intsOf_ints]; rfl
theorem i_sorted {o : Bool} {ns : List Int} : biD .sorted [.lst o (ns.map .int)] = some (.lst true ((ns.mergeSort (· ≤ ·)).map .int)) := by
  show (intsOf (ns.map D.int)).map (fun ns => D.lst true ((ns.mergeSort (· ≤ ·)).map .int)) = _
  rw [intsOf_ints]; rfl
theorem i_listL {o : Bool} {xs : List D} : biD .list [.lst o xs] = if isFzs xs then some (.lst true xs) else none := rfl
theorem i_listT {xs : List D} : biD .list [.tup xs] = if isFzs xs then some (.lst true xs) else none := rfl
theorem i_tupL {o : Bool} {xs : List D} : biD .tuple [.lst o xs] = if isFzs xs then some (.tup xs) else none := rfl
theorem i_tupT {xs : List D} : biD .tuple [.tup xs] = if isFzs xs then some (.tup xs) else none := rfl
theorem i_intB {b : Bool} : biD .int [.bl b] = some (.int (if b then 1 else 0)) := rfl
theorem i_int : biD .int [.int i] = some (.int i) := rfl
theorem i_repr : biD .repr [.int i] = if decide (i.natAbs.log2 < 1920) then some (.str (toString i)) else none := rfl
end
theorem mulOk_l {i j : Int} (h : -(2 ^ 64) < i ∧ i < 2 ^ 64) : mulOk i j = true := by
  unfold mulOk; rw [decide_eq_true h]; rfl
theorem mulOk_r {i j : Int} (h : -(2 ^ 64) < j ∧ j < 2 ^ 64) : mulOk i j = true := by
  unfold mulOk; rw [decide_eq_true h, Bool.true_or, Bool.or_true]
end Cs
set_option maxHeartbeats 0
/-! Cs20: the evaluator's equations one by one; loops and comprehensions by plain functions. -/
namespace Cs
open PySem L2
theorem x_E_var {C : Ctx} {ρ : Env} {i : _} : evE C (.var i) ρ = R.of (varE i ρ) := by rw [evE] <;> rfl
theorem x_E_mv {C : Ctx} {ρ : Env} {i : _} : evE C (.mv i) ρ = R.of ((slotE ρ i).map fun d => (d, ρ.set i .undef)) := by rw [evE] <;> rfl
theorem x_E_int {C : Ctx} {ρ : Env} {i : _} : evE C (.int i) ρ = .ok (.int i, ρ) := by rw [evE] <;> rfl
theorem x_E_str {C : Ctx} {ρ : Env} {x : _} : evE C (.str x) ρ = .ok (.str x, ρ) := by rw [evE] <;> rfl
theorem x_E_bl {C : Ctx} {ρ : Env} {b : _} : evE C (.bl b) ρ = .ok (.bl b, ρ) := by rw [evE] <;> rfl
theorem x_E_non {C : Ctx} {ρ : Env}  : evE C (.non ) ρ = .ok (.non, ρ) := by rw [evE] <;> rfl
theorem x_E_con {C : Ctx} {ρ : Env} {x : _} : evE C (.con x) ρ = R.of ((C.kn.cons x).map fun d => (d, ρ)) := by rw [evE] <;> rfl
theorem x_E_glb {C : Ctx} {ρ : Env} {x : _} : evE C (.glb x) ρ = .ok (.glb x, ρ) := by rw [evE] <;> rfl
theorem x_E_tup {C : Ctx} {ρ : Env} {es : _} : evE C (.tup es) ρ = (evEs C es ρ).bind fun p => R.of (if fulls p.1 && szOk p.1.length then some (.tup (frzs p.1), p.2) else none) := by rw [evE] <;> rfl
theorem x_E_lst {C : Ctx} {ρ : Env} {es : _} : evE C (.lst es) ρ = (evEs C es ρ).bind fun p => R.of (if szOk p.1.length then some (.lst true p.1, p.2) else none) := by rw [evE] <;> rfl
theorem x_E_bin {C : Ctx} {ρ : Env} {op : _} {a : _} {b : _} : evE C (.bin op a b) ρ = (refOf a (evE C a ρ) ρ).bind fun p => (refOf b (evE C b p.2) p.2).bind fun q => R.of ((opt2 (binD op) (p.1.get q.2) (q.1.get q.2)).map fun d => (d, q.2)) := by rw [evE] <;> rfl
theorem x_E_neg {C : Ctx} {ρ : Env} {a : _} : evE C (.neg a) ρ = (evE C a ρ).bind fun p => R.of ((asI p.1).map fun i => (.int (-i), p.2)) := by rw [evE] <;> rfl
theorem x_E_cmp {C : Ctx} {ρ : Env} {op : _} {a : _} {b : _} : evE C (.cmp op a b) ρ = (refOf a (evE C a ρ) ρ).bind fun p => (refOf b (evE C b p.2) p.2).bind fun q => R.of ((opt2 (cmpD op) (p.1.get q.2) (q.1.get q.2)).map fun c => (.bl c, q.2)) := by rw [evE] <;> rfl
theorem x_E_chain {C : Ctx} {ρ : Env} {op : _} {op' : _} {a : _} {b : _} {c : _} : evE C (.chain op op' a b c) ρ = (evE C a ρ).bind fun p => (evE C b p.2).bind fun q => (R.of (cmpD op p.1 q.1)).bind fun k => if k then (evE C c q.2).bind fun r => R.of ((cmpD op' q.1 r.1).map fun c => (.bl c, r.2)) else .ok (.bl false, q.2) := by rw [evE] <;> rfl
theorem x_E_andv {C : Ctx} {ρ : Env} {a : _} {b : _} : evE C (.andv a b) ρ = (evE C a ρ).bind fun p => (R.of (asB p.1)).bind fun k => if k then evE C b p.2 else .ok (.bl false, p.2) := by rw [evE] <;> rfl
theorem x_E_orv {C : Ctx} {ρ : Env} {a : _} {b : _} : evE C (.orv a b) ρ = (evE C a ρ).bind fun p => (R.of (asB p.1)).bind fun k => if k then .ok (.bl true, p.2) else evE C b p.2 := by rw [evE] <;> rfl
theorem x_E_notv {C : Ctx} {ρ : Env} {a : _} : evE C (.notv a) ρ = (evE C a ρ).bind fun p => R.of ((asB p.1).map fun b => (.bl !b, p.2)) := by rw [evE] <;> rfl
theorem x_E_ifx {C : Ctx} {ρ : Env} {t : _} {a : _} {b : _} : evE C (.ifx t a b) ρ = (evT C t ρ).bind fun p => if p.1 then evE C a p.2 else evE C b p.2 := by rw [evE] <;> rfl
theorem x_E_idx {C : Ctx} {ρ : Env} {a : _} {b : _} : evE C (.idx a b) ρ = (refOf a (evE C a ρ) ρ).bind fun p => (refOf b (evE C b p.2) p.2).bind fun q => R.of ((opt2 idxD (p.1.get q.2) (q.1.get q.2)).map fun d => (d, q.2)) := by rw [evE] <;> rfl
theorem x_E_slc {C : Ctx} {ρ : Env} {a : _} {lo : _} {hi : _} : evE C (.slc a lo hi) ρ = (refOf a (evE C a ρ) ρ).bind fun p => (evO C lo p.2).bind fun q => (evO C hi q.2).bind fun r => R.of (((p.1.get r.2).bind fun x => slcD x q.1 r.1).map fun d => (d, r.2)) := by rw [evE] <;> rfl
theorem x_E_slk {C : Ctx} {ρ : Env} {a : _} {lo : _} {hi : _} {k : _} : evE C (.slk a lo hi k) ρ = (refOf a (evE C a ρ) ρ).bind fun p => (evO C lo p.2).bind fun q => (evO C hi q.2).bind fun r => R.of (((p.1.get r.2).bind fun x => slkD k x q.1 r.1).map fun d => (d, r.2)) := by rw [evE] <;> rfl
theorem x_E_fld {C : Ctx} {ρ : Env} {e : _} {f : _} : evE C (.fld e f) ρ = (refOf e (evE C e ρ) ρ).bind fun p => R.of (((p.1.get p.2).bind (fldD C.kn f)).map fun d => (d, p.2)) := by rw [evE] <;> rfl
theorem x_E_isT {C : Ctx} {ρ : Env} {e : _} {T : _} : evE C (.isT e T) ρ = (refOf e (evE C e ρ) ρ).bind fun p => R.of (((p.1.get p.2).bind (isD T)).map fun b => (.bl b, p.2)) := by rw [evE] <;> rfl
theorem x_E_bi {C : Ctx} {ρ : Env} {b : _} {as : _} : evE C (.bi b as) ρ = (evRs C as ρ).bind fun p => R.of (((Ref.gets p.2 p.1).bind (biD b)).map fun d => (d, p.2)) := by rw [evE] <;> rfl
theorem x_Es_nil {C : Ctx} {ρ : Env}  : evEs C (.nil ) ρ = .ok ([], ρ) := by rw [evEs] <;> rfl
theorem x_Es_cons {C : Ctx} {ρ : Env} {e : _} {es : _} : evEs C (.cons e es) ρ = (evE C e ρ).bind fun p => (evEs C es p.2).map fun q => (p.1 :: q.1, q.2) := by rw [evEs] <;> rfl
theorem x_Rs_nil {C : Ctx} {ρ : Env}  : evRs C (.nil ) ρ = .ok ([], ρ) := by rw [evRs] <;> rfl
theorem x_Rs_cons {C : Ctx} {ρ : Env} {e : _} {es : _} : evRs C (.cons e es) ρ = (refOf e (evE C e ρ) ρ).bind fun p => (evRs C es p.2).map fun q => (p.1 :: q.1, q.2) := by rw [evRs] <;> rfl
theorem x_T_and {C : Ctx} {ρ : Env} {a : _} {b : _} : evT C (.and a b) ρ = (evT C a ρ).bind fun p => if p.1 then evT C b p.2 else .ok (false, p.2) := by rw [evT] <;> rfl
theorem x_T_or {C : Ctx} {ρ : Env} {a : _} {b : _} : evT C (.or a b) ρ = (evT C a ρ).bind fun p => if p.1 then .ok (true, p.2) else evT C b p.2 := by rw [evT] <;> rfl
theorem x_T_not {C : Ctx} {ρ : Env} {a : _} : evT C (.not a) ρ = (evT C a ρ).map fun p => (!p.1, p.2) := by rw [evT] <;> rfl
theorem x_T_cmp {C : Ctx} {ρ : Env} {op : _} {a : _} {b : _} : evT C (.cmp op a b) ρ = (refOf a (evE C a ρ) ρ).bind fun p => (refOf b (evE C b p.2) p.2).bind fun q => R.of ((opt2 (cmpD op) (p.1.get q.2) (q.1.get q.2)).map fun c => (c, q.2)) := by rw [evT] <;> rfl
theorem x_T_chain {C : Ctx} {ρ : Env} {op : _} {op' : _} {a : _} {b : _} {c : _} : evT C (.chain op op' a b c) ρ = (evE C a ρ).bind fun p => (evE C b p.2).bind fun q => (R.of (cmpD op p.1 q.1)).bind fun k => if k then (evE C c q.2).bind fun r => R.of ((cmpD op' q.1 r.1).map fun c => (c, r.2)) else .ok (false, q.2) := by rw [evT] <;> rfl
theorem x_T_val {C : Ctx} {ρ : Env} {e : _} : evT C (.val e) ρ = (refOf e (evE C e ρ) ρ).bind fun p => R.of (((p.1.get p.2).bind trD).map fun c => (c, p.2)) := by rw [evT] <;> rfl
theorem x_T_yes {C : Ctx} {ρ : Env}  : evT C (.yes ) ρ = .ok (true, ρ) := by rw [evT] <;> rfl
theorem x_O_none {C : Ctx} {ρ : Env}  : evO C (.none ) ρ = .ok (none, ρ) := by rw [evO] <;> rfl
theorem x_O_some {C : Ctx} {ρ : Env} {e : _} : evO C (.some e) ρ = (evE C e ρ).bind fun p => R.of ((asI p.1).map fun i => (some i, p.2)) := by rw [evO] <;> rfl
theorem x_I_seq {C : Ctx} {ρ : Env} {e : _} : evI C (.seq e) ρ = (evE C e ρ).bind fun p => R.of ((itSeq p.1).map fun ds => (ds, p.2)) := by rw [evI] <;> rfl
theorem x_I_rng1 {C : Ctx} {ρ : Env} {e : _} : evI C (.rng1 e) ρ = (evE C e ρ).bind fun p => R.of (((asI p.1).bind fun i => itRng 0 i).map fun ds => (ds, p.2)) := by rw [evI] <;> rfl
theorem x_I_rng2 {C : Ctx} {ρ : Env} {a : _} {b : _} : evI C (.rng2 a b) ρ = (evE C a ρ).bind fun p => (evE C b p.2).bind fun q => R.of (((asI p.1).bind fun i => (asI q.1).bind fun j => itRng i j).map fun ds => (ds, q.2)) := by rw [evI] <;> rfl
theorem x_I_enm {C : Ctx} {ρ : Env} {e : _} : evI C (.enm e) ρ = (evE C e ρ).bind fun p => R.of ((itEnm p.1).map fun ds => (ds, p.2)) := by rw [evI] <;> rfl
theorem x_I_zps {C : Ctx} {ρ : Env} {a : _} {b : _} : evI C (.zps a b) ρ = (evE C a ρ).bind fun p => (evE C b p.2).bind fun q => R.of ((itZps p.1 q.1).map fun ds => (ds, q.2)) := by rw [evI] <;> rfl
theorem x_I_zip {C : Ctx} {ρ : Env} {a : _} {b : _} : evI C (.zip a b) ρ = (evE C a ρ).bind fun p => (evE C b p.2).bind fun q => R.of ((itZip p.1 q.1).map fun ds => (ds, q.2)) := by rw [evI] <;> rfl
theorem x_S_asg {C : Ctx} {ρ : Env} {g : _} {e : _} : evS C (.asg g e) ρ = (evE C e ρ).bind fun p => R.of ((assign g p.1 p.2).map .nx) := by rw [evS] <;> rfl
theorem x_S_par {C : Ctx} {ρ : Env} {i : _} {j : _} {a : _} {b : _} : evS C (.par i j a b) ρ = (evE C a ρ).bind fun p => (evE C b p.2).bind fun q => R.of (if i < q.2.length && j < q.2.length then some (.nx ((q.2.set i p.1).set j q.1)) else none) := by rw [evS] <;> rfl
theorem x_S_aug {C : Ctx} {ρ : Env} {i : _} {op : _} {e : _} : evS C (.aug i op e) ρ = (R.of (slotE ρ i)).bind fun _ => (evE C e ρ).bind fun p => R.of ((opt2 (augD op) (slotE p.2 i) (some p.1)).map fun d => .nx (p.2.set i d)) := by rw [evS] <;> rfl
theorem x_S_setI {C : Ctx} {ρ : Env} {e : _} {s : _} {i : _} : evS C (.setI e s i) ρ = (evE C e ρ).bind fun p => (R.of (slotE p.2 s)).bind fun _ => (evE C i p.2).bind fun q => R.of (((asI q.1).bind fun k => setD (slotE q.2 s) k p.1).map fun d => .nx (q.2.set s d)) := by rw [evS] <;> rfl
theorem x_S_app {C : Ctx} {ρ : Env} {i : _} {e : _} : evS C (.app i e) ρ = (R.of (ownL (slotE ρ i))).bind fun _ => (evE C e ρ).bind fun p => R.of ((appD (slotE p.2 i) p.1).map fun d => .nx (p.2.set i d)) := by rw [evS] <;> rfl
theorem x_S_setF {C : Ctx} {ρ : Env} {e : _} {s : _} {f : _} : evS C (.setF e s f) ρ = (evE C e ρ).bind fun p => (R.of (slotE p.2 s)).bind fun _ => R.of (((slotE p.2 s).bind (setFD C.kn f p.1)).map fun d => .nx (p.2.set s d)) := by rw [evS] <;> rfl
theorem x_S_drop {C : Ctx} {ρ : Env} {e : _} : evS C (.drop e) ρ = (evE C e ρ).map fun p => .nx p.2 := by rw [evS] <;> rfl
theorem x_S_ret {C : Ctx} {ρ : Env} {e : _} : evS C (.ret e) ρ = (evE C e ρ).map fun p => .ret p.1 p.2 := by rw [evS] <;> rfl
theorem x_S_retN {C : Ctx} {ρ : Env}  : evS C (.retN ) ρ = .ok (.ret .non ρ) := by rw [evS] <;> rfl
theorem x_S_pass {C : Ctx} {ρ : Env}  : evS C (.pass ) ρ = .ok (.nx ρ) := by rw [evS] <;> rfl
theorem x_S_brk {C : Ctx} {ρ : Env}  : evS C (.brk ) ρ = .ok (.bk ρ) := by rw [evS] <;> rfl
theorem x_S_cont {C : Ctx} {ρ : Env}  : evS C (.cont ) ρ = .ok (.ct ρ) := by rw [evS] <;> rfl
theorem x_S_ife {C : Ctx} {ρ : Env} {t : _} {a : _} {b : _} : evS C (.ife t a b) ρ = (evT C t ρ).bind fun p => if p.1 then evSs C a p.2 else evSs C b p.2 := by rw [evS] <;> rfl
theorem rf_var_ {i : Nat} {r : R (D × Env)} {ρ : Env} : refOf (.var i) r ρ = R.of ((slotE ρ i).map fun _ => (Ref.slot i, ρ)) := rfl
theorem rf_mv_ {a0 : _} {r : R (D × Env)} {ρ : Env} : refOf (.mv a0) r ρ = r.map fun p => (.tmp p.1, p.2) := rfl
theorem rf_int_ {a0 : _} {r : R (D × Env)} {ρ : Env} : refOf (.int a0) r ρ = r.map fun p => (.tmp p.1, p.2) := rfl
theorem rf_str_ {a0 : _} {r : R (D × Env)} {ρ : Env} : refOf (.str a0) r ρ = r.map fun p => (.tmp p.1, p.2) := rfl
theorem rf_bl_ {a0 : _} {r : R (D × Env)} {ρ : Env} : refOf (.bl a0) r ρ = r.map fun p => (.tmp p.1, p.2) := rfl
theorem rf_non_  {r : R (D × Env)} {ρ : Env} : refOf (.non ) r ρ = r.map fun p => (.tmp p.1, p.2) := rfl
theorem rf_con_ {a0 : _} {r : R (D × Env)} {ρ : Env} : refOf (.con a0) r ρ = r.map fun p => (.tmp p.1, p.2) := rfl
theorem rf_glb_ {a0 : _} {r : R (D × Env)} {ρ : Env} : refOf (.glb a0) r ρ = r.map fun p => (.tmp p.1, p.2) := rfl
theorem rf_tup_ {a0 : _} {r : R (D × Env)} {ρ : Env} : refOf (.tup a0) r ρ = r.map fun p => (.tmp p.1, p.2) := rfl
theorem rf_lst_ {a0 : _} {r : R (D × Env)} {ρ : Env} : refOf (.lst a0) r ρ = r.map fun p => (.tmp p.1, p.2) := rfl
theorem rf_bin_ {a0 : _} {a1 : _} {a2 : _} {r : R (D × Env)} {ρ : Env} : refOf (.bin a0 a1 a2) r ρ = r.map fun p => (.tmp p.1, p.2) := rfl
theorem rf_neg_ {a0 : _} {r : R (D × Env)} {ρ : Env} : refOf (.neg a0) r ρ = r.map fun p => (.tmp p.1, p.2) := rfl
theorem rf_cmp_ {a0 : _} {a1 : _} {a2 : _} {r : R (D × Env)} {ρ : Env} : refOf (.cmp a0 a1 a2) r ρ = r.map fun p => (.tmp p.1, p.2) := rfl
theorem rf_chain_ {a0 : _} {a1 : _} {a2 : _} {a3 : _} {a4 : _} {r : R (D × Env)} {ρ : Env} : refOf (.chain a0 a1 a2 a3 a4) r ρ = r.map fun p => (.tmp p.1, p.2) := rfl
theorem rf_andv_ {a0 : _} {a1 : _} {r : R (D × Env)} {ρ : Env} : refOf (.andv a0 a1) r ρ = r.map fun p => (.tmp p.1, p.2) := rfl
theorem rf_orv_ {a0 : _} {a1 : _} {r : R (D × Env)} {ρ : Env} : refOf (.orv a0 a1) r ρ = r.map fun p => (.tmp p.1, p.2) := rfl
theorem rf_notv_ {a0 : _} {r : R (D × Env)} {ρ : Env} : refOf (.notv a0) r ρ = r.map fun p => (.tmp p.1, p.2) := rfl
theorem rf_ifx_ {a0 : _} {a1 : _} {a2 : _} {r : R (D × Env)} {ρ : Env} : refOf (.ifx a0 a1 a2) r ρ = r.map fun p => (.tmp p.1, p.2) := rfl
theorem rf_idx_ {a0 : _} {a1 : _} {r : R (D × Env)} {ρ : Env} : refOf (.idx a0 a1) r ρ = r.map fun p => (.tmp p.1, p.2) := rfl
theorem rf_slc_ {a0 : _} {a1 : _} {a2 : _} {r : R (D × Env)} {ρ : Env} : refOf (.slc a0 a1 a2) r ρ = r.map fun p => (.tmp p.1, p.2) := rfl
theorem rf_slk_ {a0 : _} {a1 : _} {a2 : _} {a3 : _} {r : R (D × Env)} {ρ : Env} : refOf (.slk a0 a1 a2 a3) r ρ = r.map fun p => (.tmp p.1, p.2) := rfl
theorem rf_call_ {a0 : _} {a1 : _} {r : R (D × Env)} {ρ : Env} : refOf (.call a0 a1) r ρ = r.map fun p => (.tmp p.1, p.2) := rfl
theorem rf_fld_ {a0 : _} {a1 : _} {r : R (D × Env)} {ρ : Env} : refOf (.fld a0 a1) r ρ = r.map fun p => (.tmp p.1, p.2) := rfl
theorem rf_meth_ {a0 : _} {a1 : _} {a2 : _} {r : R (D × Env)} {ρ : Env} : refOf (.meth a0 a1 a2) r ρ = r.map fun p => (.tmp p.1, p.2) := rfl
theorem rf_mk_ {a0 : _} {a1 : _} {r : R (D × Env)} {ρ : Env} : refOf (.mk a0 a1) r ρ = r.map fun p => (.tmp p.1, p.2) := rfl
theorem rf_callK_ {a0 : _} {a1 : _} {a2 : _} {r : R (D × Env)} {ρ : Env} : refOf (.callK a0 a1 a2) r ρ = r.map fun p => (.tmp p.1, p.2) := rfl
theorem rf_mkK_ {a0 : _} {a1 : _} {a2 : _} {r : R (D × Env)} {ρ : Env} : refOf (.mkK a0 a1 a2) r ρ = r.map fun p => (.tmp p.1, p.2) := rfl
theorem rf_bi_ {a0 : _} {a1 : _} {r : R (D × Env)} {ρ : Env} : refOf (.bi a0 a1) r ρ = r.map fun p => (.tmp p.1, p.2) := rfl
theorem rf_isT_ {a0 : _} {a1 : _} {r : R (D × Env)} {ρ : Env} : refOf (.isT a0 a1) r ρ = r.map fun p => (.tmp p.1, p.2) := rfl
theorem rf_lc_ {a0 : _} {a1 : _} {a2 : _} {a3 : _} {a4 : _} {r : R (D × Env)} {ρ : Env} : refOf (.lc a0 a1 a2 a3 a4) r ρ = r.map fun p => (.tmp p.1, p.2) := rfl
theorem rf_lc2_ {a0 : _} {a1 : _} {a2 : _} {a3 : _} {a4 : _} {a5 : _} {a6 : _} {a7 : _} {a8 : _} {r : R (D × Env)} {ρ : Env} : refOf (.lc2 a0 a1 a2 a3 a4 a5 a6 a7 a8) r ρ = r.map fun p => (.tmp p.1, p.2) := rfl
/-- what is not missing -/
def nud : D → Option D
  | .undef => none
  | d => some d
theorem slot_eq {ρ : Env} {i : Nat} : slotE ρ i = (ρ[i]?).bind nud := by
  unfold slotE
  cases ρ[i]? with
  | none => rfl
  | some d => cases d <;> rfl
theorem nud_undef : nud .undef = none := rfl
theorem varE_eq {i : Nat} {ρ : Env} : varE i ρ = ((ρ[i]?).bind nud).bind fun d => if isFz d = true then some (d, ρ) else if full d = true then some (frz d, ρ.set i (frz d)) else none := by
  unfold varE
  rw [slot_eq]
  cases (ρ[i]?).bind nud <;> rfl
def isU : Option D → Bool
  | some .undef => true
  | _ => false
theorem lend_nil {ρ : Env} : lend [] ρ = some ([], ρ) := rfl
theorem lend_tmp {d : D} {rs : List Ref} {ρ : Env} : lend (.tmp d :: rs) ρ = (lend rs ρ).map fun p => (d :: p.1, p.2) := rfl
theorem lend_slot {i : Nat} {rs : List Ref} {ρ : Env} : lend (.slot i :: rs) ρ = ((ρ[i]?).bind nud).bind fun d => if isFz d = true then (lend rs ρ).map fun p => (d :: p.1, p.2) else (lend rs (ρ.set i .undef)).map fun p => (d :: p.1, p.2) := by
  rw [← slot_eq, lend]
  cases slotE ρ i with
  | none => rfl
  | some d => rfl
theorem back_nil {ds : List D} {ρ : Env} : back [] ds ρ = ρ := by cases ds <;> rfl
theorem back_tmp {d e : D} {rs : List Ref} {ds : List D} {ρ : Env} : back (.tmp d :: rs) (e :: ds) ρ = back rs ds ρ := rfl
theorem back_slot {i : Nat} {d : D} {rs : List Ref} {ds : List D} {ρ : Env} : back (.slot i :: rs) (d :: ds) ρ = if isU ρ[i]? = true then back rs ds (ρ.set i d) else back rs ds ρ := by
  rw [back]
  cases h : ρ[i]? with
  | none => rfl
  | some e => cases e <;> rfl
theorem isU_u : isU (some .undef) = true := rfl
theorem opt2_ss {β : Type} {f : D → D → Option β} {x y : D} : opt2 f (some x) (some y) = f x y := rfl
theorem get_slot {i : Nat} {ρ : Env} : Ref.get ρ (.slot i) = (ρ[i]?).bind nud := slot_eq
theorem get_tmp {d : D} {ρ : Env} : Ref.get ρ (.tmp d) = some d := rfl
theorem gets_nil {ρ : Env} : Ref.gets ρ [] = some [] := rfl
theorem gets_cons {r : Ref} {rs : List Ref} {ρ : Env} : Ref.gets ρ (r :: rs) = (r.get ρ).bind fun d => (Ref.gets ρ rs).bind fun ds => some (d :: ds) := by
  show (match r.get ρ, Ref.gets ρ rs with | some d, some ds => some (d :: ds) | _, _ => none) = _
  cases r.get ρ <;> cases Ref.gets ρ rs <;> rfl
theorem endD_0 {asg : List Nat} {i : Nat} {ρ : Env} : endD asg i 0 ρ = [] := by cases ρ <;> rfl
theorem endD_s {asg : List Nat} {i n : Nat} {d : D} {ρ : Env} : endD asg i (n + 1) (d :: ρ) = (if (asg.any fun j => j == i) = true then .undef else d) :: endD asg (i + 1) n ρ := by
  show (if i ∈ asg then D.undef else d) :: endD asg (i + 1) n ρ = _
  congr 1
  have e : (asg.any fun j => j == i) = decide (i ∈ asg) := by
    rw [Bool.eq_iff_iff, List.any_eq_true, decide_eq_true_iff]
    exact ⟨fun ⟨j, h1, h2⟩ => (beq_iff_eq.mp h2) ▸ h1, fun h => ⟨i, h, beq_self_eq_true i⟩⟩
  rw [e]
  by_cases h : i ∈ asg
  · rw [if_pos h, if_pos (decide_eq_true h)]
  · rw [if_neg h, if_neg (by simpa using h)]
theorem as_name {i : Nat} {d : D} {ρ : Env} : Cs.assign (.name i) d ρ = if i < ρ.length then some (ρ.set i d) else none := by rw [Cs.assign]
theorem as_tup {gs : CGs} {d : D} {ρ : Env} : Cs.assign (.tup gs) d ρ = (seqOf d).bind fun ds => if isFzs ds = true then assigns gs ds ρ else none := by
  rw [Cs.assign]
  cases seqOf d <;> rfl
theorem as_star {n i : Nat} {gs : CGs} {d : D} {ρ : Env} : Cs.assign (.star n i gs) d ρ = (seqOf d).bind fun ds => if (isFzs ds && (decide (i < n) && decide (n ≤ ds.length + 1))) = true then assigns gs (ds.take i ++ [.lst true ((ds.drop i).take (ds.length + 1 - n))] ++ (ds.drop i).drop (ds.length + 1 - n)) ρ else none := by
  rw [Cs.assign]
  cases seqOf d <;> rfl
theorem as_nil {ρ : Env} : assigns .nil [] ρ = some ρ := by rw [assigns]
theorem as_cons {g : CG} {gs : CGs} {d : D} {ds : List D} {ρ : Env} : assigns (.cons g gs) (d :: ds) ρ = (Cs.assign g d ρ).bind (assigns gs ds) := by rw [assigns]
theorem so_tup {xs : List D} : seqOf (.tup xs) = some xs := rfl
theorem so_lst {o : Bool} {xs : List D} : seqOf (.lst o xs) = some xs := rfl
theorem so_lkd {xs : List D} : seqOf (.lkd xs) = some xs := rfl
theorem nl_lst {o : Bool} {xs : List D} : nList (.lst o xs) = some xs := rfl
theorem nl_lkd {xs : List D} : nList (.lkd xs) = some xs := rfl
theorem asI_int {i : Int} : asI (.int i) = some i := rfl
theorem asB_bl {b : Bool} : asB (.bl b) = some b := rfl
theorem fzO_some_ {d : D} : fzO (some d) = if isFz d = true then some d else none := rfl
theorem iy_tup {xs : List D} {i : Int} : idxD (.tup xs) (.int i) = fzO (atI xs i) := rfl
theorem iy_lst {o : Bool} {xs : List D} {i : Int} : idxD (.lst o xs) (.int i) = fzO (atI xs i) := rfl
theorem iy_lkd {xs : List D} {i : Int} : idxD (.lkd xs) (.int i) = fzO (atI xs i) := rfl
theorem at_0 {α : Type} {x : α} {xs : List α} : atI (x :: xs) 0 = some x := by
  unfold atI ixN; simp
theorem at_1 {α : Type} {x y : α} {xs : List α} : atI (x :: y :: xs) 1 = some y := by
  unfold atI ixN; simp; split
  · rfl
  · omega
theorem at_2 {α : Type} {x y z : α} {xs : List α} : atI (x :: y :: z :: xs) 2 = some z := by
  unfold atI ixN; simp; split
  · rfl
  · omega
theorem at_3 {α : Type} {x y z w : α} {xs : List α} : atI (x :: y :: z :: w :: xs) 3 = some w := by
  unfold atI ixN; simp; split
  · rfl
  · omega
theorem guard_eq {b : Bool} {d : D} : guardL b d = if b = true then some d else none := rfl
theorem tn_nx {J : Env → Prop} {P : Fl → Prop} {ρ : Env} : Tn J P (.nx ρ) = J ρ := rfl
theorem tn_ct {J : Env → Prop} {P : Fl → Prop} {ρ : Env} : Tn J P (.ct ρ) = J ρ := rfl
theorem tn_bk {J : Env → Prop} {P : Fl → Prop} {ρ : Env} : Tn J P (.bk ρ) = P (.nx ρ) := rfl
theorem tn_ret {J : Env → Prop} {P : Fl → Prop} {d : D} {ρ : Env} : Tn J P (.ret d ρ) = P (.ret d ρ) := rfl
theorem isT_int {T : TN} {i : Int} : isD T (.int i) = some (decide (T = .int)) := rfl
theorem isT_bl {T : TN} {b : Bool} : isD T (.bl b) = some (decide (T = .bool) || decide (T = .int)) := rfl
theorem isT_str {T : TN} {x : Str} : isD T (.str x) = some (decide (T = .str)) := rfl
theorem isT_tup {T : TN} {xs : List D} : isD T (.tup xs) = some (decide (T = .tuple)) := rfl
theorem isT_lst {T : TN} {o : Bool} {xs : List D} : isD T (.lst o xs) = some (decide (T = .list)) := rfl
theorem tr_bl {b : Bool} : trD (.bl b) = some b := rfl
theorem tr_int {i : Int} : trD (.int i) = some (i != 0) := rfl
theorem itS_eq {d : D} : itSeq d = (seqOf d).bind fun ds => if fulls ds = true then some (frzs ds) else none := rfl
theorem nud_non  : nud (.non ) = some (.non ) := rfl
theorem isU_non  : isU (some (.non )) = false := rfl
theorem nud_bl {a0 : _} : nud (.bl a0) = some (.bl a0) := rfl
theorem isU_bl {a0 : _} : isU (some (.bl a0)) = false := rfl
theorem nud_int {a0 : _} : nud (.int a0) = some (.int a0) := rfl
theorem isU_int {a0 : _} : isU (some (.int a0)) = false := rfl
theorem nud_str {a0 : _} : nud (.str a0) = some (.str a0) := rfl
theorem isU_str {a0 : _} : isU (some (.str a0)) = false := rfl
theorem nud_tup {a0 : _} : nud (.tup a0) = some (.tup a0) := rfl
theorem isU_tup {a0 : _} : isU (some (.tup a0)) = false := rfl
theorem nud_lst {a0 : _} {a1 : _} : nud (.lst a0 a1) = some (.lst a0 a1) := rfl
theorem isU_lst {a0 : _} {a1 : _} : isU (some (.lst a0 a1)) = false := rfl
theorem nud_lkd {a0 : _} : nud (.lkd a0) = some (.lkd a0) := rfl
theorem isU_lkd {a0 : _} : isU (some (.lkd a0)) = false := rfl
theorem nud_dK {a0 : _} {a1 : _} {a2 : _} : nud (.dK a0 a1 a2) = some (.dK a0 a1 a2) := rfl
theorem isU_dK {a0 : _} {a1 : _} {a2 : _} : isU (some (.dK a0 a1 a2)) = false := rfl
theorem nud_dT {a0 : _} {a1 : _} {a2 : _} : nud (.dT a0 a1 a2) = some (.dT a0 a1 a2) := rfl
theorem isU_dT {a0 : _} {a1 : _} {a2 : _} : isU (some (.dT a0 a1 a2)) = false := rfl
theorem nud_ins {a0 : _} {a1 : _} {a2 : _} {a3 : _} : nud (.ins a0 a1 a2 a3) = some (.ins a0 a1 a2 a3) := rfl
theorem isU_ins {a0 : _} {a1 : _} {a2 : _} {a3 : _} : isU (some (.ins a0 a1 a2 a3)) = false := rfl
theorem nud_glb {a0 : _} : nud (.glb a0) = some (.glb a0) := rfl
theorem isU_glb {a0 : _} : isU (some (.glb a0)) = false := rfl
theorem g_0 {α : Type} {a0 : α} {l : List α} : (a0 :: l)[0]? = some a0 := rfl
theorem u_0 {α : Type} {a0 : α} {l : List α} {y : α} : (a0 :: l).set 0 y = y :: l := rfl
theorem g_1 {α : Type} {a0 : α} {a1 : α} {l : List α} : (a0 :: a1 :: l)[1]? = some a1 := rfl
theorem u_1 {α : Type} {a0 : α} {a1 : α} {l : List α} {y : α} : (a0 :: a1 :: l).set 1 y = a0 :: y :: l := rfl
theorem g_2 {α : Type} {a0 : α} {a1 : α} {a2 : α} {l : List α} : (a0 :: a1 :: a2 :: l)[2]? = some a2 := rfl
theorem u_2 {α : Type} {a0 : α} {a1 : α} {a2 : α} {l : List α} {y : α} : (a0 :: a1 :: a2 :: l).set 2 y = a0 :: a1 :: y :: l := rfl
theorem g_3 {α : Type} {a0 : α} {a1 : α} {a2 : α} {a3 : α} {l : List α} : (a0 :: a1 :: a2 :: a3 :: l)[3]? = some a3 := rfl
theorem u_3 {α : Type} {a0 : α} {a1 : α} {a2 : α} {a3 : α} {l : List α} {y : α} : (a0 :: a1 :: a2 :: a3 :: l).set 3 y = a0 :: a1 :: a2 :: y :: l := rfl
theorem g_4 {α : Type} {a0 : α} {a1 : α} {a2 : α} {a3 : α} {a4 : α} {l : List α} : (a0 :: a1 :: a2 :: a3 :: a4 :: l)[4]? = some a4 := rfl
theorem u_4 {α : Type} {a0 : α} {a1 : α} {a2 : α} {a3 : α} {a4 : α} {l : List α} {y : α} : (a0 :: a1 :: a2 :: a3 :: a4 :: l).set 4 y = a0 :: a1 :: a2 :: a3 :: y :: l := rfl
theorem g_5 {α : Type} {a0 : α} {a1 : α} {a2 : α} {a3 : α} {a4 : α} {a5 : α} {l : List α} : (a0 :: a1 :: a2 :: a3 :: a4 :: a5 :: l)[5]? = some a5 := rfl
theorem u_5 {α : Type} {a0 : α} {a1 : α} {a2 : α} {a3 : α} {a4 : α} {a5 : α} {l : List α} {y : α} : (a0 :: a1 :: a2 :: a3 :: a4 :: a5 :: l).set 5 y = a0 :: a1 :: a2 :: a3 :: a4 :: y :: l := rfl
theorem g_6 {α : Type} {a0 : α} {a1 : α} {a2 : α} {a3 : α} {a4 : α} {a5 : α} {a6 : α} {l : List α} : (a0 :: a1 :: a2 :: a3 :: a4 :: a5 :: a6 :: l)[6]? = some a6 := rfl
theorem u_6 {α : Type} {a0 : α} {a1 : α} {a2 : α} {a3 : α} {a4 : α} {a5 : α} {a6 : α} {l : List α} {y : α} : (a0 :: a1 :: a2 :: a3 :: a4 :: a5 :: a6 :: l).set 6 y = a0 :: a1 :: a2 :: a3 :: a4 :: a5 :: y :: l := rfl
theorem g_7 {α : Type} {a0 : α} {a1 : α} {a2 : α} {a3 : α} {a4 : α} {a5 : α} {a6 : α} {a7 : α} {l : List α} : (a0 :: a1 :: a2 :: a3 :: a4 :: a5 :: a6 :: a7 :: l)[7]? = some a7 := rfl
theorem u_7 {α : Type} {a0 : α} {a1 : α} {a2 : α} {a3 : α} {a4 : α} {a5 : α} {a6 : α} {a7 : α} {l : List α} {y : α} : (a0 :: a1 :: a2 :: a3 :: a4 :: a5 :: a6 :: a7 :: l).set 7 y = a0 :: a1 :: a2 :: a3 :: a4 :: a5 :: a6 :: y :: l := rfl
theorem g_8 {α : Type} {a0 : α} {a1 : α} {a2 : α} {a3 : α} {a4 : α} {a5 : α} {a6 : α} {a7 : α} {a8 : α} {l : List α} : (a0 :: a1 :: a2 :: a3 :: a4 :: a5 :: a6 :: a7 :: a8 :: l)[8]? = some a8 := rfl
theorem u_8 {α : Type} {a0 : α} {a1 : α} {a2 : α} {a3 : α} {a4 : α} {a5 : α} {a6 : α} {a7 : α} {a8 : α} {l : List α} {y : α} : (a0 :: a1 :: a2 :: a3 :: a4 :: a5 :: a6 :: a7 :: a8 :: l).set 8 y = a0 :: a1 :: a2 :: a3 :: a4 :: a5 :: a6 :: a7 :: y :: l := rfl
theorem g_9 {α : Type} {a0 : α} {a1 : α} {a2 : α} {a3 : α} {a4 : α} {a5 : α} {a6 : α} {a7 : α} {a8 : α} {a9 : α} {l : List α} : (a0 :: a1 :: a2 :: a3 :: a4 :: a5 :: a6 :: a7 :: a8 :: a9 :: l)[9]? = some a9 := rfl
theorem u_9 {α : Type} {a0 : α} {a1 : α} {a2 : α} {a3 : α} {a4 : α} {a5 : α} {a6 : α} {a7 : α} {a8 : α} {a9 : α} {l : List α} {y : α} : (a0 :: a1 :: a2 :: a3 :: a4 :: a5 :: a6 :: a7 :: a8 :: a9 :: l).set 9 y = a0 :: a1 :: a2 :: a3 :: a4 :: a5 :: a6 :: a7 :: a8 :: y :: l := rfl
theorem g_10 {α : Type} {a0 : α} {a1 : α} {a2 : α} {a3 : α} {a4 : α} {a5 : α} {a6 : α} {a7 : α} {a8 : α} {a9 : α} {a10 : α} {l : List α} : (a0 :: a1 :: a2 :: a3 :: a4 :: a5 :: a6 :: a7 :: a8 :: a9 :: a10 :: l)[10]? = some a10 := rfl
theorem u_10 {α : Type} {a0 : α} {a1 : α} {a2 : α} {a3 : α} {a4 : α} {a5 : α} {a6 : α} {a7 : α} {a8 : α} {a9 : α} {a10 : α} {l : List α} {y : α} : (a0 :: a1 :: a2 :: a3 :: a4 :: a5 :: a6 :: a7 :: a8 :: a9 :: a10 :: l).set 10 y = a0 :: a1 :: a2 :: a3 :: a4 :: a5 :: a6 :: a7 :: a8 :: a9 :: y :: l := rfl
theorem g_11 {α : Type} {a0 : α} {a1 : α} {a2 : α} {a3 : α} {a4 : α} {a5 : α} {a6 : α} {a7 : α} {a8 : α} {a9 : α} {a10 : α} {a11 : α} {l : List α} : (a0 :: a1 :: a2 :: a3 :: a4 :: a5 :: a6 :: a7 :: a8 :: a9 :: a10 :: a11 :: l)[11]? = some a11 := rfl
theorem u_11 {α : Type} {a0 : α} {a1 : α} {a2 : α} {a3 : α} {a4 : α} {a5 : α} {a6 : α} {a7 : α} {a8 : α} {a9 : α} {a10 : α} {a11 : α} {l : List α} {y : α} : (a0 :: a1 :: a2 :: a3 :: a4 :: a5 :: a6 :: a7 :: a8 :: a9 :: a10 :: a11 :: l).set 11 y = a0 :: a1 :: a2 :: a3 :: a4 :: a5 :: a6 :: a7 :: a8 :: a9 :: a10 :: y :: l := rfl
theorem g_12 {α : Type} {a0 : α} {a1 : α} {a2 : α} {a3 : α} {a4 : α} {a5 : α} {a6 : α} {a7 : α} {a8 : α} {a9 : α} {a10 : α} {a11 : α} {a12 : α} {l : List α} : (a0 :: a1 :: a2 :: a3 :: a4 :: a5 :: a6 :: a7 :: a8 :: a9 :: a10 :: a11 :: a12 :: l)[12]? = some a12 := rfl
theorem u_12 {α : Type} {a0 : α} {a1 : α} {a2 : α} {a3 : α} {a4 : α} {a5 : α} {a6 : α} {a7 : α} {a8 : α} {a9 : α} {a10 : α} {a11 : α} {a12 : α} {l : List α} {y : α} : (a0 :: a1 :: a2 :: a3 :: a4 :: a5 :: a6 :: a7 :: a8 :: a9 :: a10 :: a11 :: a12 :: l).set 12 y = a0 :: a1 :: a2 :: a3 :: a4 :: a5 :: a6 :: a7 :: a8 :: a9 :: a10 :: a11 :: y :: l := rfl
theorem g_13 {α : Type} {a0 : α} {a1 : α} {a2 : α} {a3 : α} {a4 : α} {a5 : α} {a6 : α} {a7 : α} {a8 : α} {a9 : α} {a10 : α} {a11 : α} {a12 : α} {a13 : α} {l : List α} : (a0 :: a1 :: a2 :: a3 :: a4 :: a5 :: a6 :: a7 :: a8 :: a9 :: a10 :: a11 :: a12 :: a13 :: l)[13]? = some a13 := rfl
theorem u_13 {α : Type} {a0 : α} {a1 : α} {a2 : α} {a3 : α} {a4 : α} {a5 : α} {a6 : α} {a7 : α} {a8 : α} {a9 : α} {a10 : α} {a11 : α} {a12 : α} {a13 : α} {l : List α} {y : α} : (a0 :: a1 :: a2 :: a3 :: a4 :: a5 :: a6 :: a7 :: a8 :: a9 :: a10 :: a11 :: a12 :: a13 :: l).set 13 y = a0 :: a1 :: a2 :: a3 :: a4 :: a5 :: a6 :: a7 :: a8 :: a9 :: a10 :: a11 :: a12 :: y :: l := rfl
theorem g_14 {α : Type} {a0 : α} {a1 : α} {a2 : α} {a3 : α} {a4 : α} {a5 : α} {a6 : α} {a7 : α} {a8 : α} {a9 : α} {a10 : α} {a11 : α} {a12 : α} {a13 : α} {a14 : α} {l : List α} : (a0 :: a1 :: a2 :: a3 :: a4 :: a5 :: a6 :: a7 :: a8 :: a9 :: a10 :: a11 :: a12 :: a13 :: a14 :: l)[14]? = some a14 := rfl
theorem u_14 {α : Type} {a0 : α} {a1 : α} {a2 : α} {a3 : α} {a4 : α} {a5 : α} {a6 : α} {a7 : α} {a8 : α} {a9 : α} {a10 : α} {a11 : α} {a12 : α} {a13 : α} {a14 : α} {l : List α} {y : α} : (a0 :: a1 :: a2 :: a3 :: a4 :: a5 :: a6 :: a7 :: a8 :: a9 :: a10 :: a11 :: a12 :: a13 :: a14 :: l).set 14 y = a0 :: a1 :: a2 :: a3 :: a4 :: a5 :: a6 :: a7 :: a8 :: a9 :: a10 :: a11 :: a12 :: a13 :: y :: l := rfl
theorem g_15 {α : Type} {a0 : α} {a1 : α} {a2 : α} {a3 : α} {a4 : α} {a5 : α} {a6 : α} {a7 : α} {a8 : α} {a9 : α} {a10 : α} {a11 : α} {a12 : α} {a13 : α} {a14 : α} {a15 : α} {l : List α} : (a0 :: a1 :: a2 :: a3 :: a4 :: a5 :: a6 :: a7 :: a8 :: a9 :: a10 :: a11 :: a12 :: a13 :: a14 :: a15 :: l)[15]? = some a15 := rfl
theorem u_15 {α : Type} {a0 : α} {a1 : α} {a2 : α} {a3 : α} {a4 : α} {a5 : α} {a6 : α} {a7 : α} {a8 : α} {a9 : α} {a10 : α} {a11 : α} {a12 : α} {a13 : α} {a14 : α} {a15 : α} {l : List α} {y : α} : (a0 :: a1 :: a2 :: a3 :: a4 :: a5 :: a6 :: a7 :: a8 :: a9 :: a10 :: a11 :: a12 :: a13 :: a14 :: a15 :: l).set 15 y = a0 :: a1 :: a2 :: a3 :: a4 :: a5 :: a6 :: a7 :: a8 :: a9 :: a10 :: a11 :: a12 :: a13 :: a14 :: y :: l := rfl
theorem g_16 {α : Type} {a0 : α} {a1 : α} {a2 : α} {a3 : α} {a4 : α} {a5 : α} {a6 : α} {a7 : α} {a8 : α} {a9 : α} {a10 : α} {a11 : α} {a12 : α} {a13 : α} {a14 : α} {a15 : α} {a16 : α} {l : List α} : (a0 :: a1 :: a2 :: a3 :: a4 :: a5 :: a6 :: a7 :: a8 :: a9 :: a10 :: a11 :: a12 :: a13 :: a14 :: a15 :: a16 :: l)[16]? = some a16 := rfl
theorem u_16 {α : Type} {a0 : α} {a1 : α} {a2 : α} {a3 : α} {a4 : α} {a5 : α} {a6 : α} {a7 : α} {a8 : α} {a9 : α} {a10 : α} {a11 : α} {a12 : α} {a13 : α} {a14 : α} {a15 : α} {a16 : α} {l : List α} {y : α} : (a0 :: a1 :: a2 :: a3 :: a4 :: a5 :: a6 :: a7 :: a8 :: a9 :: a10 :: a11 :: a12 :: a13 :: a14 :: a15 :: a16 :: l).set 16 y = a0 :: a1 :: a2 :: a3 :: a4 :: a5 :: a6 :: a7 :: a8 :: a9 :: a10 :: a11 :: a12 :: a13 :: a14 :: a15 :: y :: l := rfl
theorem g_17 {α : Type} {a0 : α} {a1 : α} {a2 : α} {a3 : α} {a4 : α} {a5 : α} {a6 : α} {a7 : α} {a8 : α} {a9 : α} {a10 : α} {a11 : α} {a12 : α} {a13 : α} {a14 : α} {a15 : α} {a16 : α} {a17 : α} {l : List α} : (a0 :: a1 :: a2 :: a3 :: a4 :: a5 :: a6 :: a7 :: a8 :: a9 :: a10 :: a11 :: a12 :: a13 :: a14 :: a15 :: a16 :: a17 :: l)[17]? = some a17 := rfl
theorem u_17 {α : Type} {a0 : α} {a1 : α} {a2 : α} {a3 : α} {a4 : α} {a5 : α} {a6 : α} {a7 : α} {a8 : α} {a9 : α} {a10 : α} {a11 : α} {a12 : α} {a13 : α} {a14 : α} {a15 : α} {a16 : α} {a17 : α} {l : List α} {y : α} : (a0 :: a1 :: a2 :: a3 :: a4 :: a5 :: a6 :: a7 :: a8 :: a9 :: a10 :: a11 :: a12 :: a13 :: a14 :: a15 :: a16 :: a17 :: l).set 17 y = a0 :: a1 :: a2 :: a3 :: a4 :: a5 :: a6 :: a7 :: a8 :: a9 :: a10 :: a11 :: a12 :: a13 :: a14 :: a15 :: a16 :: y :: l := rfl
theorem gd_0 {α : Type} {a0 : α} {l : List α} {y : α} : (a0 :: l).getD 0 y = a0 := rfl
theorem gd_1 {α : Type} {a0 : α} {a1 : α} {l : List α} {y : α} : (a0 :: a1 :: l).getD 1 y = a1 := rfl
theorem gd_2 {α : Type} {a0 : α} {a1 : α} {a2 : α} {l : List α} {y : α} : (a0 :: a1 :: a2 :: l).getD 2 y = a2 := rfl
theorem gd_3 {α : Type} {a0 : α} {a1 : α} {a2 : α} {a3 : α} {l : List α} {y : α} : (a0 :: a1 :: a2 :: a3 :: l).getD 3 y = a3 := rfl
theorem gd_4 {α : Type} {a0 : α} {a1 : α} {a2 : α} {a3 : α} {a4 : α} {l : List α} {y : α} : (a0 :: a1 :: a2 :: a3 :: a4 :: l).getD 4 y = a4 := rfl
theorem gd_5 {α : Type} {a0 : α} {a1 : α} {a2 : α} {a3 : α} {a4 : α} {a5 : α} {l : List α} {y : α} : (a0 :: a1 :: a2 :: a3 :: a4 :: a5 :: l).getD 5 y = a5 := rfl
theorem gd_6 {α : Type} {a0 : α} {a1 : α} {a2 : α} {a3 : α} {a4 : α} {a5 : α} {a6 : α} {l : List α} {y : α} : (a0 :: a1 :: a2 :: a3 :: a4 :: a5 :: a6 :: l).getD 6 y = a6 := rfl
theorem gd_7 {α : Type} {a0 : α} {a1 : α} {a2 : α} {a3 : α} {a4 : α} {a5 : α} {a6 : α} {a7 : α} {l : List α} {y : α} : (a0 :: a1 :: a2 :: a3 :: a4 :: a5 :: a6 :: a7 :: l).getD 7 y = a7 := rfl
theorem gd_8 {α : Type} {a0 : α} {a1 : α} {a2 : α} {a3 : α} {a4 : α} {a5 : α} {a6 : α} {a7 : α} {a8 : α} {l : List α} {y : α} : (a0 :: a1 :: a2 :: a3 :: a4 :: a5 :: a6 :: a7 :: a8 :: l).getD 8 y = a8 := rfl
theorem gd_9 {α : Type} {a0 : α} {a1 : α} {a2 : α} {a3 : α} {a4 : α} {a5 : α} {a6 : α} {a7 : α} {a8 : α} {a9 : α} {l : List α} {y : α} : (a0 :: a1 :: a2 :: a3 :: a4 :: a5 :: a6 :: a7 :: a8 :: a9 :: l).getD 9 y = a9 := rfl
theorem gd_10 {α : Type} {a0 : α} {a1 : α} {a2 : α} {a3 : α} {a4 : α} {a5 : α} {a6 : α} {a7 : α} {a8 : α} {a9 : α} {a10 : α} {l : List α} {y : α} : (a0 :: a1 :: a2 :: a3 :: a4 :: a5 :: a6 :: a7 :: a8 :: a9 :: a10 :: l).getD 10 y = a10 := rfl
theorem gd_11 {α : Type} {a0 : α} {a1 : α} {a2 : α} {a3 : α} {a4 : α} {a5 : α} {a6 : α} {a7 : α} {a8 : α} {a9 : α} {a10 : α} {a11 : α} {l : List α} {y : α} : (a0 :: a1 :: a2 :: a3 :: a4 :: a5 :: a6 :: a7 :: a8 :: a9 :: a10 :: a11 :: l).getD 11 y = a11 := rfl
theorem gd_12 {α : Type} {a0 : α} {a1 : α} {a2 : α} {a3 : α} {a4 : α} {a5 : α} {a6 : α} {a7 : α} {a8 : α} {a9 : α} {a10 : α} {a11 : α} {a12 : α} {l : List α} {y : α} : (a0 :: a1 :: a2 :: a3 :: a4 :: a5 :: a6 :: a7 :: a8 :: a9 :: a10 :: a11 :: a12 :: l).getD 12 y = a12 := rfl
theorem gd_13 {α : Type} {a0 : α} {a1 : α} {a2 : α} {a3 : α} {a4 : α} {a5 : α} {a6 : α} {a7 : α} {a8 : α} {a9 : α} {a10 : α} {a11 : α} {a12 : α} {a13 : α} {l : List α} {y : α} : (a0 :: a1 :: a2 :: a3 :: a4 :: a5 :: a6 :: a7 :: a8 :: a9 :: a10 :: a11 :: a12 :: a13 :: l).getD 13 y = a13 := rfl
theorem gd_14 {α : Type} {a0 : α} {a1 : α} {a2 : α} {a3 : α} {a4 : α} {a5 : α} {a6 : α} {a7 : α} {a8 : α} {a9 : α} {a10 : α} {a11 : α} {a12 : α} {a13 : α} {a14 : α} {l : List α} {y : α} : (a0 :: a1 :: a2 :: a3 :: a4 :: a5 :: a6 :: a7 :: a8 :: a9 :: a10 :: a11 :: a12 :: a13 :: a14 :: l).getD 14 y = a14 := rfl
theorem gd_15 {α : Type} {a0 : α} {a1 : α} {a2 : α} {a3 : α} {a4 : α} {a5 : α} {a6 : α} {a7 : α} {a8 : α} {a9 : α} {a10 : α} {a11 : α} {a12 : α} {a13 : α} {a14 : α} {a15 : α} {l : List α} {y : α} : (a0 :: a1 :: a2 :: a3 :: a4 :: a5 :: a6 :: a7 :: a8 :: a9 :: a10 :: a11 :: a12 :: a13 :: a14 :: a15 :: l).getD 15 y = a15 := rfl
theorem gd_16 {α : Type} {a0 : α} {a1 : α} {a2 : α} {a3 : α} {a4 : α} {a5 : α} {a6 : α} {a7 : α} {a8 : α} {a9 : α} {a10 : α} {a11 : α} {a12 : α} {a13 : α} {a14 : α} {a15 : α} {a16 : α} {l : List α} {y : α} : (a0 :: a1 :: a2 :: a3 :: a4 :: a5 :: a6 :: a7 :: a8 :: a9 :: a10 :: a11 :: a12 :: a13 :: a14 :: a15 :: a16 :: l).getD 16 y = a16 := rfl
theorem gd_17 {α : Type} {a0 : α} {a1 : α} {a2 : α} {a3 : α} {a4 : α} {a5 : α} {a6 : α} {a7 : α} {a8 : α} {a9 : α} {a10 : α} {a11 : α} {a12 : α} {a13 : α} {a14 : α} {a15 : α} {a16 : α} {a17 : α} {l : List α} {y : α} : (a0 :: a1 :: a2 :: a3 :: a4 :: a5 :: a6 :: a7 :: a8 :: a9 :: a10 :: a11 :: a12 :: a13 :: a14 :: a15 :: a16 :: a17 :: l).getD 17 y = a17 := rfl
theorem x_E_muteok {α : Type} {a : α} : (R.ok a).mute = .ok a := rfl
theorem wp_mute {α : Type} {r : R α} {P : α → Prop} : Wp r.mute P = Wp r P := by
  cases r with
  | ok a => rfl
  | exc x ρ => rw [wp_exc]; exact wp_fail
  | fail => rfl
theorem wp_ite {α : Type} {c : Prop} [Decidable c] {a b : R α} {P : α → Prop} : Wp (if c then a else b) P = if c then Wp a P else Wp b P := by
  by_cases h : c
  · rw [if_pos h, if_pos h]
  · rw [if_neg h, if_neg h]
theorem wo_ite {α : Type} {c : Prop} [Decidable c] {a b : Option α} {P : α → Prop} : WO (if c then a else b) P = if c then WO a P else WO b P := by
  by_cases h : c
  · rw [if_pos h, if_pos h]
  · rw [if_neg h, if_neg h]
theorem w_ife {C : Ctx} {t : CT} {a b : CSs} {ρ : Env} {P : Fl → Prop} : Wp (evS C (.ife t a b) ρ) P = Wp (evT C t ρ) (fun p => if p.1 = true then Wp (evSs C a p.2) P else Wp (evSs C b p.2) P) := by
  rw [evS, wp_bind]
  congr 1; funext p
  exact wp_ite
theorem w_call {C : Ctx} {f : Str} {as : CEs} {ρ : Env} {P : D × Env → Prop} : Wp (evE C (.call f as) ρ) P = Wp (evRs C as ρ) (fun p => WO (lend p.1 p.2) (fun q => Wp (C.fns f q.1) (fun r => P (r.1, back p.1 r.2 q.2)))) := by
  rw [evE, wp_bind]
  congr 1; funext p
  rw [wp_bind, wp_of]
  congr 1; funext q
  cases C.fns f q.1 with
  | ok r => simp only [wp_ok]
  | exc x ds => simp only [wp_exc]
  | fail => simp only [wp_fail]
theorem w_meth {C : Ctx} {o : CE} {m : Str} {as : CEs} {ρ : Env} {P : D × Env → Prop} : Wp (evE C (.meth o m as) ρ) P = Wp (refOf o (evE C o ρ) ρ) (fun p => WO ((p.1.get p.2).bind (clsD m)) (fun c => decide ((c, m) ∈ C.kn.ml) = true ∧ Wp (evRs C as p.2) (fun q =>
    WO (if (p.1.get q.2).bind (clsD m) = some c then lend (p.1 :: q.1) q.2 else none) (fun l => Wp (C.fns (mkey c m) l.1) (fun r => P (r.1, back (p.1 :: q.1) r.2 l.2)))))) := by
  rw [evE, wp_bind, wp_mute]
  congr 1; funext p
  rw [wp_bind, wp_of]
  congr 1; funext c
  by_cases h : decide ((c, m) ∈ C.kn.ml) = true
  · rw [if_pos h, wp_bind]
    simp only [h, true_and]
    congr 1; funext q
    rw [wp_bind, wp_of]
    congr 1; funext l
    cases C.fns (mkey c m) l.1 with
    | ok r => simp only [wp_ok]
    | exc x ds => simp only [wp_exc]
    | fail => simp only [wp_fail]
  · rw [if_neg h, wp_fail]
    exact propext ⟨fun z => z.elim, fun z => (h z.1).elim⟩
theorem w_callK {C : Ctx} {s : Shp} {as kw : CEs} {ρ : Env} {P : D × Env → Prop} : Wp (evE C (.callK s as kw) ρ) P = Wp (evRs C as ρ) (fun p => Wp (evRs C kw p.2) (fun o => WO (if p.1.length = s.n ∧ o.1.length = s.ks.length then lend (p.1 ++ o.1) o.2 else none) (fun q => WO (mrg Cn.d s.pl q.1) (fun ds =>
    Wp (C.fns s.f ds) (fun r => P (r.1, back (p.1 ++ o.1) (unm s.pl r.2) q.2)))))) := by
  rw [evE, wp_bind]
  congr 1; funext p
  rw [wp_bind]
  congr 1; funext o
  rw [wp_bind, wp_of]
  congr 1; funext q
  rw [wp_bind, wp_of]
  congr 1; funext ds
  cases C.fns s.f ds with
  | ok r => simp only [wp_ok]
  | exc x ds => simp only [wp_exc]
  | fail => simp only [wp_fail]
/-- what a new instance's __init__ answers -/
def Made (P : D → List D → Prop) : D × List D → Prop
  | (.non, d :: ds) => P d ds
  | _ => False
theorem made_eq {P : D → List D → Prop} {d : D} {ds : List D} : Made P (.non, d :: ds) = P d ds := rfl
theorem w_mkK {C : Ctx} {s : Shp} {as kw : CEs} {ρ : Env} {P : D × Env → Prop} : Wp (evE C (.mkK s as kw) ρ) P = Wp (evRs C as ρ) (fun p => Wp (evRs C kw p.2) (fun o => WO (if p.1.length = s.n ∧ o.1.length = s.ks.length then lend (p.1 ++ o.1) o.2 else none) (fun q => WO (mrg Cn.d s.pl q.1) (fun ds =>
    Wp (C.fns (mkey s.f "__init__") (.ins true s.f [] [] :: ds)) (Made fun d es => P (d, back (p.1 ++ o.1) (unm s.pl es) q.2)))))) := by
  rw [evE, wp_bind]
  congr 1; funext p
  rw [wp_bind]
  congr 1; funext o
  rw [wp_bind, wp_of]
  congr 1; funext q
  rw [wp_bind, wp_of]
  congr 1; funext ds
  cases C.fns (mkey s.f "__init__") (.ins true s.f [] [] :: ds) with
  | ok r =>
    obtain ⟨d, es⟩ := r
    cases es with
    | nil => cases d <;> simp only [wp_ok, wp_fail, Made]
    | cons e es => cases d <;> simp only [wp_ok, wp_fail, Made]
  | exc x ds => cases ds <;> simp only [wp_exc, wp_fail]
  | fail => simp only [wp_fail]
theorem w_mk {C : Ctx} {c : Str} {as : CEs} {ρ : Env} {P : D × Env → Prop} : Wp (evE C (.mk c as) ρ) P = Wp (evRs C as ρ) (fun p => WO (lend p.1 p.2) (fun q =>
    Wp (C.fns (mkey c "__init__") (.ins true c [] [] :: q.1)) (Made fun d es => P (d, back p.1 es q.2)))) := by
  rw [evE, wp_bind]
  congr 1; funext p
  rw [wp_bind, wp_of]
  congr 1; funext q
  cases C.fns (mkey c "__init__") (.ins true c [] [] :: q.1) with
  | ok r =>
    obtain ⟨d, es⟩ := r
    cases es with
    | nil => cases d <;> simp only [wp_ok, wp_fail, Made]
    | cons e es => cases d <;> simp only [wp_ok, wp_fail, Made]
  | exc x ds => cases ds <;> simp only [wp_exc, wp_fail]
  | fail => simp only [wp_fail]
/-- what is due behind it, by a name -/
theorem wp_gen {α : Type} {r : R α} {P : α → Prop} (h : ∀ Q : α → Prop, P = Q → Wp r Q) : Wp r P := h P rfl
section
variable {C : Ctx} {own : List Nat} {g : CG} {it : CI} {t : CT} {b : CSs} {elt : CE} {ρ : Env} {α β : Type}
/-- a comprehension over l, pure -/
theorem wp_lcM {Q : D × Env → Prop} (l : List α) (u f : α → D) (ρ1 : Env) (h1 : Wp (evI C it ρ) (fun p => p.1 = l.map u ∧ p.2 = ρ1)) (hl : l.length ≤ sizeLine)
    (st : ∀ a ∈ l, ∃ ρ2, Cs.assign g (u a) (wipeD ρ1 own) = some ρ2 ∧ Wp (evE C elt ρ2) (fun p => p.1 = f a ∧ wipeD p.2 own = wipeD ρ1 own)) (e : Q (.lst true (l.map f), putBack ρ1 (wipeD ρ1 own) own)) : Wp (evE C (.lc own g it .yes elt) ρ) Q := by
  rw [evE, wp_bind]
  refine h1.mono fun p ⟨e1, e2⟩ => ?_
  rw [e1, e2, wp_bind]
  refine wp_loopC (fun i acc ρ => acc = (l.take i).map f ∧ ρ = wipeD ρ1 own) (l.map u) 0 [] _ ⟨by simp, rfl⟩ (fun j d acc ρ hj ⟨a1, a2⟩ => ?_) fun acc ρ ⟨a1, a2⟩ => ?_
  · rw [List.getElem?_map] at hj
    obtain ⟨a, ha, rfl⟩ := Option.map_eq_some_iff.mp hj
    obtain ⟨ρ2, b1, b2⟩ := st a (List.mem_of_getElem? ha)
    rw [wp_bind, wp_of, a2]
    refine ⟨ρ2, b1, ?_⟩
    dsimp only
    rw [wp_bind, evT, wp_ok]
    show Wp ((evE C elt ρ2).map _) _
    rw [wp_map]
    refine b2.mono fun q ⟨c1, c2⟩ => ⟨fun y hy => ?_, fun z => nomatch z⟩
    cases hy
    refine ⟨?_, c2⟩
    rw [a1, c1, Nat.zero_add, List.take_add_one, ha]
    simp
  · rw [wp_of]
    subst a1; subst a2
    have e3 : (l.take (0 + (l.map u).length)) = l := by simp
    rw [e3]
    refine ⟨_, ?_, e⟩
    rw [show szOk (l.map f).length = true from decide_eq_true (by simpa using hl)]; rfl
/-- a comprehension with a test, pure -/
theorem wp_lcF {Q : D × Env → Prop} (l : List α) (u f : α → D) (c : α → Bool) (ρ1 : Env) (h1 : Wp (evI C it ρ) (fun p => p.1 = l.map u ∧ p.2 = ρ1)) (hl : l.length ≤ sizeLine)
    (st : ∀ a ∈ l, ∃ ρ2, Cs.assign g (u a) (wipeD ρ1 own) = some ρ2 ∧ Wp (evT C t ρ2) (fun p => p.1 = c a ∧ (c a = true → Wp (evE C elt p.2) (fun p => p.1 = f a ∧ wipeD p.2 own = wipeD ρ1 own)) ∧ (c a = false → wipeD p.2 own = wipeD ρ1 own))) (e : Q (.lst true ((l.filter c).map f), putBack ρ1 (wipeD ρ1 own) own)) : Wp (evE C (.lc own g it t elt) ρ) Q := by
  rw [evE, wp_bind]
  refine h1.mono fun p ⟨e1, e2⟩ => ?_
  rw [e1, e2, wp_bind]
  refine wp_loopC (fun i acc ρ => acc = ((l.take i).filter c).map f ∧ ρ = wipeD ρ1 own) (l.map u) 0 [] _ ⟨by simp, rfl⟩ (fun j d acc ρ hj ⟨a1, a2⟩ => ?_) fun acc ρ ⟨a1, a2⟩ => ?_
  · rw [List.getElem?_map] at hj
    obtain ⟨a, ha, rfl⟩ := Option.map_eq_some_iff.mp hj
    obtain ⟨ρ2, b1, b2⟩ := st a (List.mem_of_getElem? ha)
    rw [wp_bind, wp_of, a2]
    refine ⟨ρ2, b1, ?_⟩
    dsimp only
    rw [wp_bind]
    refine b2.mono fun q ⟨c0, c1, c2⟩ => ?_
    rw [c0]
    cases hc : c a with
    | true =>
      rw [if_pos rfl, wp_map]
      refine (c1 hc).mono fun q ⟨d1, d2⟩ => ⟨fun y hy => ?_, fun z => nomatch z⟩
      cases hy
      refine ⟨?_, d2⟩
      rw [a1, d1, Nat.zero_add, List.take_add_one, ha]
      simp [hc]
    | false =>
      rw [if_neg Bool.false_ne_true, wp_ok]
      refine ⟨fun y hy => (nomatch hy), fun _ => ⟨?_, c2 hc⟩⟩
      rw [a1, Nat.zero_add, List.take_add_one, ha]
      simp [hc]
  · rw [wp_of]
    subst a1; subst a2
    have e3 : (l.take (0 + (l.map u).length)) = l := by simp
    rw [e3]
    refine ⟨_, ?_, e⟩
    rw [show szOk ((l.filter c).map f).length = true from decide_eq_true (by
      rw [List.length_map]
      exact Nat.le_trans (List.length_filter_le ..) hl)]; rfl
theorem loopO_eq {turn : D → List D → Env → R (List D × Env)} {u : α → D} {f : α → List D} {ρ0 : Env} : ∀ (l : List α) (acc : List D), (∀ a ∈ l, ∀ acc, turn (u a) acc ρ0 = .ok (acc ++ f a, ρ0)) → loopO turn (l.map u) acc ρ0 = .ok (acc ++ l.flatMap f, ρ0)
  | [], acc, _ => by simp [loopO]
  | a :: l, acc, h => by
    rw [List.map_cons, loopO, h a List.mem_cons_self]
    show loopO turn (l.map u) (acc ++ f a) ρ0 = _
    rw [loopO_eq l _ fun x hx => h x (List.mem_cons_of_mem _ hx)]
    simp
theorem loopC_eq {turn : D → Env → R (Option D × Env)} {u f : α → D} {ρ0 : Env} : ∀ (l : List α) (acc : List D), (∀ a ∈ l, turn (u a) ρ0 = .ok (some (f a), ρ0)) → loopC turn (l.map u) acc ρ0 = .ok (acc ++ l.map f, ρ0)
  | [], acc, _ => by simp [loopC]
  | a :: l, acc, h => by
    rw [List.map_cons, loopC, h a List.mem_cons_self]
    show loopC turn (l.map u) (acc ++ [f a]) ρ0 = _
    rw [loopC_eq l _ fun x hx => h x (List.mem_cons_of_mem _ hx)]
    simp
/-- a comprehension of two sources, pure; k a: what the second source gives at a -/
theorem wp_lc2M {Q : D × Env → Prop} {vs : List Nat} {g1 : CG} {it1 : CI} (l : List α) (u : α → D) (k : α → List β) (u1 : β → D) (f : α → β → D) (ρ1 : Env) (h1 : Wp (evI C it ρ) (fun p => p.1 = l.map u ∧ p.2 = ρ1)) (hl : (l.flatMap k).length ≤ sizeLine)
    (st : ∀ a ∈ l, ∃ ρ2, Cs.assign g (u a) (wipeD ρ1 own) = some ρ2 ∧ Wp (evI C it1 ρ2) (fun p => p.1 = (k a).map u1 ∧ wipeD (wipeD p.2 vs) own = wipeD ρ1 own ∧
      ∀ b ∈ k a, ∃ ρ3, Cs.assign g1 (u1 b) (wipeD p.2 vs) = some ρ3 ∧ Wp (evE C elt ρ3) (fun q => q.1 = f a b ∧ wipeD q.2 vs = wipeD p.2 vs))) (e : Q (.lst true (l.flatMap fun a => (k a).map (f a)), putBack ρ1 (wipeD ρ1 own) own)) : Wp (evE C (.lc2 own g it .yes vs g1 it1 .yes elt) ρ) Q := by
  rw [evE, wp_bind]
  refine h1.mono fun p ⟨e1, e2⟩ => ?_
  rw [e1, e2, wp_bind, loopO_eq (f := fun a => (k a).map (f a)) l [] fun a ha acc => ?_, wp_ok]
  · rw [wp_of]
    refine ⟨_, ?_, e⟩
    have e3 : (l.flatMap fun a => (k a).map (f a)).length = (l.flatMap k).length := by
      simp [List.length_flatMap]
    rw [List.nil_append, show szOk (l.flatMap fun a => (k a).map (f a)).length = true from decide_eq_true (by rw [e3]; exact hl)]; rfl
  · obtain ⟨ρ2, b1, ⟨q, b2, b3, b4, b5⟩⟩ := st a ha
    rw [b1]
    simp only [R.of, R.bind, evT, b2, b3, if_true]
    rw [loopC_eq (f := f a) (k a) acc fun b hb => ?_]
    · simp only [R.map, b4]
    · obtain ⟨ρ3, c1, ⟨w, c2, c3, c4⟩⟩ := b5 b hb
      rw [c1]
      simp only [c2, R.map, c3, c4, if_true]
/-- a loop by a plain function -/
theorem wp_forF {P : Fl → Prop} (l : List α) (u : α → D) (f : β → α → β) (Rl : β → Env → Prop) (b0 : β) (ρ1 : Env) (h1 : Wp (evI C it ρ) (fun p => p.1 = l.map u ∧ p.2 = ρ1)) (h2 : Rl b0 ρ1)
    (st : ∀ i a, l[i]? = some a → ∀ ρ, Rl ((l.take i).foldl f b0) ρ → ∃ ρ2, Cs.assign g (u a) ρ = some ρ2 ∧ Wp (evSs C b ρ2) (Tn (Rl (f ((l.take i).foldl f b0) a)) P)) (e : ∀ ρ', Rl (l.foldl f b0) ρ' → P (.nx ρ')) : Wp (evS C (.for g it b) ρ) P := by
  refine wp_for (fun i ρ => Rl ((l.take i).foldl f b0) ρ) (l.map u) ρ1 h1 h2 (fun j d ρ hj hJ => ?_) fun ρ' h' => e ρ' (by simpa using h')
  rw [List.getElem?_map] at hj
  obtain ⟨a, ha, rfl⟩ := Option.map_eq_some_iff.mp hj
  obtain ⟨ρ2, a1, a2⟩ := st j a ha ρ hJ
  refine ⟨ρ2, a1, ?_⟩
  rw [List.take_add_one, ha]
  simpa using a2
theorem loopW_wp {step : WStep} {P : Fl → Prop} (Rl : β → Env → Prop) (μ : β → Nat) (st : ∀ b ρ, Rl b ρ → Wp (step ρ) (fun r => match r with | .inl ρ' => ∃ b', Rl b' ρ' ∧ μ b' < μ b | .inr f => P f)) : ∀ (n : Nat) (b : β) (ρ : Env), μ b ≤ n → Rl b ρ → Wp (loopW step (n + 1) ρ) P
  | n, b, ρ, hn, h => by
    obtain ⟨r, e1, h1⟩ := st b ρ h
    unfold loopW
    rw [e1]
    cases r with
    | inr f => exact wp_ok.mpr h1
    | inl ρ' =>
      obtain ⟨b', h2, h3⟩ := h1
      cases n with
      | zero => omega
      | succ n => exact loopW_wp Rl μ st n b' ρ' (by omega) h2
/-- a while by a measure -/
theorem wp_whl {P : Fl → Prop} (Rl : β → Env → Prop) (μ : β → Nat) (b0 : β) (hC : C.whl = whlC) (h : Rl b0 ρ)
    (st : ∀ x ρ, Rl x ρ → Wp (evT C t ρ) (fun p => if p.1 = true then Wp (evSs C b p.2) (Tn (fun ρ' => ∃ y, Rl y ρ' ∧ μ y < μ x) P) else P (.nx p.2))) : Wp (evS C (.whl t b) ρ) P := by
  rw [evS, hC]
  generalize hs : (fun ρ1 => (evT C t ρ1).bind fun p => if p.1 = true then (evSs C b p.2).map flW else .ok (.inr (.nx p.2))) = step
  have w := loopW_wp (step := step) (P := P) Rl μ (fun x ρ hx => by
    rw [← hs]
    show Wp ((evT C t ρ).bind _) _
    rw [wp_bind]
    refine (st x ρ hx).mono fun p hp => ?_
    cases h1 : p.1 with
    | false =>
      rw [if_neg Bool.false_ne_true, wp_ok]
      rw [h1, if_neg Bool.false_ne_true] at hp
      exact hp
    | true =>
      rw [h1, if_pos rfl] at hp
      rw [if_pos rfl, wp_map]
      refine hp.mono fun f hf => ?_
      cases f with
      | nx ρ' => exact hf
      | ct ρ' => exact hf
      | bk ρ' => exact hf
      | ret d ρ' => exact hf) (μ b0) b0 ρ (Nat.le_refl _) h
  obtain ⟨f, e1, h1⟩ := w
  have e2 := whlC_eq (r := .ok f) e1 trivial
  exact ⟨f, e2, h1⟩
end
/-- a run that ends so -/
theorem wp_eq {α : Type} {r : R α} {a : α} : (r = .ok a) = Wp r (fun x => x = a) := propext ⟨fun h => ⟨a, h, rfl⟩, fun ⟨_, h, e⟩ => e ▸ h⟩
theorem run_eq {C : Ctx} {e : Fe} {ds : List D} {v : D} {es : List D} (hl : ds.length = e.np) (h : Wp (evSs C e.body (startD e.n ds)) (fun f => match f with
    | .nx ρ => D.non = v ∧ endD e.asg 0 e.np ρ = es
    | .ret d ρ => d = v ∧ endD e.asg 0 e.np ρ = es
    | _ => False)) : run1 C e ds = .ok (v, es) := by
  rw [wp_eq]
  refine run_wp hl (h.mono fun f hf => ?_)
  cases f with
  | nx ρ => exact Prod.ext hf.1 hf.2
  | ret d ρ => exact Prod.ext hf.1 hf.2
  | bk _ => exact hf
  | ct _ => exact hf
end Cs
/-! Sn1: sentences of counts, plainly. -/
namespace Sn
def dot : List Int → List Int → Int
  | w :: ws, c :: cs => w * c + dot ws cs
  | _, _ => 0
inductive Sen where
  | least (ws : List Int) (k : Int)
  | rest (ws : List Int) (m r : Int)
  | neg (s : Sen)
  | and (a b : Sen)
  | or (a b : Sen)
def so : Sen → List Int → Bool
  | .least ws k, cs => decide (k ≤ dot ws cs)
  | .rest ws m r, cs => dot ws cs % m == r
  | .neg s, cs => !so s cs
  | .and a b, cs => so a cs && so b cs
  | .or a b, cs => so a cs || so b cs
/-- well made, of n weights -/
def Wf (n : Nat) : Sen → Prop
  | .least ws _ => ws.length = n
  | .rest ws m r => ws.length = n ∧ 0 < m ∧ 0 ≤ r ∧ r < m
  | .neg s => Wf n s
  | .and a b => Wf n a ∧ Wf n b
  | .or a b => Wf n a ∧ Wf n b
def atoms : Sen → List Sen
  | .least ws k => [.least ws k]
  | .rest ws m r => [.rest ws m r]
  | .neg s => atoms s
  | .and a b => atoms a ++ atoms b
  | .or a b => atoms a ++ atoms b
def fore (ws : List Int) : List Int := ws.dropLast
def last (ws : List Int) : Int := ws.getLastD 0
theorem dot_snoc : ∀ (fo cs : List Int) (l x : Int), fo.length = cs.length → dot (fo ++ [l]) (cs ++ [x]) = dot fo cs + l * x
  | [], [], l, x, _ => by simp [dot]
  | f :: fo, c :: cs, l, x, h => by
    have := dot_snoc fo cs l x (by simpa using h)
    simp only [List.cons_append, dot, this]
    omega
  | [], _ :: _, _, _, h => nomatch h
  | _ :: _, [], _, _, h => nomatch h
theorem split_last {ws : List Int} {n : Nat} (h : ws.length = n + 1) : ws = fore ws ++ [last ws] ∧ (fore ws).length = n := by
  have hne : ws ≠ [] := by intro e; subst e; cases h
  refine ⟨?_, by unfold fore; rw [List.length_dropLast]; omega⟩
  have := List.dropLast_concat_getLast hne
  unfold fore last
  rw [List.getLastD_eq_getLast?, List.getLast?_eq_some_getLast hne]
  exact this.symm
theorem dot_last {ws cs : List Int} {x : Int} (h : ws.length = cs.length + 1) : dot ws (cs ++ [x]) = dot (fore ws) cs + last ws * x := by
  obtain ⟨e, l⟩ := split_last h
  rw [← dot_snoc _ _ _ _ l, ← e]
/-! ### wheels -/
def cp (a b : Int) : Int := Int.gcd a b
def wheelA (found : Int) : Sen → Int
  | .rest ws m _ => found * (m / cp m (last ws)) / cp found (m / cp m (last ws))
  | _ => found
def wheel (s : Sen) : Int := (atoms s).foldl wheelA 1
/-- P turns every rest -/
def Fits (P : Int) : Sen → Prop
  | .least _ _ => True
  | .rest ws m _ => m ∣ last ws * P
  | .neg s => Fits P s
  | .and a b => Fits P a ∧ Fits P b
  | .or a b => Fits P a ∧ Fits P b
def AtomFits (P : Int) : Sen → Prop
  | .rest ws m _ => m ∣ last ws * P
  | _ => True
theorem fits_of {P : Int} : ∀ s, (∀ a ∈ atoms s, AtomFits P a) → Fits P s
  | .least _ _, _ => trivial
  | .rest ws m r, h => h _ (List.mem_singleton.mpr rfl)
  | .neg s, h => fits_of s h
  | .and a b, h => ⟨fits_of a fun x hx => h x (List.mem_append_left _ hx), fits_of b fun x hx => h x (List.mem_append_right _ hx)⟩
  | .or a b, h => ⟨fits_of a fun x hx => h x (List.mem_append_left _ hx), fits_of b fun x hx => h x (List.mem_append_right _ hx)⟩
def AtomWf (n : Nat) : Sen → Prop
  | .least ws _ => ws.length = n
  | .rest ws m r => ws.length = n ∧ 0 < m ∧ 0 ≤ r ∧ r < m
  | _ => False
theorem wf_atoms {n : Nat} : ∀ s, Wf n s → ∀ a ∈ atoms s, AtomWf n a
  | .least _ _, h, a, ha => by rw [List.mem_singleton.mp ha]; exact h
  | .rest _ _ _, h, a, ha => by rw [List.mem_singleton.mp ha]; exact h
  | .neg s, h, a, ha => wf_atoms s h a ha
  | .and x y, h, a, ha => (List.mem_append.mp ha).elim (wf_atoms x h.1 a) (wf_atoms y h.2 a)
  | .or x y, h, a, ha => (List.mem_append.mp ha).elim (wf_atoms x h.1 a) (wf_atoms y h.2 a)
theorem cp_pos {a b : Int} (h : 0 < a) : 0 < cp a b := by
  unfold cp
  have := Int.gcd_pos_of_ne_zero_left b (show a ≠ 0 by omega)
  omega
theorem cp_dvd_l (a b : Int) : cp a b ∣ a := Int.gcd_dvd_left ..
theorem cp_dvd_r (a b : Int) : cp a b ∣ b := Int.gcd_dvd_right ..
theorem div_pos {a b : Int} (h : 0 < a) (hb : 0 < b) (d : b ∣ a) : 0 < a / b := by
  obtain ⟨c, rfl⟩ := d
  rw [Int.mul_ediv_cancel_left _ (by omega)]
  exact Int.pos_of_mul_pos_left (by rw [Int.mul_comm]; exact h) hb
theorem lcm_l {a b : Int} (ha : 0 < a) : a ∣ a * b / cp a b := by
  rw [Int.mul_ediv_assoc _ (cp_dvd_r a b)]
  exact Int.dvd_mul_right ..
theorem lcm_r {a b : Int} (ha : 0 < a) : b ∣ a * b / cp a b := by
  rw [Int.mul_comm, Int.mul_ediv_assoc _ (cp_dvd_l a b)]
  exact Int.dvd_mul_right ..
theorem lcm_pos {a b : Int} (ha : 0 < a) (hb : 0 < b) : 0 < a * b / cp a b := by
  refine div_pos (Int.mul_pos ha hb) (cp_pos ha) ?_
  exact Int.dvd_trans (cp_dvd_l a b) (Int.dvd_mul_right ..)
/-- the step of a rest turns it -/
theorem step_fits {m l P : Int} (hm : 0 < m) (h : m / cp m l ∣ P) : m ∣ l * P := by
  obtain ⟨k, rfl⟩ := h
  have hg := cp_pos (b := l) hm
  obtain ⟨c, hc⟩ := cp_dvd_r m l
  obtain ⟨e, he⟩ := cp_dvd_l m l
  generalize cp m l = g at *
  subst hc
  subst he
  rw [Int.mul_ediv_cancel_left _ (by omega)]
  exact ⟨c * k, by rw [← Int.mul_assoc, ← Int.mul_assoc]; congr 1; rw [Int.mul_assoc, Int.mul_comm c e, ← Int.mul_assoc]⟩
theorem wheel_step {n : Nat} {f : Int} {a : Sen} (hf : 0 < f) (h : AtomWf n a) : 0 < wheelA f a ∧ f ∣ wheelA f a ∧ ∀ P, wheelA f a ∣ P → AtomFits P a := by
  cases a with
  | least ws k => exact ⟨hf, Int.dvd_refl _, fun _ _ => trivial⟩
  | rest ws m r =>
    have hm : 0 < m := h.2.1
    have h1 := div_pos hm (cp_pos (b := last ws) hm) (cp_dvd_l ..)
    exact ⟨lcm_pos hf h1, lcm_l hf, fun P hP => step_fits hm (Int.dvd_trans (lcm_r hf) hP)⟩
  | neg _ => exact h.elim
  | and _ _ => exact h.elim
  | or _ _ => exact h.elim
theorem wheel_fold {n : Nat} : ∀ (l : List Sen) (f : Int), 0 < f → (∀ a ∈ l, AtomWf n a) → 0 < l.foldl wheelA f ∧ f ∣ l.foldl wheelA f ∧ ∀ a ∈ l, AtomFits (l.foldl wheelA f) a
  | [], f, hf, _ => ⟨hf, Int.dvd_refl _, fun _ h => nomatch h⟩
  | a :: l, f, hf, h => by
    obtain ⟨h1, h2, h3⟩ := wheel_step hf (h a List.mem_cons_self)
    obtain ⟨g1, g2, g3⟩ := wheel_fold l (wheelA f a) h1 fun x hx => h x (List.mem_cons_of_mem _ hx)
    refine ⟨g1, Int.dvd_trans h2 g2, fun x hx => ?_⟩
    rcases List.mem_cons.mp hx with rfl | hx
    · exact h3 _ g2
    · exact g3 x hx
theorem wheel_ok {n : Nat} {s : Sen} (h : Wf n s) : 0 < wheel s ∧ Fits (wheel s) s := by
  obtain ⟨h1, h2, h3⟩ := wheel_fold (atoms s) 1 (by decide) (wf_atoms s h)
  exact ⟨h1, fits_of s h3⟩
/-! ### breaks -/
def left (ws : List Int) (k : Int) (cs : List Int) : Int := k - dot (fore ws) cs
def brk (ws : List Int) (k : Int) (cs : List Int) : Int := if 0 < last ws then -(-(left ws k cs) / last ws) else (-(left ws k cs)) / (-(last ws)) + 1
def heads (cs : List Int) : Sen → List Int
  | .least ws k => if last ws ≠ 0 then [brk ws k cs] else []
  | .rest _ _ _ => []
  | .neg s => heads cs s
  | .and a b => heads cs a ++ heads cs b
  | .or a b => heads cs a ++ heads cs b
def breaks : Sen → Bool
  | .least ws _ => last ws != 0
  | _ => false
def breaking (s : Sen) : List Sen := (atoms s).filter breaks
def brkA (cs : List Int) : Sen → Int
  | .least ws k => brk ws k cs
  | _ => 0
theorem heads_eq (cs : List Int) : ∀ s, heads cs s = (breaking s).map (brkA cs)
  | .least ws k => by
    unfold heads breaking atoms
    by_cases h : last ws = 0
    · simp [breaks, h]
    · have e : (last ws != 0) = true := by simpa using h
      simp [breaks, brkA, List.filter, e, h]
  | .rest _ _ _ => rfl
  | .neg s => heads_eq cs s
  | .and a b => by
    unfold heads breaking atoms
    rw [heads_eq cs a, heads_eq cs b, List.filter_append, List.map_append]; rfl
  | .or a b => by
    unfold heads breaking atoms
    rw [heads_eq cs a, heads_eq cs b, List.filter_append, List.map_append]; rfl
theorem ceil_le {q l x : Int} (hl : 0 < l) : q ≤ l * x ↔ -(-q / l) ≤ x := by
  have h := Int.le_ediv_iff_mul_le (a := -x) (b := -q) hl
  constructor
  · intro h0
    have : -x ≤ -q / l := h.mpr (by rw [Int.neg_mul, Int.mul_comm]; omega)
    omega
  · intro h0
    have := h.mp (by omega)
    rw [Int.neg_mul, Int.mul_comm] at this
    omega
theorem floor_lt {q l x : Int} (hl : l < 0) : q ≤ l * x ↔ x < -q / -l + 1 := by
  have h := Int.le_ediv_iff_mul_le (a := x) (b := -q) (c := -l) (by omega)
  have e : x * -l = -(l * x) := by rw [Int.mul_neg, Int.mul_comm]
  rw [e] at h
  constructor
  · intro h0
    have := h.mpr (by omega)
    omega
  · intro h0
    have := h.mp (by omega)
    omega
theorem least_at {ws cs : List Int} {k x : Int} (h : ws.length = cs.length + 1) : so (.least ws k) (cs ++ [x]) = if 0 < last ws then decide (brk ws k cs ≤ x) else if last ws = 0 then decide (k ≤ dot (fore ws) cs) else decide (x < brk ws k cs) := by
  unfold so brk left
  rw [dot_last h]
  by_cases h1 : 0 < last ws
  · rw [if_pos h1, if_pos h1]
    have := ceil_le (q := k - dot (fore ws) cs) (x := x) h1
    rw [decide_eq_decide, ← this]
    omega
  · rw [if_neg h1, if_neg h1]
    by_cases h2 : last ws = 0
    · rw [if_pos h2, h2]; simp
    · rw [if_neg h2]
      have := floor_lt (q := k - dot (fore ws) cs) (x := x) (show last ws < 0 by omega)
      rw [decide_eq_decide, ← this]
      omega
/-- a wheel back nothing is otherwise, where no break lies between -/
theorem shift {cs : List Int} {P : Int} (hP : 0 < P) {x : Int} : ∀ s, Wf (cs.length + 1) s → Fits P s → (∀ h ∈ heads cs s, ¬(h ≤ x ∧ x < h + P)) → so s (cs ++ [x - P]) = so s (cs ++ [x])
  | .least ws k, w, _, hh => by
    rw [least_at w, least_at w]
    by_cases h1 : 0 < last ws
    · rw [if_pos h1, if_pos h1, decide_eq_decide]
      have := hh (brk ws k cs) (by unfold heads; rw [if_pos (by omega)]; exact List.mem_singleton.mpr rfl)
      omega
    · rw [if_neg h1, if_neg h1]
      by_cases h2 : last ws = 0
      · rw [if_pos h2, if_pos h2]
      · rw [if_neg h2, if_neg h2, decide_eq_decide]
        have := hh (brk ws k cs) (by unfold heads; rw [if_pos h2]; exact List.mem_singleton.mpr rfl)
        omega
  | .rest ws m r, w, f, _ => by
    unfold so
    rw [dot_last w.1, dot_last w.1]
    obtain ⟨c, hc⟩ := f
    have : dot (fore ws) cs + last ws * (x - P) = dot (fore ws) cs + last ws * x - m * c := by
      rw [← hc, Int.mul_sub]; omega
    rw [this, Int.sub_mul_emod_self_left]
  | .neg s, w, f, hh => by
    unfold so; rw [shift hP s w f hh]
  | .and a b, w, f, hh => by
    unfold so
    rw [shift hP a w.1 f.1 fun h m => hh h (List.mem_append_left _ m), shift hP b w.2 f.2 fun h m => hh h (List.mem_append_right _ m)]
  | .or a b, w, f, hh => by
    unfold so
    rw [shift hP a w.1 f.1 fun h m => hh h (List.mem_append_left _ m), shift hP b w.2 f.2 fun h m => hh h (List.mem_append_right _ m)]
/-- the least number is a candidate -/
theorem least_cand {cs : List Int} {s : Sen} (w : Wf (cs.length + 1) s) {x : Int} (h0 : 0 ≤ x) (hx : so s (cs ++ [x]) = true) (hl : ∀ y, 0 ≤ y → so s (cs ++ [y]) = true → x ≤ y) : ∃ h ∈ 0 :: heads cs s, h ≤ x ∧ x < h + wheel s := by
  obtain ⟨hP, hF⟩ := wheel_ok w
  by_cases hc : ∃ h ∈ 0 :: heads cs s, h ≤ x ∧ x < h + wheel s
  · exact hc
  · have hn : ∀ h ∈ 0 :: heads cs s, ¬(h ≤ x ∧ x < h + wheel s) := fun h hm hh => hc ⟨h, hm, hh⟩
    have e := shift hP s w hF fun h hm => hn h (List.mem_cons_of_mem _ hm)
    have h1 := hn 0 List.mem_cons_self
    have := hl (x - wheel s) (by omega) (by rw [e]; exact hx)
    omega
theorem ex_cand {cs : List Int} {s : Sen} (w : Wf (cs.length + 1) s) {x : Int} (h0 : 0 ≤ x) (hx : so s (cs ++ [x]) = true) : ∃ y, 0 ≤ y ∧ so s (cs ++ [y]) = true ∧ y ≤ x ∧ (∀ z, 0 ≤ z → so s (cs ++ [z]) = true → y ≤ z) ∧ ∃ h ∈ 0 :: heads cs s, h ≤ y ∧ y < h + wheel s := by
  have key : ∀ n : Nat, ∀ x : Int, 0 ≤ x → x ≤ n → so s (cs ++ [x]) = true → ∃ y, 0 ≤ y ∧ y ≤ x ∧ so s (cs ++ [y]) = true ∧ ∀ z, 0 ≤ z → so s (cs ++ [z]) = true → y ≤ z := by
    intro n
    induction n with
    | zero =>
      intro x h0 hx hs
      exact ⟨x, h0, Int.le_refl _, hs, fun z hz _ => by omega⟩
    | succ n ih =>
      intro x h0 hx hs
      by_cases hc : ∃ z, 0 ≤ z ∧ so s (cs ++ [z]) = true ∧ z < x
      · obtain ⟨z, z0, zs, zl⟩ := hc
        obtain ⟨y, a, b, c, d⟩ := ih z z0 (by omega) zs
        exact ⟨y, a, by omega, c, d⟩
      · exact ⟨x, h0, Int.le_refl _, hs, fun z hz hzs => by
          have : ¬ z < x := fun h => hc ⟨z, hz, hzs, h⟩
          omega⟩
  obtain ⟨y, a, b, c, d⟩ := key x.toNat x h0 (by omega) hx
  exact ⟨y, a, c, b, d, least_cand w a c d⟩
end Sn
/-! Sn2: a number put in, sentences put plainly. -/
namespace Sn
structure Put where
  sl : List Int
  st : Int
  by_ : Int
def wIn (p : Put) (ws : List Int) : List Int := List.zipWith (fun one other => p.by_ * one + last ws * other) (fore ws) p.sl
def into (p : Put) : Sen → Sen
  | .least ws k => .least (wIn p ws) (p.by_ * k - last ws * p.st)
  | .rest ws m r => .rest (wIn p ws) (p.by_ * m) ((p.by_ * r - last ws * p.st) % (p.by_ * m))
  | .neg s => .neg (into p s)
  | .and a b => .and (into p a) (into p b)
  | .or a b => .or (into p a) (into p b)
def isNum (p : Put) : Sen := .least p.sl (-p.st)
theorem dot_lin : ∀ (b l : Int) (fo sl cs : List Int), fo.length = cs.length → sl.length = cs.length → dot (List.zipWith (fun one other => b * one + l * other) fo sl) cs = b * dot fo cs + l * dot sl cs
  | b, l, [], [], [], _, _ => by simp [dot]
  | b, l, f :: fo, s :: sl, c :: cs, h1, h2 => by
    have := dot_lin b l fo sl cs (by simpa using h1) (by simpa using h2)
    simp only [List.zipWith_cons_cons, dot, this]
    rw [Int.add_mul, Int.mul_add, Int.mul_add, Int.mul_assoc, Int.mul_assoc]
    omega
  | _, _, [], _ :: _, [], _, h => nomatch h
  | _, _, _ :: _, _, [], h, _ => nomatch h
  | _, _, [], _, _ :: _, h, _ => nomatch h
  | _, _, _ :: _, [], _ :: _, _, h => nomatch h
theorem wIn_len {p : Put} {ws : List Int} {n : Nat} (hw : ws.length = n + 1) (hp : p.sl.length = n) : (wIn p ws).length = n := by
  unfold wIn
  rw [List.length_zipWith, (split_last hw).2, hp]; omega
theorem into_wf {p : Put} {n : Nat} (hp : p.sl.length = n) (hb : 0 < p.by_) : ∀ s, Wf (n + 1) s → Wf n (into p s)
  | .least ws k, h => wIn_len h hp
  | .rest ws m r, h => ⟨wIn_len h.1 hp, Int.mul_pos hb h.2.1, Int.emod_nonneg _ (Int.ne_of_gt (Int.mul_pos hb h.2.1)), Int.emod_lt_of_pos _ (Int.mul_pos hb h.2.1)⟩
  | .neg s, h => into_wf hp hb s h
  | .and a b, h => ⟨into_wf hp hb a h.1, into_wf hp hb b h.2⟩
  | .or a b, h => ⟨into_wf hp hb a h.1, into_wf hp hb b h.2⟩
theorem emod_scale {b m r y : Int} (hb : 0 < b) (hm : 0 < m) (h0 : 0 ≤ r) (h1 : r < m) (c : Int) : ((b * y - c) % (b * m) == (b * r - c) % (b * m)) = (y % m == r) := by
  rw [Bool.eq_iff_iff, beq_iff_eq, beq_iff_eq, Int.emod_eq_emod_iff_emod_sub_eq_zero]
  have e : b * y - c - (b * r - c) = b * (y - r) := by rw [Int.mul_sub]; omega
  rw [e, Int.mul_emod_mul_of_pos _ _ hb]
  constructor
  · intro h
    have h2 : (y - r) % m = 0 := by
      rcases Int.mul_eq_zero.mp h with h | h
      · omega
      · exact h
    have := (Int.emod_eq_emod_iff_emod_sub_eq_zero).mpr h2
    rw [this, Int.emod_eq_of_lt h0 h1]
  · intro h
    have h2 : y % m = r % m := by rw [h, Int.emod_eq_of_lt h0 h1]
    rw [(Int.emod_eq_emod_iff_emod_sub_eq_zero).mp h2, Int.mul_zero]
theorem into_so {p : Put} {cs : List Int} {x : Int} (hp : p.sl.length = cs.length) (hb : 0 < p.by_) (hx : p.by_ * x = dot p.sl cs + p.st) : ∀ s, Wf (cs.length + 1) s → so (into p s) cs = so s (cs ++ [x])
  | .least ws k, w => by
    unfold into so wIn
    rw [dot_last w, dot_lin _ _ _ _ _ (split_last w).2 hp, decide_eq_decide]
    have e : p.by_ * dot (fore ws) cs + last ws * dot p.sl cs = p.by_ * (dot (fore ws) cs + last ws * x) - last ws * p.st := by
      have : dot p.sl cs = p.by_ * x - p.st := by omega
      rw [this, Int.mul_sub, Int.mul_add, ← Int.mul_assoc (last ws), Int.mul_comm (last ws) p.by_, Int.mul_assoc]
      omega
    rw [e]
    constructor
    · intro h
      exact Int.le_of_mul_le_mul_left (show p.by_ * k ≤ _ by omega) hb
    · intro h
      have := Int.mul_le_mul_of_nonneg_left h (Int.le_of_lt hb)
      omega
  | .rest ws m r, w => by
    unfold into so wIn
    rw [dot_last w.1, dot_lin _ _ _ _ _ (split_last w.1).2 hp]
    have e : p.by_ * dot (fore ws) cs + last ws * dot p.sl cs = p.by_ * (dot (fore ws) cs + last ws * x) - last ws * p.st := by
      have : dot p.sl cs = p.by_ * x - p.st := by omega
      rw [this, Int.mul_sub, Int.mul_add, ← Int.mul_assoc (last ws), Int.mul_comm (last ws) p.by_, Int.mul_assoc]
      omega
    rw [e]
    exact emod_scale hb w.2.1 w.2.2.1 w.2.2.2 _
  | .neg s, w => by
    unfold into so; rw [into_so hp hb hx s w]
  | .and a b, w => by
    unfold into so; rw [into_so hp hb hx a w.1, into_so hp hb hx b w.2]
  | .or a b, w => by
    unfold into so; rw [into_so hp hb hx a w.1, into_so hp hb hx b w.2]
theorem isNum_so {p : Put} {cs : List Int} {x : Int} (hb : 0 < p.by_) (hx : p.by_ * x = dot p.sl cs + p.st) : so (isNum p) cs = decide (0 ≤ x) := by
  unfold isNum so
  rw [decide_eq_decide]
  constructor
  · intro h
    refine Int.not_lt.mp fun h2 => ?_
    have : p.by_ * x < 0 := Int.mul_neg_of_pos_of_neg hb h2
    omega
  · intro h
    have := Int.mul_nonneg (Int.le_of_lt hb) h
    omega
/-! ### all that is put in -/
def rng (n : Int) : List Int := (List.range n.toNat).map fun (i : Nat) => (i : Int)
theorem mem_rng {n x : Int} : x ∈ rng n ↔ 0 ≤ x ∧ x < n := by
  unfold rng
  rw [List.mem_map]
  constructor
  · rintro ⟨i, h, rfl⟩
    have := List.mem_range.mp h
    omega
  · intro h
    exact ⟨x.toNat, List.mem_range.mpr (by omega), by omega⟩
theorem rng_len (n : Int) : (rng n).length = n.toNat := by unfold rng; simp
def aby (ws : List Int) : Int := if last ws < 0 then -last ws else last ws
def putOf (ws : List Int) (k r j : Int) : Put := if 0 < last ws then ⟨(fore ws).map (- ·), k + r + aby ws * j, aby ws⟩ else ⟨fore ws, aby ws * (j + 1) - k - r, aby ws⟩
def whenOf (ws : List Int) (k r : Int) : Sen := .rest (fore ws) (aby ws) ((k + r) % aby ws)
def putsAt (W : Int) : Sen → List (Put × Sen)
  | .least ws k => (rng (aby ws)).flatMap fun r => (rng W).map fun j => (putOf ws k r j, whenOf ws k r)
  | _ => []
theorem dot_neg : ∀ (fo cs : List Int), dot (fo.map (- ·)) cs = - dot fo cs
  | [], _ => by simp [dot]
  | f :: fo, [] => by simp [dot]
  | f :: fo, c :: cs => by
    have := dot_neg fo cs
    simp only [List.map_cons, dot, this, Int.neg_mul]
    omega
theorem aby_pos {ws : List Int} (h : last ws ≠ 0) : 0 < aby ws := by unfold aby; split <;> omega
/-- where when holds, the number that is put in is a break and so many more -/
theorem put_val {ws cs : List Int} {k r j : Int} (hl : last ws ≠ 0) (h0 : 0 ≤ r) (h1 : r < aby ws) (hw : so (whenOf ws k r) cs = true) : aby ws * (brk ws k cs + j) = dot (putOf ws k r j).sl cs + (putOf ws k r j).st := by
  unfold whenOf so at hw
  have ha := aby_pos hl
  have hw : dot (fore ws) cs % aby ws = (k + r) % aby ws := by simpa using hw
  have hd := Int.emod_eq_emod_iff_emod_sub_eq_zero.mp hw
  obtain ⟨c, hc⟩ := Int.dvd_of_emod_eq_zero hd
  unfold putOf brk left
  by_cases h : 0 < last ws
  · rw [if_pos h, if_pos h]
    have ea : aby ws = last ws := by unfold aby; rw [if_neg (by omega)]
    rw [ea] at h1 hc ⊢
    show last ws * (-(-(k - dot (fore ws) cs) / last ws) + j) = dot ((fore ws).map (- ·)) cs + (k + r + last ws * j)
    rw [dot_neg]
    have e : -(k - dot (fore ws) cs) = r + last ws * c := by omega
    rw [e, Int.add_mul_ediv_left _ _ (by omega), Int.ediv_eq_zero_of_lt h0 h1, Int.mul_add, Int.mul_neg]
    have : last ws * (0 + c) = last ws * c := by rw [Int.zero_add]
    omega
  · rw [if_neg h, if_neg h]
    have hn : last ws < 0 := by omega
    have ea : aby ws = -last ws := by unfold aby; rw [if_pos hn]
    rw [ea] at h1 hc ha ⊢
    generalize -last ws = l at *
    show l * (-(k - dot (fore ws) cs) / l + 1 + j) = dot (fore ws) cs + (l * (j + 1) - k - r)
    have e : -(k - dot (fore ws) cs) = r + l * c := by omega
    rw [e, Int.add_mul_ediv_left _ _ (by omega), Int.ediv_eq_zero_of_lt h0 h1, Int.mul_add, Int.mul_add, Int.mul_add, Int.mul_one, Int.mul_add l j 1, Int.mul_one]
    omega
/-- some when holds -/
theorem when_ex {ws cs : List Int} {k : Int} (hl : last ws ≠ 0) : ∃ r, 0 ≤ r ∧ r < aby ws ∧ so (whenOf ws k r) cs = true := by
  have ha := aby_pos hl
  refine ⟨(dot (fore ws) cs - k) % aby ws, Int.emod_nonneg _ (by omega), Int.emod_lt_of_pos _ ha, ?_⟩
  unfold whenOf so
  rw [beq_iff_eq]
  have : k + (dot (fore ws) cs - k) % aby ws = (k + (dot (fore ws) cs - k) % aby ws) := rfl
  rw [Int.add_emod, Int.emod_emod_of_dvd _ (Int.dvd_refl _), ← Int.add_emod]
  congr 1; omega
theorem putOf_ok {ws : List Int} {n : Nat} {k r j : Int} (hw : ws.length = n + 1) (hl : last ws ≠ 0) : (putOf ws k r j).sl.length = n ∧ (putOf ws k r j).by_ = aby ws := by
  unfold putOf
  have := (split_last hw).2
  split
  · exact ⟨by simpa using this, rfl⟩
  · exact ⟨this, rfl⟩
def pairUp : List Sen → List Sen
  | a :: b :: l => .or a b :: pairUp l
  | l => l
theorem pairUp_len : ∀ l, (pairUp l).length = (l.length + 1) / 2
  | [] => rfl
  | [a] => by unfold pairUp; simp
  | a :: b :: l => by
    unfold pairUp
    rw [List.length_cons, pairUp_len l]; simp only [List.length_cons]; omega
def anyOf (l : List Sen) : Sen := if h : 1 < l.length then anyOf (pairUp l) else l.headD (.least [] 0)
termination_by l.length
decreasing_by rw [pairUp_len]; omega
theorem pairUp_so (cs : List Int) : ∀ l, (pairUp l).any (so · cs) = l.any (so · cs)
  | [] => rfl
  | [a] => rfl
  | a :: b :: l => by
    unfold pairUp
    rw [List.any_cons, List.any_cons, List.any_cons, pairUp_so cs l]
    show (so a cs || so b cs || _) = _
    rw [Bool.or_assoc]
theorem pairUp_all (Q : Sen → Prop) (hq : ∀ a b, Q a → Q b → Q (.or a b)) : ∀ l, (∀ s ∈ l, Q s) → ∀ s ∈ pairUp l, Q s
  | [], h => h
  | [a], h => h
  | a :: b :: l, h => fun s hs => by
    unfold pairUp at hs
    rcases List.mem_cons.mp hs with rfl | hs
    · exact hq a b (h a (by simp)) (h b (by simp))
    · exact pairUp_all Q hq l (fun x hx => h x (by simp [hx])) s hs
theorem anyOf_so (cs : List Int) (l : List Sen) (hl : l ≠ []) : so (anyOf l) cs = l.any (so · cs) := by
  unfold anyOf
  split
  · rename_i h
    rw [anyOf_so cs (pairUp l) (fun e => by have := pairUp_len l; rw [e, List.length_nil] at this; omega), pairUp_so]
  · rename_i h
    cases l with
    | nil => exact absurd rfl hl
    | cons a l =>
      cases l with
      | nil => simp
      | cons b l => simp at h
termination_by l.length
decreasing_by rw [pairUp_len]; omega
theorem anyOf_all (Q : Sen → Prop) (hq : ∀ a b, Q a → Q b → Q (.or a b)) (l : List Sen) (hl : l ≠ []) (h : ∀ s ∈ l, Q s) : Q (anyOf l) := by
  unfold anyOf
  split
  · rename_i h1
    exact anyOf_all Q hq (pairUp l) (fun e => by have := pairUp_len l; rw [e, List.length_nil] at this; omega) (pairUp_all Q hq l h)
  · cases l with
    | nil => exact absurd rfl hl
    | cons a l => exact h a (by simp)
termination_by l.length
decreasing_by rw [pairUp_len]; omega
/-- found by plainly_some, of n counts -/
def foundA (W : Int) (s : Sen) (a : Sen) : List Sen := (putsAt W a).map fun p => .and p.2 (.and (isNum p.1) (into p.1 s))
def found (n : Nat) (s : Sen) : List Sen := (rng (wheel s)).map (fun j => into ⟨List.replicate n 0, j, 1⟩ s) ++ (breaking s).flatMap (foundA (wheel s) s)
def plainlySome (n : Nat) (s : Sen) : Sen := anyOf (found n s)
theorem dot_zero : ∀ (n : Nat) (cs : List Int), dot (List.replicate n 0) cs = 0
  | 0, _ => rfl
  | n + 1, [] => rfl
  | n + 1, c :: cs => by
    rw [List.replicate_succ]
    unfold dot
    rw [dot_zero n cs]; omega
theorem found_ne {n : Nat} {s : Sen} (w : Wf (n + 1) s) : found n s ≠ [] := by
  have := (wheel_ok w).1
  intro e
  have h := congrArg List.length e
  unfold found at h
  rw [List.length_append, List.length_map, rng_len, List.length_nil] at h
  omega
theorem found_wf {n : Nat} {s : Sen} (w : Wf (n + 1) s) : ∀ t ∈ found n s, Wf n t := fun t ht => by
  rcases List.mem_append.mp ht with ht | ht
  · obtain ⟨j, _, rfl⟩ := List.mem_map.mp ht
    exact into_wf (by simp) (show (0:Int) < 1 by decide) s w
  · obtain ⟨a, ha, ht⟩ := List.mem_flatMap.mp ht
    obtain ⟨h1, h2⟩ := List.mem_filter.mp ha
    have wa := wf_atoms s w a h1
    cases a with
    | least ws k =>
      have hl : last ws ≠ 0 := by simpa [breaks] using h2
      obtain ⟨p, hp, rfl⟩ := List.mem_map.mp ht
      obtain ⟨r, hr, hp⟩ := List.mem_flatMap.mp hp
      obtain ⟨j, hj, rfl⟩ := List.mem_map.mp hp
      obtain ⟨e1, e2⟩ := putOf_ok (k := k) (r := r) (j := j) wa hl
      refine ⟨⟨(split_last wa).2, aby_pos hl, Int.emod_nonneg _ (Int.ne_of_gt (aby_pos hl)), Int.emod_lt_of_pos _ (aby_pos hl)⟩, e1, into_wf e1 (by rw [e2]; exact aby_pos hl) s w⟩
    | rest _ _ _ => cases h2
    | neg _ => cases h2
    | and _ _ => cases h2
    | or _ _ => cases h2
theorem plainly_wf {n : Nat} {s : Sen} (w : Wf (n + 1) s) : Wf n (plainlySome n s) := anyOf_all (Wf n) (fun _ _ a b => ⟨a, b⟩) _ (found_ne w) (found_wf w)
theorem plainly_so {s : Sen} {cs : List Int} (w : Wf (cs.length + 1) s) : so (plainlySome cs.length s) cs = true ↔ ∃ x, 0 ≤ x ∧ so s (cs ++ [x]) = true := by
  unfold plainlySome
  rw [anyOf_so cs _ (found_ne w), List.any_eq_true]
  constructor
  · rintro ⟨t, ht, hs⟩
    rcases List.mem_append.mp ht with ht | ht
    · obtain ⟨j, hj, rfl⟩ := List.mem_map.mp ht
      rw [into_so (x := j) (by simp) (show (0:Int) < 1 by decide) (by show 1 * j = dot (List.replicate _ 0) cs + j; rw [dot_zero]; omega) s w] at hs
      exact ⟨j, (mem_rng.mp hj).1, hs⟩
    · obtain ⟨a, ha, ht⟩ := List.mem_flatMap.mp ht
      obtain ⟨h1, h2⟩ := List.mem_filter.mp ha
      have wa := wf_atoms s w a h1
      cases a with
      | least ws k =>
        have hl : last ws ≠ 0 := by simpa [breaks] using h2
        obtain ⟨p, hp, rfl⟩ := List.mem_map.mp ht
        obtain ⟨r, hr, hp⟩ := List.mem_flatMap.mp hp
        obtain ⟨j, hj, rfl⟩ := List.mem_map.mp hp
        obtain ⟨e1, e2⟩ := putOf_ok (k := k) (r := r) (j := j) wa hl
        obtain ⟨r0, r1⟩ := mem_rng.mp hr
        simp only [so, Bool.and_eq_true] at hs
        have hv := put_val (j := j) hl r0 r1 hs.1
        have hb : 0 < (putOf ws k r j).by_ := by rw [e2]; exact aby_pos hl
        rw [← e2] at hv
        rw [isNum_so hb hv, into_so e1 hb hv s w] at hs
        exact ⟨_, of_decide_eq_true hs.2.1, hs.2.2⟩
      | rest _ _ _ => cases h2
      | neg _ => cases h2
      | and _ _ => cases h2
      | or _ _ => cases h2
  · rintro ⟨x, h0, hx⟩
    obtain ⟨y, y0, ys, _, _, h, hh, hl, hr⟩ := ex_cand w h0 hx
    rcases List.mem_cons.mp hh with rfl | hh
    · refine ⟨into ⟨List.replicate cs.length 0, y, 1⟩ s, List.mem_append_left _ (List.mem_map.mpr ⟨y, mem_rng.mpr ⟨y0, by omega⟩, rfl⟩), ?_⟩
      rw [into_so (x := y) (by simp) (show (0:Int) < 1 by decide) (by show 1 * y = dot (List.replicate _ 0) cs + y; rw [dot_zero]; omega) s w]
      exact ys
    · rw [heads_eq] at hh
      obtain ⟨a, ha, rfl⟩ := List.mem_map.mp hh
      obtain ⟨h1, h2⟩ := List.mem_filter.mp ha
      have wa := wf_atoms s w a h1
      cases a with
      | least ws k =>
        have hl' : last ws ≠ 0 := by simpa [breaks] using h2
        obtain ⟨r, r0, r1, hw⟩ := when_ex (k := k) (cs := cs) hl'
        obtain ⟨e1, e2⟩ := putOf_ok (k := k) (r := r) (j := y - brk ws k cs) wa hl'
        have hv := put_val (j := y - brk ws k cs) hl' r0 r1 hw
        have hb : 0 < (putOf ws k r (y - brk ws k cs)).by_ := by rw [e2]; exact aby_pos hl'
        rw [show brk ws k cs + (y - brk ws k cs) = y by omega, ← e2] at hv
        have hl2 : brk ws k cs ≤ y := hl
        have hr2 : y < brk ws k cs + wheel s := hr
        refine ⟨.and (whenOf ws k r) (.and (isNum (putOf ws k r (y - brk ws k cs))) (into (putOf ws k r (y - brk ws k cs)) s)), List.mem_append_right _ (List.mem_flatMap.mpr ⟨_, ha, List.mem_map.mpr ⟨(putOf ws k r (y - brk ws k cs), whenOf ws k r), List.mem_flatMap.mpr ⟨r, mem_rng.mpr ⟨r0, r1⟩, List.mem_map.mpr ⟨_, mem_rng.mpr ⟨by omega, by omega⟩, rfl⟩⟩, rfl⟩⟩), ?_⟩
        simp only [so, Bool.and_eq_true]
        refine ⟨hw, ?_, ?_⟩
        · rw [isNum_so hb hv]; exact decide_eq_true y0
        · rw [into_so e1 hb hv s w]; exact ys
      | rest _ _ _ => cases h2
      | neg _ => cases h2
      | and _ _ => cases h2
      | or _ _ => cases h2
end Sn
/-! Pl1: sentences as data; short words. -/
namespace Cs
open PySem L2 Sn
def dS : Sen → D
  | .least ws k => .tup [.str "least", .tup (ws.map .int), .int k]
  | .rest ws m r => .tup [.str "rest", .tup (ws.map .int), .int m, .int r]
  | .neg s => .tup [.str "not", dS s]
  | .and a b => .tup [.str "and", dS a, dS b]
  | .or a b => .tup [.str "or", dS a, dS b]
theorem fz_dS : ∀ s, isFz (dS s) = true
  | .least ws k => by simp [dS, isFz, isFzs, isFzs_ints]
  | .rest ws m r => by simp [dS, isFz, isFzs, isFzs_ints]
  | .neg s => by simp [dS, isFz, isFzs, fz_dS s]
  | .and a b => by simp [dS, isFz, isFzs, fz_dS a, fz_dS b]
  | .or a b => by simp [dS, isFz, isFzs, fz_dS a, fz_dS b]
theorem full_dS (s : Sen) : full (dS s) = true := full_fz _ (fz_dS s)
theorem frz_dS (s : Sen) : frz (dS s) = dS s := frz_fz _ (fz_dS s)
theorem fzs_map {α : Type} (f : α → D) (h : ∀ a, isFz (f a) = true) : ∀ l : List α, isFzs (l.map f) = true
  | [] => rfl
  | a :: l => by
    show (isFz (f a) && isFzs (l.map f)) = true
    rw [h a, fzs_map f h l]; rfl
theorem fzs_dSs (l : List Sen) : isFzs (l.map dS) = true := fzs_map dS fz_dS l
theorem fulls_dSs (l : List Sen) : fulls (l.map dS) = true := fulls_fz _ (fzs_dSs l)
theorem frzs_dSs (l : List Sen) : frzs (l.map dS) = l.map dS := frzs_fz _ (fzs_dSs l)
theorem undef_dS (s : Sen) : dS s ≠ .undef := by cases s <;> (unfold dS; intro h; cases h)
theorem slot_dS {ρ : Env} {i : Nat} {s : Sen} (h : ρ[i]? = some (dS s)) : slotE ρ i = some (dS s) := by
  unfold slotE
  rw [h]
  cases s <;> rfl
theorem nud_dS (s : Sen) : nud (dS s) = some (dS s) := by cases s <;> rfl
theorem isU_dS (s : Sen) : isU (some (dS s)) = false := by cases s <;> rfl
/-- the head's word and what is behind it -/
def wordS : Sen → Str
  | .least _ _ => "least"
  | .rest _ _ _ => "rest"
  | .neg _ => "not"
  | .and _ _ => "and"
  | .or _ _ => "or"
theorem star_last {ws : List Int} {n : Nat} (h : ws.length = n + 1) (gs : CGs) (ρ : Env) : Cs.assign (.star 2 0 gs) (.tup (ws.map .int)) ρ = assigns gs [.lst true ((fore ws).map .int), .int (last ws)] ρ := by
  obtain ⟨e, l⟩ := split_last h
  unfold Cs.assign
  show (if (isFzs (ws.map D.int) && (decide (0 < 2) && decide (2 ≤ (ws.map D.int).length + 1))) = true then _ else _) = _
  rw [isFzs_ints, if_pos (by rw [List.length_map]; simp; omega)]
  congr 1
  have e2 : (ws.map D.int) = (fore ws).map D.int ++ [.int (last ws)] := by
    conv => lhs; rw [e]
    simp
  have e3 : ((ws.map D.int).length + 1 - 2) = ((fore ws).map D.int).length := by rw [List.length_map, List.length_map]; omega
  rw [List.take_zero, List.drop_zero, e3, e2, List.nil_append, List.take_left, List.drop_left]; rfl
theorem idx_last {ws : List Int} {n : Nat} (h : ws.length = n + 1) : idxD (.tup (ws.map .int)) (.int (-1)) = some (.int (last ws)) := by
  obtain ⟨e, l⟩ := split_last h
  show fzO (atI (ws.map D.int) (-1)) = _
  have e1 : atI (ws.map D.int) (-1) = some (.int (last ws)) := by
    unfold atI ixN
    rw [if_neg (by decide), if_pos (by rw [List.length_map]; omega)]
    have : -1 + ((ws.map D.int).length : Int) = (n : Int) := by rw [List.length_map]; omega
    rw [this, Int.toNat_natCast]
    conv => lhs; rw [e]
    show (List.map D.int (fore ws ++ [last ws]))[n]? = _
    rw [List.map_append, List.getElem?_append_right (by rw [List.length_map]; omega)]
    simp [l]
  rw [e1]; rfl
theorem zps_ints {ws cs : List Int} (h : ws.length = cs.length) : zipD (ws.map .int) (cs.map .int) = (ws.zip cs).map fun p => .tup [.int p.1, .int p.2] := by
  unfold zipD
  rw [List.zip_map, List.map_map]; rfl
theorem dot_zip : ∀ ws cs : List Int, ((ws.zip cs).map fun p => p.1 * p.2).sum = dot ws cs
  | [], cs => by simp [dot]
  | w :: ws, [] => by simp [dot]
  | w :: ws, c :: cs => by simp [dot, dot_zip ws cs]
def Sm (i : Int) : Prop := -(2 ^ 62) < i ∧ i < 2 ^ 62
theorem sm_l {i j : Int} (h : Sm i) : mulOk i j = true := mulOk_l ⟨by have := h.1; omega, by have := h.2; omega⟩
theorem sm_r {i j : Int} (h : Sm j) : mulOk i j = true := mulOk_r ⟨by have := h.1; omega, by have := h.2; omega⟩
theorem dv_sm {i : Int} (h : Sm i) (h0 : i ≠ 0) : dvOk i = true := by
  unfold dvOk
  have h1 := h.1
  have h2 : i.natAbs < 2 ^ 62 := by have := h.2; omega
  have h3 : i.natAbs.log2 < 62 := (Nat.log2_lt (by omega)).mpr h2
  rw [Bool.and_eq_true]
  exact ⟨decide_eq_true h0, decide_eq_true (by omega)⟩
theorem q_eq (a b : Str) (ha : PyData.strOk a = true) (hb : PyData.strOk b = true) : eqD (.str a) (.str b) = some (PyData.eqv (.str a) (.str b)) := by
  unfold eqD
  show (if (SeqAt.shaped (.str a) && SeqAt.shaped (.str b)) = true then _ else _) = _
  rw [if_pos]
  unfold SeqAt.shaped
  rw [show PyData.canLay0 (.str a) = true from ha, show PyData.canLay0 (.str b) = true from hb]; rfl
theorem q_least_least : eqD (.str "least") (.str "least") = some true := by rw [q_eq _ _ (str_ok _) (str_ok _)]; decide +kernel
theorem q_least_rest : eqD (.str "least") (.str "rest") = some false := by rw [q_eq _ _ (str_ok _) (str_ok _)]; decide +kernel
theorem q_least_not : eqD (.str "least") (.str "not") = some false := by rw [q_eq _ _ (str_ok _) (str_ok _)]; decide +kernel
theorem q_least_and : eqD (.str "least") (.str "and") = some false := by rw [q_eq _ _ (str_ok _) (str_ok _)]; decide +kernel
theorem q_least_or : eqD (.str "least") (.str "or") = some false := by rw [q_eq _ _ (str_ok _) (str_ok _)]; decide +kernel
theorem q_least_some : eqD (.str "least") (.str "some") = some false := by rw [q_eq _ _ (str_ok _) (str_ok _)]; decide +kernel
theorem q_least_all : eqD (.str "least") (.str "all") = some false := by rw [q_eq _ _ (str_ok _) (str_ok _)]; decide +kernel
theorem q_rest_least : eqD (.str "rest") (.str "least") = some false := by rw [q_eq _ _ (str_ok _) (str_ok _)]; decide +kernel
theorem q_rest_rest : eqD (.str "rest") (.str "rest") = some true := by rw [q_eq _ _ (str_ok _) (str_ok _)]; decide +kernel
theorem q_rest_not : eqD (.str "rest") (.str "not") = some false := by rw [q_eq _ _ (str_ok _) (str_ok _)]; decide +kernel
theorem q_rest_and : eqD (.str "rest") (.str "and") = some false := by rw [q_eq _ _ (str_ok _) (str_ok _)]; decide +kernel
theorem q_rest_or : eqD (.str "rest") (.str "or") = some false := by rw [q_eq _ _ (str_ok _) (str_ok _)]; decide +kernel
theorem q_rest_some : eqD (.str "rest") (.str "some") = some false := by rw [q_eq _ _ (str_ok _) (str_ok _)]; decide +kernel
theorem q_rest_all : eqD (.str "rest") (.str "all") = some false := by rw [q_eq _ _ (str_ok _) (str_ok _)]; decide +kernel
theorem q_not_least : eqD (.str "not") (.str "least") = some false := by rw [q_eq _ _ (str_ok _) (str_ok _)]; decide +kernel
theorem q_not_rest : eqD (.str "not") (.str "rest") = some false := by rw [q_eq _ _ (str_ok _) (str_ok _)]; decide +kernel
theorem q_not_not : eqD (.str "not") (.str "not") = some true := by rw [q_eq _ _ (str_ok _) (str_ok _)]; decide +kernel
theorem q_not_and : eqD (.str "not") (.str "and") = some false := by rw [q_eq _ _ (str_ok _) (str_ok _)]; decide +kernel
theorem q_not_or : eqD (.str "not") (.str "or") = some false := by rw [q_eq _ _ (str_ok _) (str_ok _)]; decide +kernel
theorem q_not_some : eqD (.str "not") (.str "some") = some false := by rw [q_eq _ _ (str_ok _) (str_ok _)]; decide +kernel
theorem q_not_all : eqD (.str "not") (.str "all") = some false := by rw [q_eq _ _ (str_ok _) (str_ok _)]; decide +kernel
theorem q_and_least : eqD (.str "and") (.str "least") = some false := by rw [q_eq _ _ (str_ok _) (str_ok _)]; decide +kernel
theorem q_and_rest : eqD (.str "and") (.str "rest") = some false := by rw [q_eq _ _ (str_ok _) (str_ok _)]; decide +kernel
theorem q_and_not : eqD (.str "and") (.str "not") = some false := by rw [q_eq _ _ (str_ok _) (str_ok _)]; decide +kernel
theorem q_and_and : eqD (.str "and") (.str "and") = some true := by rw [q_eq _ _ (str_ok _) (str_ok _)]; decide +kernel
theorem q_and_or : eqD (.str "and") (.str "or") = some false := by rw [q_eq _ _ (str_ok _) (str_ok _)]; decide +kernel
theorem q_and_some : eqD (.str "and") (.str "some") = some false := by rw [q_eq _ _ (str_ok _) (str_ok _)]; decide +kernel
theorem q_and_all : eqD (.str "and") (.str "all") = some false := by rw [q_eq _ _ (str_ok _) (str_ok _)]; decide +kernel
theorem q_or_least : eqD (.str "or") (.str "least") = some false := by rw [q_eq _ _ (str_ok _) (str_ok _)]; decide +kernel
theorem q_or_rest : eqD (.str "or") (.str "rest") = some false := by rw [q_eq _ _ (str_ok _) (str_ok _)]; decide +kernel
theorem q_or_not : eqD (.str "or") (.str "not") = some false := by rw [q_eq _ _ (str_ok _) (str_ok _)]; decide +kernel
theorem q_or_and : eqD (.str "or") (.str "and") = some false := by rw [q_eq _ _ (str_ok _) (str_ok _)]; decide +kernel
theorem q_or_or : eqD (.str "or") (.str "or") = some true := by rw [q_eq _ _ (str_ok _) (str_ok _)]; decide +kernel
theorem q_or_some : eqD (.str "or") (.str "some") = some false := by rw [q_eq _ _ (str_ok _) (str_ok _)]; decide +kernel
theorem q_or_all : eqD (.str "or") (.str "all") = some false := by rw [q_eq _ _ (str_ok _) (str_ok _)]; decide +kernel
theorem q_some_least : eqD (.str "some") (.str "least") = some false := by rw [q_eq _ _ (str_ok _) (str_ok _)]; decide +kernel
theorem q_some_rest : eqD (.str "some") (.str "rest") = some false := by rw [q_eq _ _ (str_ok _) (str_ok _)]; decide +kernel
theorem q_some_not : eqD (.str "some") (.str "not") = some false := by rw [q_eq _ _ (str_ok _) (str_ok _)]; decide +kernel
theorem q_some_and : eqD (.str "some") (.str "and") = some false := by rw [q_eq _ _ (str_ok _) (str_ok _)]; decide +kernel
theorem q_some_or : eqD (.str "some") (.str "or") = some false := by rw [q_eq _ _ (str_ok _) (str_ok _)]; decide +kernel
theorem q_some_some : eqD (.str "some") (.str "some") = some true := by rw [q_eq _ _ (str_ok _) (str_ok _)]; decide +kernel
theorem q_some_all : eqD (.str "some") (.str "all") = some false := by rw [q_eq _ _ (str_ok _) (str_ok _)]; decide +kernel
theorem q_all_least : eqD (.str "all") (.str "least") = some false := by rw [q_eq _ _ (str_ok _) (str_ok _)]; decide +kernel
theorem q_all_rest : eqD (.str "all") (.str "rest") = some false := by rw [q_eq _ _ (str_ok _) (str_ok _)]; decide +kernel
theorem q_all_not : eqD (.str "all") (.str "not") = some false := by rw [q_eq _ _ (str_ok _) (str_ok _)]; decide +kernel
theorem q_all_and : eqD (.str "all") (.str "and") = some false := by rw [q_eq _ _ (str_ok _) (str_ok _)]; decide +kernel
theorem q_all_or : eqD (.str "all") (.str "or") = some false := by rw [q_eq _ _ (str_ok _) (str_ok _)]; decide +kernel
theorem q_all_some : eqD (.str "all") (.str "some") = some false := by rw [q_eq _ _ (str_ok _) (str_ok _)]; decide +kernel
theorem q_all_all : eqD (.str "all") (.str "all") = some true := by rw [q_eq _ _ (str_ok _) (str_ok _)]; decide +kernel
theorem n_least : inD (.str "least") (.tup [.str "least", .str "rest"]) = some true := by decide +kernel
theorem n_rest : inD (.str "rest") (.tup [.str "least", .str "rest"]) = some true := by decide +kernel
theorem n_not : inD (.str "not") (.tup [.str "least", .str "rest"]) = some false := by decide +kernel
theorem n_and : inD (.str "and") (.tup [.str "least", .str "rest"]) = some false := by decide +kernel
theorem n_or : inD (.str "or") (.tup [.str "least", .str "rest"]) = some false := by decide +kernel
theorem sl_1 {a : D} {xs : List D} (h : isFzs (a :: xs) = true) : slcD (.tup (a :: xs)) (some 1) none = some (.tup xs) := by
  show (if isFzs (a :: xs) = true then some (D.tup (cutD (a :: xs) (some 1) none)) else none) = _
  rw [if_pos h]
  have e : cutD (a :: xs) (some 1) none = xs := by
    unfold cutD HT.sIx
    simp
  rw [e]
end Cs
/-! Pl2: steps of slices, ranges, the greatest common part. -/
namespace Cs
open PySem L2 Sn
theorem rangeD_rng (n : Int) : rangeD 0 n = (rng n).map .int := by
  unfold rangeD rng
  rw [List.map_map]
  simp [Function.comp_def]
theorem i_abs {i : Int} : biD .abs [.int i] = some (.int (i.natAbs : Int)) := by
  show some (D.int (if i < 0 then -i else i)) = _
  congr 2
  split <;> omega
def evens {α : Type} : List α → List α
  | a :: _ :: l => a :: evens l
  | l => l
def odds {α : Type} : List α → List α
  | _ :: b :: l => b :: odds l
  | _ => []
theorem evens_get {α : Type} : ∀ xs : List α, (List.range ((xs.length + 1) / 2)).filterMap (fun k => xs[2 * k]?) = evens xs
  | [] => by simp [evens]
  | [a] => by
    have e : ([a].length + 1) / 2 = 1 := by simp
    rw [e]; rfl
  | a :: b :: l => by
    have e : ((a :: b :: l).length + 1) / 2 = (l.length + 1) / 2 + 1 := by simp only [List.length_cons]; omega
    rw [e, List.range_succ_eq_map, List.filterMap_cons, List.filterMap_map]
    show a :: _ = _
    unfold evens
    rw [← evens_get l]; rfl
theorem odds_get {α : Type} : ∀ xs : List α, (List.range (xs.length / 2)).filterMap (fun k => xs[1 + 2 * k]?) = odds xs
  | [] => by simp [odds]
  | [a] => by unfold odds; simp
  | a :: b :: l => by
    have e : (a :: b :: l).length / 2 = l.length / 2 + 1 := by simp only [List.length_cons]; omega
    rw [e, List.range_succ_eq_map, List.filterMap_cons, List.filterMap_map]
    show b :: _ = _
    unfold odds
    rw [← odds_get l]
    congr 2
theorem pick_ev {α : Type} (xs : List α) : pickL xs none none 2 = evens xs := by
  unfold pickL sliceBounds sliceRange
  rw [← evens_get]
  simp only [Option.getD_some]
  have e : ((if (0 : Int) < (xs.length : Int) then ((xs.length : Int) - 0 + 2 - 1) / 2 else 0)).toNat = (xs.length + 1) / 2 := by
    split <;> omega
  show List.filterMap (fun x => xs[x]?) ((List.range (if (0 : Int) < (xs.length : Int) then ((xs.length : Int) - 0 + 2 - 1) / 2 else 0).toNat).map fun (k : Nat) => ((0 : Int) + 2 * (k : Int)).toNat) = _
  rw [e, List.filterMap_map]
  congr 1
  funext k
  show xs[((0 : Int) + 2 * (k : Int)).toNat]? = _
  rw [show ((0 : Int) + 2 * (k : Int)).toNat = 2 * k by omega]
theorem pick_od {α : Type} (xs : List α) : pickL xs (some 1) none 2 = odds xs := by
  unfold pickL sliceBounds sliceRange
  rw [← odds_get]
  simp only [Option.getD_some]
  by_cases h0 : xs.length = 0
  · have : xs = [] := List.eq_nil_of_length_eq_zero h0
    subst this; simp
  have em : max 0 (min (1 : Int) (xs.length : Int)) = 1 := by omega
  have e : ((if (1 : Int) < (xs.length : Int) then ((xs.length : Int) - 1 + 2 - 1) / 2 else 0)).toNat = xs.length / 2 := by
    split <;> omega
  show List.filterMap (fun x => xs[x]?) ((List.range (if max 0 (min (1 : Int) (xs.length : Int)) < (xs.length : Int) then ((xs.length : Int) - max 0 (min (1 : Int) (xs.length : Int)) + 2 - 1) / 2 else 0).toNat).map fun (k : Nat) => (max 0 (min (1 : Int) (xs.length : Int)) + 2 * (k : Int)).toNat) = _
  rw [em, e, List.filterMap_map]
  congr 1
theorem evens_len {α : Type} : ∀ xs : List α, (evens xs).length = (xs.length + 1) / 2
  | [] => by simp [evens]
  | [a] => by simp [evens]
  | a :: b :: l => by
    simp only [evens, List.length_cons, evens_len l]; omega
theorem odds_len {α : Type} : ∀ xs : List α, (odds xs).length = xs.length / 2
  | [] => by simp [odds]
  | [a] => by simp [odds]
  | a :: b :: l => by
    simp only [odds, List.length_cons, odds_len l]; omega
theorem evens_map {α β : Type} (f : α → β) : ∀ xs : List α, evens (xs.map f) = (evens xs).map f
  | [] => rfl
  | [a] => rfl
  | a :: b :: l => by simp [evens, evens_map f l]
theorem odds_map {α β : Type} (f : α → β) : ∀ xs : List α, odds (xs.map f) = (odds xs).map f
  | [] => rfl
  | [a] => rfl
  | a :: b :: l => by simp [odds, odds_map f l]
theorem pair_eq : ∀ l : List Sen, (((evens l).zip (odds l)).map fun p => Sen.or p.1 p.2) ++ l.drop (l.length / 2 * 2) = pairUp l
  | [] => rfl
  | [a] => by simp [odds, pairUp]
  | a :: b :: l => by
    have := pair_eq l
    have e : (a :: b :: l).length / 2 * 2 = l.length / 2 * 2 + 2 := by simp only [List.length_cons]; omega
    rw [e]
    simp only [evens, odds, pairUp, List.zip_cons_cons, List.map_cons, List.drop_succ_cons, List.cons_append]
    rw [this]
theorem cut_from {xs : List D} {k : Nat} (h : k ≤ xs.length) : cutD xs (some (k : Int)) none = xs.drop k := by
  unfold cutD
  rw [HT.sIx_nat, HT.sIx_none, Nat.min_eq_left h, List.take_of_length_le]
  rw [List.length_drop]; omega
theorem dv_c {j : Int} (h0 : 0 < j) (h1 : j ≤ 4611686018427387904) : dvOk j = true := by
  unfold dvOk
  have h2 : j.natAbs < 2 ^ 63 := by omega
  have h3 : j.natAbs.log2 < 63 := (Nat.log2_lt (by omega)).mpr h2
  rw [Bool.and_eq_true]
  exact ⟨decide_eq_true (by omega), decide_eq_true (by omega)⟩
theorem q_str (a b : Str) (ha : PyData.strOk a = true) (hb : PyData.strOk b = true) : eqD (.str a) (.str b) = some (a == b) := by
  rw [q_eq a b ha hb]
  rfl
theorem foldl_app {α β : Type} (g : α → List β) : ∀ (l : List α) (b : List β), l.foldl (fun acc a => acc ++ g a) b = b ++ l.flatMap g
  | [], b => by simp
  | a :: l, b => by
    rw [List.foldl_cons, foldl_app g l]
    simp
theorem foldl_snoc {α β : Type} (g : α → β) (l : List α) (b : List β) : l.foldl (fun acc a => acc ++ [g a]) b = b ++ l.map g := by
  rw [foldl_app (fun a => [g a])]
  congr 1
  induction l with
  | nil => rfl
  | cons a l ih => rw [List.flatMap_cons, ih]; rfl
theorem flat_len {α β : Type} {g : α → List β} {W : Nat} (h : ∀ a, (g a).length = W) : ∀ l : List α, (l.flatMap g).length = l.length * W
  | [] => by simp
  | a :: l => by
    rw [List.flatMap_cons, List.length_append, flat_len h l, h a, List.length_cons, Nat.add_mul]; omega
theorem sl_lst {o : Bool} {xs : List D} {lo hi : Option Int} : slcD (.lst o xs) lo hi = if isFzs xs = true then some (.lst true (cutD xs lo hi)) else none := rfl
theorem sk_lst {o : Bool} {xs : List D} {lo hi : Option Int} {k : Int} : slkD k (.lst o xs) lo hi = if (isFzs xs && decide ((pickL xs lo hi k).length ≤ xs.length)) = true then some (.lst true (pickL xs lo hi k)) else none := rfl
theorem zip_lst {o p : Bool} {xs ys : List D} : itZip (.lst o xs) (.lst p ys) = itZipA xs ys := rfl
theorem zps_lst {o p : Bool} {xs ys : List D} : itZps (.lst o xs) (.lst p ys) = if decide (xs.length = ys.length) = true then itZipA xs ys else none := rfl
theorem zpA_eq {xs ys : List D} : itZipA xs ys = if (fulls xs && fulls ys) = true then some (zipD (frzs xs) (frzs ys)) else none := rfl
theorem zip_dS (a b : List Sen) : zipD (a.map dS) (b.map dS) = (a.zip b).map fun p => .tup [dS p.1, dS p.2] := by
  unfold zipD
  rw [List.zip_map, List.map_map]; rfl
theorem mrg_nil {α : Type} {c : Cn → α} : mrg c [] [] = some [] := rfl
theorem mrg_none {α : Type} {c : Cn → α} {p : Plan} {a : α} {as : List α} : mrg c (none :: p) (a :: as) = (mrg c p as).map (a :: ·) := rfl
theorem mrg_some {α : Type} {c : Cn → α} {p : Plan} {k : Cn} {as : List α} : mrg c (some k :: p) as = (mrg c p as).map (c k :: ·) := by cases as <;> rfl
theorem unm_nil {α : Type} {ds : List α} : unm [] ds = [] := by cases ds <;> rfl
theorem unm_none {α : Type} {p : Plan} {d : α} {ds : List α} : unm (none :: p) (d :: ds) = d :: unm p ds := rfl
theorem unm_some {α : Type} {p : Plan} {k : Cn} {d : α} {ds : List α} : unm (some k :: p) (d :: ds) = unm p ds := rfl
theorem cn_int {i : Int} : (Cn.int i).d = .int i := rfl
theorem app_lst {xs : List D} {y : D} : appD (some (.lst true xs)) y = if xs.length < sizeLine then some (.lst true (xs ++ [y])) else none := rfl
theorem own_lst {xs : List D} : ownL (some (.lst true xs)) = some xs := rfl
theorem b_repT {xs : List D} {k : Int} : binD .Mult (.tup xs) (.int k) = if decide (k = 1) = true then guardL (isFzs xs) (.tup xs) else guardL (isFzs xs && (!xs.isEmpty && (decide (2 ≤ k ∧ k ≤ 1000) && decide (xs.length ≤ 1000)))) (.tup (List.replicate k.toNat xs).flatten) := by
  show (if (decide (k = 1)) = true then _ else _) = _
  rfl
theorem b_rep0 {n : Nat} (h1 : 1 ≤ n) (h2 : n ≤ 1000) : binD .Mult (.tup [.int 0]) (.int (n : Int)) = some (.tup ((List.replicate n (0 : Int)).map .int)) := by
  rw [b_repT]
  by_cases h : n = 1
  · subst h; rfl
  · rw [if_neg (by simp; omega)]
    have e : (List.replicate ((n : Int).toNat) [D.int 0]).flatten = (List.replicate n (0 : Int)).map .int := by
      rw [Int.toNat_natCast, List.map_replicate]
      clear h h1 h2
      induction n with
      | zero => rfl
      | succ n ih => rw [List.replicate_succ, List.flatten_cons, ih, List.replicate_succ]; rfl
    rw [e]
    have : (isFzs [D.int 0] && (!([D.int 0] : List D).isEmpty && (decide ((2 : Int) ≤ (n : Int) ∧ (n : Int) ≤ 1000) && decide (([D.int 0] : List D).length ≤ 1000)))) = true := by
      simp [isFzs, isFz]; omega
    unfold guardL
    rw [this]; rfl
end Cs
/-! Pl3: sentences compared; how deep a sentence put plainly is; bounds of wheels. -/
namespace Cs
open PySem L2 Sn
theorem eqD_bl (a b : Bool) : eqD (.bl a) (.bl b) = some (a == b) := by
  unfold eqD
  show (if (SeqAt.shaped (.bool a) && SeqAt.shaped (.bool b)) = true then some (PyData.eqv (.bool a) (.bool b)) else none) = _
  have h : ∀ i : Bool, SeqAt.shaped (.bool i) = true := fun i => rfl
  rw [h, h]; rfl
def pInts (ws : List Int) : PyData := .tuple (ws.map .int)
def pS : Sen → PyData
  | .least ws k => .tuple [.str "least", pInts ws, .int k]
  | .rest ws m r => .tuple [.str "rest", pInts ws, .int m, .int r]
  | .neg s => .tuple [.str "not", pS s]
  | .and a b => .tuple [.str "and", pS a, pS b]
  | .or a b => .tuple [.str "or", pS a, pS b]
theorem toP_tupI (ws : List Int) : toP (.tup (ws.map .int)) = some (pInts ws) := by
  show (toPs (ws.map D.int)).map PyData.tuple = _
  rw [toPs_ints]; rfl
theorem toP_dS : ∀ s, toP (dS s) = some (pS s)
  | .least ws k => by
    simp only [dS, toP, toPs, toPs_ints, Option.map_some]; rfl
  | .rest ws m r => by
    simp only [dS, toP, toPs, toPs_ints, Option.map_some]; rfl
  | .neg s => by simp only [dS, toP, toPs, toP_dS s, Option.map_some]; rfl
  | .and a b => by simp only [dS, toP, toPs, toP_dS a, toP_dS b, Option.map_some]; rfl
  | .or a b => by simp only [dS, toP, toPs, toP_dS a, toP_dS b, Option.map_some]; rfl
def dep : Sen → Nat
  | .least _ _ => 1
  | .rest _ _ _ => 1
  | .neg s => dep s + 1
  | .and a b => max (dep a) (dep b) + 1
  | .or a b => max (dep a) (dep b) + 1
theorem dep_pos : ∀ s, 0 < dep s
  | .least _ _ => Nat.one_pos
  | .rest _ _ _ => Nat.one_pos
  | .neg _ => Nat.succ_pos _
  | .and _ _ => Nat.succ_pos _
  | .or _ _ => Nat.succ_pos _
theorem depth_pS : ∀ s, (pS s).depth ≤ dep s + 2
  | .least ws k => by
    have := depth_ints ws
    simp [pS, pInts, dep, PyData.depth, PyData.depthAll]; omega
  | .rest ws m r => by
    have := depth_ints ws
    simp [pS, pInts, dep, PyData.depth, PyData.depthAll]; omega
  | .neg s => by
    have := depth_pS s
    simp [pS, dep, PyData.depth, PyData.depthAll]; omega
  | .and a b => by
    have := depth_pS a
    have := depth_pS b
    simp [pS, dep, PyData.depth, PyData.depthAll]; omega
  | .or a b => by
    have := depth_pS a
    have := depth_pS b
    simp [pS, dep, PyData.depth, PyData.depthAll]; omega
theorem lay_pS : ∀ s, (pS s).canLay0 = true
  | .least ws k => by
    have h : PyData.strOk "least" = true := str_ok _
    simp [pS, pInts, PyData.canLay0, PyData.canLayAll0, canLay_ints, h]
  | .rest ws m r => by
    have h : PyData.strOk "rest" = true := str_ok _
    simp [pS, pInts, PyData.canLay0, PyData.canLayAll0, canLay_ints, h]
  | .neg s => by
    have h : PyData.strOk "not" = true := str_ok _
    simp [pS, PyData.canLay0, PyData.canLayAll0, h, lay_pS s]
  | .and a b => by
    have h : PyData.strOk "and" = true := str_ok _
    simp [pS, PyData.canLay0, PyData.canLayAll0, h, lay_pS a, lay_pS b]
  | .or a b => by
    have h : PyData.strOk "or" = true := str_ok _
    simp [pS, PyData.canLay0, PyData.canLayAll0, h, lay_pS a, lay_pS b]
theorem shaped_pS {s : Sen} (h : dep s ≤ 60) : SeqAt.shaped (pS s) = true := by
  unfold SeqAt.shaped
  rw [lay_pS, Bool.true_and]
  exact decide_eq_true (by have := depth_pS s; omega)
theorem eqD_same {s : Sen} (h : dep s ≤ 60) : eqD (dS s) (dS s) = some true := eqD_refl (toP_dS s) (toP_dS s) (shaped_pS h)
theorem eqvI_len : ∀ (a b : List Int), a.length ≠ b.length → PyData.eqvAll (a.map .int) (b.map .int) = false
  | [], [], h => absurd rfl h
  | [], _ :: _, _ => rfl
  | _ :: _, [], _ => rfl
  | x :: a, y :: b, h => by
    show (PyData.eqv (.int x) (.int y) && PyData.eqvAll (a.map .int) (b.map .int)) = false
    rw [eqvI_len a b (fun e => h (by simp [e])), Bool.and_false]
/-- unlike numbers of weights: unlike -/
theorem eqv_wf {n m : Nat} (hnm : n ≠ m) : ∀ s t : Sen, Wf n s → Wf m t → PyData.eqv (pS s) (pS t) = false := by
  have w : ∀ (x y : Str) (xs ys : List PyData), (x == y) = false → PyData.eqv (.tuple (.str x :: xs)) (.tuple (.str y :: ys)) = false := fun x y xs ys h => by
    show ((x == y) && PyData.eqvAll xs ys) = false
    rw [h, Bool.false_and]
  have z : ∀ (x : PyData) (p q : PyData) (xs ys : List PyData), PyData.eqv p q = false → PyData.eqv (.tuple (x :: p :: xs)) (.tuple (x :: q :: ys)) = false := fun x p q xs ys h => by
    show (PyData.eqv x x && (PyData.eqv p q && PyData.eqvAll xs ys)) = false
    rw [h, Bool.false_and, Bool.and_false]
  have i : ∀ a b : List Int, a.length ≠ b.length → PyData.eqv (pInts a) (pInts b) = false := fun a b h => eqvI_len a b h
  intro s
  induction s with
  | least ws k =>
    intro t h1 h2
    cases t with
    | least us l => exact z _ _ _ _ _ (i _ _ (by rw [show ws.length = n from h1, show us.length = m from h2]; exact hnm))
    | rest us a b => exact w _ _ _ _ (by decide +kernel)
    | neg t => exact w _ _ _ _ (by decide +kernel)
    | and a b => exact w _ _ _ _ (by decide +kernel)
    | or a b => exact w _ _ _ _ (by decide +kernel)
  | rest ws k l =>
    intro t h1 h2
    cases t with
    | least us l => exact w _ _ _ _ (by decide +kernel)
    | rest us a b => exact z _ _ _ _ _ (i _ _ (by rw [show ws.length = n from h1.1, show us.length = m from h2.1]; exact hnm))
    | neg t => exact w _ _ _ _ (by decide +kernel)
    | and a b => exact w _ _ _ _ (by decide +kernel)
    | or a b => exact w _ _ _ _ (by decide +kernel)
  | neg s ih =>
    intro t h1 h2
    cases t with
    | least us l => exact w _ _ _ _ (by decide +kernel)
    | rest us a b => exact w _ _ _ _ (by decide +kernel)
    | neg t => exact z _ _ _ _ _ (ih t h1 h2)
    | and a b => exact w _ _ _ _ (by decide +kernel)
    | or a b => exact w _ _ _ _ (by decide +kernel)
  | and a b iha ihb =>
    intro t h1 h2
    cases t with
    | least us l => exact w _ _ _ _ (by decide +kernel)
    | rest us a b => exact w _ _ _ _ (by decide +kernel)
    | neg t => exact w _ _ _ _ (by decide +kernel)
    | and a b => exact z _ _ _ _ _ (iha a h1.1 h2.1)
    | or a b => exact w _ _ _ _ (by decide +kernel)
  | or a b iha ihb =>
    intro t h1 h2
    cases t with
    | least us l => exact w _ _ _ _ (by decide +kernel)
    | rest us a b => exact w _ _ _ _ (by decide +kernel)
    | neg t => exact w _ _ _ _ (by decide +kernel)
    | and a b => exact w _ _ _ _ (by decide +kernel)
    | or a b => exact z _ _ _ _ _ (iha a h1.1 h2.1)
theorem eqD_unlike {n m : Nat} {s t : Sen} (hnm : n ≠ m) (h1 : Wf n s) (h2 : Wf m t) (d1 : dep s ≤ 60) (d2 : dep t ≤ 60) : eqD (dS s) (dS t) = some false := by
  unfold eqD
  rw [toP_dS, toP_dS]
  show (if (SeqAt.shaped (pS s) && SeqAt.shaped (pS t)) = true then some (PyData.eqv (pS s) (pS t)) else none) = _
  rw [shaped_pS d1, shaped_pS d2, eqv_wf hnm s t h1 h2]; rfl
/-! ### depths -/
theorem dep_any (D : Nat) : ∀ (k : Nat) (l : List Sen), l ≠ [] → l.length ≤ 2 ^ k → (∀ s ∈ l, dep s ≤ D) → dep (anyOf l) ≤ D + k
  | 0, l, hl, hz, h => by
    unfold anyOf
    rw [dif_neg (by simp at hz; omega)]
    cases l with
    | nil => exact absurd rfl hl
    | cons a l => have := h a (by simp); simpa using this
  | k + 1, l, hl, hz, h => by
    unfold anyOf
    split
    · have e := pairUp_len l
      have hp : ∀ s ∈ pairUp l, dep s ≤ D + 1 := pairUp_all2 D l h
      have := dep_any (D + 1) k (pairUp l) (fun e0 => by rw [e0] at e; simp at e; omega) (by rw [e]; rw [Nat.pow_succ] at hz; omega) hp
      omega
    · cases l with
      | nil => exact absurd rfl hl
      | cons a l => have := h a (by simp); simp; omega
where
  pairUp_all2 (D : Nat) : ∀ l : List Sen, (∀ s ∈ l, dep s ≤ D) → ∀ s ∈ pairUp l, dep s ≤ D + 1
    | [], h => fun s hs => nomatch hs
    | [a], h => fun s hs => Nat.le_succ_of_le (h s hs)
    | a :: b :: l, h => fun s hs => by
      unfold pairUp at hs
      rcases List.mem_cons.mp hs with rfl | hs
      · have := h a (by simp)
        have := h b (by simp)
        simp [dep]; omega
      · exact pairUp_all2 D l (fun x hx => h x (by simp [hx])) s hs
theorem dep_into (p : Put) : ∀ s, dep (into p s) = dep s
  | .least _ _ => rfl
  | .rest _ _ _ => rfl
  | .neg s => by simp [into, dep, dep_into p s]
  | .and a b => by simp [into, dep, dep_into p a, dep_into p b]
  | .or a b => by simp [into, dep, dep_into p a, dep_into p b]
theorem dep_found {n : Nat} {s : Sen} : ∀ t ∈ found n s, dep t ≤ dep s + 2 := fun t ht => by
  have h0 := dep_pos s
  rcases List.mem_append.mp ht with ht | ht
  · obtain ⟨j, _, rfl⟩ := List.mem_map.mp ht
    rw [dep_into]; omega
  · obtain ⟨a, _, ht⟩ := List.mem_flatMap.mp ht
    unfold foundA at ht
    obtain ⟨q, hq, rfl⟩ := List.mem_map.mp ht
    have hw : dep q.2 = 1 := by
      cases a with
      | least ws c =>
        obtain ⟨r, hr, hq⟩ := List.mem_flatMap.mp hq
        obtain ⟨j, hj, rfl⟩ := List.mem_map.mp hq
        rfl
      | rest _ _ _ => cases hq
      | neg _ => cases hq
      | and _ _ => cases hq
      | or _ _ => cases hq
    have hi : dep (isNum q.1) = 1 := rfl
    simp only [dep, dep_into, hw, hi]
    omega
theorem found_len {n B : Nat} {s : Sen} (h : ∀ a ∈ atoms s, match a with | .least ws _ => (last ws).natAbs ≤ B | _ => True) : (found n s).length ≤ (wheel s).toNat * (1 + (atoms s).length * B) := by
  have hf : ∀ l : List Sen, (∀ a ∈ l, match a with | .least ws _ => (last ws).natAbs ≤ B | _ => True) → (l.flatMap (foundA (wheel s) s)).length ≤ l.length * (B * (wheel s).toNat) := by
    intro l
    induction l with
    | nil => intro _; simp
    | cons a l ih =>
      intro hl
      rw [List.flatMap_cons, List.length_append, List.length_cons, Nat.add_mul]
      have h2 := ih fun x hx => hl x (List.mem_cons_of_mem _ hx)
      have h1 : (foundA (wheel s) s a).length ≤ B * (wheel s).toNat := by
        unfold foundA
        rw [List.length_map]
        have ha := hl a List.mem_cons_self
        cases a with
        | least ws c =>
          unfold putsAt
          rw [flat_len (W := (wheel s).toNat) (fun r => by rw [List.length_map, rng_len]), rng_len]
          have ha : (last ws).natAbs ≤ B := ha
          exact Nat.mul_le_mul_right _ (by unfold aby; split <;> omega)
        | rest _ _ _ => exact Nat.zero_le _
        | neg _ => exact Nat.zero_le _
        | and _ _ => exact Nat.zero_le _
        | or _ _ => exact Nat.zero_le _
      omega
  have h1 := hf (breaking s) fun a ha => h a (List.mem_filter.mp ha).1
  have h2 : (breaking s).length ≤ (atoms s).length := List.length_filter_le ..
  have h3 := Nat.mul_le_mul_right (B * (wheel s).toNat) h2
  unfold found
  rw [List.length_append, List.length_map, rng_len, Nat.mul_add, Nat.mul_one]
  have e : (wheel s).toNat * ((atoms s).length * B) = (atoms s).length * (B * (wheel s).toNat) := by
    rw [Nat.mul_comm, Nat.mul_assoc]
  omega
/-! ### wheels of small parts -/
theorem lcm_dvd {a b c : Int} (ha : 0 < a) (hb : 0 < b) (h1 : a ∣ c) (h2 : b ∣ c) : a * b / cp a b ∣ c := by
  have h := Int.coe_lcm_dvd h1 h2
  have e : (a * b) / cp a b = (Int.lcm a b : Int) := by
    have h3 : (Int.gcd a b : Int) * (Int.lcm a b : Int) = a * b := by
      have := Int.gcd_mul_lcm a b
      have h4 : ((a * b).natAbs : Int) = a * b := by
        have := Int.mul_pos ha hb
        omega
      have h5 : ((a.gcd b * a.lcm b : Nat) : Int) = ((a.natAbs * b.natAbs : Nat) : Int) := by rw [this]
      rw [← h4, Int.natAbs_mul]
      rw [Int.natCast_mul] at h5
      exact h5
    unfold cp
    rw [← h3, Int.mul_ediv_cancel_left]
    have := cp_pos (b := b) ha
    unfold cp at this
    omega
  rw [e]; exact h
theorem wheel_dvd {n : Nat} (c : Int) : ∀ (l : List Sen) (f : Int), 0 < f → f ∣ c → (∀ a ∈ l, AtomWf n a) → (∀ a ∈ l, match a with | .rest _ m _ => m ∣ c | _ => True) → l.foldl wheelA f ∣ c
  | [], f, _, h, _, _ => h
  | a :: l, f, hf, h, w, hc => by
    have h1 := wheel_step hf (w a List.mem_cons_self)
    refine wheel_dvd c l (wheelA f a) h1.1 ?_ (fun x hx => w x (List.mem_cons_of_mem _ hx)) fun x hx => hc x (List.mem_cons_of_mem _ hx)
    have wa := w a List.mem_cons_self
    have ca := hc a List.mem_cons_self
    cases a with
    | least ws k => exact h
    | rest ws m r =>
      have hm : 0 < m := wa.2.1
      have hd := cp_dvd_l m (last ws)
      have hg := cp_pos (b := last ws) hm
      refine lcm_dvd hf (Sn.div_pos hm hg hd) h ?_
      refine Int.dvd_trans ?_ ca
      exact ⟨cp m (last ws), (Int.ediv_mul_cancel hd).symm⟩
    | neg _ => exact wa.elim
    | and _ _ => exact wa.elim
    | or _ _ => exact wa.elim
end Cs
/-! Cs21: the equations, in heaps. -/
namespace Cs
open PySem L2
def ev_0 := And.intro @x_E_var (And.intro @x_E_mv (And.intro @x_E_int (And.intro @x_E_str (And.intro @x_E_bl (And.intro @x_E_non (And.intro @x_E_con (And.intro @x_E_glb (And.intro @x_E_tup (And.intro @x_E_lst (And.intro @x_E_bin (And.intro @x_E_neg (And.intro @x_E_cmp (And.intro @x_E_chain (And.intro @x_E_andv (And.intro @x_E_orv (And.intro @x_E_notv (And.intro @x_E_ifx (And.intro @x_E_idx (And.intro @x_E_slc (And.intro @x_E_slk (And.intro @x_E_fld (And.intro @x_E_isT (And.intro @x_E_bi (And.intro @x_Es_nil (And.intro @x_Es_cons (And.intro @x_Rs_nil (And.intro @x_Rs_cons (And.intro @x_T_and (And.intro @x_T_or (And.intro @x_T_not (And.intro @x_T_cmp (And.intro @x_T_chain (And.intro @x_T_val (And.intro @x_T_yes (And.intro @x_O_none (And.intro @x_O_some (And.intro @x_I_seq (And.intro @x_I_rng1 (And.intro @x_I_rng2 (And.intro @x_I_enm (And.intro @x_I_zps (And.intro @x_I_zip (And.intro @x_S_asg (And.intro @x_S_par (And.intro @x_S_aug (And.intro @x_S_setI (And.intro @x_S_app (And.intro @x_S_setF (And.intro @x_S_drop (And.intro @x_S_ret (And.intro @x_S_retN (And.intro @x_S_pass (And.intro @x_S_brk (And.intro @x_S_cont (And.intro @rf_var_ (And.intro @rf_mv_ (And.intro @rf_int_ (And.intro @rf_str_ (@rf_bl_)))))))))))))))))))))))))))))))))))))))))))))))))))))))))))
def ev_1 := And.intro @rf_non_ (And.intro @rf_con_ (And.intro @rf_glb_ (And.intro @rf_tup_ (And.intro @rf_lst_ (And.intro @rf_bin_ (And.intro @rf_neg_ (And.intro @rf_cmp_ (And.intro @rf_chain_ (And.intro @rf_andv_ (And.intro @rf_orv_ (And.intro @rf_notv_ (And.intro @rf_ifx_ (And.intro @rf_idx_ (And.intro @rf_slc_ (And.intro @rf_slk_ (And.intro @rf_call_ (And.intro @rf_fld_ (And.intro @rf_meth_ (And.intro @rf_mk_ (And.intro @rf_callK_ (And.intro @rf_mkK_ (And.intro @rf_bi_ (And.intro @rf_isT_ (And.intro @rf_lc_ (And.intro @rf_lc2_ (And.intro @slot_eq (And.intro @nud_undef (And.intro @varE_eq (And.intro @lend_nil (And.intro @lend_tmp (And.intro @lend_slot (And.intro @back_nil (And.intro @back_tmp (And.intro @back_slot (And.intro @isU_u (And.intro @opt2_ss (And.intro @get_slot (And.intro @get_tmp (And.intro @gets_nil (And.intro @gets_cons (And.intro @endD_0 (And.intro @endD_s (And.intro @as_name (And.intro @as_tup (And.intro @as_nil (And.intro @as_cons (And.intro @so_tup (And.intro @so_lst (And.intro @so_lkd (And.intro @nl_lst (And.intro @nl_lkd (And.intro @asI_int (And.intro @asB_bl (And.intro @fzO_some_ (And.intro @iy_tup (And.intro @iy_lst (And.intro @iy_lkd (And.intro @at_0 (@at_1)))))))))))))))))))))))))))))))))))))))))))))))))))))))))))
def ev_2 := And.intro @at_2 (And.intro @at_3 (And.intro @guard_eq (And.intro @isT_int (And.intro @isT_bl (And.intro @isT_str (And.intro @isT_tup (And.intro @isT_lst (And.intro @tr_bl (And.intro @tr_int (And.intro @itS_eq (And.intro @nud_non (And.intro @isU_non (And.intro @nud_bl (And.intro @isU_bl (And.intro @nud_int (And.intro @isU_int (And.intro @nud_str (And.intro @isU_str (And.intro @nud_tup (And.intro @isU_tup (And.intro @nud_lst (And.intro @isU_lst (And.intro @nud_lkd (And.intro @isU_lkd (And.intro @nud_dK (And.intro @isU_dK (And.intro @nud_dT (And.intro @isU_dT (And.intro @nud_ins (And.intro @isU_ins (And.intro @nud_glb (And.intro @isU_glb (And.intro @g_0 (And.intro @u_0 (And.intro @g_1 (And.intro @u_1 (And.intro @g_2 (And.intro @u_2 (And.intro @g_3 (And.intro @u_3 (And.intro @g_4 (And.intro @u_4 (And.intro @g_5 (And.intro @u_5 (And.intro @g_6 (And.intro @u_6 (And.intro @g_7 (And.intro @u_7 (And.intro @g_8 (And.intro @u_8 (And.intro @g_9 (And.intro @u_9 (And.intro @g_10 (And.intro @u_10 (And.intro @g_11 (And.intro @u_11 (And.intro @g_12 (And.intro @u_12 (@g_13)))))))))))))))))))))))))))))))))))))))))))))))))))))))))))
def ev_3 := And.intro @u_13 (And.intro @g_14 (And.intro @u_14 (And.intro @g_15 (And.intro @u_15 (And.intro @g_16 (And.intro @u_16 (And.intro @g_17 (And.intro @u_17 (And.intro @gd_0 (And.intro @gd_1 (And.intro @gd_2 (And.intro @gd_3 (And.intro @gd_4 (And.intro @gd_5 (And.intro @gd_6 (And.intro @gd_7 (And.intro @gd_8 (And.intro @gd_9 (And.intro @gd_10 (And.intro @gd_11 (And.intro @gd_12 (And.intro @gd_13 (And.intro @gd_14 (And.intro @gd_15 (And.intro @gd_16 (And.intro @gd_17 (And.intro @wp_bind (And.intro @wp_of (And.intro @wp_ok (And.intro @wp_map (And.intro @wp_mute (And.intro @wp_ite (And.intro @wo_ite (And.intro @w_ife (And.intro @wo_some (And.intro @wo_none (And.intro @wo_map (And.intro @wo_bind (And.intro @w_call (And.intro @w_meth (And.intro @w_callK (And.intro @w_mkK (And.intro @w_mk (And.intro @isFzs_ints (And.intro @b_add (And.intro @b_sub (And.intro @b_mul (And.intro @b_fd (And.intro @b_mod (And.intro @b_strs (And.intro @b_tups (And.intro @b_lsts (And.intro @c_lt (And.intro @c_le (And.intro @c_gt (And.intro @c_ge (And.intro @c_eq (And.intro @c_ne (@c_in)))))))))))))))))))))))))))))))))))))))))))))))))))))))))))
def ev_4 := And.intro @c_nin (And.intro @c_is (And.intro @c_isn (And.intro @i_lenL (And.intro @i_lenK (And.intro @i_lenT (And.intro @i_lenS (And.intro @i_min2 (And.intro @i_max2 (And.intro @i_min1 (And.intro @i_max1 (And.intro @i_sumT (And.intro @i_sumL (And.intro @i_sorted (And.intro @i_listL (And.intro @i_listT (And.intro @i_tupL (And.intro @i_tupT (And.intro @i_intB (And.intro @i_int (And.intro @i_repr (And.intro @eqD_int (And.intro @sizeLine_eq (And.intro @fulls_ints (And.intro @frzs_ints (And.intro @wp_nil (And.intro @mrg_nil (And.intro @mrg_none (And.intro @mrg_some (And.intro @unm_nil (And.intro @unm_none (And.intro @unm_some (And.intro @cn_int (And.intro @app_lst (And.intro @own_lst (And.intro @sl_lst (And.intro @sk_lst (And.intro @zip_lst (@zpA_eq))))))))))))))))))))))))))))))))))))))
def ev_d := And.intro @tn_nx (And.intro @tn_ct (And.intro @tn_bk (And.intro @tn_ret (And.intro @made_eq (And.intro @nx_nx (And.intro @nx_ret (And.intro @nx_bk (@nx_ct))))))))
def ev_q := And.intro @q_least_least (And.intro @q_least_rest (And.intro @q_least_not (And.intro @q_least_and (And.intro @q_least_or (And.intro @q_least_some (And.intro @q_least_all (And.intro @q_rest_least (And.intro @q_rest_rest (And.intro @q_rest_not (And.intro @q_rest_and (And.intro @q_rest_or (And.intro @q_rest_some (And.intro @q_rest_all (And.intro @q_not_least (And.intro @q_not_rest (And.intro @q_not_not (And.intro @q_not_and (And.intro @q_not_or (And.intro @q_not_some (And.intro @q_not_all (And.intro @q_and_least (And.intro @q_and_rest (And.intro @q_and_not (And.intro @q_and_and (And.intro @q_and_or (And.intro @q_and_some (And.intro @q_and_all (And.intro @q_or_least (And.intro @q_or_rest (And.intro @q_or_not (And.intro @q_or_and (And.intro @q_or_or (And.intro @q_or_some (And.intro @q_or_all (And.intro @q_some_least (And.intro @q_some_rest (And.intro @q_some_not (And.intro @q_some_and (And.intro @q_some_or (And.intro @q_some_some (And.intro @q_some_all (And.intro @q_all_least (And.intro @q_all_rest (And.intro @q_all_not (And.intro @q_all_and (And.intro @q_all_or (And.intro @q_all_some (And.intro @q_all_all (And.intro @n_least (And.intro @n_rest (And.intro @n_not (And.intro @n_and (@n_or)))))))))))))))))))))))))))))))))))))))))))))))))))))
def ev_e := And.intro @Option.map_some.{0,0} (And.intro @Option.bind_some.{0,0} (And.intro @Option.map_none.{0,0} (And.intro @Option.bind_none.{0,0} (And.intro @List.length_cons.{0} (And.intro @List.length_nil.{0} (And.intro @List.length_map.{0,0} (And.intro @Nat.zero_add (And.intro @Nat.sub_zero (And.intro @Nat.lt_add_one (And.intro @decide_true (And.intro @decide_false (And.intro @Bool.and_true (And.intro @Bool.true_and (And.intro @Bool.and_self (And.intro @Bool.not_true (And.intro @Bool.not_false (And.intro @Bool.false_eq_true (And.intro @List.map_cons.{0,0} (And.intro @List.map_nil.{0,0} (And.intro @List.take_succ_cons.{0} (And.intro @List.take_zero.{0} (And.intro @List.drop_succ_cons.{0} (And.intro @List.drop_zero.{0} (And.intro @List.take_nil.{0} (And.intro @List.drop_nil.{0} (And.intro @List.cons_append.{0} (And.intro @List.nil_append.{0} (And.intro @true_and (And.intro @and_true (And.intro @and_self (And.intro @decide_eq_true_eq (And.intro @Nat.lt_irrefl (And.intro @List.not_mem_nil.{0} (And.intro @Nat.le_refl (And.intro @not_true_eq_false (And.intro @not_false_eq_true (And.intro @eq_self.{1} (And.intro @List.any_cons.{0} (And.intro @List.any_nil.{0} (And.intro @Bool.or_false (And.intro @Bool.or_true (And.intro @Bool.or_self (And.intro @beq_self_eq_true.{0} (And.intro @Bool.false_or (And.intro @Bool.true_or (And.intro @or_true (And.intro @true_or (And.intro @false_or (@or_false)))))))))))))))))))))))))))))))))))))))))))))))))
end Cs
/-! Pl4: the least number by which a sentence is so. -/
namespace Cs
open PySem L2 Sn
def dO : Option Int → D
  | some x => .int x
  | none => .non
def IsLeast (q : Int → Bool) : Option Int → Prop
  | some y => 0 ≤ y ∧ q y = true ∧ ∀ z, 0 ≤ z → q z = true → y ≤ z
  | none => ∀ z, 0 ≤ z → q z = false
theorem least_uniq {q : Int → Bool} : ∀ {a b : Option Int}, IsLeast q a → IsLeast q b → a = b
  | some a, some b, ⟨a0, a1, a2⟩, ⟨b0, b1, b2⟩ => by
    have h1 := a2 b b0 b1
    have h2 := b2 a a0 a1
    rw [show a = b by omega]
  | some a, none, ⟨a0, a1, _⟩, h => by have h := h a a0; rw [a1] at h; cases h
  | none, some b, h, ⟨b0, b1, _⟩ => by have h := h b b0; rw [b1] at h; cases h
  | none, none, _, _ => rfl
def headsL (s : Sen) (cs : List Int) : List Int := 0 :: (breaking s).map (brkA cs)
def candL (s : Sen) (cs : List Int) : List Int := srtU ((headsL s cs).flatMap fun h => (rng (wheel s)).map fun m => h + m)
def okAt (s : Sen) (cs : List Int) (x : Int) : Bool := decide (0 ≤ x) && so s (cs ++ [x])
def lwit (s : Sen) (cs : List Int) : Option Int := (candL s cs).find? (okAt s cs)
theorem mem_cand {s : Sen} {cs : List Int} {x : Int} : x ∈ candL s cs ↔ ∃ h ∈ headsL s cs, h ≤ x ∧ x < h + wheel s := by
  unfold candL
  rw [srtU_mem, List.mem_flatMap]
  constructor
  · rintro ⟨h, hh, hx⟩
    obtain ⟨m, hm, rfl⟩ := List.mem_map.mp hx
    have := mem_rng.mp hm
    exact ⟨h, hh, by omega, by omega⟩
  · rintro ⟨h, hh, h1, h2⟩
    exact ⟨h, hh, List.mem_map.mpr ⟨x - h, mem_rng.mpr ⟨by omega, by omega⟩, by omega⟩⟩
theorem find_rise {p : Int → Bool} {y : Int} : ∀ {l : List Int}, l.Pairwise (· < ·) → l.find? p = some y → p y = true ∧ y ∈ l ∧ ∀ z ∈ l, p z = true → y ≤ z
  | [], _, h => nomatch h
  | x :: l, hl, h => by
    obtain ⟨l1, l2⟩ := List.pairwise_cons.mp hl
    rw [List.find?_cons] at h
    cases hp : p x with
    | true =>
      rw [hp] at h
      cases h
      exact ⟨hp, List.mem_cons_self, fun z hz _ => by
        rcases List.mem_cons.mp hz with rfl | hz
        · exact Int.le_refl _
        · have := l1 z hz; omega⟩
    | false =>
      rw [hp] at h
      obtain ⟨h1, h2, h3⟩ := find_rise l2 h
      exact ⟨h1, List.mem_cons_of_mem _ h2, fun z hz hq => by
        rcases List.mem_cons.mp hz with rfl | hz
        · rw [hp] at hq; cases hq
        · exact h3 z hz hq⟩
theorem lwit_least {s : Sen} {cs : List Int} (w : Wf (cs.length + 1) s) : IsLeast (fun x => so s (cs ++ [x])) (lwit s cs) := by
  have hh : ∀ {h : Int}, h ∈ 0 :: heads cs s ↔ h ∈ headsL s cs := by
    intro h
    unfold headsL
    rw [heads_eq]
  cases hw : lwit s cs with
  | none =>
    intro z z0
    cases hz : so s (cs ++ [z]) with
    | false => exact hz
    | true =>
      obtain ⟨y, y0, ys, _, _, h, h1, h2, h3⟩ := ex_cand w z0 hz
      have hm : y ∈ candL s cs := mem_cand.mpr ⟨h, hh.mp h1, h2, h3⟩
      have := List.find?_eq_none.mp hw y hm
      unfold okAt at this
      rw [ys, decide_eq_true y0] at this
      exact absurd rfl this
  | some y =>
    obtain ⟨h1, h2, h3⟩ := find_rise (srtU_rise _) hw
    unfold okAt at h1
    rw [Bool.and_eq_true, decide_eq_true_iff] at h1
    refine ⟨h1.1, h1.2, fun z z0 hz => ?_⟩
    obtain ⟨x, x0, xs, xl, _, h, q1, q2, q3⟩ := ex_cand w z0 hz
    have := h3 x (mem_cand.mpr ⟨h, hh.mp q1, q2, q3⟩) (by unfold okAt; rw [xs, decide_eq_true x0]; rfl)
    omega
theorem rng_rise (n : Int) : (rng n).Pairwise (· < ·) := by
  unfold rng
  rw [List.pairwise_map]
  exact List.pairwise_lt_range.imp fun h => by omega
/-- looked for one by one below a bound that no candidate passes -/
theorem find_least {s : Sen} {cs : List Int} {N : Int} (w : Wf (cs.length + 1) s) (hb : ∀ h ∈ headsL s cs, h + wheel s ≤ N) : IsLeast (fun x => so s (cs ++ [x])) ((rng N).find? fun x => so s (cs ++ [x])) := by
  cases hw : (rng N).find? fun x => so s (cs ++ [x]) with
  | none =>
    intro z z0
    cases hz : so s (cs ++ [z]) with
    | false => exact hz
    | true =>
      obtain ⟨y, y0, ys, _, _, h, h1, h2, h3⟩ := ex_cand w z0 hz
      have h1 : h ∈ headsL s cs := by unfold headsL; rw [← heads_eq]; exact h1
      have := hb h h1
      have := List.find?_eq_none.mp hw y (mem_rng.mpr ⟨y0, by omega⟩)
      rw [ys] at this
      exact absurd rfl this
  | some y =>
    obtain ⟨h1, h2, h3⟩ := find_rise (rng_rise N) hw
    obtain ⟨g1, g2⟩ := mem_rng.mp h2
    refine ⟨g1, h1, fun z z0 hz => ?_⟩
    by_cases hn : z < N
    · exact h3 z (mem_rng.mpr ⟨z0, hn⟩) hz
    · omega
/-- the first that has p -/
theorem find_at {α : Type} {p : α → Bool} : ∀ {l : List α} {j : Nat} {x : α}, l[j]? = some x → (∀ y ∈ l.take j, p y = false) → p x = true → l.find? p = some x
  | [], _, _, h, _, _ => by simp at h
  | a :: l, 0, x, h, _, hp => by
    simp at h; subst h
    rw [List.find?_cons, hp]
  | a :: l, j + 1, x, h, hn, hp => by
    rw [List.find?_cons, hn a (by simp)]
    exact find_at (by simpa using h) (fun y hy => hn y (by simp [hy])) hp
theorem dot_bd {B M : Int} (hB : 0 ≤ B) (hM : 0 ≤ M) : ∀ ws cs : List Int, (∀ w ∈ ws, -B ≤ w ∧ w ≤ B) → (∀ c ∈ cs, 0 ≤ c ∧ c ≤ M) → -(B * M * cs.length) ≤ dot ws cs ∧ dot ws cs ≤ B * M * cs.length
  | [], cs, _, _ => by
    have : 0 ≤ B * M * (cs.length : Int) := Int.mul_nonneg (Int.mul_nonneg hB hM) (by omega)
    simp only [dot]; omega
  | w :: ws, [], _, _ => by simp [dot]
  | w :: ws, c :: cs, hw, hc => by
    obtain ⟨h1, h2⟩ := dot_bd hB hM ws cs (fun x hx => hw x (List.mem_cons_of_mem _ hx)) (fun x hx => hc x (List.mem_cons_of_mem _ hx))
    obtain ⟨w1, w2⟩ := hw w List.mem_cons_self
    obtain ⟨c1, c2⟩ := hc c List.mem_cons_self
    have e : B * M * ((c :: cs).length : Int) = B * M * (cs.length : Int) + B * M := by
      rw [List.length_cons, Int.natCast_add, Int.mul_add]; simp
    have u1 : w * c ≤ B * c := Int.mul_le_mul_of_nonneg_right w2 c1
    have u2 : B * c ≤ B * M := Int.mul_le_mul_of_nonneg_left c2 hB
    have u3 : -B * c ≤ w * c := Int.mul_le_mul_of_nonneg_right w1 c1
    rw [Int.neg_mul] at u3
    simp only [dot]
    rw [e]; omega
theorem brk_bd {ws cs : List Int} {k : Int} (hl : last ws ≠ 0) {L : Int} (h : -L ≤ left ws k cs ∧ left ws k cs ≤ L) : -L - 1 ≤ brk ws k cs ∧ brk ws k cs ≤ L + 1 := by
  have key : ∀ a b : Int, 0 < b → -L ≤ a → a ≤ L → -L ≤ a / b ∧ a / b ≤ L := fun a b hb h1 h2 => by
    have hL : 0 ≤ L := by omega
    constructor
    · rw [Int.le_ediv_iff_mul_le hb]
      have : L * 1 ≤ L * b := Int.mul_le_mul_of_nonneg_left (by omega) hL
      rw [Int.neg_mul]; omega
    · have h3 : a / b < L + 1 := by
        rw [Int.ediv_lt_iff_lt_mul hb]
        have : (L + 1) * 1 ≤ (L + 1) * b := Int.mul_le_mul_of_nonneg_left (by omega) (by omega)
        omega
      omega
  unfold brk
  split
  · rename_i hp
    have := key (-left ws k cs) (last ws) hp (by omega) (by omega)
    omega
  · have := key (-left ws k cs) (-last ws) (by omega) (by omega) (by omega)
    omega
section
variable {C : Ctx} {own : List Nat} {g : CG} {it : CI} {elt : CE} {ρ : Env} {α β : Type}
/-- the numbers of a set's comprehension of two sources, sorted -/
theorem wp_ss2M {Q : D × Env → Prop} {vs : List Nat} {g1 : CG} {it1 : CI} (l : List α) (u : α → D) (k : α → List β) (u1 : β → D) (f : α → β → Int) (ρ1 : Env) (h1 : Wp (evI C it ρ) (fun p => p.1 = l.map u ∧ p.2 = ρ1)) (hl : (l.flatMap k).length < 4000)
    (st : ∀ a ∈ l, ∃ ρ2, Cs.assign g (u a) (wipeD ρ1 own) = some ρ2 ∧ Wp (evI C it1 ρ2) (fun p => p.1 = (k a).map u1 ∧ wipeD (wipeD p.2 vs) own = wipeD ρ1 own ∧
      ∀ b ∈ k a, ∃ ρ3, Cs.assign g1 (u1 b) (wipeD p.2 vs) = some ρ3 ∧ Wp (evE C elt ρ3) (fun q => q.1 = .int (f a b) ∧ wipeD q.2 vs = wipeD p.2 vs))) (e : Q (.lst true ((srtU (l.flatMap fun a => (k a).map (f a))).map .int), putBack ρ1 (wipeD ρ1 own) own)) : Wp (evE C (.ss2 own g it .yes vs g1 it1 .yes elt) ρ) Q := by
  rw [evE, wp_bind]
  refine h1.mono fun p ⟨e1, e2⟩ => ?_
  rw [e1, e2, wp_bind, loopO_eq (f := fun a => (k a).map fun b => D.int (f a b)) l [] fun a ha acc => ?_, wp_ok]
  · rw [wp_of]
    refine ⟨_, ?_, e⟩
    have e4 : ([] ++ l.flatMap fun a => (k a).map fun b => D.int (f a b)) = (l.flatMap fun a => (k a).map (f a)).map .int := by
      rw [List.nil_append, List.map_flatMap]
      congr 1
      funext a
      rw [List.map_map]; rfl
    show setL ([] ++ l.flatMap fun a => (k a).map fun b => D.int (f a b)) _ = _
    unfold setL
    rw [e4, intsOf_ints]
    have e5 : (l.flatMap fun a => (k a).map (f a)).length < 4000 := by
      have : (l.flatMap fun a => (k a).map (f a)).length = (l.flatMap k).length := by simp [List.length_flatMap]
      omega
    simp only [e5, if_true]
  · obtain ⟨ρ2, b1, ⟨q, b2, b3, b4, b5⟩⟩ := st a ha
    rw [b1]
    simp only [R.of, R.bind, evT, b2, b3, if_true]
    rw [loopC_eq (f := fun b => D.int (f a b)) (k a) acc fun b hb => ?_]
    · simp only [R.map, b4]
    · obtain ⟨ρ3, c1, ⟨w, c2, c3, c4⟩⟩ := b5 b hb
      rw [c1]
      simp only [c2, R.map, c3, c4, if_true]
end
end Cs
namespace K43
open PySem L2 Cs
def topS (i : Nat) : Stmt := PySem.Challenge.pw_crowdsay_k43_questions_by_hand.main.body.getD i (.Pass ⟨0, 0, 0, 0⟩)
def topM (i j : Nat) : Stmt := (match topS i with | .ClassDef (body := b) .. => b | _ => []).getD j (.Pass ⟨0, 0, 0, 0⟩)
abbrev nms : Nms := ⟨["many_of", "atoms_of", "weighed", "is_so", "common_part", "wheel_of", "break_at", "breaking", "least_so", "sought_by", "witness", "holds", "puts_at", "any_of", "plainly_some", "plainly", "_law_cell_at", "_law_tape", "_law_digit", "_law_same", "_law_questions", "_law_told_right", "law"], ["len", "abs", "min", "max", "sum", "sorted", "tuple", "int", "repr", "range", "zip"], [], [], [], [⟨"Put", 2, ["by"], [none, none, none]⟩, ⟨"Put", 2, [], [none, none, some (.int 1)]⟩]⟩
abbrev alL : List (Str × Str) := [("Put", "slopes"), ("Put", "start"), ("Put", "parts")]
abbrev mlL : List (Str × Str) := [("Put", "weights_in"), ("Put", "into"), ("Put", "is_number")]
def dOf (x : Str) (m : Option Str) (n q : Str) (s : Stmt) (df : List He.Dv) (kd : List (Str × He.Dv)) : He.DefD := ⟨(x, m), n, q, defArgs s, defBody s, defScope s, df, kd⟩
def b_many_of : CSs :=
  (.cons (.whl (.cmp .NotIn (.idx (.var 0) (.int 0)) (.tup (.cons (.str "least") (.cons (.str "rest") .nil)))) (.cons (.asg (.name 0) (.idx (.var 0) (.int 1))) .nil)) (.cons (.ret (.bi .len (.cons (.idx (.var 0) (.int 1)) .nil))) .nil))
def r_many_of : Row := ⟨"many_of", (dOf "many_of" none "many_of" "many_of" (topS 1) [] []), ["sentence"], ["sentence"], [0], b_many_of, false⟩
theorem o_many_of : RowOk nms 20 r_many_of := ⟨sc_of (by kernel_rfl), by kernel_rfl⟩
theorem y_many_of {K : PySem.W.Frag} : Byp K r_many_of := byp_of rfl fun _ _ _ _ _ _ us hl => match us, hl with | [_], _ => rfl
def b_atoms_of : CSs :=
  (.cons (.ife (.cmp .In (.idx (.var 0) (.int 0)) (.tup (.cons (.str "least") (.cons (.str "rest") .nil)))) (.cons (.ret (.lst (.cons (.var 0) .nil))) .nil) .nil) (.cons (.ret (.lc2 [1, 2] (.name 1) (.seq (.slc (.var 0) (.some (.int 1)) .none)) .yes [2] (.name 2) (.seq (.call "atoms_of" (.cons (.var 1) .nil))) .yes (.var 2))) .nil))
def r_atoms_of : Row := ⟨"atoms_of", (dOf "atoms_of" none "atoms_of" "atoms_of" (topS 2) [] []), ["sentence", "part", "one"], ["sentence"], [], b_atoms_of, false⟩
theorem o_atoms_of : RowOk nms 20 r_atoms_of := ⟨sc_of (by kernel_rfl), by kernel_rfl⟩
theorem y_atoms_of {K : PySem.W.Frag} : Byp K r_atoms_of := byp_of rfl fun _ _ _ _ _ _ us hl => match us, hl with | [_], _ => rfl
def b_weighed : CSs :=
  (.cons (.ret (.bi .sum (.cons (.lc [2, 3] (.tup (.cons (.name 2) (.cons (.name 3) .nil))) (.zps (.var 0) (.var 1)) .yes (.bin .Mult (.var 2) (.var 3))) .nil))) .nil)
def r_weighed : Row := ⟨"weighed", (dOf "weighed" none "weighed" "weighed" (topS 3) [] []), ["weights", "counts", "weight", "count"], ["weights", "counts"], [], b_weighed, false⟩
theorem o_weighed : RowOk nms 20 r_weighed := ⟨sc_of (by kernel_rfl), by kernel_rfl⟩
theorem y_weighed {K : PySem.W.Frag} : Byp K r_weighed := byp_of rfl fun _ _ _ _ _ _ us hl => match us, hl with | [_, _], _ => rfl
def b_is_so : CSs :=
  (.cons (.asg (.star 2 1 (.cons (.name 2) (.cons (.name 3) .nil))) (.var 0)) (.cons (.ife (.cmp .Eq (.var 2) (.str "least")) (.cons (.ret (.cmp .GtE (.call "weighed" (.cons (.idx (.var 3) (.int 0)) (.cons (.var 1) .nil))) (.idx (.var 3) (.int 1)))) .nil) .nil) (.cons (.ife (.cmp .Eq (.var 2) (.str "rest")) (.cons (.ret (.cmp .Eq (.bin .Mod (.call "weighed" (.cons (.idx (.var 3) (.int 0)) (.cons (.var 1) .nil))) (.idx (.var 3) (.int 1))) (.idx (.var 3) (.int 2)))) .nil) .nil) (.cons (.ife (.cmp .Eq (.var 2) (.str "not")) (.cons (.ret (.notv (.call "is_so" (.cons (.idx (.var 3) (.int 0)) (.cons (.var 1) .nil))))) .nil) .nil) (.cons (.ife (.cmp .Eq (.var 2) (.str "and")) (.cons (.ret (.andv (.call "is_so" (.cons (.idx (.var 3) (.int 0)) (.cons (.var 1) .nil))) (.call "is_so" (.cons (.idx (.var 3) (.int 1)) (.cons (.var 1) .nil))))) .nil) .nil) (.cons (.ret (.orv (.call "is_so" (.cons (.idx (.var 3) (.int 0)) (.cons (.var 1) .nil))) (.call "is_so" (.cons (.idx (.var 3) (.int 1)) (.cons (.var 1) .nil))))) .nil))))))
def r_is_so : Row := ⟨"is_so", (dOf "is_so" none "is_so" "is_so" (topS 4) [] []), ["sentence", "counts", "word", "parts"], ["sentence", "counts"], [], b_is_so, false⟩
theorem o_is_so : RowOk nms 20 r_is_so := ⟨sc_of (by kernel_rfl), by kernel_rfl⟩
theorem y_is_so {K : PySem.W.Frag} : Byp K r_is_so := byp_of rfl fun _ _ _ _ _ _ us hl => match us, hl with | [_, _], _ => rfl
def b_common_part : CSs :=
  (.cons (.par 0 1 (.bi .abs (.cons (.var 0) .nil)) (.bi .abs (.cons (.var 1) .nil))) (.cons (.whl (.cmp .NotEq (.var 1) (.int 0)) (.cons (.par 0 1 (.var 1) (.bin .Mod (.var 0) (.var 1))) .nil)) (.cons (.ret (.var 0)) .nil)))
def r_common_part : Row := ⟨"common_part", (dOf "common_part" none "common_part" "common_part" (topS 6) [] []), ["one", "other"], ["one", "other"], [0, 1], b_common_part, false⟩
theorem o_common_part : RowOk nms 20 r_common_part := ⟨sc_of (by kernel_rfl), by kernel_rfl⟩
theorem y_common_part {K : PySem.W.Frag} : Byp K r_common_part := byp_of rfl fun _ _ _ _ _ _ us hl => match us, hl with | [_, _], _ => rfl
def b_wheel_of : CSs :=
  (.cons (.asg (.name 1) (.int 1)) (.cons (.for (.name 2) (.seq (.call "atoms_of" (.cons (.var 0) .nil))) (.cons (.ife (.cmp .Eq (.idx (.var 2) (.int 0)) (.str "rest")) (.cons (.asg (.star 2 0 (.cons (.name 3) (.cons (.name 4) .nil))) (.idx (.var 2) (.int 1))) (.cons (.asg (.name 5) (.bin .FloorDiv (.idx (.var 2) (.int 2)) (.call "common_part" (.cons (.idx (.var 2) (.int 2)) (.cons (.var 4) .nil))))) (.cons (.asg (.name 1) (.bin .FloorDiv (.bin .Mult (.var 1) (.var 5)) (.call "common_part" (.cons (.var 1) (.cons (.var 5) .nil))))) .nil))) .nil) .nil)) (.cons (.ret (.mv 1)) .nil)))
def r_wheel_of : Row := ⟨"wheel_of", (dOf "wheel_of" none "wheel_of" "wheel_of" (topS 8) [] []), ["sentence", "found", "atom", "fore", "last", "one"], ["sentence"], [], b_wheel_of, false⟩
theorem o_wheel_of : RowOk nms 20 r_wheel_of := ⟨sc_of (by kernel_rfl), by kernel_rfl⟩
theorem y_wheel_of {K : PySem.W.Frag} : Byp K r_wheel_of := byp_of rfl fun _ _ _ _ _ _ us hl => match us, hl with | [_], _ => rfl
def b_break_at : CSs :=
  (.cons (.asg (.star 2 0 (.cons (.name 2) (.cons (.name 3) .nil))) (.idx (.var 0) (.int 1))) (.cons (.asg (.name 4) (.bin .Sub (.idx (.var 0) (.int 2)) (.bi .sum (.cons (.lc [5, 6] (.tup (.cons (.name 5) (.cons (.name 6) .nil))) (.zps (.var 2) (.var 1)) .yes (.bin .Mult (.var 5) (.var 6))) .nil)))) (.cons (.ife (.cmp .Gt (.var 3) (.int 0)) (.cons (.ret (.neg (.bin .FloorDiv (.neg (.var 4)) (.var 3)))) .nil) .nil) (.cons (.ret (.bin .Add (.bin .FloorDiv (.neg (.var 4)) (.neg (.var 3))) (.int 1))) .nil))))
def r_break_at : Row := ⟨"break_at", (dOf "break_at" none "break_at" "break_at" (topS 9) [] []), ["atom", "counts", "fore", "last", "left", "weight", "count"], ["atom", "counts"], [], b_break_at, false⟩
theorem o_break_at : RowOk nms 20 r_break_at := ⟨sc_of (by kernel_rfl), by kernel_rfl⟩
theorem y_break_at {K : PySem.W.Frag} : Byp K r_break_at := byp_of rfl fun _ _ _ _ _ _ us hl => match us, hl with | [_, _], _ => rfl
def b_breaking : CSs :=
  (.cons (.ret (.lc [1] (.name 1) (.seq (.call "atoms_of" (.cons (.var 0) .nil))) (.and (.cmp .Eq (.idx (.var 1) (.int 0)) (.str "least")) (.cmp .NotEq (.idx (.idx (.var 1) (.int 1)) (.neg (.int 1))) (.int 0))) (.var 1))) .nil)
def r_breaking : Row := ⟨"breaking", (dOf "breaking" none "breaking" "breaking" (topS 10) [] []), ["sentence", "atom"], ["sentence"], [], b_breaking, false⟩
theorem o_breaking : RowOk nms 20 r_breaking := ⟨sc_of (by kernel_rfl), by kernel_rfl⟩
theorem y_breaking {K : PySem.W.Frag} : Byp K r_breaking := byp_of rfl fun _ _ _ _ _ _ us hl => match us, hl with | [_], _ => rfl
def b_least_so : CSs :=
  (.cons (.asg (.name 2) (.call "wheel_of" (.cons (.var 0) .nil))) (.cons (.asg (.name 3) (.bin .Add (.lst (.cons (.int 0) .nil)) (.lc [5] (.name 5) (.seq (.call "breaking" (.cons (.var 0) .nil))) .yes (.call "break_at" (.cons (.var 5) (.cons (.var 1) .nil)))))) (.cons (.for (.name 4) (.seq (.ss2 [6, 7] (.name 6) (.seq (.var 3)) .yes [7] (.name 7) (.rng1 (.var 2)) .yes (.bin .Add (.var 6) (.var 7)))) (.cons (.ife (.and (.cmp .GtE (.var 4) (.int 0)) (.val (.call "is_so" (.cons (.var 0) (.cons (.bin .Add (.bi .tuple (.cons (.var 1) .nil)) (.tup (.cons (.var 4) .nil))) .nil))))) (.cons (.ret (.mv 4)) .nil) .nil) .nil)) (.cons (.ret .non) .nil))))
def r_least_so : Row := ⟨"least_so", (dOf "least_so" none "least_so" "least_so" (topS 11) [] []), ["sentence", "counts", "wheel", "heads", "number", "atom", "head", "more"], ["sentence", "counts"], [], b_least_so, false⟩
theorem o_least_so : RowOk nms 20 r_least_so := ⟨sc_of (by kernel_rfl), by kernel_rfl⟩
theorem y_least_so {K : PySem.W.Frag} : Byp K r_least_so := byp_of rfl fun _ _ _ _ _ _ us hl => match us, hl with | [_, _], _ => rfl
def b_sought_by : CSs :=
  (.cons (.asg (.tup (.cons (.name 1) (.cons (.name 2) .nil))) (.var 0)) (.cons (.ret (.ifx (.cmp .Eq (.var 1) (.str "some")) (.var 2) (.tup (.cons (.str "not") (.cons (.var 2) .nil))))) .nil))
def r_sought_by : Row := ⟨"sought_by", (dOf "sought_by" none "sought_by" "sought_by" (topS 12) [] []), ["question", "word", "sentence"], ["question"], [], b_sought_by, false⟩
theorem o_sought_by : RowOk nms 20 r_sought_by := ⟨sc_of (by kernel_rfl), by kernel_rfl⟩
theorem y_sought_by {K : PySem.W.Frag} : Byp K r_sought_by := byp_of rfl fun _ _ _ _ _ _ us hl => match us, hl with | [_], _ => rfl
def b_witness : CSs :=
  (.cons (.ret (.call "least_so" (.cons (.call "sought_by" (.cons (.var 0) .nil)) (.cons (.var 1) .nil)))) .nil)
def r_witness : Row := ⟨"witness", (dOf "witness" none "witness" "witness" (topS 13) [] []), ["question", "counts"], ["question", "counts"], [], b_witness, false⟩
theorem o_witness : RowOk nms 20 r_witness := ⟨sc_of (by kernel_rfl), by kernel_rfl⟩
theorem y_witness {K : PySem.W.Frag} : Byp K r_witness := byp_of rfl fun _ _ _ _ _ _ us hl => match us, hl with | [_, _], _ => rfl
def b_holds : CSs :=
  (.cons (.ret (.cmp .Eq (.cmp .Is (.call "witness" (.cons (.var 0) (.cons (.var 1) .nil))) .non) (.cmp .Eq (.idx (.var 0) (.int 0)) (.str "all")))) .nil)
def r_holds : Row := ⟨"holds", (dOf "holds" none "holds" "holds" (topS 14) [] []), ["question", "counts"], ["question", "counts"], [], b_holds, false⟩
theorem o_holds : RowOk nms 20 r_holds := ⟨sc_of (by kernel_rfl), by kernel_rfl⟩
theorem y_holds {K : PySem.W.Frag} : Byp K r_holds := byp_of rfl fun _ _ _ _ _ _ us hl => match us, hl with | [_, _], _ => rfl
def b_Put____init__ : CSs :=
  (.cons (.setF (.var 1) 0 "slopes") (.cons (.setF (.var 2) 0 "start") (.cons (.setF (.var 3) 0 "parts") .nil)))
def r_Put____init__ : Row := ⟨mkey "Put" "__init__", (dOf "Put" (some "__init__") "__init__" "Put.__init__" (topM 15 0) [] [("by", (.int 1))]), ["self", "weights", "number", "by"], ["self", "weights", "number", "by"], [], b_Put____init__, true⟩
theorem o_Put____init__ : RowOk nms 20 r_Put____init__ := ⟨sc_of (by kernel_rfl), by kernel_rfl⟩
def b_Put__weights_in : CSs :=
  (.cons (.asg (.star 2 0 (.cons (.name 2) (.cons (.name 3) .nil))) (.var 1)) (.cons (.ret (.bi .tuple (.cons (.lc [4, 5] (.tup (.cons (.name 4) (.cons (.name 5) .nil))) (.zps (.var 2) (.fld (.var 0) "slopes")) .yes (.bin .Add (.bin .Mult (.fld (.var 0) "parts") (.var 4)) (.bin .Mult (.var 3) (.var 5)))) .nil))) .nil))
def r_Put__weights_in : Row := ⟨mkey "Put" "weights_in", (dOf "Put" (some "weights_in") "weights_in" "Put.weights_in" (topM 15 1) [] []), ["self", "weights", "fore", "last", "one", "other"], ["self", "weights"], [], b_Put__weights_in, false⟩
theorem o_Put__weights_in : RowOk nms 20 r_Put__weights_in := ⟨sc_of (by kernel_rfl), by kernel_rfl⟩
theorem y_Put__weights_in {K : PySem.W.Frag} : Byp K r_Put__weights_in := byp_of rfl fun _ _ _ _ _ _ us hl => match us, hl with | [_, _], _ => rfl
def b_Put__into : CSs :=
  (.cons (.asg (.star 2 1 (.cons (.name 2) (.cons (.name 3) .nil))) (.var 1)) (.cons (.ife (.cmp .Eq (.var 2) (.str "least")) (.cons (.asg (.tup (.cons (.name 4) (.cons (.name 5) .nil))) (.var 3)) (.cons (.ret (.tup (.cons (.str "least") (.cons (.meth (.var 0) "weights_in" (.cons (.var 4) .nil)) (.cons (.bin .Sub (.bin .Mult (.fld (.var 0) "parts") (.var 5)) (.bin .Mult (.idx (.var 4) (.neg (.int 1))) (.fld (.var 0) "start"))) .nil))))) .nil)) .nil) (.cons (.ife (.cmp .Eq (.var 2) (.str "rest")) (.cons (.asg (.tup (.cons (.name 4) (.cons (.name 6) (.cons (.name 7) .nil)))) (.var 3)) (.cons (.asg (.name 8) (.bin .Mult (.fld (.var 0) "parts") (.var 6))) (.cons (.ret (.tup (.cons (.str "rest") (.cons (.meth (.var 0) "weights_in" (.cons (.var 4) .nil)) (.cons (.var 8) (.cons (.bin .Mod (.bin .Sub (.bin .Mult (.fld (.var 0) "parts") (.var 7)) (.bin .Mult (.idx (.var 4) (.neg (.int 1))) (.fld (.var 0) "start"))) (.var 8)) .nil)))))) .nil))) .nil) (.cons (.ret (.bin .Add (.tup (.cons (.var 2) .nil)) (.bi .tuple (.cons (.lc [9] (.name 9) (.seq (.var 3)) .yes (.meth (.var 0) "into" (.cons (.var 9) .nil))) .nil)))) .nil))))
def r_Put__into : Row := ⟨mkey "Put" "into", (dOf "Put" (some "into") "into" "Put.into" (topM 15 2) [] []), ["self", "sentence", "word", "parts", "weights", "c", "m", "r", "wheel", "part"], ["self", "sentence"], [], b_Put__into, false⟩
theorem o_Put__into : RowOk nms 20 r_Put__into := ⟨sc_of (by kernel_rfl), by kernel_rfl⟩
theorem y_Put__into {K : PySem.W.Frag} : Byp K r_Put__into := byp_of rfl fun _ _ _ _ _ _ us hl => match us, hl with | [_, _], _ => rfl
def b_Put__is_number : CSs :=
  (.cons (.ret (.tup (.cons (.str "least") (.cons (.fld (.var 0) "slopes") (.cons (.neg (.fld (.var 0) "start")) .nil))))) .nil)
def r_Put__is_number : Row := ⟨mkey "Put" "is_number", (dOf "Put" (some "is_number") "is_number" "Put.is_number" (topM 15 3) [] []), ["self"], ["self"], [], b_Put__is_number, false⟩
theorem o_Put__is_number : RowOk nms 20 r_Put__is_number := ⟨sc_of (by kernel_rfl), by kernel_rfl⟩
theorem y_Put__is_number {K : PySem.W.Frag} : Byp K r_Put__is_number := byp_of rfl fun _ _ _ _ _ _ us hl => match us, hl with | [_], _ => rfl
def b_puts_at : CSs :=
  (.cons (.asg (.star 2 0 (.cons (.name 2) (.cons (.name 3) .nil))) (.idx (.var 0) (.int 1))) (.cons (.asg (.name 4) (.bi .abs (.cons (.var 3) .nil))) (.cons (.asg (.name 5) (.lst .nil)) (.cons (.for (.name 6) (.rng1 (.var 4)) (.cons (.asg (.name 7) (.tup (.cons (.str "rest") (.cons (.bi .tuple (.cons (.var 2) .nil)) (.cons (.var 4) (.cons (.bin .Mod (.bin .Add (.idx (.var 0) (.int 2)) (.var 6)) (.var 4)) .nil)))))) (.cons (.for (.name 8) (.rng1 (.var 1)) (.cons (.ife (.cmp .Gt (.var 3) (.int 0)) (.cons (.asg (.name 9) (.mkK ⟨"Put", 2, ["by"], [none, none, none]⟩ (.cons (.bi .tuple (.cons (.lc [10] (.name 10) (.seq (.var 2)) .yes (.neg (.var 10))) .nil)) (.cons (.bin .Add (.bin .Add (.idx (.var 0) (.int 2)) (.var 6)) (.bin .Mult (.var 4) (.var 8))) .nil)) (.cons (.var 4) .nil))) .nil) (.cons (.asg (.name 9) (.mkK ⟨"Put", 2, ["by"], [none, none, none]⟩ (.cons (.bi .tuple (.cons (.var 2) .nil)) (.cons (.bin .Sub (.bin .Sub (.bin .Mult (.var 4) (.bin .Add (.var 8) (.int 1))) (.idx (.var 0) (.int 2))) (.var 6)) .nil)) (.cons (.var 4) .nil))) .nil)) (.cons (.app 5 (.tup (.cons (.var 9) (.cons (.var 7) .nil)))) .nil))) .nil))) (.cons (.ret (.mv 5)) .nil)))))
def r_puts_at : Row := ⟨"puts_at", (dOf "puts_at" none "puts_at" "puts_at" (topS 16) [] []), ["atom", "wheel", "fore", "last", "by", "found", "rest", "when", "more", "put", "weight"], ["atom", "wheel"], [], b_puts_at, false⟩
theorem o_puts_at : RowOk nms 20 r_puts_at := ⟨sc_of (by kernel_rfl), by kernel_rfl⟩
theorem y_puts_at {K : PySem.W.Frag} : Byp K r_puts_at := byp_of rfl fun _ _ _ _ _ _ us hl => match us, hl with | [_, _], _ => rfl
def b_any_of : CSs :=
  (.cons (.whl (.cmp .Gt (.bi .len (.cons (.var 0) .nil)) (.int 1)) (.cons (.asg (.name 1) (.slc (.var 0) (.some (.bin .Mult (.bin .FloorDiv (.bi .len (.cons (.var 0) .nil)) (.int 2)) (.int 2))) .none)) (.cons (.asg (.name 0) (.bin .Add (.lc [2, 3] (.tup (.cons (.name 2) (.cons (.name 3) .nil))) (.zip (.slk (.var 0) .none .none 2) (.slk (.var 0) (.some (.int 1)) .none 2)) .yes (.tup (.cons (.str "or") (.cons (.var 2) (.cons (.var 3) .nil))))) (.var 1))) .nil))) (.cons (.ret (.idx (.var 0) (.int 0))) .nil))
def r_any_of : Row := ⟨"any_of", (dOf "any_of" none "any_of" "any_of" (topS 17) [] []), ["sentences", "odd", "one", "other"], ["sentences"], [0], b_any_of, false⟩
theorem o_any_of : RowOk nms 20 r_any_of := ⟨sc_of (by kernel_rfl), by kernel_rfl⟩
theorem y_any_of {K : PySem.W.Frag} : Byp K r_any_of := byp_of rfl fun _ _ _ _ _ _ us hl => match us, hl with | [_], _ => rfl
def b_plainly_some : CSs :=
  (.cons (.asg (.name 1) (.call "wheel_of" (.cons (.var 0) .nil))) (.cons (.asg (.name 2) (.bin .Mult (.tup (.cons (.int 0) .nil)) (.bin .Sub (.call "many_of" (.cons (.var 0) .nil)) (.int 1)))) (.cons (.asg (.name 3) (.lc [7] (.name 7) (.rng1 (.var 1)) .yes (.meth (.mkK ⟨"Put", 2, [], [none, none, some (.int 1)]⟩ (.cons (.var 2) (.cons (.var 7) .nil)) .nil) "into" (.cons (.var 0) .nil)))) (.cons (.for (.name 4) (.seq (.call "breaking" (.cons (.var 0) .nil))) (.cons (.for (.tup (.cons (.name 5) (.cons (.name 6) .nil))) (.seq (.call "puts_at" (.cons (.var 4) (.cons (.var 1) .nil)))) (.cons (.app 3 (.tup (.cons (.str "and") (.cons (.var 6) (.cons (.tup (.cons (.str "and") (.cons (.meth (.var 5) "is_number" .nil) (.cons (.meth (.var 5) "into" (.cons (.var 0) .nil)) .nil)))) .nil))))) .nil)) .nil)) (.cons (.ret (.call "any_of" (.cons (.var 3) .nil))) .nil)))))
def r_plainly_some : Row := ⟨"plainly_some", (dOf "plainly_some" none "plainly_some" "plainly_some" (topS 18) [] []), ["sentence", "wheel", "nought", "found", "atom", "put", "when", "more"], ["sentence"], [], b_plainly_some, false⟩
theorem o_plainly_some : RowOk nms 20 r_plainly_some := ⟨sc_of (by kernel_rfl), by kernel_rfl⟩
theorem y_plainly_some {K : PySem.W.Frag} : Byp K r_plainly_some := byp_of rfl fun _ _ _ _ _ _ us hl => match us, hl with | [_], _ => rfl
def b_plainly : CSs :=
  (.cons (.asg (.name 1) (.call "plainly_some" (.cons (.call "sought_by" (.cons (.var 0) .nil)) .nil))) (.cons (.ret (.ifx (.cmp .Eq (.idx (.var 0) (.int 0)) (.str "some")) (.var 1) (.tup (.cons (.str "not") (.cons (.var 1) .nil))))) .nil))
def r_plainly : Row := ⟨"plainly", (dOf "plainly" none "plainly" "plainly" (topS 19) [] []), ["question", "found"], ["question"], [], b_plainly, false⟩
theorem o_plainly : RowOk nms 20 r_plainly := ⟨sc_of (by kernel_rfl), by kernel_rfl⟩
theorem y_plainly {K : PySem.W.Frag} : Byp K r_plainly := byp_of rfl fun _ _ _ _ _ _ us hl => match us, hl with | [_], _ => rfl
def b__law_cell_at : CSs :=
  (.cons (.ife (.cmp .Lt (.var 1) (.bi .len (.cons (.var 0) .nil))) (.cons (.ret (.idx (.var 0) (.var 1))) .nil) .nil) (.cons (.ret (.int 0)) .nil))
def r__law_cell_at : Row := ⟨"_law_cell_at", (dOf "_law_cell_at" none "_law_cell_at" "_law_cell_at" (topS 21) [] []), ["script", "k"], ["script", "k"], [], b__law_cell_at, false⟩
theorem o__law_cell_at : RowOk nms 20 r__law_cell_at := ⟨sc_of (by kernel_rfl), by kernel_rfl⟩
theorem y__law_cell_at {K : PySem.W.Frag} : Byp K r__law_cell_at := byp_of rfl fun _ _ _ _ _ _ us hl => match us, hl with | [_, _], _ => rfl
def b__law_tape : CSs :=
  (.cons (.asg (.name 2) (.call "_law_cell_at" (.cons (.var 0) (.cons (.var 1) .nil)))) (.cons (.ife (.cmp .Eq (.var 2) (.int 0)) (.cons (.ret (.lst (.cons (.int 0) .nil))) .nil) .nil) (.cons (.ife (.cmp .GtE (.var 2) (.bin .Pow (.int 10) (.int 18))) (.cons (.ret (.lst (.cons (.bin .Sub (.var 2) (.bin .Pow (.int 10) (.int 18))) .nil))) .nil) .nil) (.cons (.asg (.name 3) (.int 2305843009213693951)) (.cons (.asg (.name 4) (.bin .Mod (.bin .Add (.bin .Add (.bin .Mult (.var 2) (.int 48271)) (.bin .Mult (.int 40692) (.var 1))) (.int 31)) (.var 3))) (.cons (.asg (.name 5) (.var 4)) (.cons (.for (.name 6) (.rng1 (.int 24)) (.cons (.asg (.name 4) (.bin .Mod (.bin .Add (.bin .Add (.bin .Mult (.var 4) (.var 4)) (.bin .Mult (.bin .Mult (.int 69621) (.bin .Add (.var 6) (.int 1))) (.bin .Add (.var 1) (.int 1)))) (.var 2)) (.var 3))) (.cons (.asg (.name 5) (.bin .Add (.bin .Mult (.var 5) (.var 3)) (.var 4))) .nil))) (.cons (.ret (.lst (.cons (.var 5) .nil))) .nil))))))))
def r__law_tape : Row := ⟨"_law_tape", (dOf "_law_tape" none "_law_tape" "_law_tape" (topS 22) [] []), ["script", "k", "cell", "p", "one", "found", "turn"], ["script", "k"], [], b__law_tape, false⟩
theorem o__law_tape : RowOk nms 20 r__law_tape := ⟨sc_of (by kernel_rfl), by kernel_rfl⟩
theorem y__law_tape {K : PySem.W.Frag} : Byp K r__law_tape := byp_of rfl fun _ _ _ _ _ _ us hl => match us, hl with | [_, _], _ => rfl
def b__law_digit : CSs :=
  (.cons (.asg (.name 2) (.bin .Mod (.idx (.var 0) (.int 0)) (.var 1))) (.cons (.setI (.bin .FloorDiv (.idx (.var 0) (.int 0)) (.var 1)) 0 (.int 0)) (.cons (.ret (.mv 2)) .nil)))
def r__law_digit : Row := ⟨"_law_digit", (dOf "_law_digit" none "_law_digit" "_law_digit" (topS 23) [] []), ["tape", "total", "found"], ["tape", "total"], [], b__law_digit, false⟩
theorem o__law_digit : RowOk nms 20 r__law_digit := ⟨sc_of (by kernel_rfl), by kernel_rfl⟩
theorem y__law_digit {K : PySem.W.Frag} : Byp K r__law_digit := byp_of rfl fun _ _ _ _ _ _ us hl => match us, hl with | [_, _], _ => rfl
def b__law_same : CSs :=
  (.cons (.asg (.name 2) (.bi .tuple (.cons (.lc [3] (.name 3) (.seq (.var 0)) .yes (.neg (.var 3))) .nil))) (.cons (.ret (.tup (.cons (.str "and") (.cons (.tup (.cons (.str "least") (.cons (.var 0) (.cons (.var 1) .nil)))) (.cons (.tup (.cons (.str "least") (.cons (.var 2) (.cons (.neg (.var 1)) .nil)))) .nil))))) .nil))
def r__law_same : Row := ⟨"_law_same", (dOf "_law_same" none "_law_same" "_law_same" (topS 24) [] []), ["weights", "bound", "turned_about", "weight"], ["weights", "bound"], [], b__law_same, false⟩
theorem o__law_same : RowOk nms 20 r__law_same := ⟨sc_of (by kernel_rfl), by kernel_rfl⟩
theorem y__law_same {K : PySem.W.Frag} : Byp K r__law_same := byp_of rfl fun _ _ _ _ _ _ us hl => match us, hl with | [_, _], _ => rfl
def b__law_questions : CSs :=
  (.cons (.asg (.name 3) (.bin .Add (.int 1) (.call "_law_digit" (.cons (.var 0) (.cons (.int 3) .nil))))) (.cons (.asg (.name 4) (.call "_law_digit" (.cons (.var 0) (.cons (.int 5) .nil)))) (.cons (.asg (.name 5) (.lst (.cons (.tup (.cons (.tup (.cons (.str "some") (.cons (.call "_law_same" (.cons (.tup (.cons (.int 1) (.cons (.neg (.var 3)) .nil))) (.cons (.int 0) .nil))) .nil))) (.cons (.tup (.cons (.var 1) .nil)) (.cons (.idx (.lst (.cons .non (.cons (.bin .FloorDiv (.var 1) (.var 3)) .nil))) (.bi .int (.cons (.cmp .Eq (.bin .Mod (.var 1) (.var 3)) (.int 0)) .nil))) .nil)))) .nil))) (.cons (.app 5 (.tup (.cons (.tup (.cons (.str "all") (.cons (.tup (.cons (.str "not") (.cons (.call "_law_same" (.cons (.tup (.cons (.int 1) (.cons (.neg (.var 3)) .nil))) (.cons (.int 0) .nil))) .nil))) .nil))) (.cons (.tup (.cons (.var 1) .nil)) (.cons (.idx (.idx (.var 5) (.int 0)) (.int 2)) .nil))))) (.cons (.app 5 (.tup (.cons (.tup (.cons (.str "some") (.cons (.call "_law_same" (.cons (.tup (.cons (.int 1) (.cons (.neg (.int 1)) (.cons (.neg (.int 1)) .nil)))) (.cons (.var 4) .nil))) .nil))) (.cons (.tup (.cons (.var 1) (.cons (.var 2) .nil))) (.cons (.idx (.lst (.cons .non (.cons (.bin .Sub (.bin .Sub (.var 1) (.var 2)) (.var 4)) .nil))) (.bi .int (.cons (.cmp .GtE (.var 1) (.bin .Add (.var 2) (.var 4))) .nil))) .nil))))) (.cons (.app 5 (.tup (.cons (.tup (.cons (.str "all") (.cons (.tup (.cons (.str "least") (.cons (.tup (.cons (.int 1) (.cons (.int 1) .nil))) (.cons (.var 4) .nil)))) .nil))) (.cons (.tup (.cons (.var 1) .nil)) (.cons (.idx (.lst (.cons (.int 0) (.cons .non .nil))) (.bi .int (.cons (.cmp .GtE (.var 1) (.var 4)) .nil))) .nil))))) (.cons (.app 5 (.tup (.cons (.tup (.cons (.str "all") (.cons (.tup (.cons (.str "least") (.cons (.tup (.cons (.int 1) (.cons (.neg (.int 1)) .nil))) (.cons (.int 0) .nil)))) .nil))) (.cons (.tup (.cons (.var 1) .nil)) (.cons (.bin .Add (.var 1) (.int 1)) .nil))))) (.cons (.asg (.name 6) (.bin .Add (.int 2) (.call "_law_digit" (.cons (.var 0) (.cons (.int 4) .nil))))) (.cons (.asg (.name 7) (.call "_law_digit" (.cons (.var 0) (.cons (.var 6) .nil)))) (.cons (.app 5 (.tup (.cons (.tup (.cons (.str "some") (.cons (.tup (.cons (.str "rest") (.cons (.tup (.cons (.int 1) (.cons (.int 1) .nil))) (.cons (.var 6) (.cons (.var 7) .nil))))) .nil))) (.cons (.tup (.cons (.var 1) .nil)) (.cons (.bin .Mod (.bin .Sub (.var 7) (.var 1)) (.var 6)) .nil))))) (.cons (.app 5 (.tup (.cons (.tup (.cons (.str "all") (.cons (.tup (.cons (.str "rest") (.cons (.tup (.cons (.int 1) (.cons (.int 0) .nil))) (.cons (.var 6) (.cons (.var 7) .nil))))) .nil))) (.cons (.tup (.cons (.var 1) .nil)) (.cons (.idx (.lst (.cons (.int 0) (.cons .non .nil))) (.bi .int (.cons (.cmp .Eq (.bin .Mod (.var 1) (.var 6)) (.var 7)) .nil))) .nil))))) (.cons (.asg (.name 8) (.tup (.cons (.str "and") (.cons (.tup (.cons (.str "least") (.cons (.tup (.cons (.neg (.int 1)) (.cons (.int 2) .nil))) (.cons (.int 1) .nil)))) (.cons (.tup (.cons (.str "rest") (.cons (.tup (.cons (.int 0) (.cons (.int 1) .nil))) (.cons (.var 6) (.cons (.var 7) .nil))))) .nil))))) (.cons (.app 5 (.tup (.cons (.tup (.cons (.str "some") (.cons (.var 8) .nil))) (.cons (.tup (.cons (.var 1) .nil)) (.cons (.bin .Add (.bin .Add (.bin .FloorDiv (.var 1) (.int 2)) (.int 1)) (.bin .Mod (.bin .Sub (.bin .Sub (.var 7) (.bin .FloorDiv (.var 1) (.int 2))) (.int 1)) (.var 6))) .nil))))) (.cons (.asg (.name 9) (.tup (.cons (.str "not") (.cons (.tup (.cons (.str "least") (.cons (.tup (.cons (.int 1) (.cons (.neg (.int 1)) .nil))) (.cons (.int 0) .nil)))) .nil)))) (.cons (.app 5 (.tup (.cons (.tup (.cons (.str "some") (.cons (.var 9) .nil))) (.cons (.tup (.cons (.var 1) .nil)) (.cons (.bin .Add (.var 1) (.int 1)) .nil))))) (.cons (.app 5 (.tup (.cons (.tup (.cons (.str "some") (.cons (.tup (.cons (.str "and") (.cons (.var 9) (.cons (.tup (.cons (.str "rest") (.cons (.tup (.cons (.int 0) (.cons (.int 1) .nil))) (.cons (.var 6) (.cons (.var 7) .nil))))) .nil)))) .nil))) (.cons (.tup (.cons (.var 1) .nil)) (.cons (.bin .Add (.bin .Add (.var 1) (.int 1)) (.bin .Mod (.bin .Sub (.bin .Sub (.var 7) (.var 1)) (.int 1)) (.var 6))) .nil))))) (.cons (.app 5 (.tup (.cons (.tup (.cons (.str "some") (.cons (.tup (.cons (.str "and") (.cons (.tup (.cons (.str "least") (.cons (.tup (.cons (.int 1) (.cons (.int 1) .nil))) (.cons (.int 0) .nil)))) (.cons (.tup (.cons (.str "least") (.cons (.tup (.cons (.int 0) (.cons (.neg (.int 1)) .nil))) (.cons (.int 1) .nil)))) .nil)))) .nil))) (.cons (.tup (.cons (.var 1) .nil)) (.cons .non .nil))))) (.cons (.app 5 (.tup (.cons (.tup (.cons (.str "all") (.cons (.tup (.cons (.str "or") (.cons (.tup (.cons (.str "least") (.cons (.tup (.cons (.int 1) (.cons (.neg (.int 1)) .nil))) (.cons (.int 0) .nil)))) (.cons (.var 9) .nil)))) .nil))) (.cons (.tup (.cons (.var 1) .nil)) (.cons .non .nil))))) (.cons (.asg (.name 10) (.tup (.cons (.str "and") (.cons (.tup (.cons (.str "least") (.cons (.tup (.cons (.neg (.int 1)) (.cons (.int 2) .nil))) (.cons (.int 0) .nil)))) (.cons (.tup (.cons (.str "least") (.cons (.tup (.cons (.int 1) (.cons (.neg (.int 2)) .nil))) (.cons (.neg (.var 4)) .nil)))) .nil))))) (.cons (.app 5 (.tup (.cons (.tup (.cons (.str "some") (.cons (.var 10) .nil))) (.cons (.tup (.cons (.var 1) .nil)) (.cons (.idx (.lst (.cons .non (.cons (.bin .FloorDiv (.bin .Add (.var 1) (.int 1)) (.int 2)) .nil))) (.bi .int (.cons (.cmp .LtE (.bin .Mult (.bin .FloorDiv (.bin .Add (.var 1) (.int 1)) (.int 2)) (.int 2)) (.bin .Add (.var 1) (.var 4))) .nil))) .nil))))) (.cons (.ret (.mv 5)) .nil)))))))))))))))))))))
def r__law_questions : Row := ⟨"_law_questions", (dOf "_law_questions" none "_law_questions" "_law_questions" (topS 25) [] []), ["tape", "x", "z", "times", "more", "found", "m", "r", "low", "above", "tight"], ["tape", "x", "z"], [], b__law_questions, false⟩
theorem o__law_questions : RowOk nms 20 r__law_questions := ⟨sc_of (by kernel_rfl), by kernel_rfl⟩
theorem y__law_questions {K : PySem.W.Frag} : Byp K r__law_questions := byp_of rfl fun _ _ _ _ _ _ us hl => match us, hl with | [_, _, _], _ => rfl
def b__law_told_right : CSs :=
  (.cons (.asg (.name 1) (.tup (.cons (.str "and") (.cons (.tup (.cons (.str "least") (.cons (.tup (.cons (.int 0) (.cons (.int 1) (.cons (.neg (.int 3)) .nil)))) (.cons (.int 0) .nil)))) (.cons (.tup (.cons (.str "least") (.cons (.tup (.cons (.int 0) (.cons (.neg (.int 1)) (.cons (.int 3) .nil)))) (.cons (.int 0) .nil)))) .nil))))) (.cons (.asg (.name 2) (.call "plainly" (.cons (.tup (.cons (.str "some") (.cons (.tup (.cons (.str "and") (.cons (.var 1) (.cons (.tup (.cons (.str "least") (.cons (.tup (.cons (.neg (.int 3)) (.cons (.int 0) (.cons (.int 1) .nil)))) (.cons (.int 4) .nil)))) .nil)))) .nil))) .nil))) (.cons (.asg (.name 1) (.tup (.cons (.str "and") (.cons (.tup (.cons (.str "least") (.cons (.tup (.cons (.int 1) (.cons (.int 0) (.cons (.neg (.int 2)) .nil)))) (.cons (.int 0) .nil)))) (.cons (.tup (.cons (.str "least") (.cons (.tup (.cons (.neg (.int 1)) (.cons (.int 0) (.cons (.int 2) .nil)))) (.cons (.int 0) .nil)))) .nil))))) (.cons (.asg (.name 3) (.call "plainly" (.cons (.tup (.cons (.str "some") (.cons (.tup (.cons (.str "and") (.cons (.var 1) (.cons (.tup (.cons (.str "and") (.cons (.tup (.cons (.str "least") (.cons (.tup (.cons (.int 0) (.cons (.neg (.int 2)) (.cons (.int 1) .nil)))) (.cons (.int 0) .nil)))) (.cons (.tup (.cons (.str "least") (.cons (.tup (.cons (.int 0) (.cons (.int 2) (.cons (.neg (.int 1)) .nil)))) (.cons (.int 0) .nil)))) .nil)))) .nil)))) .nil))) .nil))) (.cons (.asg (.name 4) (.call "plainly" (.cons (.tup (.cons (.str "some") (.cons (.var 3) .nil))) .nil))) (.cons (.for (.name 5) (.seq (.var 0)) (.cons (.ife (.cmp .NotEq (.bi .repr (.cons (.call "witness" (.cons (.tup (.cons (.str "some") (.cons (.var 2) .nil))) (.cons (.tup (.cons (.var 5) .nil)) .nil))) .nil)) (.bi .repr (.cons (.bin .Add (.bin .Mult (.int 9) (.var 5)) (.int 12)) .nil))) (.cons (.ret (.bl false)) .nil) .nil) (.cons (.ife (.cmp .NotEq (.bi .repr (.cons (.call "witness" (.cons (.tup (.cons (.str "all") (.cons (.tup (.cons (.str "not") (.cons (.var 2) .nil))) .nil))) (.cons (.tup (.cons (.var 5) .nil)) .nil))) .nil)) (.bi .repr (.cons (.bin .Add (.bin .Mult (.int 9) (.var 5)) (.int 12)) .nil))) (.cons (.ret (.bl false)) .nil) .nil) (.cons (.ife (.cmp .NotEq (.lst (.cons (.call "holds" (.cons (.tup (.cons (.str "some") (.cons (.var 2) .nil))) (.cons (.tup (.cons (.var 5) .nil)) .nil))) (.cons (.call "holds" (.cons (.tup (.cons (.str "all") (.cons (.tup (.cons (.str "not") (.cons (.var 2) .nil))) .nil))) (.cons (.tup (.cons (.var 5) .nil)) .nil))) .nil))) (.lst (.cons (.bl true) (.cons (.bl false) .nil)))) (.cons (.ret (.bl false)) .nil) .nil) (.cons (.ife (.cmp .NotEq (.bi .repr (.cons (.call "witness" (.cons (.tup (.cons (.str "some") (.cons (.var 3) .nil))) (.cons (.tup (.cons (.var 5) .nil)) .nil))) .nil)) (.bi .repr (.cons (.idx (.lst (.cons .non (.cons (.bin .FloorDiv (.var 5) (.int 4)) .nil))) (.bi .int (.cons (.cmp .Eq (.bin .Mod (.var 5) (.int 4)) (.int 0)) .nil))) .nil))) (.cons (.ret (.bl false)) .nil) .nil) (.cons (.ife (.cmp .NotEq (.lst (.cons (.call "holds" (.cons (.tup (.cons (.str "some") (.cons (.var 3) .nil))) (.cons (.tup (.cons (.var 5) .nil)) .nil))) (.cons (.call "is_so" (.cons (.var 4) (.cons (.tup (.cons (.var 5) .nil)) .nil))) .nil))) (.bin .Mult (.lst (.cons (.cmp .Eq (.bin .Mod (.var 5) (.int 4)) (.int 0)) .nil)) (.int 2))) (.cons (.ret (.bl false)) .nil) .nil) .nil)))))) (.cons (.ret (.bl true)) .nil)))))))
def r__law_told_right : Row := ⟨"_law_told_right", (dOf "_law_told_right" none "_law_told_right" "_law_told_right" (topS 26) [] []), ["some", "one", "first", "second", "third", "x"], ["some"], [], b__law_told_right, false⟩
theorem o__law_told_right : RowOk nms 20 r__law_told_right := ⟨sc_of (by kernel_rfl), by kernel_rfl⟩
theorem y__law_told_right {K : PySem.W.Frag} : Byp K r__law_told_right := byp_of rfl fun _ _ _ _ _ _ us hl => match us, hl with | [_], _ => rfl
def b_law : CSs :=
  (.cons (.asg (.name 1) (.call "_law_tape" (.cons (.var 0) (.cons (.int 0) .nil)))) (.cons (.ife (.not (.val (.call "_law_told_right" (.cons (.lst (.cons (.int 12) (.cons (.int 0) (.cons (.call "_law_digit" (.cons (.var 1) (.cons (.int 100) .nil))) (.cons (.call "_law_digit" (.cons (.var 1) (.cons (.bin .Add (.bin .Pow (.int 10) (.int 6)) (.int 1)) .nil))) .nil))))) .nil)))) (.cons (.ret (.bl false)) .nil) .nil) (.cons (.for (.name 2) (.rng2 (.int 0) (.bi .max2 (.cons (.int 2) (.cons (.bi .min2 (.cons (.int 8) (.cons (.bi .len (.cons (.var 0) .nil)) .nil))) .nil)))) (.cons (.asg (.name 1) (.call "_law_tape" (.cons (.var 0) (.cons (.var 2) .nil)))) (.cons (.asg (.tup (.cons (.name 3) (.cons (.name 4) .nil))) (.lc [9] (.name 9) (.rng1 (.int 2)) .yes (.call "_law_digit" (.cons (.var 1) (.cons (.idx (.lst (.cons (.int 9) (.cons (.int 100) (.cons (.bin .Add (.bin .Pow (.int 10) (.int 6)) (.int 1)) (.cons (.bin .Add (.bin .Pow (.int 10) (.int 6)) (.int 1)) .nil))))) (.call "_law_digit" (.cons (.var 1) (.cons (.int 4) .nil)))) .nil))))) (.cons (.for (.tup (.cons (.name 5) (.cons (.name 6) (.cons (.name 7) .nil)))) (.seq (.call "_law_questions" (.cons (.var 1) (.cons (.var 3) (.cons (.var 4) .nil))))) (.cons (.ife (.cmp .NotEq (.bi .repr (.cons (.call "witness" (.cons (.var 5) (.cons (.var 6) .nil))) .nil)) (.bi .repr (.cons (.var 7) .nil))) (.cons (.ret (.bl false)) .nil) .nil) (.cons (.asg (.name 8) (.cmp .Eq (.cmp .Is (.var 7) .non) (.cmp .Eq (.idx (.var 5) (.int 0)) (.str "all")))) (.cons (.ife (.cmp .NotEq (.lst (.cons (.call "holds" (.cons (.var 5) (.cons (.var 6) .nil))) (.cons (.call "is_so" (.cons (.call "plainly" (.cons (.var 5) .nil)) (.cons (.var 6) .nil))) .nil))) (.lst (.cons (.var 8) (.cons (.var 8) .nil)))) (.cons (.ret (.bl false)) .nil) .nil) .nil)))) .nil)))) (.cons (.ret (.bl true)) .nil))))
def r_law : Row := ⟨"law", (dOf "law" none "law" "law" (topS 27) [] []), ["script", "tape", "k", "x", "z", "question", "counts", "due", "good", "turn"], ["script"], [], b_law, false⟩
theorem o_law : RowOk nms 20 r_law := ⟨sc_of (by kernel_rfl), by kernel_rfl⟩
theorem y_law {K : PySem.W.Frag} : Byp K r_law := byp_of rfl fun _ _ _ _ _ _ us hl => match us, hl with | [_], _ => rfl
theorem i_0 {K : PySem.W.Frag} : Bys K r_Put____init__ 1 ⟨"Put", 2, ["by"], [none, none, none]⟩ := bysP rfl rfl fun _ _ _ _ _ _ us ws h1 h3 => match us, ws, h1, h3 with | [_, _, _], [_], _, _ => rfl
theorem i_1 {K : PySem.W.Frag} : Bys K r_Put____init__ 1 ⟨"Put", 2, [], [none, none, some (.int 1)]⟩ := bysK [("by", (.int 1))] rfl (by intro e; cases e) (by intro q hq; first | exact hq | (show q ∈ ([("by", (.int 1))] : List (Str × V)); simp only [List.mem_cons, List.not_mem_nil, or_false] at hq ⊢; grind)) rfl fun D _ _ _ _ _ us mv ws h1 h2 h3 => match us, mv, ws, h1, h2, h3 with | [_, _, _], [_], [], _, _, _ => ⟨_, _, _, _, _, _, rfl, rfl, rfl⟩
def rows : List Row := [r_many_of, r_atoms_of, r_weighed, r_is_so, r_common_part, r_wheel_of, r_break_at, r_breaking, r_least_so, r_sought_by, r_witness, r_holds, r_Put____init__, r_Put__weights_in, r_Put__into, r_Put__is_number, r_puts_at, r_any_of, r_plainly_some, r_plainly, r__law_cell_at, r__law_tape, r__law_digit, r__law_same, r__law_questions, r__law_told_right, r_law]
def prims : Prims := []
abbrev tab : Str → Option Ent := tabOf rows prims
theorem ok_rows : ∀ r ∈ rows, RowOk nms 20 r := fun r hr => by
  rcases List.mem_cons.mp hr with rfl | hr
  · exact o_many_of
  rcases List.mem_cons.mp hr with rfl | hr
  · exact o_atoms_of
  rcases List.mem_cons.mp hr with rfl | hr
  · exact o_weighed
  rcases List.mem_cons.mp hr with rfl | hr
  · exact o_is_so
  rcases List.mem_cons.mp hr with rfl | hr
  · exact o_common_part
  rcases List.mem_cons.mp hr with rfl | hr
  · exact o_wheel_of
  rcases List.mem_cons.mp hr with rfl | hr
  · exact o_break_at
  rcases List.mem_cons.mp hr with rfl | hr
  · exact o_breaking
  rcases List.mem_cons.mp hr with rfl | hr
  · exact o_least_so
  rcases List.mem_cons.mp hr with rfl | hr
  · exact o_sought_by
  rcases List.mem_cons.mp hr with rfl | hr
  · exact o_witness
  rcases List.mem_cons.mp hr with rfl | hr
  · exact o_holds
  rcases List.mem_cons.mp hr with rfl | hr
  · exact o_Put____init__
  rcases List.mem_cons.mp hr with rfl | hr
  · exact o_Put__weights_in
  rcases List.mem_cons.mp hr with rfl | hr
  · exact o_Put__into
  rcases List.mem_cons.mp hr with rfl | hr
  · exact o_Put__is_number
  rcases List.mem_cons.mp hr with rfl | hr
  · exact o_puts_at
  rcases List.mem_cons.mp hr with rfl | hr
  · exact o_any_of
  rcases List.mem_cons.mp hr with rfl | hr
  · exact o_plainly_some
  rcases List.mem_cons.mp hr with rfl | hr
  · exact o_plainly
  rcases List.mem_cons.mp hr with rfl | hr
  · exact o__law_cell_at
  rcases List.mem_cons.mp hr with rfl | hr
  · exact o__law_tape
  rcases List.mem_cons.mp hr with rfl | hr
  · exact o__law_digit
  rcases List.mem_cons.mp hr with rfl | hr
  · exact o__law_same
  rcases List.mem_cons.mp hr with rfl | hr
  · exact o__law_questions
  rcases List.mem_cons.mp hr with rfl | hr
  · exact o__law_told_right
  rcases List.mem_cons.mp hr with rfl | hr
  · exact o_law
  cases hr
abbrev RR : PySem.W.OpenRow := PySem.W.OpenLaw.row PySem.Challenge.rw_crowdsay_k43_questions_by_hand
def cfsL : List He.Fa := [.glo "Put", .cls "Put", .mkr "Put", .mkr "Put", .noat "Put" "slopes", .noat "Put" "start", .noat "Put" "parts", .meth "Put" "weights_in", .meth "Put" "into", .meth "Put" "is_number"]
def fa : List He.Fa := nms.fl.map .glo ++ (nms.bl.map .free ++ (cfsL ++ []))
def fn : List He.DefD := rows.map (·.d) ++ []
def ts : List He.Tab := []
def ex (K : PySem.W.Frag) : Bool := true
abbrev hk : PySem.W.Hook := He.hookX 5 fa fn ts [] ex
def ob (s : PySem.W.SharedT) : He.AlX := He.obsX 5 fa fn ts [] ex (HandSHeadRun.getT s)
theorem ob_eq (s : PySem.W.SharedT) : ob s = hk.obs s.abs := He.obsX_eq (HandSHeadRun.getT_eq s)
def loose : List Str := ["many_of", "atoms_of", "weighed", "is_so", "common_part", "wheel_of", "break_at", "breaking", "least_so", "sought_by", "witness", "holds", "Put", "puts_at", "any_of", "plainly_some", "plainly", "_law_cell_at", "_law_tape", "_law_digit", "_law_same", "_law_questions", "_law_told_right"]
theorem runF (w : World) : HandSHeadRun.RunEq RR (PySem.W.view RR.prog [27]) hk ob 4000 loose (w.withFollow "special-get-raises" false) := by
  intro os
  kernel_rfl
theorem runT (w : World) : HandSHeadRun.RunEq RR (PySem.W.view RR.prog [27]) hk ob 4000 loose (w.withFollow "special-get-raises" true) := by
  intro os
  kernel_rfl
theorem run (w : World) : HandSHeadRun.RunEq RR (PySem.W.view RR.prog [27]) hk ob 4000 loose w := PySem.W.byRow2 "special-get-raises" (P := HandSHeadRun.RunEq RR (PySem.W.view RR.prog [27]) hk ob 4000 loose) runF runT w
theorem cf {x : He.Fa} (i : Nat) (h : cfsL[i]? = some x) : x ∈ fa := List.mem_append_right _ (List.mem_append_right _ (List.mem_append_left _ (List.mem_of_getElem? h)))
theorem rw_ {r : Row} (i : Nat) (h : rows[i]? = some r) : r ∈ rows := List.mem_of_getElem? h
theorem rn_ {r : Row} (h : r ∈ rows) : r.d ∈ fn := List.mem_append_left _ (List.mem_map_of_mem h)
theorem gl_ {f : Str} (h : f ∈ nms.fl) : He.Fa.glo f ∈ fa := List.mem_append_left _ (List.mem_map_of_mem h)
theorem pr_ {f : Str} (i : Nat) (h : (prims.map (·.1))[i]? = some f) : f ∈ prims.map (·.1) := List.mem_of_getElem? h
abbrev kn : Kn := ⟨fun _ => none, alL, mlL⟩
theorem tells {K : PySem.W.Frag} {mg : Str → Option Value} (l : Lean0 K mg nms kn) : Tells K mg fa fn nms kn rows prims 20 where
  row := ok_rows
  fls := (List.forall_mem_cons.mpr ⟨.inl ⟨r_many_of, rw_ 0 rfl, rfl, rfl, rn_ (rw_ 0 rfl), y_many_of, by kernel_rfl⟩,
    (List.forall_mem_cons.mpr ⟨.inl ⟨r_atoms_of, rw_ 1 rfl, rfl, rfl, rn_ (rw_ 1 rfl), y_atoms_of, by kernel_rfl⟩,
    (List.forall_mem_cons.mpr ⟨.inl ⟨r_weighed, rw_ 2 rfl, rfl, rfl, rn_ (rw_ 2 rfl), y_weighed, by kernel_rfl⟩,
    (List.forall_mem_cons.mpr ⟨.inl ⟨r_is_so, rw_ 3 rfl, rfl, rfl, rn_ (rw_ 3 rfl), y_is_so, by kernel_rfl⟩,
    (List.forall_mem_cons.mpr ⟨.inl ⟨r_common_part, rw_ 4 rfl, rfl, rfl, rn_ (rw_ 4 rfl), y_common_part, by kernel_rfl⟩,
    (List.forall_mem_cons.mpr ⟨.inl ⟨r_wheel_of, rw_ 5 rfl, rfl, rfl, rn_ (rw_ 5 rfl), y_wheel_of, by kernel_rfl⟩,
    (List.forall_mem_cons.mpr ⟨.inl ⟨r_break_at, rw_ 6 rfl, rfl, rfl, rn_ (rw_ 6 rfl), y_break_at, by kernel_rfl⟩,
    (List.forall_mem_cons.mpr ⟨.inl ⟨r_breaking, rw_ 7 rfl, rfl, rfl, rn_ (rw_ 7 rfl), y_breaking, by kernel_rfl⟩,
    (List.forall_mem_cons.mpr ⟨.inl ⟨r_least_so, rw_ 8 rfl, rfl, rfl, rn_ (rw_ 8 rfl), y_least_so, by kernel_rfl⟩,
    (List.forall_mem_cons.mpr ⟨.inl ⟨r_sought_by, rw_ 9 rfl, rfl, rfl, rn_ (rw_ 9 rfl), y_sought_by, by kernel_rfl⟩,
    (List.forall_mem_cons.mpr ⟨.inl ⟨r_witness, rw_ 10 rfl, rfl, rfl, rn_ (rw_ 10 rfl), y_witness, by kernel_rfl⟩,
    (List.forall_mem_cons.mpr ⟨.inl ⟨r_holds, rw_ 11 rfl, rfl, rfl, rn_ (rw_ 11 rfl), y_holds, by kernel_rfl⟩,
    (List.forall_mem_cons.mpr ⟨.inl ⟨r_puts_at, rw_ 16 rfl, rfl, rfl, rn_ (rw_ 16 rfl), y_puts_at, by kernel_rfl⟩,
    (List.forall_mem_cons.mpr ⟨.inl ⟨r_any_of, rw_ 17 rfl, rfl, rfl, rn_ (rw_ 17 rfl), y_any_of, by kernel_rfl⟩,
    (List.forall_mem_cons.mpr ⟨.inl ⟨r_plainly_some, rw_ 18 rfl, rfl, rfl, rn_ (rw_ 18 rfl), y_plainly_some, by kernel_rfl⟩,
    (List.forall_mem_cons.mpr ⟨.inl ⟨r_plainly, rw_ 19 rfl, rfl, rfl, rn_ (rw_ 19 rfl), y_plainly, by kernel_rfl⟩,
    (List.forall_mem_cons.mpr ⟨.inl ⟨r__law_cell_at, rw_ 20 rfl, rfl, rfl, rn_ (rw_ 20 rfl), y__law_cell_at, by kernel_rfl⟩,
    (List.forall_mem_cons.mpr ⟨.inl ⟨r__law_tape, rw_ 21 rfl, rfl, rfl, rn_ (rw_ 21 rfl), y__law_tape, by kernel_rfl⟩,
    (List.forall_mem_cons.mpr ⟨.inl ⟨r__law_digit, rw_ 22 rfl, rfl, rfl, rn_ (rw_ 22 rfl), y__law_digit, by kernel_rfl⟩,
    (List.forall_mem_cons.mpr ⟨.inl ⟨r__law_same, rw_ 23 rfl, rfl, rfl, rn_ (rw_ 23 rfl), y__law_same, by kernel_rfl⟩,
    (List.forall_mem_cons.mpr ⟨.inl ⟨r__law_questions, rw_ 24 rfl, rfl, rfl, rn_ (rw_ 24 rfl), y__law_questions, by kernel_rfl⟩,
    (List.forall_mem_cons.mpr ⟨.inl ⟨r__law_told_right, rw_ 25 rfl, rfl, rfl, rn_ (rw_ 25 rfl), y__law_told_right, by kernel_rfl⟩,
    (List.forall_mem_cons.mpr ⟨.inl ⟨r_law, rw_ 26 rfl, rfl, rfl, rn_ (rw_ 26 rfl), y_law, by kernel_rfl⟩,
    (List.forall_mem_nil _)⟩)⟩)⟩)⟩)⟩)⟩)⟩)⟩)⟩)⟩)⟩)⟩)⟩)⟩)⟩)⟩)⟩)⟩)⟩)⟩)⟩)⟩)⟩)
  glo := fun f hf => gl_ hf
  alf := (List.forall_mem_cons.mpr ⟨⟨cf 0 rfl, cf 1 rfl, cf 4 rfl⟩,
    (List.forall_mem_cons.mpr ⟨⟨cf 0 rfl, cf 1 rfl, cf 5 rfl⟩,
    (List.forall_mem_cons.mpr ⟨⟨cf 0 rfl, cf 1 rfl, cf 6 rfl⟩,
    (List.forall_mem_nil _)⟩)⟩)⟩)
  mlf := (List.forall_mem_cons.mpr ⟨⟨cf 0 rfl, cf 1 rfl, cf 7 rfl, ⟨r_Put__weights_in, rw_ 13 rfl, rfl, rfl, rn_ (rw_ 13 rfl), y_Put__weights_in, by kernel_rfl⟩⟩,
    (List.forall_mem_cons.mpr ⟨⟨cf 0 rfl, cf 1 rfl, cf 8 rfl, ⟨r_Put__into, rw_ 14 rfl, rfl, rfl, rn_ (rw_ 14 rfl), y_Put__into, by kernel_rfl⟩⟩,
    (List.forall_mem_cons.mpr ⟨⟨cf 0 rfl, cf 1 rfl, cf 9 rfl, ⟨r_Put__is_number, rw_ 15 rfl, rfl, rfl, rn_ (rw_ 15 rfl), y_Put__is_number, by kernel_rfl⟩⟩,
    (List.forall_mem_nil _)⟩)⟩)⟩)
  klf := (List.forall_mem_nil _)
  shf := (List.forall_mem_nil _)
  ihf := (List.forall_mem_cons.mpr ⟨⟨cf 0 rfl, cf 3 rfl, ⟨r_Put____init__, rw_ 12 rfl, rfl, rfl, rn_ (rw_ 12 rfl), i_0, by kernel_rfl⟩⟩,
    (List.forall_mem_cons.mpr ⟨⟨cf 0 rfl, cf 3 rfl, ⟨r_Put____init__, rw_ 12 rfl, rfl, rfl, rn_ (rw_ 12 rfl), i_1, by kernel_rfl⟩⟩,
    (List.forall_mem_nil _)⟩)⟩)
  lean := l
end K43
namespace K43
open PySem L2 Cs Sn
theorem t_weighed : tab "weighed" = some (.code r_weighed.fe) := by kernel_rfl
theorem t_is_so : tab "is_so" = some (.code r_is_so.fe) := by kernel_rfl
theorem t_many_of : tab "many_of" = some (.code r_many_of.fe) := by kernel_rfl
theorem t_atoms_of : tab "atoms_of" = some (.code r_atoms_of.fe) := by kernel_rfl
theorem t_common_part : tab "common_part" = some (.code r_common_part.fe) := by kernel_rfl
def Sms (cs : List Int) : Prop := ∀ c ∈ cs, Sm c
theorem s_weighed (k : Nat) (ws cs : List Int) (h : ws.length = cs.length) (hc : Sms cs) (hl : cs.length ≤ 1000) : callN tab kn (k + 1) "weighed" [.tup (ws.map .int), .tup (cs.map .int)] = .ok (.int (dot ws cs), [.tup (ws.map .int), .tup (cs.map .int)]) := by
  rw [call_code t_weighed]
  refine run_eq rfl ?_
  show Wp (evSs _ b_weighed (startD 4 [.tup (ws.map .int), .tup (cs.map .int)])) _
  unfold b_weighed
  (rw [wp_cons]; refine wp_gen fun Q hQ => ?_; simp only [ev_e, List.reduceReplicate, Nat.reduceAdd, Nat.reduceLT, Nat.reduceLeDiff, Nat.reduceSub, Int.reduceNeg, ↓reduceIte, Int.reduceLT, Int.reduceLE, Int.reduceAdd, Int.reduceSub, Int.reduceBEq, reduceCtorEq, ne_eq, Nat.reduceBEq, ev_0, ev_1, ev_2, ev_3, ev_4, ↓ev_d, startD, isFz, isFzs, szOk, wipeD, putBack, fulls, frzs, full, frz, Row.fe, szOk]; (try subst hQ); (try simp only [ev_e, List.reduceReplicate, Nat.reduceAdd, Nat.reduceLT, Nat.reduceLeDiff, Nat.reduceSub, Int.reduceNeg, ↓reduceIte, Int.reduceLT, Int.reduceLE, Int.reduceAdd, Int.reduceSub, Int.reduceBEq, reduceCtorEq, ne_eq, Nat.reduceBEq, ev_0, ev_1, ev_2, ev_3, ev_4, ↓ev_d, startD, isFz, isFzs, szOk, wipeD, putBack, fulls, frzs, full, frz, Row.fe, szOk]))
  refine wp_lcM (ws.zip cs) (fun p => .tup [.int p.1, .int p.2]) (fun p => .int (p.1 * p.2)) [.tup (ws.map .int), .tup (cs.map .int), .undef, .undef] ?_ ?_ ?_ ?_
  · ((first | refine wp_gen fun Q hQ => ?_ | skip); simp only [ev_e, List.reduceReplicate, Nat.reduceAdd, Nat.reduceLT, Nat.reduceLeDiff, Nat.reduceSub, Int.reduceNeg, ↓reduceIte, Int.reduceLT, Int.reduceLE, Int.reduceAdd, Int.reduceSub, Int.reduceBEq, reduceCtorEq, ne_eq, Nat.reduceBEq, ev_0, ev_1, ev_2, ev_3, ev_4, ↓ev_d, startD, isFz, isFzs, szOk, wipeD, putBack, fulls, frzs, full, frz, Row.fe, itZps, itZipA, h, zps_ints h]; (try subst hQ); (try simp only [ev_e, List.reduceReplicate, Nat.reduceAdd, Nat.reduceLT, Nat.reduceLeDiff, Nat.reduceSub, Int.reduceNeg, ↓reduceIte, Int.reduceLT, Int.reduceLE, Int.reduceAdd, Int.reduceSub, Int.reduceBEq, reduceCtorEq, ne_eq, Nat.reduceBEq, ev_0, ev_1, ev_2, ev_3, ev_4, ↓ev_d, startD, isFz, isFzs, szOk, wipeD, putBack, fulls, frzs, full, frz, Row.fe, itZps, itZipA, h, zps_ints h]))
  · simp [h, sizeLine_eq]; omega
  · rintro ⟨w, c⟩ hp
    refine ⟨_, by ((first | refine wp_gen fun Q hQ => ?_ | skip); simp only [ev_e, List.reduceReplicate, Nat.reduceAdd, Nat.reduceLT, Nat.reduceLeDiff, Nat.reduceSub, Int.reduceNeg, ↓reduceIte, Int.reduceLT, Int.reduceLE, Int.reduceAdd, Int.reduceSub, Int.reduceBEq, reduceCtorEq, ne_eq, Nat.reduceBEq, ev_0, ev_1, ev_2, ev_3, ev_4, ↓ev_d, startD, isFz, isFzs, szOk, wipeD, putBack, fulls, frzs, full, frz, Row.fe, szOk]; (try subst hQ); (try simp only [ev_e, List.reduceReplicate, Nat.reduceAdd, Nat.reduceLT, Nat.reduceLeDiff, Nat.reduceSub, Int.reduceNeg, ↓reduceIte, Int.reduceLT, Int.reduceLE, Int.reduceAdd, Int.reduceSub, Int.reduceBEq, reduceCtorEq, ne_eq, Nat.reduceBEq, ev_0, ev_1, ev_2, ev_3, ev_4, ↓ev_d, startD, isFz, isFzs, szOk, wipeD, putBack, fulls, frzs, full, frz, Row.fe, szOk])); rfl, ?_⟩
    have := sm_r (i := w) (hc c (List.of_mem_zip hp).2)
    ((first | refine wp_gen fun Q hQ => ?_ | skip); simp only [ev_e, List.reduceReplicate, Nat.reduceAdd, Nat.reduceLT, Nat.reduceLeDiff, Nat.reduceSub, Int.reduceNeg, ↓reduceIte, Int.reduceLT, Int.reduceLE, Int.reduceAdd, Int.reduceSub, Int.reduceBEq, reduceCtorEq, ne_eq, Nat.reduceBEq, ev_0, ev_1, ev_2, ev_3, ev_4, ↓ev_d, startD, isFz, isFzs, szOk, wipeD, putBack, fulls, frzs, full, frz, Row.fe, this]; (try subst hQ); (try simp only [ev_e, List.reduceReplicate, Nat.reduceAdd, Nat.reduceLT, Nat.reduceLeDiff, Nat.reduceSub, Int.reduceNeg, ↓reduceIte, Int.reduceLT, Int.reduceLE, Int.reduceAdd, Int.reduceSub, Int.reduceBEq, reduceCtorEq, ne_eq, Nat.reduceBEq, ev_0, ev_1, ev_2, ev_3, ev_4, ↓ev_d, startD, isFz, isFzs, szOk, wipeD, putBack, fulls, frzs, full, frz, Row.fe, this]))
  · have e : ((ws.zip cs).map fun p => D.int (p.1 * p.2)) = ((ws.zip cs).map fun p => p.1 * p.2).map .int := by simp
    have e2 : biD .sum [.lst true ((ws.zip cs).map fun p => D.int (p.1 * p.2))] = some (.int (dot ws cs)) := by rw [e, i_sumL, dot_zip]
    ((first | refine wp_gen fun Q hQ => ?_ | skip); simp only [ev_e, List.reduceReplicate, Nat.reduceAdd, Nat.reduceLT, Nat.reduceLeDiff, Nat.reduceSub, Int.reduceNeg, ↓reduceIte, Int.reduceLT, Int.reduceLE, Int.reduceAdd, Int.reduceSub, Int.reduceBEq, reduceCtorEq, ne_eq, Nat.reduceBEq, ev_0, ev_1, ev_2, ev_3, ev_4, ↓ev_d, startD, isFz, isFzs, szOk, wipeD, putBack, fulls, frzs, full, frz, Row.fe, e2, r_weighed]; (try subst hQ); (try simp only [ev_e, List.reduceReplicate, Nat.reduceAdd, Nat.reduceLT, Nat.reduceLeDiff, Nat.reduceSub, Int.reduceNeg, ↓reduceIte, Int.reduceLT, Int.reduceLE, Int.reduceAdd, Int.reduceSub, Int.reduceBEq, reduceCtorEq, ne_eq, Nat.reduceBEq, ev_0, ev_1, ev_2, ev_3, ev_4, ↓ev_d, startD, isFz, isFzs, szOk, wipeD, putBack, fulls, frzs, full, frz, Row.fe, e2, r_weighed]))
theorem s_is_so (cs : List Int) (hc : Sms cs) (hl : cs.length ≤ 1000) : ∀ (s : Sen) (k : Nat), Wf cs.length s → dep s < k → callN tab kn k "is_so" [dS s, .tup (cs.map .int)] = .ok (.bl (so s cs), [dS s, .tup (cs.map .int)])
  | .least ws m, k + 2, w, hd => by
    rw [call_code t_is_so]
    refine run_eq rfl ?_
    show Wp (evSs _ b_is_so (startD 4 [.tup [.str "least", .tup (ws.map .int), .int m], .tup (cs.map .int)])) _
    unfold b_is_so
    have h1 := s_weighed k ws cs w hc hl
    repeat (rw [wp_cons]; refine wp_gen fun Q hQ => ?_; simp only [ev_e, List.reduceReplicate, Nat.reduceAdd, Nat.reduceLT, Nat.reduceLeDiff, Nat.reduceSub, Int.reduceNeg, ↓reduceIte, Int.reduceLT, Int.reduceLE, Int.reduceAdd, Int.reduceSub, Int.reduceBEq, reduceCtorEq, ne_eq, Nat.reduceBEq, ev_0, ev_1, ev_2, ev_3, ev_4, ↓ev_d, startD, isFz, isFzs, szOk, wipeD, putBack, fulls, frzs, full, frz, Row.fe, ev_q, h1, r_is_so, so, dS, as_star]; (try subst hQ); (try simp only [ev_e, List.reduceReplicate, Nat.reduceAdd, Nat.reduceLT, Nat.reduceLeDiff, Nat.reduceSub, Int.reduceNeg, ↓reduceIte, Int.reduceLT, Int.reduceLE, Int.reduceAdd, Int.reduceSub, Int.reduceBEq, reduceCtorEq, ne_eq, Nat.reduceBEq, ev_0, ev_1, ev_2, ev_3, ev_4, ↓ev_d, startD, isFz, isFzs, szOk, wipeD, putBack, fulls, frzs, full, frz, Row.fe, ev_q, h1, r_is_so, so, dS, as_star]))
  | .rest ws m r, k + 2, w, hd => by
    rw [call_code t_is_so]
    refine run_eq rfl ?_
    show Wp (evSs _ b_is_so (startD 4 [.tup [.str "rest", .tup (ws.map .int), .int m, .int r], .tup (cs.map .int)])) _
    unfold b_is_so
    have h1 := s_weighed k ws cs w.1 hc hl
    have h2 := w.2.1
    have h3 : m ≠ 0 := by omega
    repeat (rw [wp_cons]; refine wp_gen fun Q hQ => ?_; simp only [ev_e, List.reduceReplicate, Nat.reduceAdd, Nat.reduceLT, Nat.reduceLeDiff, Nat.reduceSub, Int.reduceNeg, ↓reduceIte, Int.reduceLT, Int.reduceLE, Int.reduceAdd, Int.reduceSub, Int.reduceBEq, reduceCtorEq, ne_eq, Nat.reduceBEq, ev_0, ev_1, ev_2, ev_3, ev_4, ↓ev_d, startD, isFz, isFzs, szOk, wipeD, putBack, fulls, frzs, full, frz, Row.fe, as_star, ev_q, h1, r_is_so, so, dS, h3, rst_pos h2]; (try subst hQ); (try simp only [ev_e, List.reduceReplicate, Nat.reduceAdd, Nat.reduceLT, Nat.reduceLeDiff, Nat.reduceSub, Int.reduceNeg, ↓reduceIte, Int.reduceLT, Int.reduceLE, Int.reduceAdd, Int.reduceSub, Int.reduceBEq, reduceCtorEq, ne_eq, Nat.reduceBEq, ev_0, ev_1, ev_2, ev_3, ev_4, ↓ev_d, startD, isFz, isFzs, szOk, wipeD, putBack, fulls, frzs, full, frz, Row.fe, as_star, ev_q, h1, r_is_so, so, dS, h3, rst_pos h2]))
  | .neg s, k + 1, w, hd => by
    rw [call_code t_is_so]
    refine run_eq rfl ?_
    show Wp (evSs _ b_is_so (startD 4 [.tup [.str "not", dS s], .tup (cs.map .int)])) _
    unfold b_is_so
    have h1 := s_is_so cs hc hl s k w (Nat.lt_of_succ_lt_succ hd)
    repeat (rw [wp_cons]; refine wp_gen fun Q hQ => ?_; simp only [ev_e, List.reduceReplicate, Nat.reduceAdd, Nat.reduceLT, Nat.reduceLeDiff, Nat.reduceSub, Int.reduceNeg, ↓reduceIte, Int.reduceLT, Int.reduceLE, Int.reduceAdd, Int.reduceSub, Int.reduceBEq, reduceCtorEq, ne_eq, Nat.reduceBEq, ev_0, ev_1, ev_2, ev_3, ev_4, ↓ev_d, startD, isFz, isFzs, szOk, wipeD, putBack, fulls, frzs, full, frz, Row.fe, as_star, ev_q, h1, fz_dS, r_is_so, so, dS]; (try subst hQ); (try simp only [ev_e, List.reduceReplicate, Nat.reduceAdd, Nat.reduceLT, Nat.reduceLeDiff, Nat.reduceSub, Int.reduceNeg, ↓reduceIte, Int.reduceLT, Int.reduceLE, Int.reduceAdd, Int.reduceSub, Int.reduceBEq, reduceCtorEq, ne_eq, Nat.reduceBEq, ev_0, ev_1, ev_2, ev_3, ev_4, ↓ev_d, startD, isFz, isFzs, szOk, wipeD, putBack, fulls, frzs, full, frz, Row.fe, as_star, ev_q, h1, fz_dS, r_is_so, so, dS]))
  | .and a b, k + 1, w, hd => by
    rw [call_code t_is_so]
    refine run_eq rfl ?_
    show Wp (evSs _ b_is_so (startD 4 [.tup [.str "and", dS a, dS b], .tup (cs.map .int)])) _
    unfold b_is_so
    have hd : max (dep a) (dep b) < k := Nat.lt_of_succ_lt_succ hd
    have h1 := s_is_so cs hc hl a k w.1 (by omega)
    have h2 := s_is_so cs hc hl b k w.2 (by omega)
    cases hs : so a cs with
    | false => repeat (rw [wp_cons]; refine wp_gen fun Q hQ => ?_; simp only [ev_e, List.reduceReplicate, Nat.reduceAdd, Nat.reduceLT, Nat.reduceLeDiff, Nat.reduceSub, Int.reduceNeg, ↓reduceIte, Int.reduceLT, Int.reduceLE, Int.reduceAdd, Int.reduceSub, Int.reduceBEq, reduceCtorEq, ne_eq, Nat.reduceBEq, ev_0, ev_1, ev_2, ev_3, ev_4, ↓ev_d, startD, isFz, isFzs, szOk, wipeD, putBack, fulls, frzs, full, frz, Row.fe, as_star, ev_q, h1, h2, fz_dS, r_is_so, so, dS, hs, Bool.false_and]; (try subst hQ); (try simp only [ev_e, List.reduceReplicate, Nat.reduceAdd, Nat.reduceLT, Nat.reduceLeDiff, Nat.reduceSub, Int.reduceNeg, ↓reduceIte, Int.reduceLT, Int.reduceLE, Int.reduceAdd, Int.reduceSub, Int.reduceBEq, reduceCtorEq, ne_eq, Nat.reduceBEq, ev_0, ev_1, ev_2, ev_3, ev_4, ↓ev_d, startD, isFz, isFzs, szOk, wipeD, putBack, fulls, frzs, full, frz, Row.fe, as_star, ev_q, h1, h2, fz_dS, r_is_so, so, dS, hs, Bool.false_and]))
    | true => repeat (rw [wp_cons]; refine wp_gen fun Q hQ => ?_; simp only [ev_e, List.reduceReplicate, Nat.reduceAdd, Nat.reduceLT, Nat.reduceLeDiff, Nat.reduceSub, Int.reduceNeg, ↓reduceIte, Int.reduceLT, Int.reduceLE, Int.reduceAdd, Int.reduceSub, Int.reduceBEq, reduceCtorEq, ne_eq, Nat.reduceBEq, ev_0, ev_1, ev_2, ev_3, ev_4, ↓ev_d, startD, isFz, isFzs, szOk, wipeD, putBack, fulls, frzs, full, frz, Row.fe, as_star, ev_q, h1, h2, fz_dS, r_is_so, so, dS, hs]; (try subst hQ); (try simp only [ev_e, List.reduceReplicate, Nat.reduceAdd, Nat.reduceLT, Nat.reduceLeDiff, Nat.reduceSub, Int.reduceNeg, ↓reduceIte, Int.reduceLT, Int.reduceLE, Int.reduceAdd, Int.reduceSub, Int.reduceBEq, reduceCtorEq, ne_eq, Nat.reduceBEq, ev_0, ev_1, ev_2, ev_3, ev_4, ↓ev_d, startD, isFz, isFzs, szOk, wipeD, putBack, fulls, frzs, full, frz, Row.fe, as_star, ev_q, h1, h2, fz_dS, r_is_so, so, dS, hs]))
  | .or a b, k + 1, w, hd => by
    rw [call_code t_is_so]
    refine run_eq rfl ?_
    show Wp (evSs _ b_is_so (startD 4 [.tup [.str "or", dS a, dS b], .tup (cs.map .int)])) _
    unfold b_is_so
    have hd : max (dep a) (dep b) < k := Nat.lt_of_succ_lt_succ hd
    have h1 := s_is_so cs hc hl a k w.1 (by omega)
    have h2 := s_is_so cs hc hl b k w.2 (by omega)
    cases hs : so a cs with
    | false => repeat (rw [wp_cons]; refine wp_gen fun Q hQ => ?_; simp only [ev_e, List.reduceReplicate, Nat.reduceAdd, Nat.reduceLT, Nat.reduceLeDiff, Nat.reduceSub, Int.reduceNeg, ↓reduceIte, Int.reduceLT, Int.reduceLE, Int.reduceAdd, Int.reduceSub, Int.reduceBEq, reduceCtorEq, ne_eq, Nat.reduceBEq, ev_0, ev_1, ev_2, ev_3, ev_4, ↓ev_d, startD, isFz, isFzs, szOk, wipeD, putBack, fulls, frzs, full, frz, Row.fe, as_star, ev_q, h1, h2, fz_dS, r_is_so, so, dS, hs, Bool.false_or]; (try subst hQ); (try simp only [ev_e, List.reduceReplicate, Nat.reduceAdd, Nat.reduceLT, Nat.reduceLeDiff, Nat.reduceSub, Int.reduceNeg, ↓reduceIte, Int.reduceLT, Int.reduceLE, Int.reduceAdd, Int.reduceSub, Int.reduceBEq, reduceCtorEq, ne_eq, Nat.reduceBEq, ev_0, ev_1, ev_2, ev_3, ev_4, ↓ev_d, startD, isFz, isFzs, szOk, wipeD, putBack, fulls, frzs, full, frz, Row.fe, as_star, ev_q, h1, h2, fz_dS, r_is_so, so, dS, hs, Bool.false_or]))
    | true => repeat (rw [wp_cons]; refine wp_gen fun Q hQ => ?_; simp only [ev_e, List.reduceReplicate, Nat.reduceAdd, Nat.reduceLT, Nat.reduceLeDiff, Nat.reduceSub, Int.reduceNeg, ↓reduceIte, Int.reduceLT, Int.reduceLE, Int.reduceAdd, Int.reduceSub, Int.reduceBEq, reduceCtorEq, ne_eq, Nat.reduceBEq, ev_0, ev_1, ev_2, ev_3, ev_4, ↓ev_d, startD, isFz, isFzs, szOk, wipeD, putBack, fulls, frzs, full, frz, Row.fe, as_star, ev_q, h1, h2, fz_dS, r_is_so, so, dS, hs, Bool.true_or]; (try subst hQ); (try simp only [ev_e, List.reduceReplicate, Nat.reduceAdd, Nat.reduceLT, Nat.reduceLeDiff, Nat.reduceSub, Int.reduceNeg, ↓reduceIte, Int.reduceLT, Int.reduceLE, Int.reduceAdd, Int.reduceSub, Int.reduceBEq, reduceCtorEq, ne_eq, Nat.reduceBEq, ev_0, ev_1, ev_2, ev_3, ev_4, ↓ev_d, startD, isFz, isFzs, szOk, wipeD, putBack, fulls, frzs, full, frz, Row.fe, as_star, ev_q, h1, h2, fz_dS, r_is_so, so, dS, hs, Bool.true_or]))
  | .least _ _, 0, _, hd => nomatch hd
  | .least _ _, 1, _, hd => absurd hd (by simp [dep])
  | .rest _ _ _, 0, _, hd => nomatch hd
  | .rest _ _ _, 1, _, hd => absurd hd (by simp [dep])
  | .neg _, 0, _, hd => nomatch hd
  | .and _ _, 0, _, hd => nomatch hd
  | .or _ _, 0, _, hd => nomatch hd
theorem s_many_of (k n : Nat) (s : Sen) (w : Wf n s) : Wp (callN tab kn (k + 1) "many_of" [dS s]) (fun r => r = (.int n, [.undef])) := by
  rw [call_code t_many_of]
  refine run_wp rfl ?_
  show Wp (evSs _ b_many_of (startD 1 [dS s])) _
  unfold b_many_of
  rw [wp_cons]
  refine wp_whl (fun (x : Sen) ρ => ρ = [dS x] ∧ Wf n x) dep s rfl ⟨rfl, w⟩ ?_
  rintro x ρ ⟨rfl, wx⟩
  cases x with
  | least ws m =>
    have wx : ws.length = n := wx
    ((first | refine wp_gen fun Q hQ => ?_ | skip); simp only [ev_e, List.reduceReplicate, Nat.reduceAdd, Nat.reduceLT, Nat.reduceLeDiff, Nat.reduceSub, Int.reduceNeg, ↓reduceIte, Int.reduceLT, Int.reduceLE, Int.reduceAdd, Int.reduceSub, Int.reduceBEq, reduceCtorEq, ne_eq, Nat.reduceBEq, ev_0, ev_1, ev_2, ev_3, ev_4, ↓ev_d, startD, isFz, isFzs, szOk, wipeD, putBack, fulls, frzs, full, frz, Row.fe, dS, ev_q]; (try subst hQ); (try simp only [ev_e, List.reduceReplicate, Nat.reduceAdd, Nat.reduceLT, Nat.reduceLeDiff, Nat.reduceSub, Int.reduceNeg, ↓reduceIte, Int.reduceLT, Int.reduceLE, Int.reduceAdd, Int.reduceSub, Int.reduceBEq, reduceCtorEq, ne_eq, Nat.reduceBEq, ev_0, ev_1, ev_2, ev_3, ev_4, ↓ev_d, startD, isFz, isFzs, szOk, wipeD, putBack, fulls, frzs, full, frz, Row.fe, dS, ev_q]))
    repeat (rw [wp_cons]; refine wp_gen fun Q hQ => ?_; simp only [ev_e, List.reduceReplicate, Nat.reduceAdd, Nat.reduceLT, Nat.reduceLeDiff, Nat.reduceSub, Int.reduceNeg, ↓reduceIte, Int.reduceLT, Int.reduceLE, Int.reduceAdd, Int.reduceSub, Int.reduceBEq, reduceCtorEq, ne_eq, Nat.reduceBEq, ev_0, ev_1, ev_2, ev_3, ev_4, ↓ev_d, startD, isFz, isFzs, szOk, wipeD, putBack, fulls, frzs, full, frz, Row.fe, dS, r_many_of, wx]; (try subst hQ); (try simp only [ev_e, List.reduceReplicate, Nat.reduceAdd, Nat.reduceLT, Nat.reduceLeDiff, Nat.reduceSub, Int.reduceNeg, ↓reduceIte, Int.reduceLT, Int.reduceLE, Int.reduceAdd, Int.reduceSub, Int.reduceBEq, reduceCtorEq, ne_eq, Nat.reduceBEq, ev_0, ev_1, ev_2, ev_3, ev_4, ↓ev_d, startD, isFz, isFzs, szOk, wipeD, putBack, fulls, frzs, full, frz, Row.fe, dS, r_many_of, wx]))
  | rest ws m r =>
    have wx : ws.length = n := wx.1
    ((first | refine wp_gen fun Q hQ => ?_ | skip); simp only [ev_e, List.reduceReplicate, Nat.reduceAdd, Nat.reduceLT, Nat.reduceLeDiff, Nat.reduceSub, Int.reduceNeg, ↓reduceIte, Int.reduceLT, Int.reduceLE, Int.reduceAdd, Int.reduceSub, Int.reduceBEq, reduceCtorEq, ne_eq, Nat.reduceBEq, ev_0, ev_1, ev_2, ev_3, ev_4, ↓ev_d, startD, isFz, isFzs, szOk, wipeD, putBack, fulls, frzs, full, frz, Row.fe, dS, ev_q]; (try subst hQ); (try simp only [ev_e, List.reduceReplicate, Nat.reduceAdd, Nat.reduceLT, Nat.reduceLeDiff, Nat.reduceSub, Int.reduceNeg, ↓reduceIte, Int.reduceLT, Int.reduceLE, Int.reduceAdd, Int.reduceSub, Int.reduceBEq, reduceCtorEq, ne_eq, Nat.reduceBEq, ev_0, ev_1, ev_2, ev_3, ev_4, ↓ev_d, startD, isFz, isFzs, szOk, wipeD, putBack, fulls, frzs, full, frz, Row.fe, dS, ev_q]))
    repeat (rw [wp_cons]; refine wp_gen fun Q hQ => ?_; simp only [ev_e, List.reduceReplicate, Nat.reduceAdd, Nat.reduceLT, Nat.reduceLeDiff, Nat.reduceSub, Int.reduceNeg, ↓reduceIte, Int.reduceLT, Int.reduceLE, Int.reduceAdd, Int.reduceSub, Int.reduceBEq, reduceCtorEq, ne_eq, Nat.reduceBEq, ev_0, ev_1, ev_2, ev_3, ev_4, ↓ev_d, startD, isFz, isFzs, szOk, wipeD, putBack, fulls, frzs, full, frz, Row.fe, dS, r_many_of, wx]; (try subst hQ); (try simp only [ev_e, List.reduceReplicate, Nat.reduceAdd, Nat.reduceLT, Nat.reduceLeDiff, Nat.reduceSub, Int.reduceNeg, ↓reduceIte, Int.reduceLT, Int.reduceLE, Int.reduceAdd, Int.reduceSub, Int.reduceBEq, reduceCtorEq, ne_eq, Nat.reduceBEq, ev_0, ev_1, ev_2, ev_3, ev_4, ↓ev_d, startD, isFz, isFzs, szOk, wipeD, putBack, fulls, frzs, full, frz, Row.fe, dS, r_many_of, wx]))
  | neg s =>
    ((first | refine wp_gen fun Q hQ => ?_ | skip); simp only [ev_e, List.reduceReplicate, Nat.reduceAdd, Nat.reduceLT, Nat.reduceLeDiff, Nat.reduceSub, Int.reduceNeg, ↓reduceIte, Int.reduceLT, Int.reduceLE, Int.reduceAdd, Int.reduceSub, Int.reduceBEq, reduceCtorEq, ne_eq, Nat.reduceBEq, ev_0, ev_1, ev_2, ev_3, ev_4, ↓ev_d, startD, isFz, isFzs, szOk, wipeD, putBack, fulls, frzs, full, frz, Row.fe, dS, ev_q]; (try subst hQ); (try simp only [ev_e, List.reduceReplicate, Nat.reduceAdd, Nat.reduceLT, Nat.reduceLeDiff, Nat.reduceSub, Int.reduceNeg, ↓reduceIte, Int.reduceLT, Int.reduceLE, Int.reduceAdd, Int.reduceSub, Int.reduceBEq, reduceCtorEq, ne_eq, Nat.reduceBEq, ev_0, ev_1, ev_2, ev_3, ev_4, ↓ev_d, startD, isFz, isFzs, szOk, wipeD, putBack, fulls, frzs, full, frz, Row.fe, dS, ev_q]))
    repeat (rw [wp_cons]; refine wp_gen fun Q hQ => ?_; simp only [ev_e, List.reduceReplicate, Nat.reduceAdd, Nat.reduceLT, Nat.reduceLeDiff, Nat.reduceSub, Int.reduceNeg, ↓reduceIte, Int.reduceLT, Int.reduceLE, Int.reduceAdd, Int.reduceSub, Int.reduceBEq, reduceCtorEq, ne_eq, Nat.reduceBEq, ev_0, ev_1, ev_2, ev_3, ev_4, ↓ev_d, startD, isFz, isFzs, szOk, wipeD, putBack, fulls, frzs, full, frz, Row.fe, fz_dS]; (try subst hQ); (try simp only [ev_e, List.reduceReplicate, Nat.reduceAdd, Nat.reduceLT, Nat.reduceLeDiff, Nat.reduceSub, Int.reduceNeg, ↓reduceIte, Int.reduceLT, Int.reduceLE, Int.reduceAdd, Int.reduceSub, Int.reduceBEq, reduceCtorEq, ne_eq, Nat.reduceBEq, ev_0, ev_1, ev_2, ev_3, ev_4, ↓ev_d, startD, isFz, isFzs, szOk, wipeD, putBack, fulls, frzs, full, frz, Row.fe, fz_dS]))
    exact ⟨s, ⟨rfl, wx⟩, by simp [dep]⟩
  | and a b =>
    ((first | refine wp_gen fun Q hQ => ?_ | skip); simp only [ev_e, List.reduceReplicate, Nat.reduceAdd, Nat.reduceLT, Nat.reduceLeDiff, Nat.reduceSub, Int.reduceNeg, ↓reduceIte, Int.reduceLT, Int.reduceLE, Int.reduceAdd, Int.reduceSub, Int.reduceBEq, reduceCtorEq, ne_eq, Nat.reduceBEq, ev_0, ev_1, ev_2, ev_3, ev_4, ↓ev_d, startD, isFz, isFzs, szOk, wipeD, putBack, fulls, frzs, full, frz, Row.fe, dS, ev_q]; (try subst hQ); (try simp only [ev_e, List.reduceReplicate, Nat.reduceAdd, Nat.reduceLT, Nat.reduceLeDiff, Nat.reduceSub, Int.reduceNeg, ↓reduceIte, Int.reduceLT, Int.reduceLE, Int.reduceAdd, Int.reduceSub, Int.reduceBEq, reduceCtorEq, ne_eq, Nat.reduceBEq, ev_0, ev_1, ev_2, ev_3, ev_4, ↓ev_d, startD, isFz, isFzs, szOk, wipeD, putBack, fulls, frzs, full, frz, Row.fe, dS, ev_q]))
    repeat (rw [wp_cons]; refine wp_gen fun Q hQ => ?_; simp only [ev_e, List.reduceReplicate, Nat.reduceAdd, Nat.reduceLT, Nat.reduceLeDiff, Nat.reduceSub, Int.reduceNeg, ↓reduceIte, Int.reduceLT, Int.reduceLE, Int.reduceAdd, Int.reduceSub, Int.reduceBEq, reduceCtorEq, ne_eq, Nat.reduceBEq, ev_0, ev_1, ev_2, ev_3, ev_4, ↓ev_d, startD, isFz, isFzs, szOk, wipeD, putBack, fulls, frzs, full, frz, Row.fe, fz_dS]; (try subst hQ); (try simp only [ev_e, List.reduceReplicate, Nat.reduceAdd, Nat.reduceLT, Nat.reduceLeDiff, Nat.reduceSub, Int.reduceNeg, ↓reduceIte, Int.reduceLT, Int.reduceLE, Int.reduceAdd, Int.reduceSub, Int.reduceBEq, reduceCtorEq, ne_eq, Nat.reduceBEq, ev_0, ev_1, ev_2, ev_3, ev_4, ↓ev_d, startD, isFz, isFzs, szOk, wipeD, putBack, fulls, frzs, full, frz, Row.fe, fz_dS]))
    exact ⟨a, ⟨rfl, wx.1⟩, by simp [dep]; omega⟩
  | or a b =>
    ((first | refine wp_gen fun Q hQ => ?_ | skip); simp only [ev_e, List.reduceReplicate, Nat.reduceAdd, Nat.reduceLT, Nat.reduceLeDiff, Nat.reduceSub, Int.reduceNeg, ↓reduceIte, Int.reduceLT, Int.reduceLE, Int.reduceAdd, Int.reduceSub, Int.reduceBEq, reduceCtorEq, ne_eq, Nat.reduceBEq, ev_0, ev_1, ev_2, ev_3, ev_4, ↓ev_d, startD, isFz, isFzs, szOk, wipeD, putBack, fulls, frzs, full, frz, Row.fe, dS, ev_q]; (try subst hQ); (try simp only [ev_e, List.reduceReplicate, Nat.reduceAdd, Nat.reduceLT, Nat.reduceLeDiff, Nat.reduceSub, Int.reduceNeg, ↓reduceIte, Int.reduceLT, Int.reduceLE, Int.reduceAdd, Int.reduceSub, Int.reduceBEq, reduceCtorEq, ne_eq, Nat.reduceBEq, ev_0, ev_1, ev_2, ev_3, ev_4, ↓ev_d, startD, isFz, isFzs, szOk, wipeD, putBack, fulls, frzs, full, frz, Row.fe, dS, ev_q]))
    repeat (rw [wp_cons]; refine wp_gen fun Q hQ => ?_; simp only [ev_e, List.reduceReplicate, Nat.reduceAdd, Nat.reduceLT, Nat.reduceLeDiff, Nat.reduceSub, Int.reduceNeg, ↓reduceIte, Int.reduceLT, Int.reduceLE, Int.reduceAdd, Int.reduceSub, Int.reduceBEq, reduceCtorEq, ne_eq, Nat.reduceBEq, ev_0, ev_1, ev_2, ev_3, ev_4, ↓ev_d, startD, isFz, isFzs, szOk, wipeD, putBack, fulls, frzs, full, frz, Row.fe, fz_dS]; (try subst hQ); (try simp only [ev_e, List.reduceReplicate, Nat.reduceAdd, Nat.reduceLT, Nat.reduceLeDiff, Nat.reduceSub, Int.reduceNeg, ↓reduceIte, Int.reduceLT, Int.reduceLE, Int.reduceAdd, Int.reduceSub, Int.reduceBEq, reduceCtorEq, ne_eq, Nat.reduceBEq, ev_0, ev_1, ev_2, ev_3, ev_4, ↓ev_d, startD, isFz, isFzs, szOk, wipeD, putBack, fulls, frzs, full, frz, Row.fe, fz_dS]))
    exact ⟨a, ⟨rfl, wx.1⟩, by simp [dep]; omega⟩
theorem s_atoms_of : ∀ (s : Sen) (k : Nat), dep s ≤ k → (atoms s).length ≤ 100000 → callN tab kn k "atoms_of" [dS s] = .ok (.lst true ((atoms s).map dS), [dS s])
  | .least ws m, k + 1, _, _ => by
    rw [call_code t_atoms_of]
    refine run_eq rfl ?_
    show Wp (evSs _ b_atoms_of (startD 3 [.tup [.str "least", .tup (ws.map .int), .int m]])) _
    unfold b_atoms_of
    repeat (rw [wp_cons]; refine wp_gen fun Q hQ => ?_; simp only [ev_e, List.reduceReplicate, Nat.reduceAdd, Nat.reduceLT, Nat.reduceLeDiff, Nat.reduceSub, Int.reduceNeg, ↓reduceIte, Int.reduceLT, Int.reduceLE, Int.reduceAdd, Int.reduceSub, Int.reduceBEq, reduceCtorEq, ne_eq, Nat.reduceBEq, ev_0, ev_1, ev_2, ev_3, ev_4, ↓ev_d, startD, isFz, isFzs, szOk, wipeD, putBack, fulls, frzs, full, frz, Row.fe, atoms, dS, r_atoms_of, ev_q]; (try subst hQ); (try simp only [ev_e, List.reduceReplicate, Nat.reduceAdd, Nat.reduceLT, Nat.reduceLeDiff, Nat.reduceSub, Int.reduceNeg, ↓reduceIte, Int.reduceLT, Int.reduceLE, Int.reduceAdd, Int.reduceSub, Int.reduceBEq, reduceCtorEq, ne_eq, Nat.reduceBEq, ev_0, ev_1, ev_2, ev_3, ev_4, ↓ev_d, startD, isFz, isFzs, szOk, wipeD, putBack, fulls, frzs, full, frz, Row.fe, atoms, dS, r_atoms_of, ev_q]))
  | .rest ws m r, k + 1, _, _ => by
    rw [call_code t_atoms_of]
    refine run_eq rfl ?_
    show Wp (evSs _ b_atoms_of (startD 3 [.tup [.str "rest", .tup (ws.map .int), .int m, .int r]])) _
    unfold b_atoms_of
    repeat (rw [wp_cons]; refine wp_gen fun Q hQ => ?_; simp only [ev_e, List.reduceReplicate, Nat.reduceAdd, Nat.reduceLT, Nat.reduceLeDiff, Nat.reduceSub, Int.reduceNeg, ↓reduceIte, Int.reduceLT, Int.reduceLE, Int.reduceAdd, Int.reduceSub, Int.reduceBEq, reduceCtorEq, ne_eq, Nat.reduceBEq, ev_0, ev_1, ev_2, ev_3, ev_4, ↓ev_d, startD, isFz, isFzs, szOk, wipeD, putBack, fulls, frzs, full, frz, Row.fe, atoms, dS, r_atoms_of, ev_q]; (try subst hQ); (try simp only [ev_e, List.reduceReplicate, Nat.reduceAdd, Nat.reduceLT, Nat.reduceLeDiff, Nat.reduceSub, Int.reduceNeg, ↓reduceIte, Int.reduceLT, Int.reduceLE, Int.reduceAdd, Int.reduceSub, Int.reduceBEq, reduceCtorEq, ne_eq, Nat.reduceBEq, ev_0, ev_1, ev_2, ev_3, ev_4, ↓ev_d, startD, isFz, isFzs, szOk, wipeD, putBack, fulls, frzs, full, frz, Row.fe, atoms, dS, r_atoms_of, ev_q]))
  | .neg s, k + 1, hd, hl => by
    have h1 := s_atoms_of s k (by simp [dep] at hd; omega) hl
    rw [call_code t_atoms_of]
    refine run_eq rfl ?_
    show Wp (evSs _ b_atoms_of (startD 3 [.tup [.str "not", dS s]])) _
    unfold b_atoms_of
    repeat (rw [wp_cons]; refine wp_gen fun Q hQ => ?_; simp only [ev_e, List.reduceReplicate, Nat.reduceAdd, Nat.reduceLT, Nat.reduceLeDiff, Nat.reduceSub, Int.reduceNeg, ↓reduceIte, Int.reduceLT, Int.reduceLE, Int.reduceAdd, Int.reduceSub, Int.reduceBEq, reduceCtorEq, ne_eq, Nat.reduceBEq, ev_0, ev_1, ev_2, ev_3, ev_4, ↓ev_d, startD, isFz, isFzs, szOk, wipeD, putBack, fulls, frzs, full, frz, Row.fe, ev_q, fz_dS]; (try subst hQ); (try simp only [ev_e, List.reduceReplicate, Nat.reduceAdd, Nat.reduceLT, Nat.reduceLeDiff, Nat.reduceSub, Int.reduceNeg, ↓reduceIte, Int.reduceLT, Int.reduceLE, Int.reduceAdd, Int.reduceSub, Int.reduceBEq, reduceCtorEq, ne_eq, Nat.reduceBEq, ev_0, ev_1, ev_2, ev_3, ev_4, ↓ev_d, startD, isFz, isFzs, szOk, wipeD, putBack, fulls, frzs, full, frz, Row.fe, ev_q, fz_dS]))
    refine wp_lc2M [s] dS (fun a => atoms a) dS (fun _ b => dS b) [.tup [.str "not", dS s], .undef, .undef] ?_ ?_ ?_ ?_
    · ((first | refine wp_gen fun Q hQ => ?_ | skip); simp only [ev_e, List.reduceReplicate, Nat.reduceAdd, Nat.reduceLT, Nat.reduceLeDiff, Nat.reduceSub, Int.reduceNeg, ↓reduceIte, Int.reduceLT, Int.reduceLE, Int.reduceAdd, Int.reduceSub, Int.reduceBEq, reduceCtorEq, ne_eq, Nat.reduceBEq, ev_0, ev_1, ev_2, ev_3, ev_4, ↓ev_d, startD, isFz, isFzs, szOk, wipeD, putBack, fulls, frzs, full, frz, Row.fe, sl_1, fz_dS, full_dS, frz_dS]; (try subst hQ); (try simp only [ev_e, List.reduceReplicate, Nat.reduceAdd, Nat.reduceLT, Nat.reduceLeDiff, Nat.reduceSub, Int.reduceNeg, ↓reduceIte, Int.reduceLT, Int.reduceLE, Int.reduceAdd, Int.reduceSub, Int.reduceBEq, reduceCtorEq, ne_eq, Nat.reduceBEq, ev_0, ev_1, ev_2, ev_3, ev_4, ↓ev_d, startD, isFz, isFzs, szOk, wipeD, putBack, fulls, frzs, full, frz, Row.fe, sl_1, fz_dS, full_dS, frz_dS]))
    · simp; rw [sizeLine_eq]; simp [atoms] at hl; omega
    · intro a ha
      have ha := List.mem_singleton.mp ha
      subst ha
      refine ⟨_, by ((first | refine wp_gen fun Q hQ => ?_ | skip); simp only [ev_e, List.reduceReplicate, Nat.reduceAdd, Nat.reduceLT, Nat.reduceLeDiff, Nat.reduceSub, Int.reduceNeg, ↓reduceIte, Int.reduceLT, Int.reduceLE, Int.reduceAdd, Int.reduceSub, Int.reduceBEq, reduceCtorEq, ne_eq, Nat.reduceBEq, ev_0, ev_1, ev_2, ev_3, ev_4, ↓ev_d, startD, isFz, isFzs, szOk, wipeD, putBack, fulls, frzs, full, frz, Row.fe, szOk]; (try subst hQ); (try simp only [ev_e, List.reduceReplicate, Nat.reduceAdd, Nat.reduceLT, Nat.reduceLeDiff, Nat.reduceSub, Int.reduceNeg, ↓reduceIte, Int.reduceLT, Int.reduceLE, Int.reduceAdd, Int.reduceSub, Int.reduceBEq, reduceCtorEq, ne_eq, Nat.reduceBEq, ev_0, ev_1, ev_2, ev_3, ev_4, ↓ev_d, startD, isFz, isFzs, szOk, wipeD, putBack, fulls, frzs, full, frz, Row.fe, szOk])); rfl, ?_⟩
      ((first | refine wp_gen fun Q hQ => ?_ | skip); simp only [ev_e, List.reduceReplicate, Nat.reduceAdd, Nat.reduceLT, Nat.reduceLeDiff, Nat.reduceSub, Int.reduceNeg, ↓reduceIte, Int.reduceLT, Int.reduceLE, Int.reduceAdd, Int.reduceSub, Int.reduceBEq, reduceCtorEq, ne_eq, Nat.reduceBEq, ev_0, ev_1, ev_2, ev_3, ev_4, ↓ev_d, startD, isFz, isFzs, szOk, wipeD, putBack, fulls, frzs, full, frz, Row.fe, nud_dS, isU_dS, h1, fz_dS, fulls_dSs, frzs_dSs]; (try subst hQ); (try simp only [ev_e, List.reduceReplicate, Nat.reduceAdd, Nat.reduceLT, Nat.reduceLeDiff, Nat.reduceSub, Int.reduceNeg, ↓reduceIte, Int.reduceLT, Int.reduceLE, Int.reduceAdd, Int.reduceSub, Int.reduceBEq, reduceCtorEq, ne_eq, Nat.reduceBEq, ev_0, ev_1, ev_2, ev_3, ev_4, ↓ev_d, startD, isFz, isFzs, szOk, wipeD, putBack, fulls, frzs, full, frz, Row.fe, nud_dS, isU_dS, h1, fz_dS, fulls_dSs, frzs_dSs]))
      intro b hb
      refine ⟨_, rfl, ?_⟩
      ((first | refine wp_gen fun Q hQ => ?_ | skip); simp only [ev_e, List.reduceReplicate, Nat.reduceAdd, Nat.reduceLT, Nat.reduceLeDiff, Nat.reduceSub, Int.reduceNeg, ↓reduceIte, Int.reduceLT, Int.reduceLE, Int.reduceAdd, Int.reduceSub, Int.reduceBEq, reduceCtorEq, ne_eq, Nat.reduceBEq, ev_0, ev_1, ev_2, ev_3, ev_4, ↓ev_d, startD, isFz, isFzs, szOk, wipeD, putBack, fulls, frzs, full, frz, Row.fe, nud_dS, isU_dS, fz_dS]; (try subst hQ); (try simp only [ev_e, List.reduceReplicate, Nat.reduceAdd, Nat.reduceLT, Nat.reduceLeDiff, Nat.reduceSub, Int.reduceNeg, ↓reduceIte, Int.reduceLT, Int.reduceLE, Int.reduceAdd, Int.reduceSub, Int.reduceBEq, reduceCtorEq, ne_eq, Nat.reduceBEq, ev_0, ev_1, ev_2, ev_3, ev_4, ↓ev_d, startD, isFz, isFzs, szOk, wipeD, putBack, fulls, frzs, full, frz, Row.fe, nud_dS, isU_dS, fz_dS]))
    · ((first | refine wp_gen fun Q hQ => ?_ | skip); simp only [ev_e, List.reduceReplicate, Nat.reduceAdd, Nat.reduceLT, Nat.reduceLeDiff, Nat.reduceSub, Int.reduceNeg, ↓reduceIte, Int.reduceLT, Int.reduceLE, Int.reduceAdd, Int.reduceSub, Int.reduceBEq, reduceCtorEq, ne_eq, Nat.reduceBEq, ev_0, ev_1, ev_2, ev_3, ev_4, ↓ev_d, startD, isFz, isFzs, szOk, wipeD, putBack, fulls, frzs, full, frz, Row.fe, r_atoms_of, atoms, dS]; (try subst hQ); (try simp only [ev_e, List.reduceReplicate, Nat.reduceAdd, Nat.reduceLT, Nat.reduceLeDiff, Nat.reduceSub, Int.reduceNeg, ↓reduceIte, Int.reduceLT, Int.reduceLE, Int.reduceAdd, Int.reduceSub, Int.reduceBEq, reduceCtorEq, ne_eq, Nat.reduceBEq, ev_0, ev_1, ev_2, ev_3, ev_4, ↓ev_d, startD, isFz, isFzs, szOk, wipeD, putBack, fulls, frzs, full, frz, Row.fe, r_atoms_of, atoms, dS]))
      simp
  | .and x y, k + 1, hd, hl => by
    have hl' : (atoms x).length + (atoms y).length ≤ 100000 := by simpa [atoms] using hl
    have h1 := s_atoms_of x k (by simp [dep] at hd; omega) (by omega)
    have h2 := s_atoms_of y k (by simp [dep] at hd; omega) (by omega)
    rw [call_code t_atoms_of]
    refine run_eq rfl ?_
    show Wp (evSs _ b_atoms_of (startD 3 [.tup [.str "and", dS x, dS y]])) _
    unfold b_atoms_of
    repeat (rw [wp_cons]; refine wp_gen fun Q hQ => ?_; simp only [ev_e, List.reduceReplicate, Nat.reduceAdd, Nat.reduceLT, Nat.reduceLeDiff, Nat.reduceSub, Int.reduceNeg, ↓reduceIte, Int.reduceLT, Int.reduceLE, Int.reduceAdd, Int.reduceSub, Int.reduceBEq, reduceCtorEq, ne_eq, Nat.reduceBEq, ev_0, ev_1, ev_2, ev_3, ev_4, ↓ev_d, startD, isFz, isFzs, szOk, wipeD, putBack, fulls, frzs, full, frz, Row.fe, ev_q, fz_dS]; (try subst hQ); (try simp only [ev_e, List.reduceReplicate, Nat.reduceAdd, Nat.reduceLT, Nat.reduceLeDiff, Nat.reduceSub, Int.reduceNeg, ↓reduceIte, Int.reduceLT, Int.reduceLE, Int.reduceAdd, Int.reduceSub, Int.reduceBEq, reduceCtorEq, ne_eq, Nat.reduceBEq, ev_0, ev_1, ev_2, ev_3, ev_4, ↓ev_d, startD, isFz, isFzs, szOk, wipeD, putBack, fulls, frzs, full, frz, Row.fe, ev_q, fz_dS]))
    refine wp_lc2M [x, y] dS (fun a => atoms a) dS (fun _ b => dS b) [.tup [.str "and", dS x, dS y], .undef, .undef] ?_ ?_ ?_ ?_
    · ((first | refine wp_gen fun Q hQ => ?_ | skip); simp only [ev_e, List.reduceReplicate, Nat.reduceAdd, Nat.reduceLT, Nat.reduceLeDiff, Nat.reduceSub, Int.reduceNeg, ↓reduceIte, Int.reduceLT, Int.reduceLE, Int.reduceAdd, Int.reduceSub, Int.reduceBEq, reduceCtorEq, ne_eq, Nat.reduceBEq, ev_0, ev_1, ev_2, ev_3, ev_4, ↓ev_d, startD, isFz, isFzs, szOk, wipeD, putBack, fulls, frzs, full, frz, Row.fe, sl_1, fz_dS, full_dS, frz_dS]; (try subst hQ); (try simp only [ev_e, List.reduceReplicate, Nat.reduceAdd, Nat.reduceLT, Nat.reduceLeDiff, Nat.reduceSub, Int.reduceNeg, ↓reduceIte, Int.reduceLT, Int.reduceLE, Int.reduceAdd, Int.reduceSub, Int.reduceBEq, reduceCtorEq, ne_eq, Nat.reduceBEq, ev_0, ev_1, ev_2, ev_3, ev_4, ↓ev_d, startD, isFz, isFzs, szOk, wipeD, putBack, fulls, frzs, full, frz, Row.fe, sl_1, fz_dS, full_dS, frz_dS]))
    · simp; rw [sizeLine_eq]; omega
    · intro a ha
      have h3 : callN tab kn k "atoms_of" [dS a] = .ok (.lst true ((atoms a).map dS), [dS a]) := by
        rcases List.mem_cons.mp ha with rfl | ha
        · exact h1
        · rw [List.mem_singleton.mp ha]; exact h2
      refine ⟨_, by ((first | refine wp_gen fun Q hQ => ?_ | skip); simp only [ev_e, List.reduceReplicate, Nat.reduceAdd, Nat.reduceLT, Nat.reduceLeDiff, Nat.reduceSub, Int.reduceNeg, ↓reduceIte, Int.reduceLT, Int.reduceLE, Int.reduceAdd, Int.reduceSub, Int.reduceBEq, reduceCtorEq, ne_eq, Nat.reduceBEq, ev_0, ev_1, ev_2, ev_3, ev_4, ↓ev_d, startD, isFz, isFzs, szOk, wipeD, putBack, fulls, frzs, full, frz, Row.fe, szOk]; (try subst hQ); (try simp only [ev_e, List.reduceReplicate, Nat.reduceAdd, Nat.reduceLT, Nat.reduceLeDiff, Nat.reduceSub, Int.reduceNeg, ↓reduceIte, Int.reduceLT, Int.reduceLE, Int.reduceAdd, Int.reduceSub, Int.reduceBEq, reduceCtorEq, ne_eq, Nat.reduceBEq, ev_0, ev_1, ev_2, ev_3, ev_4, ↓ev_d, startD, isFz, isFzs, szOk, wipeD, putBack, fulls, frzs, full, frz, Row.fe, szOk])); rfl, ?_⟩
      ((first | refine wp_gen fun Q hQ => ?_ | skip); simp only [ev_e, List.reduceReplicate, Nat.reduceAdd, Nat.reduceLT, Nat.reduceLeDiff, Nat.reduceSub, Int.reduceNeg, ↓reduceIte, Int.reduceLT, Int.reduceLE, Int.reduceAdd, Int.reduceSub, Int.reduceBEq, reduceCtorEq, ne_eq, Nat.reduceBEq, ev_0, ev_1, ev_2, ev_3, ev_4, ↓ev_d, startD, isFz, isFzs, szOk, wipeD, putBack, fulls, frzs, full, frz, Row.fe, nud_dS, isU_dS, h3, fz_dS, fulls_dSs, frzs_dSs]; (try subst hQ); (try simp only [ev_e, List.reduceReplicate, Nat.reduceAdd, Nat.reduceLT, Nat.reduceLeDiff, Nat.reduceSub, Int.reduceNeg, ↓reduceIte, Int.reduceLT, Int.reduceLE, Int.reduceAdd, Int.reduceSub, Int.reduceBEq, reduceCtorEq, ne_eq, Nat.reduceBEq, ev_0, ev_1, ev_2, ev_3, ev_4, ↓ev_d, startD, isFz, isFzs, szOk, wipeD, putBack, fulls, frzs, full, frz, Row.fe, nud_dS, isU_dS, h3, fz_dS, fulls_dSs, frzs_dSs]))
      intro b hb
      refine ⟨_, rfl, ?_⟩
      ((first | refine wp_gen fun Q hQ => ?_ | skip); simp only [ev_e, List.reduceReplicate, Nat.reduceAdd, Nat.reduceLT, Nat.reduceLeDiff, Nat.reduceSub, Int.reduceNeg, ↓reduceIte, Int.reduceLT, Int.reduceLE, Int.reduceAdd, Int.reduceSub, Int.reduceBEq, reduceCtorEq, ne_eq, Nat.reduceBEq, ev_0, ev_1, ev_2, ev_3, ev_4, ↓ev_d, startD, isFz, isFzs, szOk, wipeD, putBack, fulls, frzs, full, frz, Row.fe, nud_dS, isU_dS, fz_dS]; (try subst hQ); (try simp only [ev_e, List.reduceReplicate, Nat.reduceAdd, Nat.reduceLT, Nat.reduceLeDiff, Nat.reduceSub, Int.reduceNeg, ↓reduceIte, Int.reduceLT, Int.reduceLE, Int.reduceAdd, Int.reduceSub, Int.reduceBEq, reduceCtorEq, ne_eq, Nat.reduceBEq, ev_0, ev_1, ev_2, ev_3, ev_4, ↓ev_d, startD, isFz, isFzs, szOk, wipeD, putBack, fulls, frzs, full, frz, Row.fe, nud_dS, isU_dS, fz_dS]))
    · ((first | refine wp_gen fun Q hQ => ?_ | skip); simp only [ev_e, List.reduceReplicate, Nat.reduceAdd, Nat.reduceLT, Nat.reduceLeDiff, Nat.reduceSub, Int.reduceNeg, ↓reduceIte, Int.reduceLT, Int.reduceLE, Int.reduceAdd, Int.reduceSub, Int.reduceBEq, reduceCtorEq, ne_eq, Nat.reduceBEq, ev_0, ev_1, ev_2, ev_3, ev_4, ↓ev_d, startD, isFz, isFzs, szOk, wipeD, putBack, fulls, frzs, full, frz, Row.fe, r_atoms_of, atoms, dS]; (try subst hQ); (try simp only [ev_e, List.reduceReplicate, Nat.reduceAdd, Nat.reduceLT, Nat.reduceLeDiff, Nat.reduceSub, Int.reduceNeg, ↓reduceIte, Int.reduceLT, Int.reduceLE, Int.reduceAdd, Int.reduceSub, Int.reduceBEq, reduceCtorEq, ne_eq, Nat.reduceBEq, ev_0, ev_1, ev_2, ev_3, ev_4, ↓ev_d, startD, isFz, isFzs, szOk, wipeD, putBack, fulls, frzs, full, frz, Row.fe, r_atoms_of, atoms, dS]))
      simp
  | .or x y, k + 1, hd, hl => by
    have hl' : (atoms x).length + (atoms y).length ≤ 100000 := by simpa [atoms] using hl
    have h1 := s_atoms_of x k (by simp [dep] at hd; omega) (by omega)
    have h2 := s_atoms_of y k (by simp [dep] at hd; omega) (by omega)
    rw [call_code t_atoms_of]
    refine run_eq rfl ?_
    show Wp (evSs _ b_atoms_of (startD 3 [.tup [.str "or", dS x, dS y]])) _
    unfold b_atoms_of
    repeat (rw [wp_cons]; refine wp_gen fun Q hQ => ?_; simp only [ev_e, List.reduceReplicate, Nat.reduceAdd, Nat.reduceLT, Nat.reduceLeDiff, Nat.reduceSub, Int.reduceNeg, ↓reduceIte, Int.reduceLT, Int.reduceLE, Int.reduceAdd, Int.reduceSub, Int.reduceBEq, reduceCtorEq, ne_eq, Nat.reduceBEq, ev_0, ev_1, ev_2, ev_3, ev_4, ↓ev_d, startD, isFz, isFzs, szOk, wipeD, putBack, fulls, frzs, full, frz, Row.fe, ev_q, fz_dS]; (try subst hQ); (try simp only [ev_e, List.reduceReplicate, Nat.reduceAdd, Nat.reduceLT, Nat.reduceLeDiff, Nat.reduceSub, Int.reduceNeg, ↓reduceIte, Int.reduceLT, Int.reduceLE, Int.reduceAdd, Int.reduceSub, Int.reduceBEq, reduceCtorEq, ne_eq, Nat.reduceBEq, ev_0, ev_1, ev_2, ev_3, ev_4, ↓ev_d, startD, isFz, isFzs, szOk, wipeD, putBack, fulls, frzs, full, frz, Row.fe, ev_q, fz_dS]))
    refine wp_lc2M [x, y] dS (fun a => atoms a) dS (fun _ b => dS b) [.tup [.str "or", dS x, dS y], .undef, .undef] ?_ ?_ ?_ ?_
    · ((first | refine wp_gen fun Q hQ => ?_ | skip); simp only [ev_e, List.reduceReplicate, Nat.reduceAdd, Nat.reduceLT, Nat.reduceLeDiff, Nat.reduceSub, Int.reduceNeg, ↓reduceIte, Int.reduceLT, Int.reduceLE, Int.reduceAdd, Int.reduceSub, Int.reduceBEq, reduceCtorEq, ne_eq, Nat.reduceBEq, ev_0, ev_1, ev_2, ev_3, ev_4, ↓ev_d, startD, isFz, isFzs, szOk, wipeD, putBack, fulls, frzs, full, frz, Row.fe, sl_1, fz_dS, full_dS, frz_dS]; (try subst hQ); (try simp only [ev_e, List.reduceReplicate, Nat.reduceAdd, Nat.reduceLT, Nat.reduceLeDiff, Nat.reduceSub, Int.reduceNeg, ↓reduceIte, Int.reduceLT, Int.reduceLE, Int.reduceAdd, Int.reduceSub, Int.reduceBEq, reduceCtorEq, ne_eq, Nat.reduceBEq, ev_0, ev_1, ev_2, ev_3, ev_4, ↓ev_d, startD, isFz, isFzs, szOk, wipeD, putBack, fulls, frzs, full, frz, Row.fe, sl_1, fz_dS, full_dS, frz_dS]))
    · simp; rw [sizeLine_eq]; omega
    · intro a ha
      have h3 : callN tab kn k "atoms_of" [dS a] = .ok (.lst true ((atoms a).map dS), [dS a]) := by
        rcases List.mem_cons.mp ha with rfl | ha
        · exact h1
        · rw [List.mem_singleton.mp ha]; exact h2
      refine ⟨_, by ((first | refine wp_gen fun Q hQ => ?_ | skip); simp only [ev_e, List.reduceReplicate, Nat.reduceAdd, Nat.reduceLT, Nat.reduceLeDiff, Nat.reduceSub, Int.reduceNeg, ↓reduceIte, Int.reduceLT, Int.reduceLE, Int.reduceAdd, Int.reduceSub, Int.reduceBEq, reduceCtorEq, ne_eq, Nat.reduceBEq, ev_0, ev_1, ev_2, ev_3, ev_4, ↓ev_d, startD, isFz, isFzs, szOk, wipeD, putBack, fulls, frzs, full, frz, Row.fe, szOk]; (try subst hQ); (try simp only [ev_e, List.reduceReplicate, Nat.reduceAdd, Nat.reduceLT, Nat.reduceLeDiff, Nat.reduceSub, Int.reduceNeg, ↓reduceIte, Int.reduceLT, Int.reduceLE, Int.reduceAdd, Int.reduceSub, Int.reduceBEq, reduceCtorEq, ne_eq, Nat.reduceBEq, ev_0, ev_1, ev_2, ev_3, ev_4, ↓ev_d, startD, isFz, isFzs, szOk, wipeD, putBack, fulls, frzs, full, frz, Row.fe, szOk])); rfl, ?_⟩
      ((first | refine wp_gen fun Q hQ => ?_ | skip); simp only [ev_e, List.reduceReplicate, Nat.reduceAdd, Nat.reduceLT, Nat.reduceLeDiff, Nat.reduceSub, Int.reduceNeg, ↓reduceIte, Int.reduceLT, Int.reduceLE, Int.reduceAdd, Int.reduceSub, Int.reduceBEq, reduceCtorEq, ne_eq, Nat.reduceBEq, ev_0, ev_1, ev_2, ev_3, ev_4, ↓ev_d, startD, isFz, isFzs, szOk, wipeD, putBack, fulls, frzs, full, frz, Row.fe, nud_dS, isU_dS, h3, fz_dS, fulls_dSs, frzs_dSs]; (try subst hQ); (try simp only [ev_e, List.reduceReplicate, Nat.reduceAdd, Nat.reduceLT, Nat.reduceLeDiff, Nat.reduceSub, Int.reduceNeg, ↓reduceIte, Int.reduceLT, Int.reduceLE, Int.reduceAdd, Int.reduceSub, Int.reduceBEq, reduceCtorEq, ne_eq, Nat.reduceBEq, ev_0, ev_1, ev_2, ev_3, ev_4, ↓ev_d, startD, isFz, isFzs, szOk, wipeD, putBack, fulls, frzs, full, frz, Row.fe, nud_dS, isU_dS, h3, fz_dS, fulls_dSs, frzs_dSs]))
      intro b hb
      refine ⟨_, rfl, ?_⟩
      ((first | refine wp_gen fun Q hQ => ?_ | skip); simp only [ev_e, List.reduceReplicate, Nat.reduceAdd, Nat.reduceLT, Nat.reduceLeDiff, Nat.reduceSub, Int.reduceNeg, ↓reduceIte, Int.reduceLT, Int.reduceLE, Int.reduceAdd, Int.reduceSub, Int.reduceBEq, reduceCtorEq, ne_eq, Nat.reduceBEq, ev_0, ev_1, ev_2, ev_3, ev_4, ↓ev_d, startD, isFz, isFzs, szOk, wipeD, putBack, fulls, frzs, full, frz, Row.fe, nud_dS, isU_dS, fz_dS]; (try subst hQ); (try simp only [ev_e, List.reduceReplicate, Nat.reduceAdd, Nat.reduceLT, Nat.reduceLeDiff, Nat.reduceSub, Int.reduceNeg, ↓reduceIte, Int.reduceLT, Int.reduceLE, Int.reduceAdd, Int.reduceSub, Int.reduceBEq, reduceCtorEq, ne_eq, Nat.reduceBEq, ev_0, ev_1, ev_2, ev_3, ev_4, ↓ev_d, startD, isFz, isFzs, szOk, wipeD, putBack, fulls, frzs, full, frz, Row.fe, nud_dS, isU_dS, fz_dS]))
    · ((first | refine wp_gen fun Q hQ => ?_ | skip); simp only [ev_e, List.reduceReplicate, Nat.reduceAdd, Nat.reduceLT, Nat.reduceLeDiff, Nat.reduceSub, Int.reduceNeg, ↓reduceIte, Int.reduceLT, Int.reduceLE, Int.reduceAdd, Int.reduceSub, Int.reduceBEq, reduceCtorEq, ne_eq, Nat.reduceBEq, ev_0, ev_1, ev_2, ev_3, ev_4, ↓ev_d, startD, isFz, isFzs, szOk, wipeD, putBack, fulls, frzs, full, frz, Row.fe, r_atoms_of, atoms, dS]; (try subst hQ); (try simp only [ev_e, List.reduceReplicate, Nat.reduceAdd, Nat.reduceLT, Nat.reduceLeDiff, Nat.reduceSub, Int.reduceNeg, ↓reduceIte, Int.reduceLT, Int.reduceLE, Int.reduceAdd, Int.reduceSub, Int.reduceBEq, reduceCtorEq, ne_eq, Nat.reduceBEq, ev_0, ev_1, ev_2, ev_3, ev_4, ↓ev_d, startD, isFz, isFzs, szOk, wipeD, putBack, fulls, frzs, full, frz, Row.fe, r_atoms_of, atoms, dS]))
      simp
  | .least _ _, 0, hd, _ => nomatch hd
  | .rest _ _ _, 0, hd, _ => nomatch hd
  | .neg _, 0, hd, _ => nomatch hd
  | .and _ _, 0, hd, _ => nomatch hd
  | .or _ _, 0, hd, _ => nomatch hd
theorem t_wheel_of : tab "wheel_of" = some (.code r_wheel_of.fe) := by kernel_rfl
theorem t_breaking : tab "breaking" = some (.code r_breaking.fe) := by kernel_rfl
theorem t_sought_by : tab "sought_by" = some (.code r_sought_by.fe) := by kernel_rfl
theorem t_init : tab (mkey "Put" "__init__") = some (.ini r_Put____init__.fe) := by kernel_rfl
theorem t_weights_in : tab (mkey "Put" "weights_in") = some (.code r_Put__weights_in.fe) := by kernel_rfl
theorem t_into : tab (mkey "Put" "into") = some (.code r_Put__into.fe) := by kernel_rfl
theorem t_is_number : tab (mkey "Put" "is_number") = some (.code r_Put__is_number.fe) := by kernel_rfl
theorem s_common_part (k : Nat) (a b : Int) : Wp (callN tab kn (k + 1) "common_part" [.int a, .int b]) (fun r => r = (.int (cp a b), [.undef, .undef])) := by
  rw [call_code t_common_part]
  refine run_wp rfl ?_
  show Wp (evSs _ b_common_part (startD 2 [.int a, .int b])) _
  unfold b_common_part
  (rw [wp_cons]; refine wp_gen fun Q hQ => ?_; simp only [ev_e, List.reduceReplicate, Nat.reduceAdd, Nat.reduceLT, Nat.reduceLeDiff, Nat.reduceSub, Int.reduceNeg, ↓reduceIte, Int.reduceLT, Int.reduceLE, Int.reduceAdd, Int.reduceSub, Int.reduceBEq, reduceCtorEq, ne_eq, Nat.reduceBEq, ev_0, ev_1, ev_2, ev_3, ev_4, ↓ev_d, startD, isFz, isFzs, szOk, wipeD, putBack, fulls, frzs, full, frz, Row.fe, i_abs]; (try subst hQ); (try simp only [ev_e, List.reduceReplicate, Nat.reduceAdd, Nat.reduceLT, Nat.reduceLeDiff, Nat.reduceSub, Int.reduceNeg, ↓reduceIte, Int.reduceLT, Int.reduceLE, Int.reduceAdd, Int.reduceSub, Int.reduceBEq, reduceCtorEq, ne_eq, Nat.reduceBEq, ev_0, ev_1, ev_2, ev_3, ev_4, ↓ev_d, startD, isFz, isFzs, szOk, wipeD, putBack, fulls, frzs, full, frz, Row.fe, i_abs]))
  rw [wp_cons]
  refine wp_whl (fun (p : Nat × Nat) ρ => ρ = [.int p.1, .int p.2] ∧ Nat.gcd p.1 p.2 = Int.gcd a b) (fun p => p.2) (a.natAbs, b.natAbs) rfl ⟨rfl, rfl⟩ ?_
  rintro ⟨x, y⟩ ρ ⟨rfl, hg⟩
  by_cases hy : y = 0
  · subst hy
    ((first | refine wp_gen fun Q hQ => ?_ | skip); simp only [ev_e, List.reduceReplicate, Nat.reduceAdd, Nat.reduceLT, Nat.reduceLeDiff, Nat.reduceSub, Int.reduceNeg, ↓reduceIte, Int.reduceLT, Int.reduceLE, Int.reduceAdd, Int.reduceSub, Int.reduceBEq, reduceCtorEq, ne_eq, Nat.reduceBEq, ev_0, ev_1, ev_2, ev_3, ev_4, ↓ev_d, startD, isFz, isFzs, szOk, wipeD, putBack, fulls, frzs, full, frz, Row.fe, Int.natCast_zero, beq_self_eq_true]; (try subst hQ); (try simp only [ev_e, List.reduceReplicate, Nat.reduceAdd, Nat.reduceLT, Nat.reduceLeDiff, Nat.reduceSub, Int.reduceNeg, ↓reduceIte, Int.reduceLT, Int.reduceLE, Int.reduceAdd, Int.reduceSub, Int.reduceBEq, reduceCtorEq, ne_eq, Nat.reduceBEq, ev_0, ev_1, ev_2, ev_3, ev_4, ↓ev_d, startD, isFz, isFzs, szOk, wipeD, putBack, fulls, frzs, full, frz, Row.fe, Int.natCast_zero, beq_self_eq_true]))
    (rw [wp_cons]; refine wp_gen fun Q hQ => ?_; simp only [ev_e, List.reduceReplicate, Nat.reduceAdd, Nat.reduceLT, Nat.reduceLeDiff, Nat.reduceSub, Int.reduceNeg, ↓reduceIte, Int.reduceLT, Int.reduceLE, Int.reduceAdd, Int.reduceSub, Int.reduceBEq, reduceCtorEq, ne_eq, Nat.reduceBEq, ev_0, ev_1, ev_2, ev_3, ev_4, ↓ev_d, startD, isFz, isFzs, szOk, wipeD, putBack, fulls, frzs, full, frz, Row.fe, r_common_part]; (try subst hQ); (try simp only [ev_e, List.reduceReplicate, Nat.reduceAdd, Nat.reduceLT, Nat.reduceLeDiff, Nat.reduceSub, Int.reduceNeg, ↓reduceIte, Int.reduceLT, Int.reduceLE, Int.reduceAdd, Int.reduceSub, Int.reduceBEq, reduceCtorEq, ne_eq, Nat.reduceBEq, ev_0, ev_1, ev_2, ev_3, ev_4, ↓ev_d, startD, isFz, isFzs, szOk, wipeD, putBack, fulls, frzs, full, frz, Row.fe, r_common_part]))
    simp at hg
    simp [cp, hg]
  · have h1 : (((y : Int)) == 0) = false := by simpa using hy
    have h2 : (y : Int) ≠ 0 := by omega
    ((first | refine wp_gen fun Q hQ => ?_ | skip); simp only [ev_e, List.reduceReplicate, Nat.reduceAdd, Nat.reduceLT, Nat.reduceLeDiff, Nat.reduceSub, Int.reduceNeg, ↓reduceIte, Int.reduceLT, Int.reduceLE, Int.reduceAdd, Int.reduceSub, Int.reduceBEq, reduceCtorEq, ne_eq, Nat.reduceBEq, ev_0, ev_1, ev_2, ev_3, ev_4, ↓ev_d, startD, isFz, isFzs, szOk, wipeD, putBack, fulls, frzs, full, frz, Row.fe, h1]; (try subst hQ); (try simp only [ev_e, List.reduceReplicate, Nat.reduceAdd, Nat.reduceLT, Nat.reduceLeDiff, Nat.reduceSub, Int.reduceNeg, ↓reduceIte, Int.reduceLT, Int.reduceLE, Int.reduceAdd, Int.reduceSub, Int.reduceBEq, reduceCtorEq, ne_eq, Nat.reduceBEq, ev_0, ev_1, ev_2, ev_3, ev_4, ↓ev_d, startD, isFz, isFzs, szOk, wipeD, putBack, fulls, frzs, full, frz, Row.fe, h1]))
    (rw [wp_cons]; refine wp_gen fun Q hQ => ?_; simp only [ev_e, List.reduceReplicate, Nat.reduceAdd, Nat.reduceLT, Nat.reduceLeDiff, Nat.reduceSub, Int.reduceNeg, ↓reduceIte, Int.reduceLT, Int.reduceLE, Int.reduceAdd, Int.reduceSub, Int.reduceBEq, reduceCtorEq, ne_eq, Nat.reduceBEq, ev_0, ev_1, ev_2, ev_3, ev_4, ↓ev_d, startD, isFz, isFzs, szOk, wipeD, putBack, fulls, frzs, full, frz, Row.fe, h2]; (try subst hQ); (try simp only [ev_e, List.reduceReplicate, Nat.reduceAdd, Nat.reduceLT, Nat.reduceLeDiff, Nat.reduceSub, Int.reduceNeg, ↓reduceIte, Int.reduceLT, Int.reduceLE, Int.reduceAdd, Int.reduceSub, Int.reduceBEq, reduceCtorEq, ne_eq, Nat.reduceBEq, ev_0, ev_1, ev_2, ev_3, ev_4, ↓ev_d, startD, isFz, isFzs, szOk, wipeD, putBack, fulls, frzs, full, frz, Row.fe, h2]))
    refine ⟨(y, x % y), ⟨?_, ?_⟩, Nat.mod_lt _ (by omega)⟩
    · rw [rst_pos (by omega)]; simp
    · rw [← hg, Nat.gcd_comm y, ← Nat.gcd_rec, Nat.gcd_comm]
def lastOf : Sen → Int
  | .least ws _ => last ws
  | .rest ws _ _ => last ws
  | _ => 0
def partOf : Sen → Int
  | .rest _ m _ => m
  | _ => 1
theorem cp_le {a b : Int} (h : 0 < a) : cp a b ≤ a := Int.le_of_dvd h (cp_dvd_l a b)
theorem s_wheel_of (s : Sen) (n k : Nat) (w : Wf (n + 1) s) (hd : dep s ≤ k + 1) (hl : (atoms s).length ≤ 100000) (hm : ∀ a ∈ atoms s, partOf a < 4611686018427387904) (hw : wheel s < 4611686018427387904) :
    Wp (callN tab kn (k + 2) "wheel_of" [dS s]) (fun r => r = (.int (wheel s), [dS s])) := by
  rw [call_code t_wheel_of]
  refine run_wp rfl ?_
  show Wp (evSs _ b_wheel_of (startD 6 [dS s])) _
  unfold b_wheel_of
  have h1 := s_atoms_of s (k + 1) hd hl
  have wa := wf_atoms s w
  (rw [wp_cons]; refine wp_gen fun Q hQ => ?_; simp only [ev_e, List.reduceReplicate, Nat.reduceAdd, Nat.reduceLT, Nat.reduceLeDiff, Nat.reduceSub, Int.reduceNeg, ↓reduceIte, Int.reduceLT, Int.reduceLE, Int.reduceAdd, Int.reduceSub, Int.reduceBEq, reduceCtorEq, ne_eq, Nat.reduceBEq, ev_0, ev_1, ev_2, ev_3, ev_4, ↓ev_d, startD, isFz, isFzs, szOk, wipeD, putBack, fulls, frzs, full, frz, Row.fe, szOk]; (try subst hQ); (try simp only [ev_e, List.reduceReplicate, Nat.reduceAdd, Nat.reduceLT, Nat.reduceLeDiff, Nat.reduceSub, Int.reduceNeg, ↓reduceIte, Int.reduceLT, Int.reduceLE, Int.reduceAdd, Int.reduceSub, Int.reduceBEq, reduceCtorEq, ne_eq, Nat.reduceBEq, ev_0, ev_1, ev_2, ev_3, ev_4, ↓ev_d, startD, isFz, isFzs, szOk, wipeD, putBack, fulls, frzs, full, frz, Row.fe, szOk]))
  rw [wp_cons]
  refine wp_forF (atoms s) dS wheelA (fun f ρ => ∃ z2 z3 z4 z5, ρ = [dS s, .int f, z2, z3, z4, z5]) 1 [dS s, .int 1, .undef, .undef, .undef, .undef] ?_ ⟨_, _, _, _, rfl⟩ ?_ ?_
  · ((first | refine wp_gen fun Q hQ => ?_ | skip); simp only [ev_e, List.reduceReplicate, Nat.reduceAdd, Nat.reduceLT, Nat.reduceLeDiff, Nat.reduceSub, Int.reduceNeg, ↓reduceIte, Int.reduceLT, Int.reduceLE, Int.reduceAdd, Int.reduceSub, Int.reduceBEq, reduceCtorEq, ne_eq, Nat.reduceBEq, ev_0, ev_1, ev_2, ev_3, ev_4, ↓ev_d, startD, isFz, isFzs, szOk, wipeD, putBack, fulls, frzs, full, frz, Row.fe, nud_dS, isU_dS, fz_dS, h1, fulls_dSs, frzs_dSs]; (try subst hQ); (try simp only [ev_e, List.reduceReplicate, Nat.reduceAdd, Nat.reduceLT, Nat.reduceLeDiff, Nat.reduceSub, Int.reduceNeg, ↓reduceIte, Int.reduceLT, Int.reduceLE, Int.reduceAdd, Int.reduceSub, Int.reduceBEq, reduceCtorEq, ne_eq, Nat.reduceBEq, ev_0, ev_1, ev_2, ev_3, ev_4, ↓ev_d, startD, isFz, isFzs, szOk, wipeD, putBack, fulls, frzs, full, frz, Row.fe, nud_dS, isU_dS, fz_dS, h1, fulls_dSs, frzs_dSs]))
  · rintro i a ha ρ ⟨z2, z3, z4, z5, rfl⟩
    refine ⟨_, by ((first | refine wp_gen fun Q hQ => ?_ | skip); simp only [ev_e, List.reduceReplicate, Nat.reduceAdd, Nat.reduceLT, Nat.reduceLeDiff, Nat.reduceSub, Int.reduceNeg, ↓reduceIte, Int.reduceLT, Int.reduceLE, Int.reduceAdd, Int.reduceSub, Int.reduceBEq, reduceCtorEq, ne_eq, Nat.reduceBEq, ev_0, ev_1, ev_2, ev_3, ev_4, ↓ev_d, startD, isFz, isFzs, szOk, wipeD, putBack, fulls, frzs, full, frz, Row.fe, szOk]; (try subst hQ); (try simp only [ev_e, List.reduceReplicate, Nat.reduceAdd, Nat.reduceLT, Nat.reduceLeDiff, Nat.reduceSub, Int.reduceNeg, ↓reduceIte, Int.reduceLT, Int.reduceLE, Int.reduceAdd, Int.reduceSub, Int.reduceBEq, reduceCtorEq, ne_eq, Nat.reduceBEq, ev_0, ev_1, ev_2, ev_3, ev_4, ↓ev_d, startD, isFz, isFzs, szOk, wipeD, putBack, fulls, frzs, full, frz, Row.fe, szOk])); rfl, ?_⟩
    have hma := List.mem_of_getElem? ha
    have wA := wa a hma
    have hp : ∀ l : List Sen, (∀ a ∈ l, AtomWf (n + 1) a) → 0 < l.foldl wheelA 1 := fun l hl => (wheel_fold l 1 (by decide) hl).1
    have hdv : wheelA ((atoms s).take i |>.foldl wheelA 1) a ∣ wheel s := by
      unfold wheel
      have e : atoms s = (atoms s).take i ++ a :: (atoms s).drop (i + 1) := by
        obtain ⟨h1, h2⟩ := List.getElem?_eq_some_iff.mp ha
        rw [← h2, ← List.drop_eq_getElem_cons h1, List.take_append_drop]
      conv => rhs; rw [e]
      rw [List.foldl_append, List.foldl_cons]
      refine (wheel_fold _ _ ?_ fun x hx => wa x (List.mem_of_mem_drop hx)).2.1
      exact (wheel_step (hp _ fun x hx => wa x (List.mem_of_mem_take hx)) wA).1
    have hf0 := hp _ fun x hx => wa x (List.mem_of_mem_take (i := i) hx)
    generalize hf : ((atoms s).take i).foldl wheelA 1 = f at hdv hf0 ⊢
    have hle := Int.le_of_dvd (wheel_ok w).1 hdv
    have hst := wheel_step hf0 wA
    have hfl := Int.le_of_dvd hst.1 hst.2.1
    cases a with
    | least ws c =>
      repeat (rw [wp_cons]; refine wp_gen fun Q hQ => ?_; simp only [ev_e, List.reduceReplicate, Nat.reduceAdd, Nat.reduceLT, Nat.reduceLeDiff, Nat.reduceSub, Int.reduceNeg, ↓reduceIte, Int.reduceLT, Int.reduceLE, Int.reduceAdd, Int.reduceSub, Int.reduceBEq, reduceCtorEq, ne_eq, Nat.reduceBEq, ev_0, ev_1, ev_2, ev_3, ev_4, ↓ev_d, startD, isFz, isFzs, szOk, wipeD, putBack, fulls, frzs, full, frz, Row.fe, dS, ev_q]; (try subst hQ); (try simp only [ev_e, List.reduceReplicate, Nat.reduceAdd, Nat.reduceLT, Nat.reduceLeDiff, Nat.reduceSub, Int.reduceNeg, ↓reduceIte, Int.reduceLT, Int.reduceLE, Int.reduceAdd, Int.reduceSub, Int.reduceBEq, reduceCtorEq, ne_eq, Nat.reduceBEq, ev_0, ev_1, ev_2, ev_3, ev_4, ↓ev_d, startD, isFz, isFzs, szOk, wipeD, putBack, fulls, frzs, full, frz, Row.fe, dS, ev_q]))
      exact ⟨_, _, _, _, rfl⟩
    | rest ws m r =>
      have hm0 : 0 < m := wA.2.1
      have hm1 : m < 4611686018427387904 := hm _ hma
      have hg0 := cp_pos (b := last ws) hm0
      have hg1 := cp_le (b := last ws) hm0
      have ho := Sn.div_pos hm0 hg0 (cp_dvd_l ..)
      have hg2 := cp_pos (b := m / cp m (last ws)) hf0
      have hg3 := cp_le (b := m / cp m (last ws)) hf0
      have d1 := dv_c hg0 (by omega)
      have d2 := dv_c hg2 (by omega)
      have m1 := sm_l (i := f) (j := m / cp m (last ws)) ⟨by omega, by omega⟩
      have hst2 := star_last wA.1
      (rw [wp_cons]; refine wp_gen fun Q hQ => ?_; simp only [ev_e, List.reduceReplicate, Nat.reduceAdd, Nat.reduceLT, Nat.reduceLeDiff, Nat.reduceSub, Int.reduceNeg, ↓reduceIte, Int.reduceLT, Int.reduceLE, Int.reduceAdd, Int.reduceSub, Int.reduceBEq, reduceCtorEq, ne_eq, Nat.reduceBEq, ev_0, ev_1, ev_2, ev_3, ev_4, ↓ev_d, startD, isFz, isFzs, szOk, wipeD, putBack, fulls, frzs, full, frz, Row.fe, dS, ev_q]; (try subst hQ); (try simp only [ev_e, List.reduceReplicate, Nat.reduceAdd, Nat.reduceLT, Nat.reduceLeDiff, Nat.reduceSub, Int.reduceNeg, ↓reduceIte, Int.reduceLT, Int.reduceLE, Int.reduceAdd, Int.reduceSub, Int.reduceBEq, reduceCtorEq, ne_eq, Nat.reduceBEq, ev_0, ev_1, ev_2, ev_3, ev_4, ↓ev_d, startD, isFz, isFzs, szOk, wipeD, putBack, fulls, frzs, full, frz, Row.fe, dS, ev_q]))
      rw [wp_cons]
      ((first | refine wp_gen fun Q hQ => ?_ | skip); simp only [ev_e, List.reduceReplicate, Nat.reduceAdd, Nat.reduceLT, Nat.reduceLeDiff, Nat.reduceSub, Int.reduceNeg, ↓reduceIte, Int.reduceLT, Int.reduceLE, Int.reduceAdd, Int.reduceSub, Int.reduceBEq, reduceCtorEq, ne_eq, Nat.reduceBEq, ev_0, ev_1, ev_2, ev_3, ev_4, ↓ev_d, startD, isFz, isFzs, szOk, wipeD, putBack, fulls, frzs, full, frz, Row.fe, hst2, dS, isFzs_ints]; (try subst hQ); (try simp only [ev_e, List.reduceReplicate, Nat.reduceAdd, Nat.reduceLT, Nat.reduceLeDiff, Nat.reduceSub, Int.reduceNeg, ↓reduceIte, Int.reduceLT, Int.reduceLE, Int.reduceAdd, Int.reduceSub, Int.reduceBEq, reduceCtorEq, ne_eq, Nat.reduceBEq, ev_0, ev_1, ev_2, ev_3, ev_4, ↓ev_d, startD, isFz, isFzs, szOk, wipeD, putBack, fulls, frzs, full, frz, Row.fe, hst2, dS, isFzs_ints]))
      rw [wp_cons]
      ((first | refine wp_gen fun Q hQ => ?_ | skip); simp only [ev_e, List.reduceReplicate, Nat.reduceAdd, Nat.reduceLT, Nat.reduceLeDiff, Nat.reduceSub, Int.reduceNeg, ↓reduceIte, Int.reduceLT, Int.reduceLE, Int.reduceAdd, Int.reduceSub, Int.reduceBEq, reduceCtorEq, ne_eq, Nat.reduceBEq, ev_0, ev_1, ev_2, ev_3, ev_4, ↓ev_d, startD, isFz, isFzs, szOk, wipeD, putBack, fulls, frzs, full, frz, Row.fe, dS]; (try subst hQ); (try simp only [ev_e, List.reduceReplicate, Nat.reduceAdd, Nat.reduceLT, Nat.reduceLeDiff, Nat.reduceSub, Int.reduceNeg, ↓reduceIte, Int.reduceLT, Int.reduceLE, Int.reduceAdd, Int.reduceSub, Int.reduceBEq, reduceCtorEq, ne_eq, Nat.reduceBEq, ev_0, ev_1, ev_2, ev_3, ev_4, ↓ev_d, startD, isFz, isFzs, szOk, wipeD, putBack, fulls, frzs, full, frz, Row.fe, dS]))
      refine (s_common_part k m (last ws)).mono ?_
      rintro _ rfl
      ((first | refine wp_gen fun Q hQ => ?_ | skip); simp only [ev_e, List.reduceReplicate, Nat.reduceAdd, Nat.reduceLT, Nat.reduceLeDiff, Nat.reduceSub, Int.reduceNeg, ↓reduceIte, Int.reduceLT, Int.reduceLE, Int.reduceAdd, Int.reduceSub, Int.reduceBEq, reduceCtorEq, ne_eq, Nat.reduceBEq, ev_0, ev_1, ev_2, ev_3, ev_4, ↓ev_d, startD, isFz, isFzs, szOk, wipeD, putBack, fulls, frzs, full, frz, Row.fe, d1, flr_pos hg0]; (try subst hQ); (try simp only [ev_e, List.reduceReplicate, Nat.reduceAdd, Nat.reduceLT, Nat.reduceLeDiff, Nat.reduceSub, Int.reduceNeg, ↓reduceIte, Int.reduceLT, Int.reduceLE, Int.reduceAdd, Int.reduceSub, Int.reduceBEq, reduceCtorEq, ne_eq, Nat.reduceBEq, ev_0, ev_1, ev_2, ev_3, ev_4, ↓ev_d, startD, isFz, isFzs, szOk, wipeD, putBack, fulls, frzs, full, frz, Row.fe, d1, flr_pos hg0]))
      rw [wp_cons]
      ((first | refine wp_gen fun Q hQ => ?_ | skip); simp only [ev_e, List.reduceReplicate, Nat.reduceAdd, Nat.reduceLT, Nat.reduceLeDiff, Nat.reduceSub, Int.reduceNeg, ↓reduceIte, Int.reduceLT, Int.reduceLE, Int.reduceAdd, Int.reduceSub, Int.reduceBEq, reduceCtorEq, ne_eq, Nat.reduceBEq, ev_0, ev_1, ev_2, ev_3, ev_4, ↓ev_d, startD, isFz, isFzs, szOk, wipeD, putBack, fulls, frzs, full, frz, Row.fe, m1]; (try subst hQ); (try simp only [ev_e, List.reduceReplicate, Nat.reduceAdd, Nat.reduceLT, Nat.reduceLeDiff, Nat.reduceSub, Int.reduceNeg, ↓reduceIte, Int.reduceLT, Int.reduceLE, Int.reduceAdd, Int.reduceSub, Int.reduceBEq, reduceCtorEq, ne_eq, Nat.reduceBEq, ev_0, ev_1, ev_2, ev_3, ev_4, ↓ev_d, startD, isFz, isFzs, szOk, wipeD, putBack, fulls, frzs, full, frz, Row.fe, m1]))
      refine (s_common_part k f (m / cp m (last ws))).mono ?_
      rintro _ rfl
      ((first | refine wp_gen fun Q hQ => ?_ | skip); simp only [ev_e, List.reduceReplicate, Nat.reduceAdd, Nat.reduceLT, Nat.reduceLeDiff, Nat.reduceSub, Int.reduceNeg, ↓reduceIte, Int.reduceLT, Int.reduceLE, Int.reduceAdd, Int.reduceSub, Int.reduceBEq, reduceCtorEq, ne_eq, Nat.reduceBEq, ev_0, ev_1, ev_2, ev_3, ev_4, ↓ev_d, startD, isFz, isFzs, szOk, wipeD, putBack, fulls, frzs, full, frz, Row.fe, d2, flr_pos hg2, wheelA]; (try subst hQ); (try simp only [ev_e, List.reduceReplicate, Nat.reduceAdd, Nat.reduceLT, Nat.reduceLeDiff, Nat.reduceSub, Int.reduceNeg, ↓reduceIte, Int.reduceLT, Int.reduceLE, Int.reduceAdd, Int.reduceSub, Int.reduceBEq, reduceCtorEq, ne_eq, Nat.reduceBEq, ev_0, ev_1, ev_2, ev_3, ev_4, ↓ev_d, startD, isFz, isFzs, szOk, wipeD, putBack, fulls, frzs, full, frz, Row.fe, d2, flr_pos hg2, wheelA]))
      exact ⟨_, _, _, _, rfl⟩
    | neg _ => exact wA.elim
    | and _ _ => exact wA.elim
    | or _ _ => exact wA.elim
  · rintro ρ ⟨z2, z3, z4, z5, rfl⟩
    rw [nx_nx]
    repeat (rw [wp_cons]; refine wp_gen fun Q hQ => ?_; simp only [ev_e, List.reduceReplicate, Nat.reduceAdd, Nat.reduceLT, Nat.reduceLeDiff, Nat.reduceSub, Int.reduceNeg, ↓reduceIte, Int.reduceLT, Int.reduceLE, Int.reduceAdd, Int.reduceSub, Int.reduceBEq, reduceCtorEq, ne_eq, Nat.reduceBEq, ev_0, ev_1, ev_2, ev_3, ev_4, ↓ev_d, startD, isFz, isFzs, szOk, wipeD, putBack, fulls, frzs, full, frz, Row.fe, nud_dS, r_wheel_of, wheel]; (try subst hQ); (try simp only [ev_e, List.reduceReplicate, Nat.reduceAdd, Nat.reduceLT, Nat.reduceLeDiff, Nat.reduceSub, Int.reduceNeg, ↓reduceIte, Int.reduceLT, Int.reduceLE, Int.reduceAdd, Int.reduceSub, Int.reduceBEq, reduceCtorEq, ne_eq, Nat.reduceBEq, ev_0, ev_1, ev_2, ev_3, ev_4, ↓ev_d, startD, isFz, isFzs, szOk, wipeD, putBack, fulls, frzs, full, frz, Row.fe, nud_dS, r_wheel_of, wheel]))
theorem s_breaking (s : Sen) (n k : Nat) (w : Wf (n + 1) s) (hd : dep s ≤ k + 1) (hl : (atoms s).length ≤ 100000) : callN tab kn (k + 2) "breaking" [dS s] = .ok (.lst true ((breaking s).map dS), [dS s]) := by
  rw [call_code t_breaking]
  refine run_eq rfl ?_
  show Wp (evSs _ b_breaking (startD 2 [dS s])) _
  unfold b_breaking
  have h1 := s_atoms_of s (k + 1) hd hl
  have wa := wf_atoms s w
  (rw [wp_cons]; refine wp_gen fun Q hQ => ?_; simp only [ev_e, List.reduceReplicate, Nat.reduceAdd, Nat.reduceLT, Nat.reduceLeDiff, Nat.reduceSub, Int.reduceNeg, ↓reduceIte, Int.reduceLT, Int.reduceLE, Int.reduceAdd, Int.reduceSub, Int.reduceBEq, reduceCtorEq, ne_eq, Nat.reduceBEq, ev_0, ev_1, ev_2, ev_3, ev_4, ↓ev_d, startD, isFz, isFzs, szOk, wipeD, putBack, fulls, frzs, full, frz, Row.fe, szOk]; (try subst hQ); (try simp only [ev_e, List.reduceReplicate, Nat.reduceAdd, Nat.reduceLT, Nat.reduceLeDiff, Nat.reduceSub, Int.reduceNeg, ↓reduceIte, Int.reduceLT, Int.reduceLE, Int.reduceAdd, Int.reduceSub, Int.reduceBEq, reduceCtorEq, ne_eq, Nat.reduceBEq, ev_0, ev_1, ev_2, ev_3, ev_4, ↓ev_d, startD, isFz, isFzs, szOk, wipeD, putBack, fulls, frzs, full, frz, Row.fe, szOk]))
  refine wp_lcF (atoms s) dS dS breaks [dS s, .undef] ?_ ?_ ?_ ?_
  · ((first | refine wp_gen fun Q hQ => ?_ | skip); simp only [ev_e, List.reduceReplicate, Nat.reduceAdd, Nat.reduceLT, Nat.reduceLeDiff, Nat.reduceSub, Int.reduceNeg, ↓reduceIte, Int.reduceLT, Int.reduceLE, Int.reduceAdd, Int.reduceSub, Int.reduceBEq, reduceCtorEq, ne_eq, Nat.reduceBEq, ev_0, ev_1, ev_2, ev_3, ev_4, ↓ev_d, startD, isFz, isFzs, szOk, wipeD, putBack, fulls, frzs, full, frz, Row.fe, nud_dS, isU_dS, fz_dS, h1, fulls_dSs, frzs_dSs]; (try subst hQ); (try simp only [ev_e, List.reduceReplicate, Nat.reduceAdd, Nat.reduceLT, Nat.reduceLeDiff, Nat.reduceSub, Int.reduceNeg, ↓reduceIte, Int.reduceLT, Int.reduceLE, Int.reduceAdd, Int.reduceSub, Int.reduceBEq, reduceCtorEq, ne_eq, Nat.reduceBEq, ev_0, ev_1, ev_2, ev_3, ev_4, ↓ev_d, startD, isFz, isFzs, szOk, wipeD, putBack, fulls, frzs, full, frz, Row.fe, nud_dS, isU_dS, fz_dS, h1, fulls_dSs, frzs_dSs]))
  · rw [sizeLine_eq]; omega
  · intro a ha
    have wA := wa a ha
    refine ⟨_, by ((first | refine wp_gen fun Q hQ => ?_ | skip); simp only [ev_e, List.reduceReplicate, Nat.reduceAdd, Nat.reduceLT, Nat.reduceLeDiff, Nat.reduceSub, Int.reduceNeg, ↓reduceIte, Int.reduceLT, Int.reduceLE, Int.reduceAdd, Int.reduceSub, Int.reduceBEq, reduceCtorEq, ne_eq, Nat.reduceBEq, ev_0, ev_1, ev_2, ev_3, ev_4, ↓ev_d, startD, isFz, isFzs, szOk, wipeD, putBack, fulls, frzs, full, frz, Row.fe, szOk]; (try subst hQ); (try simp only [ev_e, List.reduceReplicate, Nat.reduceAdd, Nat.reduceLT, Nat.reduceLeDiff, Nat.reduceSub, Int.reduceNeg, ↓reduceIte, Int.reduceLT, Int.reduceLE, Int.reduceAdd, Int.reduceSub, Int.reduceBEq, reduceCtorEq, ne_eq, Nat.reduceBEq, ev_0, ev_1, ev_2, ev_3, ev_4, ↓ev_d, startD, isFz, isFzs, szOk, wipeD, putBack, fulls, frzs, full, frz, Row.fe, szOk])); rfl, ?_⟩
    cases a with
    | least ws c =>
      have hix := idx_last wA
      by_cases h0 : last ws = 0
      · ((first | refine wp_gen fun Q hQ => ?_ | skip); simp only [ev_e, List.reduceReplicate, Nat.reduceAdd, Nat.reduceLT, Nat.reduceLeDiff, Nat.reduceSub, Int.reduceNeg, ↓reduceIte, Int.reduceLT, Int.reduceLE, Int.reduceAdd, Int.reduceSub, Int.reduceBEq, reduceCtorEq, ne_eq, Nat.reduceBEq, ev_0, ev_1, ev_2, ev_3, ev_4, ↓ev_d, startD, isFz, isFzs, szOk, wipeD, putBack, fulls, frzs, full, frz, Row.fe, dS, ev_q, hix, breaks, h0, bne_self_eq_false, beq_self_eq_true, isFzs_ints, Option.bind_some]; (try subst hQ); (try simp only [ev_e, List.reduceReplicate, Nat.reduceAdd, Nat.reduceLT, Nat.reduceLeDiff, Nat.reduceSub, Int.reduceNeg, ↓reduceIte, Int.reduceLT, Int.reduceLE, Int.reduceAdd, Int.reduceSub, Int.reduceBEq, reduceCtorEq, ne_eq, Nat.reduceBEq, ev_0, ev_1, ev_2, ev_3, ev_4, ↓ev_d, startD, isFz, isFzs, szOk, wipeD, putBack, fulls, frzs, full, frz, Row.fe, dS, ev_q, hix, breaks, h0, bne_self_eq_false, beq_self_eq_true, isFzs_ints, Option.bind_some]))
        simp
      · have h2 : (last ws == 0) = false := by simpa using h0
        have h3 : (last ws != 0) = true := by simpa using h0
        ((first | refine wp_gen fun Q hQ => ?_ | skip); simp only [ev_e, List.reduceReplicate, Nat.reduceAdd, Nat.reduceLT, Nat.reduceLeDiff, Nat.reduceSub, Int.reduceNeg, ↓reduceIte, Int.reduceLT, Int.reduceLE, Int.reduceAdd, Int.reduceSub, Int.reduceBEq, reduceCtorEq, ne_eq, Nat.reduceBEq, ev_0, ev_1, ev_2, ev_3, ev_4, ↓ev_d, startD, isFz, isFzs, szOk, wipeD, putBack, fulls, frzs, full, frz, Row.fe, dS, ev_q, hix, breaks, h2, h3, isFzs_ints]; (try subst hQ); (try simp only [ev_e, List.reduceReplicate, Nat.reduceAdd, Nat.reduceLT, Nat.reduceLeDiff, Nat.reduceSub, Int.reduceNeg, ↓reduceIte, Int.reduceLT, Int.reduceLE, Int.reduceAdd, Int.reduceSub, Int.reduceBEq, reduceCtorEq, ne_eq, Nat.reduceBEq, ev_0, ev_1, ev_2, ev_3, ev_4, ↓ev_d, startD, isFz, isFzs, szOk, wipeD, putBack, fulls, frzs, full, frz, Row.fe, dS, ev_q, hix, breaks, h2, h3, isFzs_ints]))
        simp
    | rest ws m r =>
      ((first | refine wp_gen fun Q hQ => ?_ | skip); simp only [ev_e, List.reduceReplicate, Nat.reduceAdd, Nat.reduceLT, Nat.reduceLeDiff, Nat.reduceSub, Int.reduceNeg, ↓reduceIte, Int.reduceLT, Int.reduceLE, Int.reduceAdd, Int.reduceSub, Int.reduceBEq, reduceCtorEq, ne_eq, Nat.reduceBEq, ev_0, ev_1, ev_2, ev_3, ev_4, ↓ev_d, startD, isFz, isFzs, szOk, wipeD, putBack, fulls, frzs, full, frz, Row.fe, dS, ev_q, breaks]; (try subst hQ); (try simp only [ev_e, List.reduceReplicate, Nat.reduceAdd, Nat.reduceLT, Nat.reduceLeDiff, Nat.reduceSub, Int.reduceNeg, ↓reduceIte, Int.reduceLT, Int.reduceLE, Int.reduceAdd, Int.reduceSub, Int.reduceBEq, reduceCtorEq, ne_eq, Nat.reduceBEq, ev_0, ev_1, ev_2, ev_3, ev_4, ↓ev_d, startD, isFz, isFzs, szOk, wipeD, putBack, fulls, frzs, full, frz, Row.fe, dS, ev_q, breaks]))
      simp
    | neg _ => exact wA.elim
    | and _ _ => exact wA.elim
    | or _ _ => exact wA.elim
  · ((first | refine wp_gen fun Q hQ => ?_ | skip); simp only [ev_e, List.reduceReplicate, Nat.reduceAdd, Nat.reduceLT, Nat.reduceLeDiff, Nat.reduceSub, Int.reduceNeg, ↓reduceIte, Int.reduceLT, Int.reduceLE, Int.reduceAdd, Int.reduceSub, Int.reduceBEq, reduceCtorEq, ne_eq, Nat.reduceBEq, ev_0, ev_1, ev_2, ev_3, ev_4, ↓ev_d, startD, isFz, isFzs, szOk, wipeD, putBack, fulls, frzs, full, frz, Row.fe, r_breaking, breaking, nud_dS]; (try subst hQ); (try simp only [ev_e, List.reduceReplicate, Nat.reduceAdd, Nat.reduceLT, Nat.reduceLeDiff, Nat.reduceSub, Int.reduceNeg, ↓reduceIte, Int.reduceLT, Int.reduceLE, Int.reduceAdd, Int.reduceSub, Int.reduceBEq, reduceCtorEq, ne_eq, Nat.reduceBEq, ev_0, ev_1, ev_2, ev_3, ev_4, ↓ev_d, startD, isFz, isFzs, szOk, wipeD, putBack, fulls, frzs, full, frz, Row.fe, r_breaking, breaking, nud_dS]))
def dPut (o : Bool) (p : Put) : D := .ins o "Put" ["slopes", "start", "parts"] [.tup (p.sl.map .int), .int p.st, .int p.by_]
theorem nud_dPut {o : Bool} {p : Put} : nud (dPut o p) = some (dPut o p) := rfl
theorem isU_dPut {o : Bool} {p : Put} : isU (some (dPut o p)) = false := rfl
theorem fz_dPut {p : Put} : isFz (dPut false p) = true := by simp [dPut, isFz, isFzs, isFzs_ints]
theorem nfz_dPut {p : Put} : isFz (dPut true p) = false := by simp [dPut, isFz]
theorem full_dPut {o : Bool} {p : Put} : full (dPut o p) = true := by simp [dPut, full, fulls, fulls_ints]
theorem frz_dPut {o : Bool} {p : Put} : frz (dPut o p) = dPut false p := by simp [dPut, frz, frzs, frzs_ints]
theorem fld_sl {o : Bool} {p : Put} : fldD kn "slopes" (dPut o p) = some (.tup (p.sl.map .int)) := by
  have e : ∀ x y z : D, fldD kn "slopes" (.ins o "Put" ["slopes", "start", "parts"] [x, y, z]) = fzO (some x) := fun x y z => by kernel_rfl
  unfold dPut
  rw [e, fzO_some_, if_pos (by simp [isFz, isFzs_ints])]
theorem fld_st {o : Bool} {p : Put} : fldD kn "start" (dPut o p) = some (.int p.st) := by
  have e : ∀ x y z : D, fldD kn "start" (.ins o "Put" ["slopes", "start", "parts"] [x, y, z]) = fzO (some y) := fun x y z => by kernel_rfl
  unfold dPut
  rw [e, fzO_some_]; rfl
theorem fld_by {o : Bool} {p : Put} : fldD kn "parts" (dPut o p) = some (.int p.by_) := by
  have e : ∀ x y z : D, fldD kn "parts" (.ins o "Put" ["slopes", "start", "parts"] [x, y, z]) = fzO (some z) := fun x y z => by kernel_rfl
  unfold dPut
  rw [e, fzO_some_]; rfl
theorem cl_in {o : Bool} {p : Put} : clsD "into" (dPut o p) = some ("Put" : Str) := by kernel_rfl
theorem cl_wi {o : Bool} {p : Put} : clsD "weights_in" (dPut o p) = some ("Put" : Str) := by kernel_rfl
theorem cl_nu {o : Bool} {p : Put} : clsD "is_number" (dPut o p) = some ("Put" : Str) := by kernel_rfl
theorem ml_in : (("Put" : Str), ("into" : Str)) ∈ mlL := by decide +kernel
theorem ml_wi : (("Put" : Str), ("weights_in" : Str)) ∈ mlL := by decide +kernel
theorem ml_nu : (("Put" : Str), ("is_number" : Str)) ∈ mlL := by decide +kernel
theorem sf1 {x : D} : setFD kn "slopes" x (.ins true "Put" [] []) = some (.ins true "Put" ["slopes"] [x]) := by kernel_rfl
theorem sf2 {x y : D} : setFD kn "start" y (.ins true "Put" ["slopes"] [x]) = some (.ins true "Put" ["slopes", "start"] [x, y]) := by kernel_rfl
theorem sf3 {x y z : D} : setFD kn "parts" z (.ins true "Put" ["slopes", "start"] [x, y]) = some (.ins true "Put" ["slopes", "start", "parts"] [x, y, z]) := by kernel_rfl
theorem s_init (k : Nat) (p : Put) : callN tab kn (k + 2) (mkey "Put" "__init__") [.ins true "Put" [] [], .tup (p.sl.map .int), .int p.st, .int p.by_] = .ok (.non, [dPut true p, .tup (p.sl.map .int), .int p.st, .int p.by_]) := by
  rw [call_ini t_init]
  refine run_eq rfl ?_
  show Wp (evSs _ b_Put____init__ (startD 4 [.ins true "Put" [] [], .tup (p.sl.map .int), .int p.st, .int p.by_])) _
  unfold b_Put____init__
  repeat (rw [wp_cons]; refine wp_gen fun Q hQ => ?_; simp only [ev_e, List.reduceReplicate, Nat.reduceAdd, Nat.reduceLT, Nat.reduceLeDiff, Nat.reduceSub, Int.reduceNeg, ↓reduceIte, Int.reduceLT, Int.reduceLE, Int.reduceAdd, Int.reduceSub, Int.reduceBEq, reduceCtorEq, ne_eq, Nat.reduceBEq, ev_0, ev_1, ev_2, ev_3, ev_4, ↓ev_d, startD, isFz, isFzs, szOk, wipeD, putBack, fulls, frzs, full, frz, Row.fe, sf1, sf2, sf3, r_Put____init__, dPut]; (try subst hQ); (try simp only [ev_e, List.reduceReplicate, Nat.reduceAdd, Nat.reduceLT, Nat.reduceLeDiff, Nat.reduceSub, Int.reduceNeg, ↓reduceIte, Int.reduceLT, Int.reduceLE, Int.reduceAdd, Int.reduceSub, Int.reduceBEq, reduceCtorEq, ne_eq, Nat.reduceBEq, ev_0, ev_1, ev_2, ev_3, ev_4, ↓ev_d, startD, isFz, isFzs, szOk, wipeD, putBack, fulls, frzs, full, frz, Row.fe, sf1, sf2, sf3, r_Put____init__, dPut]))
theorem s_weights_in (k : Nat) (o : Bool) (p : Put) (ws : List Int) (n : Nat) (hw : ws.length = n + 1) (hp : p.sl.length = n) (hn : n ≤ 1000) (h1 : Sm p.by_) (h2 : Sm (last ws)) :
    callN tab kn (k + 1) (mkey "Put" "weights_in") [dPut o p, .tup (ws.map .int)] = .ok (.tup ((wIn p ws).map .int), [dPut o p, .tup (ws.map .int)]) := by
  rw [call_code t_weights_in]
  refine run_eq rfl ?_
  show Wp (evSs _ b_Put__weights_in (startD 6 [dPut o p, .tup (ws.map .int)])) _
  unfold b_Put__weights_in
  have hs := star_last hw
  have hf := (split_last hw).2
  have hle : (fore ws).length = p.sl.length := by omega
  (rw [wp_cons]; refine wp_gen fun Q hQ => ?_; simp only [ev_e, List.reduceReplicate, Nat.reduceAdd, Nat.reduceLT, Nat.reduceLeDiff, Nat.reduceSub, Int.reduceNeg, ↓reduceIte, Int.reduceLT, Int.reduceLE, Int.reduceAdd, Int.reduceSub, Int.reduceBEq, reduceCtorEq, ne_eq, Nat.reduceBEq, ev_0, ev_1, ev_2, ev_3, ev_4, ↓ev_d, startD, isFz, isFzs, szOk, wipeD, putBack, fulls, frzs, full, frz, Row.fe, hs]; (try subst hQ); (try simp only [ev_e, List.reduceReplicate, Nat.reduceAdd, Nat.reduceLT, Nat.reduceLeDiff, Nat.reduceSub, Int.reduceNeg, ↓reduceIte, Int.reduceLT, Int.reduceLE, Int.reduceAdd, Int.reduceSub, Int.reduceBEq, reduceCtorEq, ne_eq, Nat.reduceBEq, ev_0, ev_1, ev_2, ev_3, ev_4, ↓ev_d, startD, isFz, isFzs, szOk, wipeD, putBack, fulls, frzs, full, frz, Row.fe, hs]))
  (rw [wp_cons]; refine wp_gen fun Q hQ => ?_; simp only [ev_e, List.reduceReplicate, Nat.reduceAdd, Nat.reduceLT, Nat.reduceLeDiff, Nat.reduceSub, Int.reduceNeg, ↓reduceIte, Int.reduceLT, Int.reduceLE, Int.reduceAdd, Int.reduceSub, Int.reduceBEq, reduceCtorEq, ne_eq, Nat.reduceBEq, ev_0, ev_1, ev_2, ev_3, ev_4, ↓ev_d, startD, isFz, isFzs, szOk, wipeD, putBack, fulls, frzs, full, frz, Row.fe, szOk]; (try subst hQ); (try simp only [ev_e, List.reduceReplicate, Nat.reduceAdd, Nat.reduceLT, Nat.reduceLeDiff, Nat.reduceSub, Int.reduceNeg, ↓reduceIte, Int.reduceLT, Int.reduceLE, Int.reduceAdd, Int.reduceSub, Int.reduceBEq, reduceCtorEq, ne_eq, Nat.reduceBEq, ev_0, ev_1, ev_2, ev_3, ev_4, ↓ev_d, startD, isFz, isFzs, szOk, wipeD, putBack, fulls, frzs, full, frz, Row.fe, szOk]))
  refine wp_lcM ((fore ws).zip p.sl) (fun q => .tup [.int q.1, .int q.2]) (fun q => .int (p.by_ * q.1 + last ws * q.2)) [dPut o p, .tup (ws.map .int), .lst false ((fore ws).map .int), .int (last ws), .undef, .undef] ?_ ?_ ?_ ?_
  · ((first | refine wp_gen fun Q hQ => ?_ | skip); simp only [ev_e, List.reduceReplicate, Nat.reduceAdd, Nat.reduceLT, Nat.reduceLeDiff, Nat.reduceSub, Int.reduceNeg, ↓reduceIte, Int.reduceLT, Int.reduceLE, Int.reduceAdd, Int.reduceSub, Int.reduceBEq, reduceCtorEq, ne_eq, Nat.reduceBEq, ev_0, ev_1, ev_2, ev_3, ev_4, ↓ev_d, startD, isFz, isFzs, szOk, wipeD, putBack, fulls, frzs, full, frz, Row.fe, itZps, itZipA, zps_ints hle, fld_sl, nud_dPut, isU_dPut, hle]; (try subst hQ); (try simp only [ev_e, List.reduceReplicate, Nat.reduceAdd, Nat.reduceLT, Nat.reduceLeDiff, Nat.reduceSub, Int.reduceNeg, ↓reduceIte, Int.reduceLT, Int.reduceLE, Int.reduceAdd, Int.reduceSub, Int.reduceBEq, reduceCtorEq, ne_eq, Nat.reduceBEq, ev_0, ev_1, ev_2, ev_3, ev_4, ↓ev_d, startD, isFz, isFzs, szOk, wipeD, putBack, fulls, frzs, full, frz, Row.fe, itZps, itZipA, zps_ints hle, fld_sl, nud_dPut, isU_dPut, hle]))
  · simp [sizeLine_eq]; omega
  · rintro ⟨a, b⟩ hq
    refine ⟨_, by ((first | refine wp_gen fun Q hQ => ?_ | skip); simp only [ev_e, List.reduceReplicate, Nat.reduceAdd, Nat.reduceLT, Nat.reduceLeDiff, Nat.reduceSub, Int.reduceNeg, ↓reduceIte, Int.reduceLT, Int.reduceLE, Int.reduceAdd, Int.reduceSub, Int.reduceBEq, reduceCtorEq, ne_eq, Nat.reduceBEq, ev_0, ev_1, ev_2, ev_3, ev_4, ↓ev_d, startD, isFz, isFzs, szOk, wipeD, putBack, fulls, frzs, full, frz, Row.fe, szOk]; (try subst hQ); (try simp only [ev_e, List.reduceReplicate, Nat.reduceAdd, Nat.reduceLT, Nat.reduceLeDiff, Nat.reduceSub, Int.reduceNeg, ↓reduceIte, Int.reduceLT, Int.reduceLE, Int.reduceAdd, Int.reduceSub, Int.reduceBEq, reduceCtorEq, ne_eq, Nat.reduceBEq, ev_0, ev_1, ev_2, ev_3, ev_4, ↓ev_d, startD, isFz, isFzs, szOk, wipeD, putBack, fulls, frzs, full, frz, Row.fe, szOk])); rfl, ?_⟩
    have m1 := sm_l (j := a) h1
    have m2 := sm_l (j := b) h2
    ((first | refine wp_gen fun Q hQ => ?_ | skip); simp only [ev_e, List.reduceReplicate, Nat.reduceAdd, Nat.reduceLT, Nat.reduceLeDiff, Nat.reduceSub, Int.reduceNeg, ↓reduceIte, Int.reduceLT, Int.reduceLE, Int.reduceAdd, Int.reduceSub, Int.reduceBEq, reduceCtorEq, ne_eq, Nat.reduceBEq, ev_0, ev_1, ev_2, ev_3, ev_4, ↓ev_d, startD, isFz, isFzs, szOk, wipeD, putBack, fulls, frzs, full, frz, Row.fe, fld_by, nud_dPut, isU_dPut, m1, m2]; (try subst hQ); (try simp only [ev_e, List.reduceReplicate, Nat.reduceAdd, Nat.reduceLT, Nat.reduceLeDiff, Nat.reduceSub, Int.reduceNeg, ↓reduceIte, Int.reduceLT, Int.reduceLE, Int.reduceAdd, Int.reduceSub, Int.reduceBEq, reduceCtorEq, ne_eq, Nat.reduceBEq, ev_0, ev_1, ev_2, ev_3, ev_4, ↓ev_d, startD, isFz, isFzs, szOk, wipeD, putBack, fulls, frzs, full, frz, Row.fe, fld_by, nud_dPut, isU_dPut, m1, m2]))
  · have e : (((fore ws).zip p.sl).map fun q => D.int (p.by_ * q.1 + last ws * q.2)) = (wIn p ws).map .int := by
      unfold wIn
      rw [show List.zipWith (fun one other => p.by_ * one + last ws * other) (fore ws) p.sl = ((fore ws).zip p.sl).map (fun q => p.by_ * q.1 + last ws * q.2) from (by rw [List.map_zip_eq_zipWith]; rfl), List.map_map]; rfl
    rw [e]
    ((first | refine wp_gen fun Q hQ => ?_ | skip); simp only [ev_e, List.reduceReplicate, Nat.reduceAdd, Nat.reduceLT, Nat.reduceLeDiff, Nat.reduceSub, Int.reduceNeg, ↓reduceIte, Int.reduceLT, Int.reduceLE, Int.reduceAdd, Int.reduceSub, Int.reduceBEq, reduceCtorEq, ne_eq, Nat.reduceBEq, ev_0, ev_1, ev_2, ev_3, ev_4, ↓ev_d, startD, isFz, isFzs, szOk, wipeD, putBack, fulls, frzs, full, frz, Row.fe, r_Put__weights_in, isFzs_ints]; (try subst hQ); (try simp only [ev_e, List.reduceReplicate, Nat.reduceAdd, Nat.reduceLT, Nat.reduceLeDiff, Nat.reduceSub, Int.reduceNeg, ↓reduceIte, Int.reduceLT, Int.reduceLE, Int.reduceAdd, Int.reduceSub, Int.reduceBEq, reduceCtorEq, ne_eq, Nat.reduceBEq, ev_0, ev_1, ev_2, ev_3, ev_4, ↓ev_d, startD, isFz, isFzs, szOk, wipeD, putBack, fulls, frzs, full, frz, Row.fe, r_Put__weights_in, isFzs_ints]))
/-- numbers and weights by which a number may be put in -/
def Fit (n : Nat) : Sen → Prop
  | .least ws k => ws.length = n + 1 ∧ Sm (last ws)
  | .rest ws m r => ws.length = n + 1 ∧ Sm (last ws) ∧ 0 < m
  | .neg s => Fit n s
  | .and a b => Fit n a ∧ Fit n b
  | .or a b => Fit n a ∧ Fit n b
theorem len_pos {α : Type} {xs : List α} {n : Nat} (h : xs.length = n + 1) : xs ≠ [] := by intro e; subst e; cases h
theorem s_into (o : Bool) (p : Put) (n : Nat) (hp : p.sl.length = n) (hn : n ≤ 1000) (hb : Sm p.by_) (hb0 : 0 < p.by_) : ∀ (s : Sen) (k : Nat), Fit n s → dep s < k → callN tab kn k (mkey "Put" "into") [dPut o p, dS s] = .ok (dS (into p s), [dPut o p, dS s])
  | .least ws c, k + 2, w, _ => by
    rw [call_code t_into]
    refine run_eq rfl ?_
    show Wp (evSs _ b_Put__into (startD 10 [dPut o p, .tup [.str "least", .tup (ws.map .int), .int c]])) _
    unfold b_Put__into
    have h1 := s_weights_in k o p ws n w.1 hp hn hb w.2
    have hix := idx_last w.1
    have m1 := sm_l (j := c) hb
    have m2 := sm_l (j := p.st) w.2
    repeat (rw [wp_cons]; refine wp_gen fun Q hQ => ?_; simp only [ev_e, List.reduceReplicate, Nat.reduceAdd, Nat.reduceLT, Nat.reduceLeDiff, Nat.reduceSub, Int.reduceNeg, ↓reduceIte, Int.reduceLT, Int.reduceLE, Int.reduceAdd, Int.reduceSub, Int.reduceBEq, reduceCtorEq, ne_eq, Nat.reduceBEq, ev_0, ev_1, ev_2, ev_3, ev_4, ↓ev_d, startD, isFz, isFzs, szOk, wipeD, putBack, fulls, frzs, full, frz, Row.fe, as_star, ev_q, nud_dPut, isU_dPut, h1, hix, fld_by, fld_st, m1, m2, cl_wi, ml_wi, into, dS, r_Put__into]; (try subst hQ); (try simp only [ev_e, List.reduceReplicate, Nat.reduceAdd, Nat.reduceLT, Nat.reduceLeDiff, Nat.reduceSub, Int.reduceNeg, ↓reduceIte, Int.reduceLT, Int.reduceLE, Int.reduceAdd, Int.reduceSub, Int.reduceBEq, reduceCtorEq, ne_eq, Nat.reduceBEq, ev_0, ev_1, ev_2, ev_3, ev_4, ↓ev_d, startD, isFz, isFzs, szOk, wipeD, putBack, fulls, frzs, full, frz, Row.fe, as_star, ev_q, nud_dPut, isU_dPut, h1, hix, fld_by, fld_st, m1, m2, cl_wi, ml_wi, into, dS, r_Put__into]))
    cases o <;> ((first | refine wp_gen fun Q hQ => ?_ | skip); simp only [ev_e, List.reduceReplicate, Nat.reduceAdd, Nat.reduceLT, Nat.reduceLeDiff, Nat.reduceSub, Int.reduceNeg, ↓reduceIte, Int.reduceLT, Int.reduceLE, Int.reduceAdd, Int.reduceSub, Int.reduceBEq, reduceCtorEq, ne_eq, Nat.reduceBEq, ev_0, ev_1, ev_2, ev_3, ev_4, ↓ev_d, startD, isFz, isFzs, szOk, wipeD, putBack, fulls, frzs, full, frz, Row.fe, fz_dPut, nfz_dPut, h1, hix, fld_by, fld_st, m1, m2, nud_dPut, isU_dPut, cl_wi, ml_wi, into, dS, r_Put__into]; (try subst hQ); (try simp only [ev_e, List.reduceReplicate, Nat.reduceAdd, Nat.reduceLT, Nat.reduceLeDiff, Nat.reduceSub, Int.reduceNeg, ↓reduceIte, Int.reduceLT, Int.reduceLE, Int.reduceAdd, Int.reduceSub, Int.reduceBEq, reduceCtorEq, ne_eq, Nat.reduceBEq, ev_0, ev_1, ev_2, ev_3, ev_4, ↓ev_d, startD, isFz, isFzs, szOk, wipeD, putBack, fulls, frzs, full, frz, Row.fe, fz_dPut, nfz_dPut, h1, hix, fld_by, fld_st, m1, m2, nud_dPut, isU_dPut, cl_wi, ml_wi, into, dS, r_Put__into]))
  | .rest ws m r, k + 2, w, _ => by
    rw [call_code t_into]
    refine run_eq rfl ?_
    show Wp (evSs _ b_Put__into (startD 10 [dPut o p, .tup [.str "rest", .tup (ws.map .int), .int m, .int r]])) _
    unfold b_Put__into
    have h1 := s_weights_in k o p ws n w.1 hp hn hb w.2.1
    have hix := idx_last w.1
    have m1 := sm_l (j := m) hb
    have m2 := sm_l (j := p.st) w.2.1
    have m3 := sm_l (j := r) hb
    have hpos := Int.mul_pos hb0 w.2.2
    have hne : p.by_ * m ≠ 0 := by omega
    repeat (rw [wp_cons]; refine wp_gen fun Q hQ => ?_; simp only [ev_e, List.reduceReplicate, Nat.reduceAdd, Nat.reduceLT, Nat.reduceLeDiff, Nat.reduceSub, Int.reduceNeg, ↓reduceIte, Int.reduceLT, Int.reduceLE, Int.reduceAdd, Int.reduceSub, Int.reduceBEq, reduceCtorEq, ne_eq, Nat.reduceBEq, ev_0, ev_1, ev_2, ev_3, ev_4, ↓ev_d, startD, isFz, isFzs, szOk, wipeD, putBack, fulls, frzs, full, frz, Row.fe, as_star, ev_q, nud_dPut, isU_dPut, h1, hix, fld_by, fld_st, m1, m2, m3, hne, rst_pos hpos, cl_wi, ml_wi, into, dS, r_Put__into]; (try subst hQ); (try simp only [ev_e, List.reduceReplicate, Nat.reduceAdd, Nat.reduceLT, Nat.reduceLeDiff, Nat.reduceSub, Int.reduceNeg, ↓reduceIte, Int.reduceLT, Int.reduceLE, Int.reduceAdd, Int.reduceSub, Int.reduceBEq, reduceCtorEq, ne_eq, Nat.reduceBEq, ev_0, ev_1, ev_2, ev_3, ev_4, ↓ev_d, startD, isFz, isFzs, szOk, wipeD, putBack, fulls, frzs, full, frz, Row.fe, as_star, ev_q, nud_dPut, isU_dPut, h1, hix, fld_by, fld_st, m1, m2, m3, hne, rst_pos hpos, cl_wi, ml_wi, into, dS, r_Put__into]))
    cases o <;> ((first | refine wp_gen fun Q hQ => ?_ | skip); simp only [ev_e, List.reduceReplicate, Nat.reduceAdd, Nat.reduceLT, Nat.reduceLeDiff, Nat.reduceSub, Int.reduceNeg, ↓reduceIte, Int.reduceLT, Int.reduceLE, Int.reduceAdd, Int.reduceSub, Int.reduceBEq, reduceCtorEq, ne_eq, Nat.reduceBEq, ev_0, ev_1, ev_2, ev_3, ev_4, ↓ev_d, startD, isFz, isFzs, szOk, wipeD, putBack, fulls, frzs, full, frz, Row.fe, fz_dPut, nfz_dPut, h1, hix, fld_by, fld_st, m1, m2, m3, hne, rst_pos hpos, nud_dPut, isU_dPut, cl_wi, ml_wi, into, dS, r_Put__into]; (try subst hQ); (try simp only [ev_e, List.reduceReplicate, Nat.reduceAdd, Nat.reduceLT, Nat.reduceLeDiff, Nat.reduceSub, Int.reduceNeg, ↓reduceIte, Int.reduceLT, Int.reduceLE, Int.reduceAdd, Int.reduceSub, Int.reduceBEq, reduceCtorEq, ne_eq, Nat.reduceBEq, ev_0, ev_1, ev_2, ev_3, ev_4, ↓ev_d, startD, isFz, isFzs, szOk, wipeD, putBack, fulls, frzs, full, frz, Row.fe, fz_dPut, nfz_dPut, h1, hix, fld_by, fld_st, m1, m2, m3, hne, rst_pos hpos, nud_dPut, isU_dPut, cl_wi, ml_wi, into, dS, r_Put__into]))
  | .neg s, k + 1, w, hd => by
    have hd : dep s < k := Nat.lt_of_succ_lt_succ hd
    have h1 := s_into o p n hp hn hb hb0 s k w hd
    rw [call_code t_into]
    refine run_eq rfl ?_
    show Wp (evSs _ b_Put__into (startD 10 [dPut o p, .tup [.str "not", dS s]])) _
    unfold b_Put__into
    repeat (rw [wp_cons]; refine wp_gen fun Q hQ => ?_; simp only [ev_e, List.reduceReplicate, Nat.reduceAdd, Nat.reduceLT, Nat.reduceLeDiff, Nat.reduceSub, Int.reduceNeg, ↓reduceIte, Int.reduceLT, Int.reduceLE, Int.reduceAdd, Int.reduceSub, Int.reduceBEq, reduceCtorEq, ne_eq, Nat.reduceBEq, ev_0, ev_1, ev_2, ev_3, ev_4, ↓ev_d, startD, isFz, isFzs, szOk, wipeD, putBack, fulls, frzs, full, frz, Row.fe, as_star, ev_q, nud_dPut, isU_dPut, fz_dS, full_dS, frz_dS, nud_dS, isU_dS]; (try subst hQ); (try simp only [ev_e, List.reduceReplicate, Nat.reduceAdd, Nat.reduceLT, Nat.reduceLeDiff, Nat.reduceSub, Int.reduceNeg, ↓reduceIte, Int.reduceLT, Int.reduceLE, Int.reduceAdd, Int.reduceSub, Int.reduceBEq, reduceCtorEq, ne_eq, Nat.reduceBEq, ev_0, ev_1, ev_2, ev_3, ev_4, ↓ev_d, startD, isFz, isFzs, szOk, wipeD, putBack, fulls, frzs, full, frz, Row.fe, as_star, ev_q, nud_dPut, isU_dPut, fz_dS, full_dS, frz_dS, nud_dS, isU_dS]))
    refine wp_lcM [s] dS (fun x => dS (into p x)) [dPut o p, .tup [.str "not", dS s], .str "not", .lst false [dS s], .undef, .undef, .undef, .undef, .undef, .undef] ?_ ?_ ?_ ?_
    · ((first | refine wp_gen fun Q hQ => ?_ | skip); simp only [ev_e, List.reduceReplicate, Nat.reduceAdd, Nat.reduceLT, Nat.reduceLeDiff, Nat.reduceSub, Int.reduceNeg, ↓reduceIte, Int.reduceLT, Int.reduceLE, Int.reduceAdd, Int.reduceSub, Int.reduceBEq, reduceCtorEq, ne_eq, Nat.reduceBEq, ev_0, ev_1, ev_2, ev_3, ev_4, ↓ev_d, startD, isFz, isFzs, szOk, wipeD, putBack, fulls, frzs, full, frz, Row.fe, fz_dS, full_dS, frz_dS]; (try subst hQ); (try simp only [ev_e, List.reduceReplicate, Nat.reduceAdd, Nat.reduceLT, Nat.reduceLeDiff, Nat.reduceSub, Int.reduceNeg, ↓reduceIte, Int.reduceLT, Int.reduceLE, Int.reduceAdd, Int.reduceSub, Int.reduceBEq, reduceCtorEq, ne_eq, Nat.reduceBEq, ev_0, ev_1, ev_2, ev_3, ev_4, ↓ev_d, startD, isFz, isFzs, szOk, wipeD, putBack, fulls, frzs, full, frz, Row.fe, fz_dS, full_dS, frz_dS]))
    · simp [sizeLine_eq]
    · intro a ha
      have ha := List.mem_singleton.mp ha
      subst ha
      refine ⟨_, by ((first | refine wp_gen fun Q hQ => ?_ | skip); simp only [ev_e, List.reduceReplicate, Nat.reduceAdd, Nat.reduceLT, Nat.reduceLeDiff, Nat.reduceSub, Int.reduceNeg, ↓reduceIte, Int.reduceLT, Int.reduceLE, Int.reduceAdd, Int.reduceSub, Int.reduceBEq, reduceCtorEq, ne_eq, Nat.reduceBEq, ev_0, ev_1, ev_2, ev_3, ev_4, ↓ev_d, startD, isFz, isFzs, szOk, wipeD, putBack, fulls, frzs, full, frz, Row.fe, szOk]; (try subst hQ); (try simp only [ev_e, List.reduceReplicate, Nat.reduceAdd, Nat.reduceLT, Nat.reduceLeDiff, Nat.reduceSub, Int.reduceNeg, ↓reduceIte, Int.reduceLT, Int.reduceLE, Int.reduceAdd, Int.reduceSub, Int.reduceBEq, reduceCtorEq, ne_eq, Nat.reduceBEq, ev_0, ev_1, ev_2, ev_3, ev_4, ↓ev_d, startD, isFz, isFzs, szOk, wipeD, putBack, fulls, frzs, full, frz, Row.fe, szOk])); rfl, ?_⟩
      cases o <;> ((first | refine wp_gen fun Q hQ => ?_ | skip); simp only [ev_e, List.reduceReplicate, Nat.reduceAdd, Nat.reduceLT, Nat.reduceLeDiff, Nat.reduceSub, Int.reduceNeg, ↓reduceIte, Int.reduceLT, Int.reduceLE, Int.reduceAdd, Int.reduceSub, Int.reduceBEq, reduceCtorEq, ne_eq, Nat.reduceBEq, ev_0, ev_1, ev_2, ev_3, ev_4, ↓ev_d, startD, isFz, isFzs, szOk, wipeD, putBack, fulls, frzs, full, frz, Row.fe, nud_dS, isU_dS, nud_dPut, isU_dPut, fz_dPut, nfz_dPut, h1, fz_dS, cl_in, ml_in]; (try subst hQ); (try simp only [ev_e, List.reduceReplicate, Nat.reduceAdd, Nat.reduceLT, Nat.reduceLeDiff, Nat.reduceSub, Int.reduceNeg, ↓reduceIte, Int.reduceLT, Int.reduceLE, Int.reduceAdd, Int.reduceSub, Int.reduceBEq, reduceCtorEq, ne_eq, Nat.reduceBEq, ev_0, ev_1, ev_2, ev_3, ev_4, ↓ev_d, startD, isFz, isFzs, szOk, wipeD, putBack, fulls, frzs, full, frz, Row.fe, nud_dS, isU_dS, nud_dPut, isU_dPut, fz_dPut, nfz_dPut, h1, fz_dS, cl_in, ml_in]))
    · ((first | refine wp_gen fun Q hQ => ?_ | skip); simp only [ev_e, List.reduceReplicate, Nat.reduceAdd, Nat.reduceLT, Nat.reduceLeDiff, Nat.reduceSub, Int.reduceNeg, ↓reduceIte, Int.reduceLT, Int.reduceLE, Int.reduceAdd, Int.reduceSub, Int.reduceBEq, reduceCtorEq, ne_eq, Nat.reduceBEq, ev_0, ev_1, ev_2, ev_3, ev_4, ↓ev_d, startD, isFz, isFzs, szOk, wipeD, putBack, fulls, frzs, full, frz, Row.fe, fz_dS, full_dS, frz_dS, r_Put__into, into, dS]; (try subst hQ); (try simp only [ev_e, List.reduceReplicate, Nat.reduceAdd, Nat.reduceLT, Nat.reduceLeDiff, Nat.reduceSub, Int.reduceNeg, ↓reduceIte, Int.reduceLT, Int.reduceLE, Int.reduceAdd, Int.reduceSub, Int.reduceBEq, reduceCtorEq, ne_eq, Nat.reduceBEq, ev_0, ev_1, ev_2, ev_3, ev_4, ↓ev_d, startD, isFz, isFzs, szOk, wipeD, putBack, fulls, frzs, full, frz, Row.fe, fz_dS, full_dS, frz_dS, r_Put__into, into, dS]))
  | .and x y, k + 1, w, hd => by
    have hd : max (dep x) (dep y) < k := Nat.lt_of_succ_lt_succ hd
    have h1 := s_into o p n hp hn hb hb0 x k w.1 (by omega)
    have h2 := s_into o p n hp hn hb hb0 y k w.2 (by omega)
    rw [call_code t_into]
    refine run_eq rfl ?_
    show Wp (evSs _ b_Put__into (startD 10 [dPut o p, .tup [.str "and", dS x, dS y]])) _
    unfold b_Put__into
    repeat (rw [wp_cons]; refine wp_gen fun Q hQ => ?_; simp only [ev_e, List.reduceReplicate, Nat.reduceAdd, Nat.reduceLT, Nat.reduceLeDiff, Nat.reduceSub, Int.reduceNeg, ↓reduceIte, Int.reduceLT, Int.reduceLE, Int.reduceAdd, Int.reduceSub, Int.reduceBEq, reduceCtorEq, ne_eq, Nat.reduceBEq, ev_0, ev_1, ev_2, ev_3, ev_4, ↓ev_d, startD, isFz, isFzs, szOk, wipeD, putBack, fulls, frzs, full, frz, Row.fe, as_star, ev_q, nud_dPut, isU_dPut, fz_dS, full_dS, frz_dS, nud_dS, isU_dS]; (try subst hQ); (try simp only [ev_e, List.reduceReplicate, Nat.reduceAdd, Nat.reduceLT, Nat.reduceLeDiff, Nat.reduceSub, Int.reduceNeg, ↓reduceIte, Int.reduceLT, Int.reduceLE, Int.reduceAdd, Int.reduceSub, Int.reduceBEq, reduceCtorEq, ne_eq, Nat.reduceBEq, ev_0, ev_1, ev_2, ev_3, ev_4, ↓ev_d, startD, isFz, isFzs, szOk, wipeD, putBack, fulls, frzs, full, frz, Row.fe, as_star, ev_q, nud_dPut, isU_dPut, fz_dS, full_dS, frz_dS, nud_dS, isU_dS]))
    refine wp_lcM [x, y] dS (fun x => dS (into p x)) [dPut o p, .tup [.str "and", dS x, dS y], .str "and", .lst false [dS x, dS y], .undef, .undef, .undef, .undef, .undef, .undef] ?_ ?_ ?_ ?_
    · ((first | refine wp_gen fun Q hQ => ?_ | skip); simp only [ev_e, List.reduceReplicate, Nat.reduceAdd, Nat.reduceLT, Nat.reduceLeDiff, Nat.reduceSub, Int.reduceNeg, ↓reduceIte, Int.reduceLT, Int.reduceLE, Int.reduceAdd, Int.reduceSub, Int.reduceBEq, reduceCtorEq, ne_eq, Nat.reduceBEq, ev_0, ev_1, ev_2, ev_3, ev_4, ↓ev_d, startD, isFz, isFzs, szOk, wipeD, putBack, fulls, frzs, full, frz, Row.fe, fz_dS, full_dS, frz_dS]; (try subst hQ); (try simp only [ev_e, List.reduceReplicate, Nat.reduceAdd, Nat.reduceLT, Nat.reduceLeDiff, Nat.reduceSub, Int.reduceNeg, ↓reduceIte, Int.reduceLT, Int.reduceLE, Int.reduceAdd, Int.reduceSub, Int.reduceBEq, reduceCtorEq, ne_eq, Nat.reduceBEq, ev_0, ev_1, ev_2, ev_3, ev_4, ↓ev_d, startD, isFz, isFzs, szOk, wipeD, putBack, fulls, frzs, full, frz, Row.fe, fz_dS, full_dS, frz_dS]))
    · simp [sizeLine_eq]
    · intro a ha
      have h3 : callN tab kn k (mkey "Put" "into") [dPut o p, dS a] = .ok (dS (into p a), [dPut o p, dS a]) := by
        rcases List.mem_cons.mp ha with rfl | ha
        · exact h1
        · rw [List.mem_singleton.mp ha]; exact h2
      refine ⟨_, by ((first | refine wp_gen fun Q hQ => ?_ | skip); simp only [ev_e, List.reduceReplicate, Nat.reduceAdd, Nat.reduceLT, Nat.reduceLeDiff, Nat.reduceSub, Int.reduceNeg, ↓reduceIte, Int.reduceLT, Int.reduceLE, Int.reduceAdd, Int.reduceSub, Int.reduceBEq, reduceCtorEq, ne_eq, Nat.reduceBEq, ev_0, ev_1, ev_2, ev_3, ev_4, ↓ev_d, startD, isFz, isFzs, szOk, wipeD, putBack, fulls, frzs, full, frz, Row.fe, szOk]; (try subst hQ); (try simp only [ev_e, List.reduceReplicate, Nat.reduceAdd, Nat.reduceLT, Nat.reduceLeDiff, Nat.reduceSub, Int.reduceNeg, ↓reduceIte, Int.reduceLT, Int.reduceLE, Int.reduceAdd, Int.reduceSub, Int.reduceBEq, reduceCtorEq, ne_eq, Nat.reduceBEq, ev_0, ev_1, ev_2, ev_3, ev_4, ↓ev_d, startD, isFz, isFzs, szOk, wipeD, putBack, fulls, frzs, full, frz, Row.fe, szOk])); rfl, ?_⟩
      cases o <;> ((first | refine wp_gen fun Q hQ => ?_ | skip); simp only [ev_e, List.reduceReplicate, Nat.reduceAdd, Nat.reduceLT, Nat.reduceLeDiff, Nat.reduceSub, Int.reduceNeg, ↓reduceIte, Int.reduceLT, Int.reduceLE, Int.reduceAdd, Int.reduceSub, Int.reduceBEq, reduceCtorEq, ne_eq, Nat.reduceBEq, ev_0, ev_1, ev_2, ev_3, ev_4, ↓ev_d, startD, isFz, isFzs, szOk, wipeD, putBack, fulls, frzs, full, frz, Row.fe, nud_dS, isU_dS, nud_dPut, isU_dPut, fz_dPut, nfz_dPut, h3, fz_dS, cl_in, ml_in]; (try subst hQ); (try simp only [ev_e, List.reduceReplicate, Nat.reduceAdd, Nat.reduceLT, Nat.reduceLeDiff, Nat.reduceSub, Int.reduceNeg, ↓reduceIte, Int.reduceLT, Int.reduceLE, Int.reduceAdd, Int.reduceSub, Int.reduceBEq, reduceCtorEq, ne_eq, Nat.reduceBEq, ev_0, ev_1, ev_2, ev_3, ev_4, ↓ev_d, startD, isFz, isFzs, szOk, wipeD, putBack, fulls, frzs, full, frz, Row.fe, nud_dS, isU_dS, nud_dPut, isU_dPut, fz_dPut, nfz_dPut, h3, fz_dS, cl_in, ml_in]))
    · ((first | refine wp_gen fun Q hQ => ?_ | skip); simp only [ev_e, List.reduceReplicate, Nat.reduceAdd, Nat.reduceLT, Nat.reduceLeDiff, Nat.reduceSub, Int.reduceNeg, ↓reduceIte, Int.reduceLT, Int.reduceLE, Int.reduceAdd, Int.reduceSub, Int.reduceBEq, reduceCtorEq, ne_eq, Nat.reduceBEq, ev_0, ev_1, ev_2, ev_3, ev_4, ↓ev_d, startD, isFz, isFzs, szOk, wipeD, putBack, fulls, frzs, full, frz, Row.fe, fz_dS, full_dS, frz_dS, r_Put__into, into, dS]; (try subst hQ); (try simp only [ev_e, List.reduceReplicate, Nat.reduceAdd, Nat.reduceLT, Nat.reduceLeDiff, Nat.reduceSub, Int.reduceNeg, ↓reduceIte, Int.reduceLT, Int.reduceLE, Int.reduceAdd, Int.reduceSub, Int.reduceBEq, reduceCtorEq, ne_eq, Nat.reduceBEq, ev_0, ev_1, ev_2, ev_3, ev_4, ↓ev_d, startD, isFz, isFzs, szOk, wipeD, putBack, fulls, frzs, full, frz, Row.fe, fz_dS, full_dS, frz_dS, r_Put__into, into, dS]))
  | .or x y, k + 1, w, hd => by
    have hd : max (dep x) (dep y) < k := Nat.lt_of_succ_lt_succ hd
    have h1 := s_into o p n hp hn hb hb0 x k w.1 (by omega)
    have h2 := s_into o p n hp hn hb hb0 y k w.2 (by omega)
    rw [call_code t_into]
    refine run_eq rfl ?_
    show Wp (evSs _ b_Put__into (startD 10 [dPut o p, .tup [.str "or", dS x, dS y]])) _
    unfold b_Put__into
    repeat (rw [wp_cons]; refine wp_gen fun Q hQ => ?_; simp only [ev_e, List.reduceReplicate, Nat.reduceAdd, Nat.reduceLT, Nat.reduceLeDiff, Nat.reduceSub, Int.reduceNeg, ↓reduceIte, Int.reduceLT, Int.reduceLE, Int.reduceAdd, Int.reduceSub, Int.reduceBEq, reduceCtorEq, ne_eq, Nat.reduceBEq, ev_0, ev_1, ev_2, ev_3, ev_4, ↓ev_d, startD, isFz, isFzs, szOk, wipeD, putBack, fulls, frzs, full, frz, Row.fe, as_star, ev_q, nud_dPut, isU_dPut, fz_dS, full_dS, frz_dS, nud_dS, isU_dS]; (try subst hQ); (try simp only [ev_e, List.reduceReplicate, Nat.reduceAdd, Nat.reduceLT, Nat.reduceLeDiff, Nat.reduceSub, Int.reduceNeg, ↓reduceIte, Int.reduceLT, Int.reduceLE, Int.reduceAdd, Int.reduceSub, Int.reduceBEq, reduceCtorEq, ne_eq, Nat.reduceBEq, ev_0, ev_1, ev_2, ev_3, ev_4, ↓ev_d, startD, isFz, isFzs, szOk, wipeD, putBack, fulls, frzs, full, frz, Row.fe, as_star, ev_q, nud_dPut, isU_dPut, fz_dS, full_dS, frz_dS, nud_dS, isU_dS]))
    refine wp_lcM [x, y] dS (fun x => dS (into p x)) [dPut o p, .tup [.str "or", dS x, dS y], .str "or", .lst false [dS x, dS y], .undef, .undef, .undef, .undef, .undef, .undef] ?_ ?_ ?_ ?_
    · ((first | refine wp_gen fun Q hQ => ?_ | skip); simp only [ev_e, List.reduceReplicate, Nat.reduceAdd, Nat.reduceLT, Nat.reduceLeDiff, Nat.reduceSub, Int.reduceNeg, ↓reduceIte, Int.reduceLT, Int.reduceLE, Int.reduceAdd, Int.reduceSub, Int.reduceBEq, reduceCtorEq, ne_eq, Nat.reduceBEq, ev_0, ev_1, ev_2, ev_3, ev_4, ↓ev_d, startD, isFz, isFzs, szOk, wipeD, putBack, fulls, frzs, full, frz, Row.fe, fz_dS, full_dS, frz_dS]; (try subst hQ); (try simp only [ev_e, List.reduceReplicate, Nat.reduceAdd, Nat.reduceLT, Nat.reduceLeDiff, Nat.reduceSub, Int.reduceNeg, ↓reduceIte, Int.reduceLT, Int.reduceLE, Int.reduceAdd, Int.reduceSub, Int.reduceBEq, reduceCtorEq, ne_eq, Nat.reduceBEq, ev_0, ev_1, ev_2, ev_3, ev_4, ↓ev_d, startD, isFz, isFzs, szOk, wipeD, putBack, fulls, frzs, full, frz, Row.fe, fz_dS, full_dS, frz_dS]))
    · simp [sizeLine_eq]
    · intro a ha
      have h3 : callN tab kn k (mkey "Put" "into") [dPut o p, dS a] = .ok (dS (into p a), [dPut o p, dS a]) := by
        rcases List.mem_cons.mp ha with rfl | ha
        · exact h1
        · rw [List.mem_singleton.mp ha]; exact h2
      refine ⟨_, by ((first | refine wp_gen fun Q hQ => ?_ | skip); simp only [ev_e, List.reduceReplicate, Nat.reduceAdd, Nat.reduceLT, Nat.reduceLeDiff, Nat.reduceSub, Int.reduceNeg, ↓reduceIte, Int.reduceLT, Int.reduceLE, Int.reduceAdd, Int.reduceSub, Int.reduceBEq, reduceCtorEq, ne_eq, Nat.reduceBEq, ev_0, ev_1, ev_2, ev_3, ev_4, ↓ev_d, startD, isFz, isFzs, szOk, wipeD, putBack, fulls, frzs, full, frz, Row.fe, szOk]; (try subst hQ); (try simp only [ev_e, List.reduceReplicate, Nat.reduceAdd, Nat.reduceLT, Nat.reduceLeDiff, Nat.reduceSub, Int.reduceNeg, ↓reduceIte, Int.reduceLT, Int.reduceLE, Int.reduceAdd, Int.reduceSub, Int.reduceBEq, reduceCtorEq, ne_eq, Nat.reduceBEq, ev_0, ev_1, ev_2, ev_3, ev_4, ↓ev_d, startD, isFz, isFzs, szOk, wipeD, putBack, fulls, frzs, full, frz, Row.fe, szOk])); rfl, ?_⟩
      cases o <;> ((first | refine wp_gen fun Q hQ => ?_ | skip); simp only [ev_e, List.reduceReplicate, Nat.reduceAdd, Nat.reduceLT, Nat.reduceLeDiff, Nat.reduceSub, Int.reduceNeg, ↓reduceIte, Int.reduceLT, Int.reduceLE, Int.reduceAdd, Int.reduceSub, Int.reduceBEq, reduceCtorEq, ne_eq, Nat.reduceBEq, ev_0, ev_1, ev_2, ev_3, ev_4, ↓ev_d, startD, isFz, isFzs, szOk, wipeD, putBack, fulls, frzs, full, frz, Row.fe, nud_dS, isU_dS, nud_dPut, isU_dPut, fz_dPut, nfz_dPut, h3, fz_dS, cl_in, ml_in]; (try subst hQ); (try simp only [ev_e, List.reduceReplicate, Nat.reduceAdd, Nat.reduceLT, Nat.reduceLeDiff, Nat.reduceSub, Int.reduceNeg, ↓reduceIte, Int.reduceLT, Int.reduceLE, Int.reduceAdd, Int.reduceSub, Int.reduceBEq, reduceCtorEq, ne_eq, Nat.reduceBEq, ev_0, ev_1, ev_2, ev_3, ev_4, ↓ev_d, startD, isFz, isFzs, szOk, wipeD, putBack, fulls, frzs, full, frz, Row.fe, nud_dS, isU_dS, nud_dPut, isU_dPut, fz_dPut, nfz_dPut, h3, fz_dS, cl_in, ml_in]))
    · ((first | refine wp_gen fun Q hQ => ?_ | skip); simp only [ev_e, List.reduceReplicate, Nat.reduceAdd, Nat.reduceLT, Nat.reduceLeDiff, Nat.reduceSub, Int.reduceNeg, ↓reduceIte, Int.reduceLT, Int.reduceLE, Int.reduceAdd, Int.reduceSub, Int.reduceBEq, reduceCtorEq, ne_eq, Nat.reduceBEq, ev_0, ev_1, ev_2, ev_3, ev_4, ↓ev_d, startD, isFz, isFzs, szOk, wipeD, putBack, fulls, frzs, full, frz, Row.fe, fz_dS, full_dS, frz_dS, r_Put__into, into, dS]; (try subst hQ); (try simp only [ev_e, List.reduceReplicate, Nat.reduceAdd, Nat.reduceLT, Nat.reduceLeDiff, Nat.reduceSub, Int.reduceNeg, ↓reduceIte, Int.reduceLT, Int.reduceLE, Int.reduceAdd, Int.reduceSub, Int.reduceBEq, reduceCtorEq, ne_eq, Nat.reduceBEq, ev_0, ev_1, ev_2, ev_3, ev_4, ↓ev_d, startD, isFz, isFzs, szOk, wipeD, putBack, fulls, frzs, full, frz, Row.fe, fz_dS, full_dS, frz_dS, r_Put__into, into, dS]))
  | .least _ _, 0, _, hd => nomatch hd
  | .least _ _, 1, _, hd => absurd hd (by simp [dep])
  | .rest _ _ _, 0, _, hd => nomatch hd
  | .rest _ _ _, 1, _, hd => absurd hd (by simp [dep])
  | .neg _, 0, _, hd => nomatch hd
  | .and _ _, 0, _, hd => nomatch hd
  | .or _ _, 0, _, hd => nomatch hd
theorem s_is_number (k : Nat) (o : Bool) (p : Put) : callN tab kn (k + 1) (mkey "Put" "is_number") [dPut o p] = .ok (dS (isNum p), [dPut o p]) := by
  rw [call_code t_is_number]
  refine run_eq rfl ?_
  show Wp (evSs _ b_Put__is_number (startD 1 [dPut o p])) _
  unfold b_Put__is_number
  repeat (rw [wp_cons]; refine wp_gen fun Q hQ => ?_; simp only [ev_e, List.reduceReplicate, Nat.reduceAdd, Nat.reduceLT, Nat.reduceLeDiff, Nat.reduceSub, Int.reduceNeg, ↓reduceIte, Int.reduceLT, Int.reduceLE, Int.reduceAdd, Int.reduceSub, Int.reduceBEq, reduceCtorEq, ne_eq, Nat.reduceBEq, ev_0, ev_1, ev_2, ev_3, ev_4, ↓ev_d, startD, isFz, isFzs, szOk, wipeD, putBack, fulls, frzs, full, frz, Row.fe, fld_sl, fld_st, nud_dPut, isU_dPut, r_Put__is_number, isNum, dS]; (try subst hQ); (try simp only [ev_e, List.reduceReplicate, Nat.reduceAdd, Nat.reduceLT, Nat.reduceLeDiff, Nat.reduceSub, Int.reduceNeg, ↓reduceIte, Int.reduceLT, Int.reduceLE, Int.reduceAdd, Int.reduceSub, Int.reduceBEq, reduceCtorEq, ne_eq, Nat.reduceBEq, ev_0, ev_1, ev_2, ev_3, ev_4, ↓ev_d, startD, isFz, isFzs, szOk, wipeD, putBack, fulls, frzs, full, frz, Row.fe, fld_sl, fld_st, nud_dPut, isU_dPut, r_Put__is_number, isNum, dS]))
theorem s_sought (k : Nat) (w : Str) (hw : w = "some" ∨ w = "all") (s : Sen) : callN tab kn (k + 1) "sought_by" [.tup [.str w, dS s]] = .ok (dS (if w = "some" then s else .neg s), [.tup [.str w, dS s]]) := by
  rw [call_code t_sought_by]
  refine run_eq rfl ?_
  show Wp (evSs _ b_sought_by (startD 3 [.tup [.str w, dS s]])) _
  unfold b_sought_by
  have hne : ¬ (("all" : Str) = "some") := by decide +kernel
  rcases hw with rfl | rfl
  · repeat (rw [wp_cons]; refine wp_gen fun Q hQ => ?_; simp only [ev_e, List.reduceReplicate, Nat.reduceAdd, Nat.reduceLT, Nat.reduceLeDiff, Nat.reduceSub, Int.reduceNeg, ↓reduceIte, Int.reduceLT, Int.reduceLE, Int.reduceAdd, Int.reduceSub, Int.reduceBEq, reduceCtorEq, ne_eq, Nat.reduceBEq, ev_0, ev_1, ev_2, ev_3, ev_4, ↓ev_d, startD, isFz, isFzs, szOk, wipeD, putBack, fulls, frzs, full, frz, Row.fe, ev_q, fz_dS, nud_dS, r_sought_by]; (try subst hQ); (try simp only [ev_e, List.reduceReplicate, Nat.reduceAdd, Nat.reduceLT, Nat.reduceLeDiff, Nat.reduceSub, Int.reduceNeg, ↓reduceIte, Int.reduceLT, Int.reduceLE, Int.reduceAdd, Int.reduceSub, Int.reduceBEq, reduceCtorEq, ne_eq, Nat.reduceBEq, ev_0, ev_1, ev_2, ev_3, ev_4, ↓ev_d, startD, isFz, isFzs, szOk, wipeD, putBack, fulls, frzs, full, frz, Row.fe, ev_q, fz_dS, nud_dS, r_sought_by]))
  · repeat (rw [wp_cons]; refine wp_gen fun Q hQ => ?_; simp only [ev_e, List.reduceReplicate, Nat.reduceAdd, Nat.reduceLT, Nat.reduceLeDiff, Nat.reduceSub, Int.reduceNeg, ↓reduceIte, Int.reduceLT, Int.reduceLE, Int.reduceAdd, Int.reduceSub, Int.reduceBEq, reduceCtorEq, ne_eq, Nat.reduceBEq, ev_0, ev_1, ev_2, ev_3, ev_4, ↓ev_d, startD, isFz, isFzs, szOk, wipeD, putBack, fulls, frzs, full, frz, Row.fe, ev_q, fz_dS, nud_dS, full_dS, frz_dS, r_sought_by, hne, dS]; (try subst hQ); (try simp only [ev_e, List.reduceReplicate, Nat.reduceAdd, Nat.reduceLT, Nat.reduceLeDiff, Nat.reduceSub, Int.reduceNeg, ↓reduceIte, Int.reduceLT, Int.reduceLE, Int.reduceAdd, Int.reduceSub, Int.reduceBEq, reduceCtorEq, ne_eq, Nat.reduceBEq, ev_0, ev_1, ev_2, ev_3, ev_4, ↓ev_d, startD, isFz, isFzs, szOk, wipeD, putBack, fulls, frzs, full, frz, Row.fe, ev_q, fz_dS, nud_dS, full_dS, frz_dS, r_sought_by, hne, dS]))
theorem t_puts_at : tab "puts_at" = some (.code r_puts_at.fe) := by kernel_rfl
theorem t_any_of : tab "any_of" = some (.code r_any_of.fe) := by kernel_rfl
theorem t_plainly_some : tab "plainly_some" = some (.code r_plainly_some.fe) := by kernel_rfl
theorem t_plainly : tab "plainly" = some (.code r_plainly.fe) := by kernel_rfl
def dPW (q : Put × Sen) : D := .tup [dPut false q.1, dS q.2]
theorem s_new (k : Nat) (ws : List Int) (st b : Int) : callN tab kn (k + 2) (mkey "Put" "__init__") [.ins true "Put" [] [], .tup (ws.map .int), .int st, .int b] = .ok (.non, [dPut true ⟨ws, st, b⟩, .tup (ws.map .int), .int st, .int b]) := s_init k ⟨ws, st, b⟩
theorem s_puts_at (k n : Nat) (ws : List Int) (c : Int) (Wn : Nat) (W : Int) (eW : W = Wn) (hw : ws.length = n + 1) (hl : last ws ≠ 0) (hn : n ≤ 1000) (hb : aby ws ≤ 1000) (hz : (aby ws).toNat * Wn ≤ 1000000) :
    Wp (callN tab kn (k + 3) "puts_at" [dS (.least ws c), .int W]) (fun r => r = (.lst true ((putsAt W (.least ws c)).map dPW), [dS (.least ws c), .int W])) := by
  rw [call_code t_puts_at]
  refine run_wp rfl ?_
  show Wp (evSs _ b_puts_at (startD 11 [.tup [.str "least", .tup (ws.map .int), .int c], .int W])) _
  unfold b_puts_at
  have hs := star_last hw
  have ha0 := aby_pos hl
  have eab : ((last ws).natAbs : Int) = aby ws := by unfold aby; split <;> omega
  generalize hby : aby ws = B at *
  (rw [wp_cons]; refine wp_gen fun Q hQ => ?_; simp only [ev_e, List.reduceReplicate, Nat.reduceAdd, Nat.reduceLT, Nat.reduceLeDiff, Nat.reduceSub, Int.reduceNeg, ↓reduceIte, Int.reduceLT, Int.reduceLE, Int.reduceAdd, Int.reduceSub, Int.reduceBEq, reduceCtorEq, ne_eq, Nat.reduceBEq, ev_0, ev_1, ev_2, ev_3, ev_4, ↓ev_d, startD, isFz, isFzs, szOk, wipeD, putBack, fulls, frzs, full, frz, Row.fe, hs]; (try subst hQ); (try simp only [ev_e, List.reduceReplicate, Nat.reduceAdd, Nat.reduceLT, Nat.reduceLeDiff, Nat.reduceSub, Int.reduceNeg, ↓reduceIte, Int.reduceLT, Int.reduceLE, Int.reduceAdd, Int.reduceSub, Int.reduceBEq, reduceCtorEq, ne_eq, Nat.reduceBEq, ev_0, ev_1, ev_2, ev_3, ev_4, ↓ev_d, startD, isFz, isFzs, szOk, wipeD, putBack, fulls, frzs, full, frz, Row.fe, hs]))
  (rw [wp_cons]; refine wp_gen fun Q hQ => ?_; simp only [ev_e, List.reduceReplicate, Nat.reduceAdd, Nat.reduceLT, Nat.reduceLeDiff, Nat.reduceSub, Int.reduceNeg, ↓reduceIte, Int.reduceLT, Int.reduceLE, Int.reduceAdd, Int.reduceSub, Int.reduceBEq, reduceCtorEq, ne_eq, Nat.reduceBEq, ev_0, ev_1, ev_2, ev_3, ev_4, ↓ev_d, startD, isFz, isFzs, szOk, wipeD, putBack, fulls, frzs, full, frz, Row.fe, i_abs, eab]; (try subst hQ); (try simp only [ev_e, List.reduceReplicate, Nat.reduceAdd, Nat.reduceLT, Nat.reduceLeDiff, Nat.reduceSub, Int.reduceNeg, ↓reduceIte, Int.reduceLT, Int.reduceLE, Int.reduceAdd, Int.reduceSub, Int.reduceBEq, reduceCtorEq, ne_eq, Nat.reduceBEq, ev_0, ev_1, ev_2, ev_3, ev_4, ↓ev_d, startD, isFz, isFzs, szOk, wipeD, putBack, fulls, frzs, full, frz, Row.fe, i_abs, eab]))
  (rw [wp_cons]; refine wp_gen fun Q hQ => ?_; simp only [ev_e, List.reduceReplicate, Nat.reduceAdd, Nat.reduceLT, Nat.reduceLeDiff, Nat.reduceSub, Int.reduceNeg, ↓reduceIte, Int.reduceLT, Int.reduceLE, Int.reduceAdd, Int.reduceSub, Int.reduceBEq, reduceCtorEq, ne_eq, Nat.reduceBEq, ev_0, ev_1, ev_2, ev_3, ev_4, ↓ev_d, startD, isFz, isFzs, szOk, wipeD, putBack, fulls, frzs, full, frz, Row.fe, szOk]; (try subst hQ); (try simp only [ev_e, List.reduceReplicate, Nat.reduceAdd, Nat.reduceLT, Nat.reduceLeDiff, Nat.reduceSub, Int.reduceNeg, ↓reduceIte, Int.reduceLT, Int.reduceLE, Int.reduceAdd, Int.reduceSub, Int.reduceBEq, reduceCtorEq, ne_eq, Nat.reduceBEq, ev_0, ev_1, ev_2, ev_3, ev_4, ↓ev_d, startD, isFz, isFzs, szOk, wipeD, putBack, fulls, frzs, full, frz, Row.fe, szOk]))
  rw [wp_cons]
  have r1 := itRng_small (lo := 0) (hi := B) (by decide) (by decide) (by omega) (by omega)
  have hsB : Sm B := ⟨by omega, by omega⟩
  have hW1 : Wn ≤ 1000000 := Nat.le_trans (Nat.le_mul_of_pos_left _ (by omega)) hz
  have r2 := itRng_small (lo := 0) (hi := W) (by decide) (by decide) (by omega) (by omega)
  have hB0 : B ≠ 0 := by omega
  refine wp_forF (rng B) .int (fun (acc : List (Put × Sen)) r => acc ++ (rng W).map fun j => (putOf ws c r j, whenOf ws c r))
    (fun acc ρ => ∃ o z6 z7 z8 z9, ρ = [.tup [.str "least", .tup (ws.map .int), .int c], .int W, .lst o ((fore ws).map .int), .int (last ws), .int B, .lst true (acc.map dPW), z6, z7, z8, z9, .undef]) []
    [.tup [.str "least", .tup (ws.map .int), .int c], .int W, .lst true ((fore ws).map .int), .int (last ws), .int B, .lst true [], .undef, .undef, .undef, .undef, .undef] ?_ ⟨_, _, _, _, _, rfl⟩ ?_ ?_
  · ((first | refine wp_gen fun Q hQ => ?_ | skip); simp only [ev_e, List.reduceReplicate, Nat.reduceAdd, Nat.reduceLT, Nat.reduceLeDiff, Nat.reduceSub, Int.reduceNeg, ↓reduceIte, Int.reduceLT, Int.reduceLE, Int.reduceAdd, Int.reduceSub, Int.reduceBEq, reduceCtorEq, ne_eq, Nat.reduceBEq, ev_0, ev_1, ev_2, ev_3, ev_4, ↓ev_d, startD, isFz, isFzs, szOk, wipeD, putBack, fulls, frzs, full, frz, Row.fe, r1, rangeD_rng]; (try subst hQ); (try simp only [ev_e, List.reduceReplicate, Nat.reduceAdd, Nat.reduceLT, Nat.reduceLeDiff, Nat.reduceSub, Int.reduceNeg, ↓reduceIte, Int.reduceLT, Int.reduceLE, Int.reduceAdd, Int.reduceSub, Int.reduceBEq, reduceCtorEq, ne_eq, Nat.reduceBEq, ev_0, ev_1, ev_2, ev_3, ev_4, ↓ev_d, startD, isFz, isFzs, szOk, wipeD, putBack, fulls, frzs, full, frz, Row.fe, r1, rangeD_rng]))
  · rintro i r hi ρ ⟨o, z6, z7, z8, z9, rfl⟩
    refine ⟨_, by ((first | refine wp_gen fun Q hQ => ?_ | skip); simp only [ev_e, List.reduceReplicate, Nat.reduceAdd, Nat.reduceLT, Nat.reduceLeDiff, Nat.reduceSub, Int.reduceNeg, ↓reduceIte, Int.reduceLT, Int.reduceLE, Int.reduceAdd, Int.reduceSub, Int.reduceBEq, reduceCtorEq, ne_eq, Nat.reduceBEq, ev_0, ev_1, ev_2, ev_3, ev_4, ↓ev_d, startD, isFz, isFzs, szOk, wipeD, putBack, fulls, frzs, full, frz, Row.fe, szOk]; (try subst hQ); (try simp only [ev_e, List.reduceReplicate, Nat.reduceAdd, Nat.reduceLT, Nat.reduceLeDiff, Nat.reduceSub, Int.reduceNeg, ↓reduceIte, Int.reduceLT, Int.reduceLE, Int.reduceAdd, Int.reduceSub, Int.reduceBEq, reduceCtorEq, ne_eq, Nat.reduceBEq, ev_0, ev_1, ev_2, ev_3, ev_4, ↓ev_d, startD, isFz, isFzs, szOk, wipeD, putBack, fulls, frzs, full, frz, Row.fe, szOk])); rfl, ?_⟩
    have hr := mem_rng.mp (List.mem_of_getElem? hi)
    have hiB : i < B.toNat := by
      have := (List.getElem?_eq_some_iff.mp hi).1
      rwa [rng_len] at this
    have hacc : (((rng B).take i).foldl (fun (acc : List (Put × Sen)) r => acc ++ (rng W).map fun j => (putOf ws c r j, whenOf ws c r)) []).length = i * Wn := by
      rw [foldl_app, List.nil_append, flat_len (W := Wn) (fun a => by rw [List.length_map, rng_len]; omega), List.length_take, rng_len]
      congr 1; omega
    generalize ((rng B).take i).foldl (fun (acc : List (Put × Sen)) r => acc ++ (rng W).map fun j => (putOf ws c r j, whenOf ws c r)) [] = acc at hacc ⊢
    (rw [wp_cons]; refine wp_gen fun Q hQ => ?_; simp only [ev_e, List.reduceReplicate, Nat.reduceAdd, Nat.reduceLT, Nat.reduceLeDiff, Nat.reduceSub, Int.reduceNeg, ↓reduceIte, Int.reduceLT, Int.reduceLE, Int.reduceAdd, Int.reduceSub, Int.reduceBEq, reduceCtorEq, ne_eq, Nat.reduceBEq, ev_0, ev_1, ev_2, ev_3, ev_4, ↓ev_d, startD, isFz, isFzs, szOk, wipeD, putBack, fulls, frzs, full, frz, Row.fe, hB0, rst_pos ha0]; (try subst hQ); (try simp only [ev_e, List.reduceReplicate, Nat.reduceAdd, Nat.reduceLT, Nat.reduceLeDiff, Nat.reduceSub, Int.reduceNeg, ↓reduceIte, Int.reduceLT, Int.reduceLE, Int.reduceAdd, Int.reduceSub, Int.reduceBEq, reduceCtorEq, ne_eq, Nat.reduceBEq, ev_0, ev_1, ev_2, ev_3, ev_4, ↓ev_d, startD, isFz, isFzs, szOk, wipeD, putBack, fulls, frzs, full, frz, Row.fe, hB0, rst_pos ha0]))
    rw [wp_cons]
    refine wp_forF (rng W) .int (fun (a : List (Put × Sen)) j => a ++ [(putOf ws c r j, whenOf ws c r)])
      (fun a ρ => ∃ o z8 z9, ρ = [.tup [.str "least", .tup (ws.map .int), .int c], .int W, .lst o ((fore ws).map .int), .int (last ws), .int B, .lst true (a.map dPW), .int r, dS (whenOf ws c r), z8, z9, .undef]) acc
      [.tup [.str "least", .tup (ws.map .int), .int c], .int W, .lst o ((fore ws).map .int), .int (last ws), .int B, .lst true (acc.map dPW), .int r, dS (whenOf ws c r), z8, z9, .undef] ?_ ⟨_, _, _, rfl⟩ ?_ ?_
    · ((first | refine wp_gen fun Q hQ => ?_ | skip); simp only [ev_e, List.reduceReplicate, Nat.reduceAdd, Nat.reduceLT, Nat.reduceLeDiff, Nat.reduceSub, Int.reduceNeg, ↓reduceIte, Int.reduceLT, Int.reduceLE, Int.reduceAdd, Int.reduceSub, Int.reduceBEq, reduceCtorEq, ne_eq, Nat.reduceBEq, ev_0, ev_1, ev_2, ev_3, ev_4, ↓ev_d, startD, isFz, isFzs, szOk, wipeD, putBack, fulls, frzs, full, frz, Row.fe, r2, rangeD_rng]; (try subst hQ); (try simp only [ev_e, List.reduceReplicate, Nat.reduceAdd, Nat.reduceLT, Nat.reduceLeDiff, Nat.reduceSub, Int.reduceNeg, ↓reduceIte, Int.reduceLT, Int.reduceLE, Int.reduceAdd, Int.reduceSub, Int.reduceBEq, reduceCtorEq, ne_eq, Nat.reduceBEq, ev_0, ev_1, ev_2, ev_3, ev_4, ↓ev_d, startD, isFz, isFzs, szOk, wipeD, putBack, fulls, frzs, full, frz, Row.fe, r2, rangeD_rng]))
      simp [whenOf, dS, hby]
    · rintro j x hj ρ ⟨o, z8, z9, rfl⟩
      refine ⟨_, by ((first | refine wp_gen fun Q hQ => ?_ | skip); simp only [ev_e, List.reduceReplicate, Nat.reduceAdd, Nat.reduceLT, Nat.reduceLeDiff, Nat.reduceSub, Int.reduceNeg, ↓reduceIte, Int.reduceLT, Int.reduceLE, Int.reduceAdd, Int.reduceSub, Int.reduceBEq, reduceCtorEq, ne_eq, Nat.reduceBEq, ev_0, ev_1, ev_2, ev_3, ev_4, ↓ev_d, startD, isFz, isFzs, szOk, wipeD, putBack, fulls, frzs, full, frz, Row.fe, szOk]; (try subst hQ); (try simp only [ev_e, List.reduceReplicate, Nat.reduceAdd, Nat.reduceLT, Nat.reduceLeDiff, Nat.reduceSub, Int.reduceNeg, ↓reduceIte, Int.reduceLT, Int.reduceLE, Int.reduceAdd, Int.reduceSub, Int.reduceBEq, reduceCtorEq, ne_eq, Nat.reduceBEq, ev_0, ev_1, ev_2, ev_3, ev_4, ↓ev_d, startD, isFz, isFzs, szOk, wipeD, putBack, fulls, frzs, full, frz, Row.fe, szOk])); rfl, ?_⟩
      have hjW : j < Wn := by
        have := (List.getElem?_eq_some_iff.mp hj).1
        rw [rng_len] at this
        omega
      have hlen : (((rng W).take j).foldl (fun (a : List (Put × Sen)) j => a ++ [(putOf ws c r j, whenOf ws c r)]) acc).length < sizeLine := by
        rw [foldl_snoc, List.length_append, List.length_map, List.length_take, rng_len, hacc, sizeLine_eq]
        have h1 : i * Wn + Wn ≤ B.toNat * Wn := by
          have := Nat.mul_le_mul_right Wn (show i + 1 ≤ B.toNat by omega)
          rw [Nat.add_mul] at this
          omega
        omega
      generalize ((rng W).take j).foldl (fun (a : List (Put × Sen)) j => a ++ [(putOf ws c r j, whenOf ws c r)]) acc = a at hlen ⊢
      rw [sizeLine_eq] at hlen
      have m1 := sm_l (j := x) hsB
      have m2 := sm_l (j := x + 1) hsB
      have hlen2 : (a.map dPW).length < 16777216 := by rw [List.length_map]; exact hlen
      by_cases hp : 0 < last ws
      · have e0 : putOf ws c r x = ⟨(fore ws).map (- ·), c + r + B * x, B⟩ := by unfold putOf; rw [if_pos hp, hby]
        have hn1 := s_new k ((fore ws).map (- ·)) (c + r + B * x) B
        (rw [wp_cons]; refine wp_gen fun Q hQ => ?_; simp only [ev_e, List.reduceReplicate, Nat.reduceAdd, Nat.reduceLT, Nat.reduceLeDiff, Nat.reduceSub, Int.reduceNeg, ↓reduceIte, Int.reduceLT, Int.reduceLE, Int.reduceAdd, Int.reduceSub, Int.reduceBEq, reduceCtorEq, ne_eq, Nat.reduceBEq, ev_0, ev_1, ev_2, ev_3, ev_4, ↓ev_d, startD, isFz, isFzs, szOk, wipeD, putBack, fulls, frzs, full, frz, Row.fe, hp, decide_true]; (try subst hQ); (try simp only [ev_e, List.reduceReplicate, Nat.reduceAdd, Nat.reduceLT, Nat.reduceLeDiff, Nat.reduceSub, Int.reduceNeg, ↓reduceIte, Int.reduceLT, Int.reduceLE, Int.reduceAdd, Int.reduceSub, Int.reduceBEq, reduceCtorEq, ne_eq, Nat.reduceBEq, ev_0, ev_1, ev_2, ev_3, ev_4, ↓ev_d, startD, isFz, isFzs, szOk, wipeD, putBack, fulls, frzs, full, frz, Row.fe, hp, decide_true]))
        (rw [wp_cons]; refine wp_gen fun Q hQ => ?_; simp only [ev_e, List.reduceReplicate, Nat.reduceAdd, Nat.reduceLT, Nat.reduceLeDiff, Nat.reduceSub, Int.reduceNeg, ↓reduceIte, Int.reduceLT, Int.reduceLE, Int.reduceAdd, Int.reduceSub, Int.reduceBEq, reduceCtorEq, ne_eq, Nat.reduceBEq, ev_0, ev_1, ev_2, ev_3, ev_4, ↓ev_d, startD, isFz, isFzs, szOk, wipeD, putBack, fulls, frzs, full, frz, Row.fe, szOk]; (try subst hQ); (try simp only [ev_e, List.reduceReplicate, Nat.reduceAdd, Nat.reduceLT, Nat.reduceLeDiff, Nat.reduceSub, Int.reduceNeg, ↓reduceIte, Int.reduceLT, Int.reduceLE, Int.reduceAdd, Int.reduceSub, Int.reduceBEq, reduceCtorEq, ne_eq, Nat.reduceBEq, ev_0, ev_1, ev_2, ev_3, ev_4, ↓ev_d, startD, isFz, isFzs, szOk, wipeD, putBack, fulls, frzs, full, frz, Row.fe, szOk]))
        refine wp_lcM (fore ws) .int (fun w => .int (-w)) [.tup [.str "least", .tup (ws.map .int), .int c], .int W, .lst false ((fore ws).map .int), .int (last ws), .int B, .lst true (a.map dPW), .int r, dS (whenOf ws c r), .int x, z9, .undef] ?_ ?_ ?_ ?_
        · cases o <;> ((first | refine wp_gen fun Q hQ => ?_ | skip); simp only [ev_e, List.reduceReplicate, Nat.reduceAdd, Nat.reduceLT, Nat.reduceLeDiff, Nat.reduceSub, Int.reduceNeg, ↓reduceIte, Int.reduceLT, Int.reduceLE, Int.reduceAdd, Int.reduceSub, Int.reduceBEq, reduceCtorEq, ne_eq, Nat.reduceBEq, ev_0, ev_1, ev_2, ev_3, ev_4, ↓ev_d, startD, isFz, isFzs, szOk, wipeD, putBack, fulls, frzs, full, frz, Row.fe, isFzs_ints]; (try subst hQ); (try simp only [ev_e, List.reduceReplicate, Nat.reduceAdd, Nat.reduceLT, Nat.reduceLeDiff, Nat.reduceSub, Int.reduceNeg, ↓reduceIte, Int.reduceLT, Int.reduceLE, Int.reduceAdd, Int.reduceSub, Int.reduceBEq, reduceCtorEq, ne_eq, Nat.reduceBEq, ev_0, ev_1, ev_2, ev_3, ev_4, ↓ev_d, startD, isFz, isFzs, szOk, wipeD, putBack, fulls, frzs, full, frz, Row.fe, isFzs_ints]))
        · have := (split_last hw).2
          rw [sizeLine_eq]; omega
        · intro w hwm
          refine ⟨_, by ((first | refine wp_gen fun Q hQ => ?_ | skip); simp only [ev_e, List.reduceReplicate, Nat.reduceAdd, Nat.reduceLT, Nat.reduceLeDiff, Nat.reduceSub, Int.reduceNeg, ↓reduceIte, Int.reduceLT, Int.reduceLE, Int.reduceAdd, Int.reduceSub, Int.reduceBEq, reduceCtorEq, ne_eq, Nat.reduceBEq, ev_0, ev_1, ev_2, ev_3, ev_4, ↓ev_d, startD, isFz, isFzs, szOk, wipeD, putBack, fulls, frzs, full, frz, Row.fe, szOk]; (try subst hQ); (try simp only [ev_e, List.reduceReplicate, Nat.reduceAdd, Nat.reduceLT, Nat.reduceLeDiff, Nat.reduceSub, Int.reduceNeg, ↓reduceIte, Int.reduceLT, Int.reduceLE, Int.reduceAdd, Int.reduceSub, Int.reduceBEq, reduceCtorEq, ne_eq, Nat.reduceBEq, ev_0, ev_1, ev_2, ev_3, ev_4, ↓ev_d, startD, isFz, isFzs, szOk, wipeD, putBack, fulls, frzs, full, frz, Row.fe, szOk])); rfl, ?_⟩
          ((first | refine wp_gen fun Q hQ => ?_ | skip); simp only [ev_e, List.reduceReplicate, Nat.reduceAdd, Nat.reduceLT, Nat.reduceLeDiff, Nat.reduceSub, Int.reduceNeg, ↓reduceIte, Int.reduceLT, Int.reduceLE, Int.reduceAdd, Int.reduceSub, Int.reduceBEq, reduceCtorEq, ne_eq, Nat.reduceBEq, ev_0, ev_1, ev_2, ev_3, ev_4, ↓ev_d, startD, isFz, isFzs, szOk, wipeD, putBack, fulls, frzs, full, frz, Row.fe, szOk]; (try subst hQ); (try simp only [ev_e, List.reduceReplicate, Nat.reduceAdd, Nat.reduceLT, Nat.reduceLeDiff, Nat.reduceSub, Int.reduceNeg, ↓reduceIte, Int.reduceLT, Int.reduceLE, Int.reduceAdd, Int.reduceSub, Int.reduceBEq, reduceCtorEq, ne_eq, Nat.reduceBEq, ev_0, ev_1, ev_2, ev_3, ev_4, ↓ev_d, startD, isFz, isFzs, szOk, wipeD, putBack, fulls, frzs, full, frz, Row.fe, szOk]))
        · have e1 : ((fore ws).map fun w => D.int (-w)) = ((fore ws).map (- ·)).map .int := by rw [List.map_map]; rfl
          rw [e1]
          ((first | refine wp_gen fun Q hQ => ?_ | skip); simp only [ev_e, List.reduceReplicate, Nat.reduceAdd, Nat.reduceLT, Nat.reduceLeDiff, Nat.reduceSub, Int.reduceNeg, ↓reduceIte, Int.reduceLT, Int.reduceLE, Int.reduceAdd, Int.reduceSub, Int.reduceBEq, reduceCtorEq, ne_eq, Nat.reduceBEq, ev_0, ev_1, ev_2, ev_3, ev_4, ↓ev_d, startD, isFz, isFzs, szOk, wipeD, putBack, fulls, frzs, full, frz, Row.fe, m1, hn1, isFzs_ints]; (try subst hQ); (try simp only [ev_e, List.reduceReplicate, Nat.reduceAdd, Nat.reduceLT, Nat.reduceLeDiff, Nat.reduceSub, Int.reduceNeg, ↓reduceIte, Int.reduceLT, Int.reduceLE, Int.reduceAdd, Int.reduceSub, Int.reduceBEq, reduceCtorEq, ne_eq, Nat.reduceBEq, ev_0, ev_1, ev_2, ev_3, ev_4, ↓ev_d, startD, isFz, isFzs, szOk, wipeD, putBack, fulls, frzs, full, frz, Row.fe, m1, hn1, isFzs_ints]))
          (rw [wp_cons]; refine wp_gen fun Q hQ => ?_; simp only [ev_e, List.reduceReplicate, Nat.reduceAdd, Nat.reduceLT, Nat.reduceLeDiff, Nat.reduceSub, Int.reduceNeg, ↓reduceIte, Int.reduceLT, Int.reduceLE, Int.reduceAdd, Int.reduceSub, Int.reduceBEq, reduceCtorEq, ne_eq, Nat.reduceBEq, ev_0, ev_1, ev_2, ev_3, ev_4, ↓ev_d, startD, isFz, isFzs, szOk, wipeD, putBack, fulls, frzs, full, frz, Row.fe, full_dPut, frz_dPut, fz_dPut, nfz_dPut, nud_dPut, isU_dPut, nud_dS, isU_dS, fz_dS, full_dS, frz_dS, hlen]; (try subst hQ); (try simp only [ev_e, List.reduceReplicate, Nat.reduceAdd, Nat.reduceLT, Nat.reduceLeDiff, Nat.reduceSub, Int.reduceNeg, ↓reduceIte, Int.reduceLT, Int.reduceLE, Int.reduceAdd, Int.reduceSub, Int.reduceBEq, reduceCtorEq, ne_eq, Nat.reduceBEq, ev_0, ev_1, ev_2, ev_3, ev_4, ↓ev_d, startD, isFz, isFzs, szOk, wipeD, putBack, fulls, frzs, full, frz, Row.fe, full_dPut, frz_dPut, fz_dPut, nfz_dPut, nud_dPut, isU_dPut, nud_dS, isU_dS, fz_dS, full_dS, frz_dS, hlen]))
          refine ⟨false, .int x, dPut false (putOf ws c r x), ?_⟩
          rw [e0]
          simp [dPW]
      · have e0 : putOf ws c r x = ⟨fore ws, B * (x + 1) - c - r, B⟩ := by unfold putOf; rw [if_neg hp, hby]
        have hn1 := s_new k (fore ws) (B * (x + 1) - c - r) B
        have hp2 : decide (0 < last ws) = false := decide_eq_false hp
        (rw [wp_cons]; refine wp_gen fun Q hQ => ?_; simp only [ev_e, List.reduceReplicate, Nat.reduceAdd, Nat.reduceLT, Nat.reduceLeDiff, Nat.reduceSub, Int.reduceNeg, ↓reduceIte, Int.reduceLT, Int.reduceLE, Int.reduceAdd, Int.reduceSub, Int.reduceBEq, reduceCtorEq, ne_eq, Nat.reduceBEq, ev_0, ev_1, ev_2, ev_3, ev_4, ↓ev_d, startD, isFz, isFzs, szOk, wipeD, putBack, fulls, frzs, full, frz, Row.fe, hp2]; (try subst hQ); (try simp only [ev_e, List.reduceReplicate, Nat.reduceAdd, Nat.reduceLT, Nat.reduceLeDiff, Nat.reduceSub, Int.reduceNeg, ↓reduceIte, Int.reduceLT, Int.reduceLE, Int.reduceAdd, Int.reduceSub, Int.reduceBEq, reduceCtorEq, ne_eq, Nat.reduceBEq, ev_0, ev_1, ev_2, ev_3, ev_4, ↓ev_d, startD, isFz, isFzs, szOk, wipeD, putBack, fulls, frzs, full, frz, Row.fe, hp2]))
        (rw [wp_cons]; refine wp_gen fun Q hQ => ?_; simp only [ev_e, List.reduceReplicate, Nat.reduceAdd, Nat.reduceLT, Nat.reduceLeDiff, Nat.reduceSub, Int.reduceNeg, ↓reduceIte, Int.reduceLT, Int.reduceLE, Int.reduceAdd, Int.reduceSub, Int.reduceBEq, reduceCtorEq, ne_eq, Nat.reduceBEq, ev_0, ev_1, ev_2, ev_3, ev_4, ↓ev_d, startD, isFz, isFzs, szOk, wipeD, putBack, fulls, frzs, full, frz, Row.fe, isFzs_ints, m2, hn1]; (try subst hQ); (try simp only [ev_e, List.reduceReplicate, Nat.reduceAdd, Nat.reduceLT, Nat.reduceLeDiff, Nat.reduceSub, Int.reduceNeg, ↓reduceIte, Int.reduceLT, Int.reduceLE, Int.reduceAdd, Int.reduceSub, Int.reduceBEq, reduceCtorEq, ne_eq, Nat.reduceBEq, ev_0, ev_1, ev_2, ev_3, ev_4, ↓ev_d, startD, isFz, isFzs, szOk, wipeD, putBack, fulls, frzs, full, frz, Row.fe, isFzs_ints, m2, hn1]))
        (rw [wp_cons]; refine wp_gen fun Q hQ => ?_; simp only [ev_e, List.reduceReplicate, Nat.reduceAdd, Nat.reduceLT, Nat.reduceLeDiff, Nat.reduceSub, Int.reduceNeg, ↓reduceIte, Int.reduceLT, Int.reduceLE, Int.reduceAdd, Int.reduceSub, Int.reduceBEq, reduceCtorEq, ne_eq, Nat.reduceBEq, ev_0, ev_1, ev_2, ev_3, ev_4, ↓ev_d, startD, isFz, isFzs, szOk, wipeD, putBack, fulls, frzs, full, frz, Row.fe, full_dPut, frz_dPut, fz_dPut, nfz_dPut, nud_dPut, isU_dPut, nud_dS, isU_dS, fz_dS, full_dS, frz_dS, hlen]; (try subst hQ); (try simp only [ev_e, List.reduceReplicate, Nat.reduceAdd, Nat.reduceLT, Nat.reduceLeDiff, Nat.reduceSub, Int.reduceNeg, ↓reduceIte, Int.reduceLT, Int.reduceLE, Int.reduceAdd, Int.reduceSub, Int.reduceBEq, reduceCtorEq, ne_eq, Nat.reduceBEq, ev_0, ev_1, ev_2, ev_3, ev_4, ↓ev_d, startD, isFz, isFzs, szOk, wipeD, putBack, fulls, frzs, full, frz, Row.fe, full_dPut, frz_dPut, fz_dPut, nfz_dPut, nud_dPut, isU_dPut, nud_dS, isU_dS, fz_dS, full_dS, frz_dS, hlen]))
        refine ⟨o, .int x, dPut false (putOf ws c r x), ?_⟩
        rw [e0]
        simp [dPW]
    · rintro ρ ⟨o, z8, z9, rfl⟩
      rw [nx_nx, wp_nil, foldl_snoc]
      exact ⟨_, _, _, _, _, rfl⟩
  · rintro ρ ⟨o, z6, z7, z8, z9, rfl⟩
    rw [nx_nx, foldl_app, List.nil_append]
    repeat (rw [wp_cons]; refine wp_gen fun Q hQ => ?_; simp only [ev_e, List.reduceReplicate, Nat.reduceAdd, Nat.reduceLT, Nat.reduceLeDiff, Nat.reduceSub, Int.reduceNeg, ↓reduceIte, Int.reduceLT, Int.reduceLE, Int.reduceAdd, Int.reduceSub, Int.reduceBEq, reduceCtorEq, ne_eq, Nat.reduceBEq, ev_0, ev_1, ev_2, ev_3, ev_4, ↓ev_d, startD, isFz, isFzs, szOk, wipeD, putBack, fulls, frzs, full, frz, Row.fe, r_puts_at, putsAt, hby, dS]; (try subst hQ); (try simp only [ev_e, List.reduceReplicate, Nat.reduceAdd, Nat.reduceLT, Nat.reduceLeDiff, Nat.reduceSub, Int.reduceNeg, ↓reduceIte, Int.reduceLT, Int.reduceLE, Int.reduceAdd, Int.reduceSub, Int.reduceBEq, reduceCtorEq, ne_eq, Nat.reduceBEq, ev_0, ev_1, ev_2, ev_3, ev_4, ↓ev_d, startD, isFz, isFzs, szOk, wipeD, putBack, fulls, frzs, full, frz, Row.fe, r_puts_at, putsAt, hby, dS]))
theorem s_any_of (k : Nat) (l : List Sen) (hl : l ≠ []) (hz : l.length ≤ 1000000) : Wp (callN tab kn (k + 1) "any_of" [.lst true (l.map dS)]) (fun r => r = (dS (anyOf l), [.undef])) := by
  rw [call_code t_any_of]
  refine run_wp rfl ?_
  show Wp (evSs _ b_any_of (startD 4 [.lst true (l.map dS)])) _
  unfold b_any_of
  rw [wp_cons]
  refine wp_whl (fun (x : List Sen) ρ => (∃ z, ρ = [.lst true (x.map dS), z, .undef, .undef]) ∧ x ≠ [] ∧ x.length ≤ 1000000 ∧ anyOf x = anyOf l) List.length l rfl ⟨⟨_, rfl⟩, hl, hz, rfl⟩ ?_
  rintro x ρ ⟨⟨z, rfl⟩, hx, hzx, ha⟩
  by_cases h1 : 1 < x.length
  · have h2 : (1 : Int) < (x.length : Int) := by omega
    have e1 : flr (x.length : Int) 2 * 2 = ((x.length / 2 * 2 : Nat) : Int) := by rw [flr_pos (by decide)]; omega
    have m1 : mulOk (flr (x.length : Int) 2) 2 = true := mulOk_r (by decide)
    have d1 : dvOk 2 = true := by decide
    have c1 := cut_from (xs := x.map dS) (k := x.length / 2 * 2) (by rw [List.length_map]; omega)
    have p1 := pick_ev (x.map dS)
    have p2 := pick_od (x.map dS)
    rw [evens_map] at p1
    rw [odds_map] at p2
    have l1 := evens_len x
    have l2 := odds_len x
    ((first | refine wp_gen fun Q hQ => ?_ | skip); simp only [ev_e, List.reduceReplicate, Nat.reduceAdd, Nat.reduceLT, Nat.reduceLeDiff, Nat.reduceSub, Int.reduceNeg, ↓reduceIte, Int.reduceLT, Int.reduceLE, Int.reduceAdd, Int.reduceSub, Int.reduceBEq, reduceCtorEq, ne_eq, Nat.reduceBEq, ev_0, ev_1, ev_2, ev_3, ev_4, ↓ev_d, startD, isFz, isFzs, szOk, wipeD, putBack, fulls, frzs, full, frz, Row.fe, List.length_map, h2, decide_true]; (try subst hQ); (try simp only [ev_e, List.reduceReplicate, Nat.reduceAdd, Nat.reduceLT, Nat.reduceLeDiff, Nat.reduceSub, Int.reduceNeg, ↓reduceIte, Int.reduceLT, Int.reduceLE, Int.reduceAdd, Int.reduceSub, Int.reduceBEq, reduceCtorEq, ne_eq, Nat.reduceBEq, ev_0, ev_1, ev_2, ev_3, ev_4, ↓ev_d, startD, isFz, isFzs, szOk, wipeD, putBack, fulls, frzs, full, frz, Row.fe, List.length_map, h2, decide_true]))
    (rw [wp_cons]; refine wp_gen fun Q hQ => ?_; simp only [ev_e, List.reduceReplicate, Nat.reduceAdd, Nat.reduceLT, Nat.reduceLeDiff, Nat.reduceSub, Int.reduceNeg, ↓reduceIte, Int.reduceLT, Int.reduceLE, Int.reduceAdd, Int.reduceSub, Int.reduceBEq, reduceCtorEq, ne_eq, Nat.reduceBEq, ev_0, ev_1, ev_2, ev_3, ev_4, ↓ev_d, startD, isFz, isFzs, szOk, wipeD, putBack, fulls, frzs, full, frz, Row.fe, m1, d1, e1, c1, fzs_dSs, List.length_map]; (try subst hQ); (try simp only [ev_e, List.reduceReplicate, Nat.reduceAdd, Nat.reduceLT, Nat.reduceLeDiff, Nat.reduceSub, Int.reduceNeg, ↓reduceIte, Int.reduceLT, Int.reduceLE, Int.reduceAdd, Int.reduceSub, Int.reduceBEq, reduceCtorEq, ne_eq, Nat.reduceBEq, ev_0, ev_1, ev_2, ev_3, ev_4, ↓ev_d, startD, isFz, isFzs, szOk, wipeD, putBack, fulls, frzs, full, frz, Row.fe, m1, d1, e1, c1, fzs_dSs, List.length_map]))
    rw [wp_cons]
    ((first | refine wp_gen fun Q hQ => ?_ | skip); simp only [ev_e, List.reduceReplicate, Nat.reduceAdd, Nat.reduceLT, Nat.reduceLeDiff, Nat.reduceSub, Int.reduceNeg, ↓reduceIte, Int.reduceLT, Int.reduceLE, Int.reduceAdd, Int.reduceSub, Int.reduceBEq, reduceCtorEq, ne_eq, Nat.reduceBEq, ev_0, ev_1, ev_2, ev_3, ev_4, ↓ev_d, startD, isFz, isFzs, szOk, wipeD, putBack, fulls, frzs, full, frz, Row.fe, szOk]; (try subst hQ); (try simp only [ev_e, List.reduceReplicate, Nat.reduceAdd, Nat.reduceLT, Nat.reduceLeDiff, Nat.reduceSub, Int.reduceNeg, ↓reduceIte, Int.reduceLT, Int.reduceLE, Int.reduceAdd, Int.reduceSub, Int.reduceBEq, reduceCtorEq, ne_eq, Nat.reduceBEq, ev_0, ev_1, ev_2, ev_3, ev_4, ↓ev_d, startD, isFz, isFzs, szOk, wipeD, putBack, fulls, frzs, full, frz, Row.fe, szOk]))
    refine wp_lcM ((evens x).zip (odds x)) (fun p => .tup [dS p.1, dS p.2]) (fun p => dS (.or p.1 p.2)) [.lst true (x.map dS), .lst true ((x.map dS).drop (x.length / 2 * 2)), .undef, .undef] ?_ ?_ ?_ ?_
    · have q1 : decide ((x.length + 1) / 2 ≤ x.length) = true := decide_eq_true (by omega)
      have q2 : decide (x.length / 2 ≤ x.length) = true := decide_eq_true (by omega)
      ((first | refine wp_gen fun Q hQ => ?_ | skip); simp only [ev_e, List.reduceReplicate, Nat.reduceAdd, Nat.reduceLT, Nat.reduceLeDiff, Nat.reduceSub, Int.reduceNeg, ↓reduceIte, Int.reduceLT, Int.reduceLE, Int.reduceAdd, Int.reduceSub, Int.reduceBEq, reduceCtorEq, ne_eq, Nat.reduceBEq, ev_0, ev_1, ev_2, ev_3, ev_4, ↓ev_d, startD, isFz, isFzs, szOk, wipeD, putBack, fulls, frzs, full, frz, Row.fe, p1, p2, fzs_dSs, List.length_map, l1, l2, q1, q2, fulls_dSs, frzs_dSs, zip_dS]; (try subst hQ); (try simp only [ev_e, List.reduceReplicate, Nat.reduceAdd, Nat.reduceLT, Nat.reduceLeDiff, Nat.reduceSub, Int.reduceNeg, ↓reduceIte, Int.reduceLT, Int.reduceLE, Int.reduceAdd, Int.reduceSub, Int.reduceBEq, reduceCtorEq, ne_eq, Nat.reduceBEq, ev_0, ev_1, ev_2, ev_3, ev_4, ↓ev_d, startD, isFz, isFzs, szOk, wipeD, putBack, fulls, frzs, full, frz, Row.fe, p1, p2, fzs_dSs, List.length_map, l1, l2, q1, q2, fulls_dSs, frzs_dSs, zip_dS]))
    · rw [List.length_zip, l1, l2, sizeLine_eq]; omega
    · rintro ⟨a, b⟩ hp
      refine ⟨_, by ((first | refine wp_gen fun Q hQ => ?_ | skip); simp only [ev_e, List.reduceReplicate, Nat.reduceAdd, Nat.reduceLT, Nat.reduceLeDiff, Nat.reduceSub, Int.reduceNeg, ↓reduceIte, Int.reduceLT, Int.reduceLE, Int.reduceAdd, Int.reduceSub, Int.reduceBEq, reduceCtorEq, ne_eq, Nat.reduceBEq, ev_0, ev_1, ev_2, ev_3, ev_4, ↓ev_d, startD, isFz, isFzs, szOk, wipeD, putBack, fulls, frzs, full, frz, Row.fe, fz_dS]; (try subst hQ); (try simp only [ev_e, List.reduceReplicate, Nat.reduceAdd, Nat.reduceLT, Nat.reduceLeDiff, Nat.reduceSub, Int.reduceNeg, ↓reduceIte, Int.reduceLT, Int.reduceLE, Int.reduceAdd, Int.reduceSub, Int.reduceBEq, reduceCtorEq, ne_eq, Nat.reduceBEq, ev_0, ev_1, ev_2, ev_3, ev_4, ↓ev_d, startD, isFz, isFzs, szOk, wipeD, putBack, fulls, frzs, full, frz, Row.fe, fz_dS])); rfl, ?_⟩
      ((first | refine wp_gen fun Q hQ => ?_ | skip); simp only [ev_e, List.reduceReplicate, Nat.reduceAdd, Nat.reduceLT, Nat.reduceLeDiff, Nat.reduceSub, Int.reduceNeg, ↓reduceIte, Int.reduceLT, Int.reduceLE, Int.reduceAdd, Int.reduceSub, Int.reduceBEq, reduceCtorEq, ne_eq, Nat.reduceBEq, ev_0, ev_1, ev_2, ev_3, ev_4, ↓ev_d, startD, isFz, isFzs, szOk, wipeD, putBack, fulls, frzs, full, frz, Row.fe, nud_dS, isU_dS, fz_dS, full_dS, frz_dS, dS]; (try subst hQ); (try simp only [ev_e, List.reduceReplicate, Nat.reduceAdd, Nat.reduceLT, Nat.reduceLeDiff, Nat.reduceSub, Int.reduceNeg, ↓reduceIte, Int.reduceLT, Int.reduceLE, Int.reduceAdd, Int.reduceSub, Int.reduceBEq, reduceCtorEq, ne_eq, Nat.reduceBEq, ev_0, ev_1, ev_2, ev_3, ev_4, ↓ev_d, startD, isFz, isFzs, szOk, wipeD, putBack, fulls, frzs, full, frz, Row.fe, nud_dS, isU_dS, fz_dS, full_dS, frz_dS, dS]))
    · have e2 : ((evens x).zip (odds x)).map (fun p => dS (.or p.1 p.2)) = (((evens x).zip (odds x)).map fun p => Sen.or p.1 p.2).map dS := by rw [List.map_map]; rfl
      have e3 : (x.map dS).drop (x.length / 2 * 2) = (x.drop (x.length / 2 * 2)).map dS := by rw [List.map_drop]
      have e4 := pair_eq x
      have e5 : (List.map dS (((evens x).zip (odds x)).map fun p => Sen.or p.1 p.2)) ++ (x.drop (x.length / 2 * 2)).map dS = (pairUp x).map dS := by rw [← List.map_append, e4]
      have e6 := pairUp_len x
      have q3 : decide (((evens x).zip (odds x)).length + (x.drop (x.length / 2 * 2)).length ≤ 16777216) = true := decide_eq_true (by
        rw [List.length_zip, l1, l2, List.length_drop]; omega)
      rw [e2, e3]
      ((first | refine wp_gen fun Q hQ => ?_ | skip); simp only [ev_e, List.reduceReplicate, Nat.reduceAdd, Nat.reduceLT, Nat.reduceLeDiff, Nat.reduceSub, Int.reduceNeg, ↓reduceIte, Int.reduceLT, Int.reduceLE, Int.reduceAdd, Int.reduceSub, Int.reduceBEq, reduceCtorEq, ne_eq, Nat.reduceBEq, ev_0, ev_1, ev_2, ev_3, ev_4, ↓ev_d, startD, isFz, isFzs, szOk, wipeD, putBack, fulls, frzs, full, frz, Row.fe, e5, fzs_dSs, q3]; (try subst hQ); (try simp only [ev_e, List.reduceReplicate, Nat.reduceAdd, Nat.reduceLT, Nat.reduceLeDiff, Nat.reduceSub, Int.reduceNeg, ↓reduceIte, Int.reduceLT, Int.reduceLE, Int.reduceAdd, Int.reduceSub, Int.reduceBEq, reduceCtorEq, ne_eq, Nat.reduceBEq, ev_0, ev_1, ev_2, ev_3, ev_4, ↓ev_d, startD, isFz, isFzs, szOk, wipeD, putBack, fulls, frzs, full, frz, Row.fe, e5, fzs_dSs, q3]))
      refine ⟨pairUp x, ⟨⟨_, rfl⟩, ?_, by omega, ?_⟩, by omega⟩
      · intro e
        rw [e] at e6
        simp at e6
        omega
      · rw [← ha]
        conv => rhs; unfold anyOf
        rw [dif_pos h1]
  · have h2 : decide ((1 : Int) < (x.length : Int)) = false := decide_eq_false (by omega)
    ((first | refine wp_gen fun Q hQ => ?_ | skip); simp only [ev_e, List.reduceReplicate, Nat.reduceAdd, Nat.reduceLT, Nat.reduceLeDiff, Nat.reduceSub, Int.reduceNeg, ↓reduceIte, Int.reduceLT, Int.reduceLE, Int.reduceAdd, Int.reduceSub, Int.reduceBEq, reduceCtorEq, ne_eq, Nat.reduceBEq, ev_0, ev_1, ev_2, ev_3, ev_4, ↓ev_d, startD, isFz, isFzs, szOk, wipeD, putBack, fulls, frzs, full, frz, Row.fe, h2]; (try subst hQ); (try simp only [ev_e, List.reduceReplicate, Nat.reduceAdd, Nat.reduceLT, Nat.reduceLeDiff, Nat.reduceSub, Int.reduceNeg, ↓reduceIte, Int.reduceLT, Int.reduceLE, Int.reduceAdd, Int.reduceSub, Int.reduceBEq, reduceCtorEq, ne_eq, Nat.reduceBEq, ev_0, ev_1, ev_2, ev_3, ev_4, ↓ev_d, startD, isFz, isFzs, szOk, wipeD, putBack, fulls, frzs, full, frz, Row.fe, h2]))
    cases x with
    | nil => exact absurd rfl hx
    | cons a x =>
      cases x with
      | cons b x => simp at h1
      | nil =>
        have e : anyOf [a] = a := by unfold anyOf; simp
        repeat (rw [wp_cons]; refine wp_gen fun Q hQ => ?_; simp only [ev_e, List.reduceReplicate, Nat.reduceAdd, Nat.reduceLT, Nat.reduceLeDiff, Nat.reduceSub, Int.reduceNeg, ↓reduceIte, Int.reduceLT, Int.reduceLE, Int.reduceAdd, Int.reduceSub, Int.reduceBEq, reduceCtorEq, ne_eq, Nat.reduceBEq, ev_0, ev_1, ev_2, ev_3, ev_4, ↓ev_d, startD, isFz, isFzs, szOk, wipeD, putBack, fulls, frzs, full, frz, Row.fe, fz_dS, nud_dS, r_any_of]; (try subst hQ); (try simp only [ev_e, List.reduceReplicate, Nat.reduceAdd, Nat.reduceLT, Nat.reduceLeDiff, Nat.reduceSub, Int.reduceNeg, ↓reduceIte, Int.reduceLT, Int.reduceLE, Int.reduceAdd, Int.reduceSub, Int.reduceBEq, reduceCtorEq, ne_eq, Nat.reduceBEq, ev_0, ev_1, ev_2, ev_3, ev_4, ↓ev_d, startD, isFz, isFzs, szOk, wipeD, putBack, fulls, frzs, full, frz, Row.fe, fz_dS, nud_dS, r_any_of]))
        rw [← ha, e]
theorem fit_of {n : Nat} : ∀ s : Sen, (∀ a ∈ atoms s, AtomWf (n + 1) a) → (∀ a ∈ atoms s, Sm (lastOf a)) → Fit n s
  | .least ws c, h, g => ⟨h _ (List.mem_singleton.mpr rfl), g _ (List.mem_singleton.mpr rfl)⟩
  | .rest ws m r, h, g => ⟨(h _ (List.mem_singleton.mpr rfl)).1, g _ (List.mem_singleton.mpr rfl), (h _ (List.mem_singleton.mpr rfl)).2.1⟩
  | .neg s, h, g => fit_of s h g
  | .and a b, h, g => ⟨fit_of a (fun x hx => h x (List.mem_append_left _ hx)) fun x hx => g x (List.mem_append_left _ hx), fit_of b (fun x hx => h x (List.mem_append_right _ hx)) fun x hx => g x (List.mem_append_right _ hx)⟩
  | .or a b, h, g => ⟨fit_of a (fun x hx => h x (List.mem_append_left _ hx)) fun x hx => g x (List.mem_append_left _ hx), fit_of b (fun x hx => h x (List.mem_append_right _ hx)) fun x hx => g x (List.mem_append_right _ hx)⟩
theorem puts_mem {n : Nat} {W c : Int} {ws : List Int} {q : Put × Sen} (hw : ws.length = n + 1) (hl : last ws ≠ 0) (h : q ∈ putsAt W (.least ws c)) : q.1.sl.length = n ∧ q.1.by_ = aby ws := by
  obtain ⟨r, hr, h⟩ := List.mem_flatMap.mp h
  obtain ⟨j, hj, rfl⟩ := List.mem_map.mp h
  exact putOf_ok hw hl
/-- bounds by which plainly_some runs -/
structure Ok (n B : Nat) (s : Sen) : Prop where
  w : Wf (n + 1) s
  n1 : 1 ≤ n
  n2 : n ≤ 1000
  b : B ≤ 1000
  at_ : (atoms s).length ≤ 1000
  lp : ∀ a ∈ atoms s, (lastOf a).natAbs ≤ B ∧ partOf a < 4611686018427387904
  wh : (wheel s).toNat * (1 + 1000 * B) ≤ 1000000
theorem s_plainly_some (k n B : Nat) (s : Sen) (h : Ok n B s) (hd : dep s ≤ k + 1) : Wp (callN tab kn (k + 4) "plainly_some" [dS s]) (fun r => r = (dS (plainlySome n s), [dS s])) := by
  obtain ⟨w, n1, n2, hB, hat, hlp, hwh⟩ := h
  have hW0 := (wheel_ok w).1
  have hWB : (wheel s).toNat ≤ 1000000 := Nat.le_trans (Nat.le_mul_of_pos_right _ (by omega)) hwh
  have hwa := wf_atoms s w
  have hfit : Fit n s := fit_of s hwa fun a ha => by have := (hlp a ha).1; constructor <;> omega
  rw [call_code t_plainly_some]
  refine run_wp rfl ?_
  show Wp (evSs _ b_plainly_some (startD 8 [dS s])) _
  unfold b_plainly_some
  have hbr := s_breaking s n (k + 1) w (by omega) (by omega)
  have r2 := itRng_small (lo := 0) (hi := wheel s) (by decide) (by decide) (by omega) (by omega)
  rw [wp_cons]
  ((first | refine wp_gen fun Q hQ => ?_ | skip); simp only [ev_e, List.reduceReplicate, Nat.reduceAdd, Nat.reduceLT, Nat.reduceLeDiff, Nat.reduceSub, Int.reduceNeg, ↓reduceIte, Int.reduceLT, Int.reduceLE, Int.reduceAdd, Int.reduceSub, Int.reduceBEq, reduceCtorEq, ne_eq, Nat.reduceBEq, ev_0, ev_1, ev_2, ev_3, ev_4, ↓ev_d, startD, isFz, isFzs, szOk, wipeD, putBack, fulls, frzs, full, frz, Row.fe, nud_dS, isU_dS, fz_dS]; (try subst hQ); (try simp only [ev_e, List.reduceReplicate, Nat.reduceAdd, Nat.reduceLT, Nat.reduceLeDiff, Nat.reduceSub, Int.reduceNeg, ↓reduceIte, Int.reduceLT, Int.reduceLE, Int.reduceAdd, Int.reduceSub, Int.reduceBEq, reduceCtorEq, ne_eq, Nat.reduceBEq, ev_0, ev_1, ev_2, ev_3, ev_4, ↓ev_d, startD, isFz, isFzs, szOk, wipeD, putBack, fulls, frzs, full, frz, Row.fe, nud_dS, isU_dS, fz_dS]))
  refine (s_wheel_of s n (k + 1) w (by omega) (by omega) (fun a ha => (hlp a ha).2) (by omega)).mono ?_
  rintro _ rfl
  ((first | refine wp_gen fun Q hQ => ?_ | skip); simp only [ev_e, List.reduceReplicate, Nat.reduceAdd, Nat.reduceLT, Nat.reduceLeDiff, Nat.reduceSub, Int.reduceNeg, ↓reduceIte, Int.reduceLT, Int.reduceLE, Int.reduceAdd, Int.reduceSub, Int.reduceBEq, reduceCtorEq, ne_eq, Nat.reduceBEq, ev_0, ev_1, ev_2, ev_3, ev_4, ↓ev_d, startD, isFz, isFzs, szOk, wipeD, putBack, fulls, frzs, full, frz, Row.fe, nud_dS, isU_dS, fz_dS]; (try subst hQ); (try simp only [ev_e, List.reduceReplicate, Nat.reduceAdd, Nat.reduceLT, Nat.reduceLeDiff, Nat.reduceSub, Int.reduceNeg, ↓reduceIte, Int.reduceLT, Int.reduceLE, Int.reduceAdd, Int.reduceSub, Int.reduceBEq, reduceCtorEq, ne_eq, Nat.reduceBEq, ev_0, ev_1, ev_2, ev_3, ev_4, ↓ev_d, startD, isFz, isFzs, szOk, wipeD, putBack, fulls, frzs, full, frz, Row.fe, nud_dS, isU_dS, fz_dS]))
  rw [wp_cons]
  ((first | refine wp_gen fun Q hQ => ?_ | skip); simp only [ev_e, List.reduceReplicate, Nat.reduceAdd, Nat.reduceLT, Nat.reduceLeDiff, Nat.reduceSub, Int.reduceNeg, ↓reduceIte, Int.reduceLT, Int.reduceLE, Int.reduceAdd, Int.reduceSub, Int.reduceBEq, reduceCtorEq, ne_eq, Nat.reduceBEq, ev_0, ev_1, ev_2, ev_3, ev_4, ↓ev_d, startD, isFz, isFzs, szOk, wipeD, putBack, fulls, frzs, full, frz, Row.fe, nud_dS, isU_dS, fz_dS]; (try subst hQ); (try simp only [ev_e, List.reduceReplicate, Nat.reduceAdd, Nat.reduceLT, Nat.reduceLeDiff, Nat.reduceSub, Int.reduceNeg, ↓reduceIte, Int.reduceLT, Int.reduceLE, Int.reduceAdd, Int.reduceSub, Int.reduceBEq, reduceCtorEq, ne_eq, Nat.reduceBEq, ev_0, ev_1, ev_2, ev_3, ev_4, ↓ev_d, startD, isFz, isFzs, szOk, wipeD, putBack, fulls, frzs, full, frz, Row.fe, nud_dS, isU_dS, fz_dS]))
  refine (s_many_of (k + 2) (n + 1) s w).mono ?_
  rintro _ rfl
  have en : ((n + 1 : Nat) : Int) - 1 = (n : Int) := by omega
  have hrep := b_rep0 n1 n2
  ((first | refine wp_gen fun Q hQ => ?_ | skip); simp only [ev_e, List.reduceReplicate, Nat.reduceAdd, Nat.reduceLT, Nat.reduceLeDiff, Nat.reduceSub, Int.reduceNeg, ↓reduceIte, Int.reduceLT, Int.reduceLE, Int.reduceAdd, Int.reduceSub, Int.reduceBEq, reduceCtorEq, ne_eq, Nat.reduceBEq, ev_0, ev_1, ev_2, ev_3, ev_4, ↓ev_d, startD, isFz, isFzs, szOk, wipeD, putBack, fulls, frzs, full, frz, Row.fe, nud_dS, isU_dS, fz_dS, en, hrep]; (try subst hQ); (try simp only [ev_e, List.reduceReplicate, Nat.reduceAdd, Nat.reduceLT, Nat.reduceLeDiff, Nat.reduceSub, Int.reduceNeg, ↓reduceIte, Int.reduceLT, Int.reduceLE, Int.reduceAdd, Int.reduceSub, Int.reduceBEq, reduceCtorEq, ne_eq, Nat.reduceBEq, ev_0, ev_1, ev_2, ev_3, ev_4, ↓ev_d, startD, isFz, isFzs, szOk, wipeD, putBack, fulls, frzs, full, frz, Row.fe, nud_dS, isU_dS, fz_dS, en, hrep]))
  rw [wp_cons]
  ((first | refine wp_gen fun Q hQ => ?_ | skip); simp only [ev_e, List.reduceReplicate, Nat.reduceAdd, Nat.reduceLT, Nat.reduceLeDiff, Nat.reduceSub, Int.reduceNeg, ↓reduceIte, Int.reduceLT, Int.reduceLE, Int.reduceAdd, Int.reduceSub, Int.reduceBEq, reduceCtorEq, ne_eq, Nat.reduceBEq, ev_0, ev_1, ev_2, ev_3, ev_4, ↓ev_d, startD, isFz, isFzs, szOk, wipeD, putBack, fulls, frzs, full, frz, Row.fe, nud_dS, isU_dS, fz_dS]; (try subst hQ); (try simp only [ev_e, List.reduceReplicate, Nat.reduceAdd, Nat.reduceLT, Nat.reduceLeDiff, Nat.reduceSub, Int.reduceNeg, ↓reduceIte, Int.reduceLT, Int.reduceLE, Int.reduceAdd, Int.reduceSub, Int.reduceBEq, reduceCtorEq, ne_eq, Nat.reduceBEq, ev_0, ev_1, ev_2, ev_3, ev_4, ↓ev_d, startD, isFz, isFzs, szOk, wipeD, putBack, fulls, frzs, full, frz, Row.fe, nud_dS, isU_dS, fz_dS]))
  refine wp_lcM (rng (wheel s)) .int (fun j => dS (into ⟨List.replicate n 0, j, 1⟩ s)) [dS s, .int (wheel s), .tup ((List.replicate n (0 : Int)).map .int), .undef, .undef, .undef, .undef, .undef] ?_ ?_ ?_ ?_
  · ((first | refine wp_gen fun Q hQ => ?_ | skip); simp only [ev_e, List.reduceReplicate, Nat.reduceAdd, Nat.reduceLT, Nat.reduceLeDiff, Nat.reduceSub, Int.reduceNeg, ↓reduceIte, Int.reduceLT, Int.reduceLE, Int.reduceAdd, Int.reduceSub, Int.reduceBEq, reduceCtorEq, ne_eq, Nat.reduceBEq, ev_0, ev_1, ev_2, ev_3, ev_4, ↓ev_d, startD, isFz, isFzs, szOk, wipeD, putBack, fulls, frzs, full, frz, Row.fe, r2, rangeD_rng]; (try subst hQ); (try simp only [ev_e, List.reduceReplicate, Nat.reduceAdd, Nat.reduceLT, Nat.reduceLeDiff, Nat.reduceSub, Int.reduceNeg, ↓reduceIte, Int.reduceLT, Int.reduceLE, Int.reduceAdd, Int.reduceSub, Int.reduceBEq, reduceCtorEq, ne_eq, Nat.reduceBEq, ev_0, ev_1, ev_2, ev_3, ev_4, ↓ev_d, startD, isFz, isFzs, szOk, wipeD, putBack, fulls, frzs, full, frz, Row.fe, r2, rangeD_rng]))
  · rw [rng_len, sizeLine_eq]; omega
  · intro j hj
    refine ⟨_, by ((first | refine wp_gen fun Q hQ => ?_ | skip); simp only [ev_e, List.reduceReplicate, Nat.reduceAdd, Nat.reduceLT, Nat.reduceLeDiff, Nat.reduceSub, Int.reduceNeg, ↓reduceIte, Int.reduceLT, Int.reduceLE, Int.reduceAdd, Int.reduceSub, Int.reduceBEq, reduceCtorEq, ne_eq, Nat.reduceBEq, ev_0, ev_1, ev_2, ev_3, ev_4, ↓ev_d, startD, isFz, isFzs, szOk, wipeD, putBack, fulls, frzs, full, frz, Row.fe, szOk]; (try subst hQ); (try simp only [ev_e, List.reduceReplicate, Nat.reduceAdd, Nat.reduceLT, Nat.reduceLeDiff, Nat.reduceSub, Int.reduceNeg, ↓reduceIte, Int.reduceLT, Int.reduceLE, Int.reduceAdd, Int.reduceSub, Int.reduceBEq, reduceCtorEq, ne_eq, Nat.reduceBEq, ev_0, ev_1, ev_2, ev_3, ev_4, ↓ev_d, startD, isFz, isFzs, szOk, wipeD, putBack, fulls, frzs, full, frz, Row.fe, szOk])); rfl, ?_⟩
    have hi := s_into true ⟨List.replicate n 0, j, 1⟩ n (by simp) n2 (show Sm 1 from ⟨by decide, by decide⟩) (show (0 : Int) < 1 by decide) s (k + 3) hfit (by omega)
    have hn1 := s_new (k + 1) (List.replicate n 0) j 1
    ((first | refine wp_gen fun Q hQ => ?_ | skip); simp only [ev_e, List.reduceReplicate, Nat.reduceAdd, Nat.reduceLT, Nat.reduceLeDiff, Nat.reduceSub, Int.reduceNeg, ↓reduceIte, Int.reduceLT, Int.reduceLE, Int.reduceAdd, Int.reduceSub, Int.reduceBEq, reduceCtorEq, ne_eq, Nat.reduceBEq, ev_0, ev_1, ev_2, ev_3, ev_4, ↓ev_d, startD, isFz, isFzs, szOk, wipeD, putBack, fulls, frzs, full, frz, Row.fe, hn1, hi, nfz_dPut, nud_dPut, isU_dPut, nud_dS, isU_dS, fz_dS, cl_in, ml_in]; (try subst hQ); (try simp only [ev_e, List.reduceReplicate, Nat.reduceAdd, Nat.reduceLT, Nat.reduceLeDiff, Nat.reduceSub, Int.reduceNeg, ↓reduceIte, Int.reduceLT, Int.reduceLE, Int.reduceAdd, Int.reduceSub, Int.reduceBEq, reduceCtorEq, ne_eq, Nat.reduceBEq, ev_0, ev_1, ev_2, ev_3, ev_4, ↓ev_d, startD, isFz, isFzs, szOk, wipeD, putBack, fulls, frzs, full, frz, Row.fe, hn1, hi, nfz_dPut, nud_dPut, isU_dPut, nud_dS, isU_dS, fz_dS, cl_in, ml_in]))
  have e1 : ((rng (wheel s)).map fun j => dS (into ⟨List.replicate n 0, j, 1⟩ s)) = ((rng (wheel s)).map fun j => into ⟨List.replicate n 0, j, 1⟩ s).map dS := by rw [List.map_map]; rfl
  rw [e1]
  ((first | refine wp_gen fun Q hQ => ?_ | skip); simp only [ev_e, List.reduceReplicate, Nat.reduceAdd, Nat.reduceLT, Nat.reduceLeDiff, Nat.reduceSub, Int.reduceNeg, ↓reduceIte, Int.reduceLT, Int.reduceLE, Int.reduceAdd, Int.reduceSub, Int.reduceBEq, reduceCtorEq, ne_eq, Nat.reduceBEq, ev_0, ev_1, ev_2, ev_3, ev_4, ↓ev_d, startD, isFz, isFzs, szOk, wipeD, putBack, fulls, frzs, full, frz, Row.fe, szOk]; (try subst hQ); (try simp only [ev_e, List.reduceReplicate, Nat.reduceAdd, Nat.reduceLT, Nat.reduceLeDiff, Nat.reduceSub, Int.reduceNeg, ↓reduceIte, Int.reduceLT, Int.reduceLE, Int.reduceAdd, Int.reduceSub, Int.reduceBEq, reduceCtorEq, ne_eq, Nat.reduceBEq, ev_0, ev_1, ev_2, ev_3, ev_4, ↓ev_d, startD, isFz, isFzs, szOk, wipeD, putBack, fulls, frzs, full, frz, Row.fe, szOk]))
  rw [wp_cons]
  have hfl : ∀ a ∈ breaking s, (foundA (wheel s) s a).length ≤ B * (wheel s).toNat := fun a ha => by
    obtain ⟨h1, h2⟩ := List.mem_filter.mp ha
    unfold foundA
    rw [List.length_map]
    cases a with
    | least ws c =>
      unfold putsAt
      rw [flat_len (W := (wheel s).toNat) (fun r => by rw [List.length_map, rng_len]), rng_len]
      have hq := (hlp _ h1).1
      have : (aby ws).toNat ≤ B := by
        have hq : (last ws).natAbs ≤ B := hq
        unfold aby; split <;> omega
      exact Nat.mul_le_mul_right _ this
    | rest _ _ _ => cases h2
    | neg _ => cases h2
    | and _ _ => cases h2
    | or _ _ => cases h2
  have hbl : (breaking s).length ≤ 1000 := Nat.le_trans (List.length_filter_le ..) hat
  have hpre : ∀ i, ((breaking s).take i).foldl (fun acc a => acc ++ foundA (wheel s) s a) ((rng (wheel s)).map fun j => into ⟨List.replicate n 0, j, 1⟩ s) = ((rng (wheel s)).map fun j => into ⟨List.replicate n 0, j, 1⟩ s) ++ ((breaking s).take i).flatMap (foundA (wheel s) s) := fun i => foldl_app _ _ _
  have hlen : ∀ l : List Sen, (∀ a ∈ l, a ∈ breaking s) → (l.flatMap (foundA (wheel s) s)).length ≤ l.length * (B * (wheel s).toNat) := by
    intro l hl
    induction l with
    | nil => simp
    | cons a l ih =>
      rw [List.flatMap_cons, List.length_append, List.length_cons, Nat.add_mul]
      have h1 := hfl a (hl a List.mem_cons_self)
      have h2 := ih fun x hx => hl x (List.mem_cons_of_mem _ hx)
      omega
  have hbound : (wheel s).toNat + 1000 * (B * (wheel s).toNat) ≤ 1000000 := by
    have : (wheel s).toNat * (1 + 1000 * B) = (wheel s).toNat + 1000 * (B * (wheel s).toNat) := by
      rw [Nat.mul_add, Nat.mul_one, Nat.mul_comm B, Nat.mul_left_comm]
    omega
  refine wp_forF (breaking s) dS (fun acc a => acc ++ foundA (wheel s) s a)
    (fun acc ρ => ∃ z4 z5 z6, ρ = [dS s, .int (wheel s), .tup ((List.replicate n (0 : Int)).map .int), .lst true (acc.map dS), z4, z5, z6, .undef]) ((rng (wheel s)).map fun j => into ⟨List.replicate n 0, j, 1⟩ s)
    [dS s, .int (wheel s), .tup ((List.replicate n (0 : Int)).map .int), .lst true (((rng (wheel s)).map fun j => into ⟨List.replicate n 0, j, 1⟩ s).map dS), .undef, .undef, .undef, .undef] ?_ ⟨_, _, _, rfl⟩ ?_ ?_
  · ((first | refine wp_gen fun Q hQ => ?_ | skip); simp only [ev_e, List.reduceReplicate, Nat.reduceAdd, Nat.reduceLT, Nat.reduceLeDiff, Nat.reduceSub, Int.reduceNeg, ↓reduceIte, Int.reduceLT, Int.reduceLE, Int.reduceAdd, Int.reduceSub, Int.reduceBEq, reduceCtorEq, ne_eq, Nat.reduceBEq, ev_0, ev_1, ev_2, ev_3, ev_4, ↓ev_d, startD, isFz, isFzs, szOk, wipeD, putBack, fulls, frzs, full, frz, Row.fe, nud_dS, isU_dS, fz_dS, hbr, fulls_dSs, frzs_dSs]; (try subst hQ); (try simp only [ev_e, List.reduceReplicate, Nat.reduceAdd, Nat.reduceLT, Nat.reduceLeDiff, Nat.reduceSub, Int.reduceNeg, ↓reduceIte, Int.reduceLT, Int.reduceLE, Int.reduceAdd, Int.reduceSub, Int.reduceBEq, reduceCtorEq, ne_eq, Nat.reduceBEq, ev_0, ev_1, ev_2, ev_3, ev_4, ↓ev_d, startD, isFz, isFzs, szOk, wipeD, putBack, fulls, frzs, full, frz, Row.fe, nud_dS, isU_dS, fz_dS, hbr, fulls_dSs, frzs_dSs]))
  · rintro i a hi ρ ⟨z4, z5, z6, rfl⟩
    refine ⟨_, by ((first | refine wp_gen fun Q hQ => ?_ | skip); simp only [ev_e, List.reduceReplicate, Nat.reduceAdd, Nat.reduceLT, Nat.reduceLeDiff, Nat.reduceSub, Int.reduceNeg, ↓reduceIte, Int.reduceLT, Int.reduceLE, Int.reduceAdd, Int.reduceSub, Int.reduceBEq, reduceCtorEq, ne_eq, Nat.reduceBEq, ev_0, ev_1, ev_2, ev_3, ev_4, ↓ev_d, startD, isFz, isFzs, szOk, wipeD, putBack, fulls, frzs, full, frz, Row.fe, szOk]; (try subst hQ); (try simp only [ev_e, List.reduceReplicate, Nat.reduceAdd, Nat.reduceLT, Nat.reduceLeDiff, Nat.reduceSub, Int.reduceNeg, ↓reduceIte, Int.reduceLT, Int.reduceLE, Int.reduceAdd, Int.reduceSub, Int.reduceBEq, reduceCtorEq, ne_eq, Nat.reduceBEq, ev_0, ev_1, ev_2, ev_3, ev_4, ↓ev_d, startD, isFz, isFzs, szOk, wipeD, putBack, fulls, frzs, full, frz, Row.fe, szOk])); rfl, ?_⟩
    have ham := List.mem_of_getElem? hi
    rw [hpre]
    have hli : i < (breaking s).length := (List.getElem?_eq_some_iff.mp hi).1
    have hla : (((rng (wheel s)).map fun j => into ⟨List.replicate n 0, j, 1⟩ s) ++ ((breaking s).take i).flatMap (foundA (wheel s) s)).length + B * (wheel s).toNat ≤ 1000000 := by
      rw [List.length_append, List.length_map, rng_len]
      have h1 := hlen ((breaking s).take i) fun x hx => List.mem_of_mem_take hx
      rw [List.length_take, Nat.min_eq_left (by omega)] at h1
      have h2 : (i + 1) * (B * (wheel s).toNat) ≤ 1000 * (B * (wheel s).toNat) := Nat.mul_le_mul_right _ (by omega)
      rw [Nat.add_mul] at h2
      omega
    generalize (((rng (wheel s)).map fun j => into ⟨List.replicate n 0, j, 1⟩ s) ++ ((breaking s).take i).flatMap (foundA (wheel s) s)) = acc at hla ⊢
    obtain ⟨h1, h2⟩ := List.mem_filter.mp ham
    cases a with
    | least ws c =>
      have hl : last ws ≠ 0 := by simpa [breaks] using h2
      have hww : ws.length = n + 1 := hwa _ h1
      have hab : aby ws ≤ B := by
        have hq : (last ws).natAbs ≤ B := (hlp _ h1).1
        unfold aby; split <;> omega
      have hab0 := aby_pos hl
      have hfa := hfl _ ham
      rw [wp_cons]
      refine wp_forF (putsAt (wheel s) (.least ws c)) dPW (fun acc q => acc ++ [Sen.and q.2 (.and (isNum q.1) (into q.1 s))])
        (fun acc ρ => ∃ z5 z6, ρ = [dS s, .int (wheel s), .tup ((List.replicate n (0 : Int)).map .int), .lst true (acc.map dS), dS (.least ws c), z5, z6, .undef]) acc
        [dS s, .int (wheel s), .tup ((List.replicate n (0 : Int)).map .int), .lst true (acc.map dS), dS (.least ws c), z5, z6, .undef] ?_ ⟨_, _, rfl⟩ ?_ ?_
      · ((first | refine wp_gen fun Q hQ => ?_ | skip); simp only [ev_e, List.reduceReplicate, Nat.reduceAdd, Nat.reduceLT, Nat.reduceLeDiff, Nat.reduceSub, Int.reduceNeg, ↓reduceIte, Int.reduceLT, Int.reduceLE, Int.reduceAdd, Int.reduceSub, Int.reduceBEq, reduceCtorEq, ne_eq, Nat.reduceBEq, ev_0, ev_1, ev_2, ev_3, ev_4, ↓ev_d, startD, isFz, isFzs, szOk, wipeD, putBack, fulls, frzs, full, frz, Row.fe, nud_dS, isU_dS, fz_dS]; (try subst hQ); (try simp only [ev_e, List.reduceReplicate, Nat.reduceAdd, Nat.reduceLT, Nat.reduceLeDiff, Nat.reduceSub, Int.reduceNeg, ↓reduceIte, Int.reduceLT, Int.reduceLE, Int.reduceAdd, Int.reduceSub, Int.reduceBEq, reduceCtorEq, ne_eq, Nat.reduceBEq, ev_0, ev_1, ev_2, ev_3, ev_4, ↓ev_d, startD, isFz, isFzs, szOk, wipeD, putBack, fulls, frzs, full, frz, Row.fe, nud_dS, isU_dS, fz_dS]))
        refine (s_puts_at k n ws c (wheel s).toNat (wheel s) (by omega) hww hl n2 (by omega) ?_).mono ?_
        · have : (aby ws).toNat * (wheel s).toNat ≤ B * (wheel s).toNat := Nat.mul_le_mul_right _ (by omega)
          omega
        · rintro _ rfl
          have f1 : fulls ((putsAt (wheel s) (.least ws c)).map dPW) = true := fulls_fz _ (fzs_map dPW (fun q => by simp [dPW, isFz, isFzs, fz_dPut, fz_dS]) _)
          have f2 : frzs ((putsAt (wheel s) (.least ws c)).map dPW) = (putsAt (wheel s) (.least ws c)).map dPW := frzs_fz _ (fzs_map dPW (fun q => by simp [dPW, isFz, isFzs, fz_dPut, fz_dS]) _)
          ((first | refine wp_gen fun Q hQ => ?_ | skip); simp only [ev_e, List.reduceReplicate, Nat.reduceAdd, Nat.reduceLT, Nat.reduceLeDiff, Nat.reduceSub, Int.reduceNeg, ↓reduceIte, Int.reduceLT, Int.reduceLE, Int.reduceAdd, Int.reduceSub, Int.reduceBEq, reduceCtorEq, ne_eq, Nat.reduceBEq, ev_0, ev_1, ev_2, ev_3, ev_4, ↓ev_d, startD, isFz, isFzs, szOk, wipeD, putBack, fulls, frzs, full, frz, Row.fe, nud_dS, isU_dS, fz_dS, f1, f2]; (try subst hQ); (try simp only [ev_e, List.reduceReplicate, Nat.reduceAdd, Nat.reduceLT, Nat.reduceLeDiff, Nat.reduceSub, Int.reduceNeg, ↓reduceIte, Int.reduceLT, Int.reduceLE, Int.reduceAdd, Int.reduceSub, Int.reduceBEq, reduceCtorEq, ne_eq, Nat.reduceBEq, ev_0, ev_1, ev_2, ev_3, ev_4, ↓ev_d, startD, isFz, isFzs, szOk, wipeD, putBack, fulls, frzs, full, frz, Row.fe, nud_dS, isU_dS, fz_dS, f1, f2]))
      · rintro j q hj ρ ⟨z5, z6, rfl⟩
        have hqm := List.mem_of_getElem? hj
        obtain ⟨q1, q2⟩ := puts_mem hww hl hqm
        refine ⟨_, by ((first | refine wp_gen fun Q hQ => ?_ | skip); simp only [ev_e, List.reduceReplicate, Nat.reduceAdd, Nat.reduceLT, Nat.reduceLeDiff, Nat.reduceSub, Int.reduceNeg, ↓reduceIte, Int.reduceLT, Int.reduceLE, Int.reduceAdd, Int.reduceSub, Int.reduceBEq, reduceCtorEq, ne_eq, Nat.reduceBEq, ev_0, ev_1, ev_2, ev_3, ev_4, ↓ev_d, startD, isFz, isFzs, szOk, wipeD, putBack, fulls, frzs, full, frz, Row.fe, dPW, fz_dPut, fz_dS]; (try subst hQ); (try simp only [ev_e, List.reduceReplicate, Nat.reduceAdd, Nat.reduceLT, Nat.reduceLeDiff, Nat.reduceSub, Int.reduceNeg, ↓reduceIte, Int.reduceLT, Int.reduceLE, Int.reduceAdd, Int.reduceSub, Int.reduceBEq, reduceCtorEq, ne_eq, Nat.reduceBEq, ev_0, ev_1, ev_2, ev_3, ev_4, ↓ev_d, startD, isFz, isFzs, szOk, wipeD, putBack, fulls, frzs, full, frz, Row.fe, dPW, fz_dPut, fz_dS])); rfl, ?_⟩
        have hin := s_into false q.1 n q1 n2 (by rw [q2]; constructor <;> omega) (by rw [q2]; exact hab0) s (k + 3) hfit (by omega)
        have hnu := s_is_number (k + 2) false q.1
        have hsz : (((putsAt (wheel s) (.least ws c)).take j).foldl (fun acc q => acc ++ [Sen.and q.2 (.and (isNum q.1) (into q.1 s))]) acc).length < 16777216 := by
          rw [foldl_snoc, List.length_append, List.length_map, List.length_take]
          unfold foundA at hfa
          rw [List.length_map] at hfa
          omega
        generalize ((putsAt (wheel s) (.least ws c)).take j).foldl (fun acc q => acc ++ [Sen.and q.2 (.and (isNum q.1) (into q.1 s))]) acc = a at hsz ⊢
        (rw [wp_cons]; refine wp_gen fun Q hQ => ?_; simp only [ev_e, List.reduceReplicate, Nat.reduceAdd, Nat.reduceLT, Nat.reduceLeDiff, Nat.reduceSub, Int.reduceNeg, ↓reduceIte, Int.reduceLT, Int.reduceLE, Int.reduceAdd, Int.reduceSub, Int.reduceBEq, reduceCtorEq, ne_eq, Nat.reduceBEq, ev_0, ev_1, ev_2, ev_3, ev_4, ↓ev_d, startD, isFz, isFzs, szOk, wipeD, putBack, fulls, frzs, full, frz, Row.fe, nud_dS, isU_dS, fz_dS, full_dS, frz_dS, nud_dPut, isU_dPut, fz_dPut, hin, hnu, cl_in, ml_in, cl_nu, ml_nu, hsz]; (try subst hQ); (try simp only [ev_e, List.reduceReplicate, Nat.reduceAdd, Nat.reduceLT, Nat.reduceLeDiff, Nat.reduceSub, Int.reduceNeg, ↓reduceIte, Int.reduceLT, Int.reduceLE, Int.reduceAdd, Int.reduceSub, Int.reduceBEq, reduceCtorEq, ne_eq, Nat.reduceBEq, ev_0, ev_1, ev_2, ev_3, ev_4, ↓ev_d, startD, isFz, isFzs, szOk, wipeD, putBack, fulls, frzs, full, frz, Row.fe, nud_dS, isU_dS, fz_dS, full_dS, frz_dS, nud_dPut, isU_dPut, fz_dPut, hin, hnu, cl_in, ml_in, cl_nu, ml_nu, hsz]))
        refine ⟨dPut false q.1, dS q.2, ?_⟩
        simp [dS]
      · rintro ρ ⟨z5, z6, rfl⟩
        rw [nx_nx, wp_nil, foldl_snoc]
        exact ⟨_, _, _, rfl⟩
    | rest _ _ _ => cases h2
    | neg _ => cases h2
    | and _ _ => cases h2
    | or _ _ => cases h2
  · rintro ρ ⟨z4, z5, z6, rfl⟩
    have hq : (breaking s).foldl (fun acc a => acc ++ foundA (wheel s) s a) ((rng (wheel s)).map fun j => into ⟨List.replicate n 0, j, 1⟩ s) = found n s := foldl_app _ _ _
    have hfz : isFz (.lst true ((found n s).map dS)) = false := rfl
    have hlz : (found n s).length ≤ 1000000 := by
      unfold found
      rw [List.length_append, List.length_map, rng_len]
      have h1 := hlen (breaking s) fun x hx => hx
      have h2 : (breaking s).length * (B * (wheel s).toNat) ≤ 1000 * (B * (wheel s).toNat) := Nat.mul_le_mul_right _ hbl
      omega
    rw [nx_nx, hq, wp_cons]
    ((first | refine wp_gen fun Q hQ => ?_ | skip); simp only [ev_e, List.reduceReplicate, Nat.reduceAdd, Nat.reduceLT, Nat.reduceLeDiff, Nat.reduceSub, Int.reduceNeg, ↓reduceIte, Int.reduceLT, Int.reduceLE, Int.reduceAdd, Int.reduceSub, Int.reduceBEq, reduceCtorEq, ne_eq, Nat.reduceBEq, ev_0, ev_1, ev_2, ev_3, ev_4, ↓ev_d, startD, isFz, isFzs, szOk, wipeD, putBack, fulls, frzs, full, frz, Row.fe, hfz, Bool.not_true, Bool.false_and]; (try subst hQ); (try simp only [ev_e, List.reduceReplicate, Nat.reduceAdd, Nat.reduceLT, Nat.reduceLeDiff, Nat.reduceSub, Int.reduceNeg, ↓reduceIte, Int.reduceLT, Int.reduceLE, Int.reduceAdd, Int.reduceSub, Int.reduceBEq, reduceCtorEq, ne_eq, Nat.reduceBEq, ev_0, ev_1, ev_2, ev_3, ev_4, ↓ev_d, startD, isFz, isFzs, szOk, wipeD, putBack, fulls, frzs, full, frz, Row.fe, hfz, Bool.not_true, Bool.false_and]))
    refine (s_any_of (k + 2) (found n s) (found_ne w) hlz).mono ?_
    rintro _ rfl
    ((first | refine wp_gen fun Q hQ => ?_ | skip); simp only [ev_e, List.reduceReplicate, Nat.reduceAdd, Nat.reduceLT, Nat.reduceLeDiff, Nat.reduceSub, Int.reduceNeg, ↓reduceIte, Int.reduceLT, Int.reduceLE, Int.reduceAdd, Int.reduceSub, Int.reduceBEq, reduceCtorEq, ne_eq, Nat.reduceBEq, ev_0, ev_1, ev_2, ev_3, ev_4, ↓ev_d, startD, isFz, isFzs, szOk, wipeD, putBack, fulls, frzs, full, frz, Row.fe, r_plainly_some, plainlySome]; (try subst hQ); (try simp only [ev_e, List.reduceReplicate, Nat.reduceAdd, Nat.reduceLT, Nat.reduceLeDiff, Nat.reduceSub, Int.reduceNeg, ↓reduceIte, Int.reduceLT, Int.reduceLE, Int.reduceAdd, Int.reduceSub, Int.reduceBEq, reduceCtorEq, ne_eq, Nat.reduceBEq, ev_0, ev_1, ev_2, ev_3, ev_4, ↓ev_d, startD, isFz, isFzs, szOk, wipeD, putBack, fulls, frzs, full, frz, Row.fe, r_plainly_some, plainlySome]))
theorem s_plainly (k n B : Nat) (wd : Str) (hw : wd = "some" ∨ wd = "all") (s : Sen) (h : Ok n B (if wd = "some" then s else .neg s)) (hd : dep s + 1 ≤ k + 1) :
    Wp (callN tab kn (k + 5) "plainly" [.tup [.str wd, dS s]]) (fun r => r = (dS (if wd = "some" then plainlySome n s else .neg (plainlySome n (.neg s))), [.tup [.str wd, dS s]])) := by
  rw [call_code t_plainly]
  refine run_wp rfl ?_
  show Wp (evSs _ b_plainly (startD 2 [.tup [.str wd, dS s]])) _
  unfold b_plainly
  have h1 := s_sought (k + 3) wd hw s
  have hne : ¬ (("all" : Str) = "some") := by decide +kernel
  have hdd : dep (if wd = "some" then s else .neg s) ≤ k + 1 := by
    split
    · omega
    · show dep s + 1 ≤ k + 1; exact hd
  rw [wp_cons]
  ((first | refine wp_gen fun Q hQ => ?_ | skip); simp only [ev_e, List.reduceReplicate, Nat.reduceAdd, Nat.reduceLT, Nat.reduceLeDiff, Nat.reduceSub, Int.reduceNeg, ↓reduceIte, Int.reduceLT, Int.reduceLE, Int.reduceAdd, Int.reduceSub, Int.reduceBEq, reduceCtorEq, ne_eq, Nat.reduceBEq, ev_0, ev_1, ev_2, ev_3, ev_4, ↓ev_d, startD, isFz, isFzs, szOk, wipeD, putBack, fulls, frzs, full, frz, Row.fe, h1, nud_dS, isU_dS, fz_dS]; (try subst hQ); (try simp only [ev_e, List.reduceReplicate, Nat.reduceAdd, Nat.reduceLT, Nat.reduceLeDiff, Nat.reduceSub, Int.reduceNeg, ↓reduceIte, Int.reduceLT, Int.reduceLE, Int.reduceAdd, Int.reduceSub, Int.reduceBEq, reduceCtorEq, ne_eq, Nat.reduceBEq, ev_0, ev_1, ev_2, ev_3, ev_4, ↓ev_d, startD, isFz, isFzs, szOk, wipeD, putBack, fulls, frzs, full, frz, Row.fe, h1, nud_dS, isU_dS, fz_dS]))
  refine (s_plainly_some k n B _ h hdd).mono ?_
  rintro _ rfl
  rcases hw with rfl | rfl
  · ((first | refine wp_gen fun Q hQ => ?_ | skip); simp only [ev_e, List.reduceReplicate, Nat.reduceAdd, Nat.reduceLT, Nat.reduceLeDiff, Nat.reduceSub, Int.reduceNeg, ↓reduceIte, Int.reduceLT, Int.reduceLE, Int.reduceAdd, Int.reduceSub, Int.reduceBEq, reduceCtorEq, ne_eq, Nat.reduceBEq, ev_0, ev_1, ev_2, ev_3, ev_4, ↓ev_d, startD, isFz, isFzs, szOk, wipeD, putBack, fulls, frzs, full, frz, Row.fe, fz_dS]; (try subst hQ); (try simp only [ev_e, List.reduceReplicate, Nat.reduceAdd, Nat.reduceLT, Nat.reduceLeDiff, Nat.reduceSub, Int.reduceNeg, ↓reduceIte, Int.reduceLT, Int.reduceLE, Int.reduceAdd, Int.reduceSub, Int.reduceBEq, reduceCtorEq, ne_eq, Nat.reduceBEq, ev_0, ev_1, ev_2, ev_3, ev_4, ↓ev_d, startD, isFz, isFzs, szOk, wipeD, putBack, fulls, frzs, full, frz, Row.fe, fz_dS]))
    repeat (rw [wp_cons]; refine wp_gen fun Q hQ => ?_; simp only [ev_e, List.reduceReplicate, Nat.reduceAdd, Nat.reduceLT, Nat.reduceLeDiff, Nat.reduceSub, Int.reduceNeg, ↓reduceIte, Int.reduceLT, Int.reduceLE, Int.reduceAdd, Int.reduceSub, Int.reduceBEq, reduceCtorEq, ne_eq, Nat.reduceBEq, ev_0, ev_1, ev_2, ev_3, ev_4, ↓ev_d, startD, isFz, isFzs, szOk, wipeD, putBack, fulls, frzs, full, frz, Row.fe, ev_q, fz_dS, nud_dS, r_plainly]; (try subst hQ); (try simp only [ev_e, List.reduceReplicate, Nat.reduceAdd, Nat.reduceLT, Nat.reduceLeDiff, Nat.reduceSub, Int.reduceNeg, ↓reduceIte, Int.reduceLT, Int.reduceLE, Int.reduceAdd, Int.reduceSub, Int.reduceBEq, reduceCtorEq, ne_eq, Nat.reduceBEq, ev_0, ev_1, ev_2, ev_3, ev_4, ↓ev_d, startD, isFz, isFzs, szOk, wipeD, putBack, fulls, frzs, full, frz, Row.fe, ev_q, fz_dS, nud_dS, r_plainly]))
  · ((first | refine wp_gen fun Q hQ => ?_ | skip); simp only [ev_e, List.reduceReplicate, Nat.reduceAdd, Nat.reduceLT, Nat.reduceLeDiff, Nat.reduceSub, Int.reduceNeg, ↓reduceIte, Int.reduceLT, Int.reduceLE, Int.reduceAdd, Int.reduceSub, Int.reduceBEq, reduceCtorEq, ne_eq, Nat.reduceBEq, ev_0, ev_1, ev_2, ev_3, ev_4, ↓ev_d, startD, isFz, isFzs, szOk, wipeD, putBack, fulls, frzs, full, frz, Row.fe, fz_dS, hne]; (try subst hQ); (try simp only [ev_e, List.reduceReplicate, Nat.reduceAdd, Nat.reduceLT, Nat.reduceLeDiff, Nat.reduceSub, Int.reduceNeg, ↓reduceIte, Int.reduceLT, Int.reduceLE, Int.reduceAdd, Int.reduceSub, Int.reduceBEq, reduceCtorEq, ne_eq, Nat.reduceBEq, ev_0, ev_1, ev_2, ev_3, ev_4, ↓ev_d, startD, isFz, isFzs, szOk, wipeD, putBack, fulls, frzs, full, frz, Row.fe, fz_dS, hne]))
    repeat (rw [wp_cons]; refine wp_gen fun Q hQ => ?_; simp only [ev_e, List.reduceReplicate, Nat.reduceAdd, Nat.reduceLT, Nat.reduceLeDiff, Nat.reduceSub, Int.reduceNeg, ↓reduceIte, Int.reduceLT, Int.reduceLE, Int.reduceAdd, Int.reduceSub, Int.reduceBEq, reduceCtorEq, ne_eq, Nat.reduceBEq, ev_0, ev_1, ev_2, ev_3, ev_4, ↓ev_d, startD, isFz, isFzs, szOk, wipeD, putBack, fulls, frzs, full, frz, Row.fe, ev_q, fz_dS, nud_dS, r_plainly, full_dS, frz_dS, hne, dS]; (try subst hQ); (try simp only [ev_e, List.reduceReplicate, Nat.reduceAdd, Nat.reduceLT, Nat.reduceLeDiff, Nat.reduceSub, Int.reduceNeg, ↓reduceIte, Int.reduceLT, Int.reduceLE, Int.reduceAdd, Int.reduceSub, Int.reduceBEq, reduceCtorEq, ne_eq, Nat.reduceBEq, ev_0, ev_1, ev_2, ev_3, ev_4, ↓ev_d, startD, isFz, isFzs, szOk, wipeD, putBack, fulls, frzs, full, frz, Row.fe, ev_q, fz_dS, nud_dS, r_plainly, full_dS, frz_dS, hne, dS]))
theorem t_digit : tab "_law_digit" = some (.code r__law_digit.fe) := by kernel_rfl
theorem t_cell : tab "_law_cell_at" = some (.code r__law_cell_at.fe) := by kernel_rfl
theorem t_tape : tab "_law_tape" = some (.code r__law_tape.fe) := by kernel_rfl
theorem s_digit (k : Nat) (m t : Int) (ht : 0 < t) (hb : t ≤ 4611686018427387904) : callN tab kn (k + 1) "_law_digit" [.lst true [.int m], .int t] = .ok (.int (m % t), [.lst true [.int (m / t)], .int t]) := by
  rw [call_code t_digit]
  refine run_eq rfl ?_
  show Wp (evSs _ b__law_digit (startD 3 [.lst true [.int m], .int t])) _
  unfold b__law_digit
  have h0 : t ≠ 0 := by omega
  have hd := dv_c ht hb
  have hs : ∀ x : D, setD (some (.lst true [.int m])) 0 x = some (.lst true [x]) := fun x => rfl
  repeat (rw [wp_cons]; refine wp_gen fun Q hQ => ?_; simp only [ev_e, List.reduceReplicate, Nat.reduceAdd, Nat.reduceLT, Nat.reduceLeDiff, Nat.reduceSub, Int.reduceNeg, ↓reduceIte, Int.reduceLT, Int.reduceLE, Int.reduceAdd, Int.reduceSub, Int.reduceBEq, reduceCtorEq, ne_eq, Nat.reduceBEq, ev_0, ev_1, ev_2, ev_3, ev_4, ↓ev_d, startD, isFz, isFzs, szOk, wipeD, putBack, fulls, frzs, full, frz, Row.fe, h0, hd, rst_pos ht, flr_pos ht, hs, r__law_digit]; (try subst hQ); (try simp only [ev_e, List.reduceReplicate, Nat.reduceAdd, Nat.reduceLT, Nat.reduceLeDiff, Nat.reduceSub, Int.reduceNeg, ↓reduceIte, Int.reduceLT, Int.reduceLE, Int.reduceAdd, Int.reduceSub, Int.reduceBEq, reduceCtorEq, ne_eq, Nat.reduceBEq, ev_0, ev_1, ev_2, ev_3, ev_4, ↓ev_d, startD, isFz, isFzs, szOk, wipeD, putBack, fulls, frzs, full, frz, Row.fe, h0, hd, rst_pos ht, flr_pos ht, hs, r__law_digit]))
theorem s_cell (k : Nat) (ns : List Int) (i : Nat) : ∃ c : Int, callN tab kn (k + 1) "_law_cell_at" [.lkd (ns.map .int), .int i] = .ok (.int c, [.lkd (ns.map .int), .int i]) := by
  by_cases h : i < ns.length
  · refine ⟨ns[i], ?_⟩
    rw [call_code t_cell]
    refine run_eq rfl ?_
    show Wp (evSs _ b__law_cell_at (startD 2 [.lkd (ns.map .int), .int i])) _
    unfold b__law_cell_at
    have hx : idxD (.lkd (ns.map .int)) (.int i) = some (.int ns[i]) := idx_lkd (by omega) (by omega)
    have h2 : decide ((i : Int) < (ns.length : Int)) = true := decide_eq_true (by omega)
    (rw [wp_cons]; refine wp_gen fun Q hQ => ?_; simp only [ev_e, List.reduceReplicate, Nat.reduceAdd, Nat.reduceLT, Nat.reduceLeDiff, Nat.reduceSub, Int.reduceNeg, ↓reduceIte, Int.reduceLT, Int.reduceLE, Int.reduceAdd, Int.reduceSub, Int.reduceBEq, reduceCtorEq, ne_eq, Nat.reduceBEq, ev_0, ev_1, ev_2, ev_3, ev_4, ↓ev_d, startD, isFz, isFzs, szOk, wipeD, putBack, fulls, frzs, full, frz, Row.fe, h2]; (try subst hQ); (try simp only [ev_e, List.reduceReplicate, Nat.reduceAdd, Nat.reduceLT, Nat.reduceLeDiff, Nat.reduceSub, Int.reduceNeg, ↓reduceIte, Int.reduceLT, Int.reduceLE, Int.reduceAdd, Int.reduceSub, Int.reduceBEq, reduceCtorEq, ne_eq, Nat.reduceBEq, ev_0, ev_1, ev_2, ev_3, ev_4, ↓ev_d, startD, isFz, isFzs, szOk, wipeD, putBack, fulls, frzs, full, frz, Row.fe, h2]))
    have hx2 : fzO (atI (ns.map D.int) (i : Int)) = some (.int ns[i]) := hx
    repeat (rw [wp_cons]; refine wp_gen fun Q hQ => ?_; simp only [ev_e, List.reduceReplicate, Nat.reduceAdd, Nat.reduceLT, Nat.reduceLeDiff, Nat.reduceSub, Int.reduceNeg, ↓reduceIte, Int.reduceLT, Int.reduceLE, Int.reduceAdd, Int.reduceSub, Int.reduceBEq, reduceCtorEq, ne_eq, Nat.reduceBEq, ev_0, ev_1, ev_2, ev_3, ev_4, ↓ev_d, startD, isFz, isFzs, szOk, wipeD, putBack, fulls, frzs, full, frz, Row.fe, hx2, r__law_cell_at]; (try subst hQ); (try simp only [ev_e, List.reduceReplicate, Nat.reduceAdd, Nat.reduceLT, Nat.reduceLeDiff, Nat.reduceSub, Int.reduceNeg, ↓reduceIte, Int.reduceLT, Int.reduceLE, Int.reduceAdd, Int.reduceSub, Int.reduceBEq, reduceCtorEq, ne_eq, Nat.reduceBEq, ev_0, ev_1, ev_2, ev_3, ev_4, ↓ev_d, startD, isFz, isFzs, szOk, wipeD, putBack, fulls, frzs, full, frz, Row.fe, hx2, r__law_cell_at]))
  · refine ⟨0, ?_⟩
    rw [call_code t_cell]
    refine run_eq rfl ?_
    show Wp (evSs _ b__law_cell_at (startD 2 [.lkd (ns.map .int), .int i])) _
    unfold b__law_cell_at
    have h2 : decide ((i : Int) < (ns.length : Int)) = false := decide_eq_false (by omega)
    repeat (rw [wp_cons]; refine wp_gen fun Q hQ => ?_; simp only [ev_e, List.reduceReplicate, Nat.reduceAdd, Nat.reduceLT, Nat.reduceLeDiff, Nat.reduceSub, Int.reduceNeg, ↓reduceIte, Int.reduceLT, Int.reduceLE, Int.reduceAdd, Int.reduceSub, Int.reduceBEq, reduceCtorEq, ne_eq, Nat.reduceBEq, ev_0, ev_1, ev_2, ev_3, ev_4, ↓ev_d, startD, isFz, isFzs, szOk, wipeD, putBack, fulls, frzs, full, frz, Row.fe, h2, r__law_cell_at]; (try subst hQ); (try simp only [ev_e, List.reduceReplicate, Nat.reduceAdd, Nat.reduceLT, Nat.reduceLeDiff, Nat.reduceSub, Int.reduceNeg, ↓reduceIte, Int.reduceLT, Int.reduceLE, Int.reduceAdd, Int.reduceSub, Int.reduceBEq, reduceCtorEq, ne_eq, Nat.reduceBEq, ev_0, ev_1, ev_2, ev_3, ev_4, ↓ev_d, startD, isFz, isFzs, szOk, wipeD, putBack, fulls, frzs, full, frz, Row.fe, h2, r__law_cell_at]))
theorem s_tape (k : Nat) (ns : List Int) (i : Nat) (hi : i < 1000) : Wp (callN tab kn (k + 2) "_law_tape" [.lkd (ns.map .int), .int i]) (fun r => ∃ m, r = (.lst true [.int m], [.lkd (ns.map .int), .int i])) := by
  rw [call_code t_tape]
  obtain ⟨c, hc⟩ := s_cell k ns i
  have m1 : mulOk c 48271 = true := mulOk_r (by decide)
  have m2 : mulOk 40692 i = true := mulOk_l (by decide)
  have p1 : (10 : Int) ^ 18 = 1000000000000000000 := by decide
  have q1 : decide ((0 : Int) ≤ 18 ∧ (18 : Int) ≤ 1000000 ∧ (10 : Int).natAbs < 18446744073709551616) = true := by decide
  have q2 : (10 : Int).natAbs < 2 ^ 64 := by decide
  refine run_wp rfl ?_
  show Wp (evSs _ b__law_tape (startD 7 [.lkd (ns.map .int), .int i])) _
  unfold b__law_tape
  (rw [wp_cons]; refine wp_gen fun Q hQ => ?_; simp only [ev_e, List.reduceReplicate, Nat.reduceAdd, Nat.reduceLT, Nat.reduceLeDiff, Nat.reduceSub, Int.reduceNeg, ↓reduceIte, Int.reduceLT, Int.reduceLE, Int.reduceAdd, Int.reduceSub, Int.reduceBEq, reduceCtorEq, ne_eq, Nat.reduceBEq, ev_0, ev_1, ev_2, ev_3, ev_4, ↓ev_d, startD, isFz, isFzs, szOk, wipeD, putBack, fulls, frzs, full, frz, Row.fe, hc]; (try subst hQ); (try simp only [ev_e, List.reduceReplicate, Nat.reduceAdd, Nat.reduceLT, Nat.reduceLeDiff, Nat.reduceSub, Int.reduceNeg, ↓reduceIte, Int.reduceLT, Int.reduceLE, Int.reduceAdd, Int.reduceSub, Int.reduceBEq, reduceCtorEq, ne_eq, Nat.reduceBEq, ev_0, ev_1, ev_2, ev_3, ev_4, ↓ev_d, startD, isFz, isFzs, szOk, wipeD, putBack, fulls, frzs, full, frz, Row.fe, hc]))
  by_cases h0 : c = 0
  · have : (c == 0) = true := by simpa using h0
    repeat (rw [wp_cons]; refine wp_gen fun Q hQ => ?_; simp only [ev_e, List.reduceReplicate, Nat.reduceAdd, Nat.reduceLT, Nat.reduceLeDiff, Nat.reduceSub, Int.reduceNeg, ↓reduceIte, Int.reduceLT, Int.reduceLE, Int.reduceAdd, Int.reduceSub, Int.reduceBEq, reduceCtorEq, ne_eq, Nat.reduceBEq, ev_0, ev_1, ev_2, ev_3, ev_4, ↓ev_d, startD, isFz, isFzs, szOk, wipeD, putBack, fulls, frzs, full, frz, Row.fe, this, r__law_tape]; (try subst hQ); (try simp only [ev_e, List.reduceReplicate, Nat.reduceAdd, Nat.reduceLT, Nat.reduceLeDiff, Nat.reduceSub, Int.reduceNeg, ↓reduceIte, Int.reduceLT, Int.reduceLE, Int.reduceAdd, Int.reduceSub, Int.reduceBEq, reduceCtorEq, ne_eq, Nat.reduceBEq, ev_0, ev_1, ev_2, ev_3, ev_4, ↓ev_d, startD, isFz, isFzs, szOk, wipeD, putBack, fulls, frzs, full, frz, Row.fe, this, r__law_tape]))
    exact ⟨0, rfl⟩
  have h1 : (c == 0) = false := by simpa using h0
  (rw [wp_cons]; refine wp_gen fun Q hQ => ?_; simp only [ev_e, List.reduceReplicate, Nat.reduceAdd, Nat.reduceLT, Nat.reduceLeDiff, Nat.reduceSub, Int.reduceNeg, ↓reduceIte, Int.reduceLT, Int.reduceLE, Int.reduceAdd, Int.reduceSub, Int.reduceBEq, reduceCtorEq, ne_eq, Nat.reduceBEq, ev_0, ev_1, ev_2, ev_3, ev_4, ↓ev_d, startD, isFz, isFzs, szOk, wipeD, putBack, fulls, frzs, full, frz, Row.fe, h1]; (try subst hQ); (try simp only [ev_e, List.reduceReplicate, Nat.reduceAdd, Nat.reduceLT, Nat.reduceLeDiff, Nat.reduceSub, Int.reduceNeg, ↓reduceIte, Int.reduceLT, Int.reduceLE, Int.reduceAdd, Int.reduceSub, Int.reduceBEq, reduceCtorEq, ne_eq, Nat.reduceBEq, ev_0, ev_1, ev_2, ev_3, ev_4, ↓ev_d, startD, isFz, isFzs, szOk, wipeD, putBack, fulls, frzs, full, frz, Row.fe, h1]))
  have hpw : binD .Pow (.int 10) (.int 18) = some (.int 1000000000000000000) := by kernel_rfl
  by_cases h2 : 1000000000000000000 ≤ c
  · have h3 : decide (1000000000000000000 ≤ c) = true := decide_eq_true h2
    repeat (rw [wp_cons]; refine wp_gen fun Q hQ => ?_; simp only [ev_e, List.reduceReplicate, Nat.reduceAdd, Nat.reduceLT, Nat.reduceLeDiff, Nat.reduceSub, Int.reduceNeg, ↓reduceIte, Int.reduceLT, Int.reduceLE, Int.reduceAdd, Int.reduceSub, Int.reduceBEq, reduceCtorEq, ne_eq, Nat.reduceBEq, ev_0, ev_1, ev_2, ev_3, ev_4, ↓ev_d, startD, isFz, isFzs, szOk, wipeD, putBack, fulls, frzs, full, frz, Row.fe, hpw, h3, r__law_tape]; (try subst hQ); (try simp only [ev_e, List.reduceReplicate, Nat.reduceAdd, Nat.reduceLT, Nat.reduceLeDiff, Nat.reduceSub, Int.reduceNeg, ↓reduceIte, Int.reduceLT, Int.reduceLE, Int.reduceAdd, Int.reduceSub, Int.reduceBEq, reduceCtorEq, ne_eq, Nat.reduceBEq, ev_0, ev_1, ev_2, ev_3, ev_4, ↓ev_d, startD, isFz, isFzs, szOk, wipeD, putBack, fulls, frzs, full, frz, Row.fe, hpw, h3, r__law_tape]))
    exact ⟨_, rfl⟩
  have h3 : decide (1000000000000000000 ≤ c) = false := decide_eq_false h2
  have hp0 : (2305843009213693951 : Int) ≠ 0 := by decide
  (rw [wp_cons]; refine wp_gen fun Q hQ => ?_; simp only [ev_e, List.reduceReplicate, Nat.reduceAdd, Nat.reduceLT, Nat.reduceLeDiff, Nat.reduceSub, Int.reduceNeg, ↓reduceIte, Int.reduceLT, Int.reduceLE, Int.reduceAdd, Int.reduceSub, Int.reduceBEq, reduceCtorEq, ne_eq, Nat.reduceBEq, ev_0, ev_1, ev_2, ev_3, ev_4, ↓ev_d, startD, isFz, isFzs, szOk, wipeD, putBack, fulls, frzs, full, frz, Row.fe, hpw, h3]; (try subst hQ); (try simp only [ev_e, List.reduceReplicate, Nat.reduceAdd, Nat.reduceLT, Nat.reduceLeDiff, Nat.reduceSub, Int.reduceNeg, ↓reduceIte, Int.reduceLT, Int.reduceLE, Int.reduceAdd, Int.reduceSub, Int.reduceBEq, reduceCtorEq, ne_eq, Nat.reduceBEq, ev_0, ev_1, ev_2, ev_3, ev_4, ↓ev_d, startD, isFz, isFzs, szOk, wipeD, putBack, fulls, frzs, full, frz, Row.fe, hpw, h3]))
  (rw [wp_cons]; refine wp_gen fun Q hQ => ?_; simp only [ev_e, List.reduceReplicate, Nat.reduceAdd, Nat.reduceLT, Nat.reduceLeDiff, Nat.reduceSub, Int.reduceNeg, ↓reduceIte, Int.reduceLT, Int.reduceLE, Int.reduceAdd, Int.reduceSub, Int.reduceBEq, reduceCtorEq, ne_eq, Nat.reduceBEq, ev_0, ev_1, ev_2, ev_3, ev_4, ↓ev_d, startD, isFz, isFzs, szOk, wipeD, putBack, fulls, frzs, full, frz, Row.fe, szOk]; (try subst hQ); (try simp only [ev_e, List.reduceReplicate, Nat.reduceAdd, Nat.reduceLT, Nat.reduceLeDiff, Nat.reduceSub, Int.reduceNeg, ↓reduceIte, Int.reduceLT, Int.reduceLE, Int.reduceAdd, Int.reduceSub, Int.reduceBEq, reduceCtorEq, ne_eq, Nat.reduceBEq, ev_0, ev_1, ev_2, ev_3, ev_4, ↓ev_d, startD, isFz, isFzs, szOk, wipeD, putBack, fulls, frzs, full, frz, Row.fe, szOk]))
  (rw [wp_cons]; refine wp_gen fun Q hQ => ?_; simp only [ev_e, List.reduceReplicate, Nat.reduceAdd, Nat.reduceLT, Nat.reduceLeDiff, Nat.reduceSub, Int.reduceNeg, ↓reduceIte, Int.reduceLT, Int.reduceLE, Int.reduceAdd, Int.reduceSub, Int.reduceBEq, reduceCtorEq, ne_eq, Nat.reduceBEq, ev_0, ev_1, ev_2, ev_3, ev_4, ↓ev_d, startD, isFz, isFzs, szOk, wipeD, putBack, fulls, frzs, full, frz, Row.fe, m1, m2, hp0]; (try subst hQ); (try simp only [ev_e, List.reduceReplicate, Nat.reduceAdd, Nat.reduceLT, Nat.reduceLeDiff, Nat.reduceSub, Int.reduceNeg, ↓reduceIte, Int.reduceLT, Int.reduceLE, Int.reduceAdd, Int.reduceSub, Int.reduceBEq, reduceCtorEq, ne_eq, Nat.reduceBEq, ev_0, ev_1, ev_2, ev_3, ev_4, ↓ev_d, startD, isFz, isFzs, szOk, wipeD, putBack, fulls, frzs, full, frz, Row.fe, m1, m2, hp0]))
  (rw [wp_cons]; refine wp_gen fun Q hQ => ?_; simp only [ev_e, List.reduceReplicate, Nat.reduceAdd, Nat.reduceLT, Nat.reduceLeDiff, Nat.reduceSub, Int.reduceNeg, ↓reduceIte, Int.reduceLT, Int.reduceLE, Int.reduceAdd, Int.reduceSub, Int.reduceBEq, reduceCtorEq, ne_eq, Nat.reduceBEq, ev_0, ev_1, ev_2, ev_3, ev_4, ↓ev_d, startD, isFz, isFzs, szOk, wipeD, putBack, fulls, frzs, full, frz, Row.fe, szOk]; (try subst hQ); (try simp only [ev_e, List.reduceReplicate, Nat.reduceAdd, Nat.reduceLT, Nat.reduceLeDiff, Nat.reduceSub, Int.reduceNeg, ↓reduceIte, Int.reduceLT, Int.reduceLE, Int.reduceAdd, Int.reduceSub, Int.reduceBEq, reduceCtorEq, ne_eq, Nat.reduceBEq, ev_0, ev_1, ev_2, ev_3, ev_4, ↓ev_d, startD, isFz, isFzs, szOk, wipeD, putBack, fulls, frzs, full, frz, Row.fe, szOk]))
  rw [wp_cons]
  have hp : ∀ z : Int, ∃ o : Int, rst z 2305843009213693951 = o ∧ 0 ≤ o ∧ o < 2305843009213693951 := fun z => ⟨_, rfl, by rw [rst_pos (by decide)]; exact ⟨Int.emod_nonneg _ (by decide), Int.emod_lt_of_pos _ (by decide)⟩⟩
  obtain ⟨o, ho, g1, g2⟩ := hp (c * 48271 + 40692 * i + 31)
  have r24 : itRng 0 24 = some (rangeD 0 24) := itRng_small (by decide) (by decide) (by decide) (by decide)
  refine wp_forI (fun ρ => ∃ a b : Int, ∃ z : D, 0 ≤ a ∧ a < 2305843009213693951 ∧ ρ = [.lkd (ns.map .int), .int i, .int c, .int 2305843009213693951, .int a, .int b, z]) (rangeD 0 24) [.lkd (ns.map .int), .int i, .int c, .int 2305843009213693951, .int o, .int o, .undef] ?_ ⟨o, o, .undef, g1, g2, rfl⟩ ?_ ?_
  · ((first | refine wp_gen fun Q hQ => ?_ | skip); simp only [ev_e, List.reduceReplicate, Nat.reduceAdd, Nat.reduceLT, Nat.reduceLeDiff, Nat.reduceSub, Int.reduceNeg, ↓reduceIte, Int.reduceLT, Int.reduceLE, Int.reduceAdd, Int.reduceSub, Int.reduceBEq, reduceCtorEq, ne_eq, Nat.reduceBEq, ev_0, ev_1, ev_2, ev_3, ev_4, ↓ev_d, startD, isFz, isFzs, szOk, wipeD, putBack, fulls, frzs, full, frz, Row.fe, r24, ho]; (try subst hQ); (try simp only [ev_e, List.reduceReplicate, Nat.reduceAdd, Nat.reduceLT, Nat.reduceLeDiff, Nat.reduceSub, Int.reduceNeg, ↓reduceIte, Int.reduceLT, Int.reduceLE, Int.reduceAdd, Int.reduceSub, Int.reduceBEq, reduceCtorEq, ne_eq, Nat.reduceBEq, ev_0, ev_1, ev_2, ev_3, ev_4, ↓ev_d, startD, isFz, isFzs, szOk, wipeD, putBack, fulls, frzs, full, frz, Row.fe, r24, ho]))
  · rintro d hd ρ ⟨a, b, z, ha, hb, rfl⟩
    obtain ⟨t, rfl, ht⟩ := rangeD_mem hd
    refine ⟨_, by ((first | refine wp_gen fun Q hQ => ?_ | skip); simp only [ev_e, List.reduceReplicate, Nat.reduceAdd, Nat.reduceLT, Nat.reduceLeDiff, Nat.reduceSub, Int.reduceNeg, ↓reduceIte, Int.reduceLT, Int.reduceLE, Int.reduceAdd, Int.reduceSub, Int.reduceBEq, reduceCtorEq, ne_eq, Nat.reduceBEq, ev_0, ev_1, ev_2, ev_3, ev_4, ↓ev_d, startD, isFz, isFzs, szOk, wipeD, putBack, fulls, frzs, full, frz, Row.fe, szOk]; (try subst hQ); (try simp only [ev_e, List.reduceReplicate, Nat.reduceAdd, Nat.reduceLT, Nat.reduceLeDiff, Nat.reduceSub, Int.reduceNeg, ↓reduceIte, Int.reduceLT, Int.reduceLE, Int.reduceAdd, Int.reduceSub, Int.reduceBEq, reduceCtorEq, ne_eq, Nat.reduceBEq, ev_0, ev_1, ev_2, ev_3, ev_4, ↓ev_d, startD, isFz, isFzs, szOk, wipeD, putBack, fulls, frzs, full, frz, Row.fe, szOk])); rfl, ?_⟩
    have n1 : mulOk a a = true := mulOk_l (by omega)
    have n2 : mulOk 69621 (0 + t + 1) = true := mulOk_l (by decide)
    have n3 : mulOk (69621 * (0 + t + 1)) (i + 1) = true := mulOk_l (by omega)
    have n4 : mulOk b 2305843009213693951 = true := mulOk_r (by decide)
    obtain ⟨o2, ho2, h3, h4⟩ := hp (a * a + 69621 * (0 + t + 1) * (i + 1) + c)
    (rw [wp_cons]; refine wp_gen fun Q hQ => ?_; simp only [ev_e, List.reduceReplicate, Nat.reduceAdd, Nat.reduceLT, Nat.reduceLeDiff, Nat.reduceSub, Int.reduceNeg, ↓reduceIte, Int.reduceLT, Int.reduceLE, Int.reduceAdd, Int.reduceSub, Int.reduceBEq, reduceCtorEq, ne_eq, Nat.reduceBEq, ev_0, ev_1, ev_2, ev_3, ev_4, ↓ev_d, startD, isFz, isFzs, szOk, wipeD, putBack, fulls, frzs, full, frz, Row.fe, n1, n2, n3, ho2, hp0]; (try subst hQ); (try simp only [ev_e, List.reduceReplicate, Nat.reduceAdd, Nat.reduceLT, Nat.reduceLeDiff, Nat.reduceSub, Int.reduceNeg, ↓reduceIte, Int.reduceLT, Int.reduceLE, Int.reduceAdd, Int.reduceSub, Int.reduceBEq, reduceCtorEq, ne_eq, Nat.reduceBEq, ev_0, ev_1, ev_2, ev_3, ev_4, ↓ev_d, startD, isFz, isFzs, szOk, wipeD, putBack, fulls, frzs, full, frz, Row.fe, n1, n2, n3, ho2, hp0]))
    repeat (rw [wp_cons]; refine wp_gen fun Q hQ => ?_; simp only [ev_e, List.reduceReplicate, Nat.reduceAdd, Nat.reduceLT, Nat.reduceLeDiff, Nat.reduceSub, Int.reduceNeg, ↓reduceIte, Int.reduceLT, Int.reduceLE, Int.reduceAdd, Int.reduceSub, Int.reduceBEq, reduceCtorEq, ne_eq, Nat.reduceBEq, ev_0, ev_1, ev_2, ev_3, ev_4, ↓ev_d, startD, isFz, isFzs, szOk, wipeD, putBack, fulls, frzs, full, frz, Row.fe, n4]; (try subst hQ); (try simp only [ev_e, List.reduceReplicate, Nat.reduceAdd, Nat.reduceLT, Nat.reduceLeDiff, Nat.reduceSub, Int.reduceNeg, ↓reduceIte, Int.reduceLT, Int.reduceLE, Int.reduceAdd, Int.reduceSub, Int.reduceBEq, reduceCtorEq, ne_eq, Nat.reduceBEq, ev_0, ev_1, ev_2, ev_3, ev_4, ↓ev_d, startD, isFz, isFzs, szOk, wipeD, putBack, fulls, frzs, full, frz, Row.fe, n4]))
    exact ⟨_, _, _, h3, h4, rfl⟩
  · rintro ρ ⟨a, b, z, ha, hb, rfl⟩
    rw [nx_nx]
    repeat (rw [wp_cons]; refine wp_gen fun Q hQ => ?_; simp only [ev_e, List.reduceReplicate, Nat.reduceAdd, Nat.reduceLT, Nat.reduceLeDiff, Nat.reduceSub, Int.reduceNeg, ↓reduceIte, Int.reduceLT, Int.reduceLE, Int.reduceAdd, Int.reduceSub, Int.reduceBEq, reduceCtorEq, ne_eq, Nat.reduceBEq, ev_0, ev_1, ev_2, ev_3, ev_4, ↓ev_d, startD, isFz, isFzs, szOk, wipeD, putBack, fulls, frzs, full, frz, Row.fe, r__law_tape]; (try subst hQ); (try simp only [ev_e, List.reduceReplicate, Nat.reduceAdd, Nat.reduceLT, Nat.reduceLeDiff, Nat.reduceSub, Int.reduceNeg, ↓reduceIte, Int.reduceLT, Int.reduceLE, Int.reduceAdd, Int.reduceSub, Int.reduceBEq, reduceCtorEq, ne_eq, Nat.reduceBEq, ev_0, ev_1, ev_2, ev_3, ev_4, ↓ev_d, startD, isFz, isFzs, szOk, wipeD, putBack, fulls, frzs, full, frz, Row.fe, r__law_tape]))
    exact ⟨_, rfl⟩
theorem digs (m t : Int) (h : 0 < t) : 0 ≤ m % t ∧ m % t < t := ⟨Int.emod_nonneg _ (by omega), Int.emod_lt_of_pos _ h⟩
theorem zip_tup {xs ys : List D} : itZip (.tup xs) (.tup ys) = itZipA xs ys := rfl
theorem last_mem {ws : List Int} {n : Nat} (h : ws.length = n + 1) : last ws ∈ ws := by
  have e := (split_last h).1
  have h2 : last ws ∈ fore ws ++ [last ws] := by simp
  rwa [← e] at h2
end K43
namespace K43
open PySem L2 Cs Sn
theorem t_break_at : tab "break_at" = some (.code r_break_at.fe) := by kernel_rfl
theorem t_least_so : tab "least_so" = some (.code r_least_so.fe) := by kernel_rfl
theorem t_witness : tab "witness" = some (.code r_witness.fe) := by kernel_rfl
theorem t_holds : tab "holds" = some (.code r_holds.fe) := by kernel_rfl
theorem s_break_at (k : Nat) (ws cs : List Int) (c : Int) (h : ws.length = cs.length + 1) (hc : Sms cs) (hl : cs.length ≤ 1000) (h0 : last ws ≠ 0) (hb : (last ws).natAbs ≤ 1000) : callN tab kn (k + 1) "break_at" [dS (.least ws c), .tup (cs.map .int)] = .ok (.int (brk ws c cs), [dS (.least ws c), .tup (cs.map .int)]) := by
  rw [call_code t_break_at]
  refine run_eq rfl ?_
  show Wp (evSs _ b_break_at (startD 7 [.tup [.str "least", .tup (ws.map .int), .int c], .tup (cs.map .int)])) _
  unfold b_break_at
  have hs := star_last h
  have hf := (split_last h).2
  (rw [wp_cons]; refine wp_gen fun Q hQ => ?_; simp only [ev_e, List.reduceReplicate, Nat.reduceAdd, Nat.reduceLT, Nat.reduceLeDiff, Nat.reduceSub, Int.reduceNeg, ↓reduceIte, Int.reduceLT, Int.reduceLE, Int.reduceAdd, Int.reduceSub, Int.reduceBEq, reduceCtorEq, ne_eq, Nat.reduceBEq, ev_0, ev_1, ev_2, ev_3, ev_4, ↓ev_d, startD, isFz, isFzs, szOk, wipeD, putBack, fulls, frzs, full, frz, Row.fe, hs]; (try subst hQ); (try simp only [ev_e, List.reduceReplicate, Nat.reduceAdd, Nat.reduceLT, Nat.reduceLeDiff, Nat.reduceSub, Int.reduceNeg, ↓reduceIte, Int.reduceLT, Int.reduceLE, Int.reduceAdd, Int.reduceSub, Int.reduceBEq, reduceCtorEq, ne_eq, Nat.reduceBEq, ev_0, ev_1, ev_2, ev_3, ev_4, ↓ev_d, startD, isFz, isFzs, szOk, wipeD, putBack, fulls, frzs, full, frz, Row.fe, hs]))
  (rw [wp_cons]; refine wp_gen fun Q hQ => ?_; simp only [ev_e, List.reduceReplicate, Nat.reduceAdd, Nat.reduceLT, Nat.reduceLeDiff, Nat.reduceSub, Int.reduceNeg, ↓reduceIte, Int.reduceLT, Int.reduceLE, Int.reduceAdd, Int.reduceSub, Int.reduceBEq, reduceCtorEq, ne_eq, Nat.reduceBEq, ev_0, ev_1, ev_2, ev_3, ev_4, ↓ev_d, startD, isFz, isFzs, szOk, wipeD, putBack, fulls, frzs, full, frz, Row.fe, szOk]; (try subst hQ); (try simp only [ev_e, List.reduceReplicate, Nat.reduceAdd, Nat.reduceLT, Nat.reduceLeDiff, Nat.reduceSub, Int.reduceNeg, ↓reduceIte, Int.reduceLT, Int.reduceLE, Int.reduceAdd, Int.reduceSub, Int.reduceBEq, reduceCtorEq, ne_eq, Nat.reduceBEq, ev_0, ev_1, ev_2, ev_3, ev_4, ↓ev_d, startD, isFz, isFzs, szOk, wipeD, putBack, fulls, frzs, full, frz, Row.fe, szOk]))
  refine wp_lcM ((fore ws).zip cs) (fun p => .tup [.int p.1, .int p.2]) (fun p => .int (p.1 * p.2)) [.tup [.str "least", .tup (ws.map .int), .int c], .tup (cs.map .int), .lst false ((fore ws).map .int), .int (last ws), .undef, .undef, .undef] ?_ ?_ ?_ ?_
  · ((first | refine wp_gen fun Q hQ => ?_ | skip); simp only [ev_e, List.reduceReplicate, Nat.reduceAdd, Nat.reduceLT, Nat.reduceLeDiff, Nat.reduceSub, Int.reduceNeg, ↓reduceIte, Int.reduceLT, Int.reduceLE, Int.reduceAdd, Int.reduceSub, Int.reduceBEq, reduceCtorEq, ne_eq, Nat.reduceBEq, ev_0, ev_1, ev_2, ev_3, ev_4, ↓ev_d, startD, isFz, isFzs, szOk, wipeD, putBack, fulls, frzs, full, frz, Row.fe, itZps, itZipA, hf, zps_ints hf]; (try subst hQ); (try simp only [ev_e, List.reduceReplicate, Nat.reduceAdd, Nat.reduceLT, Nat.reduceLeDiff, Nat.reduceSub, Int.reduceNeg, ↓reduceIte, Int.reduceLT, Int.reduceLE, Int.reduceAdd, Int.reduceSub, Int.reduceBEq, reduceCtorEq, ne_eq, Nat.reduceBEq, ev_0, ev_1, ev_2, ev_3, ev_4, ↓ev_d, startD, isFz, isFzs, szOk, wipeD, putBack, fulls, frzs, full, frz, Row.fe, itZps, itZipA, hf, zps_ints hf]))
  · simp [hf, sizeLine_eq]; omega
  · rintro ⟨w, c⟩ hp
    refine ⟨_, by ((first | refine wp_gen fun Q hQ => ?_ | skip); simp only [ev_e, List.reduceReplicate, Nat.reduceAdd, Nat.reduceLT, Nat.reduceLeDiff, Nat.reduceSub, Int.reduceNeg, ↓reduceIte, Int.reduceLT, Int.reduceLE, Int.reduceAdd, Int.reduceSub, Int.reduceBEq, reduceCtorEq, ne_eq, Nat.reduceBEq, ev_0, ev_1, ev_2, ev_3, ev_4, ↓ev_d, startD, isFz, isFzs, szOk, wipeD, putBack, fulls, frzs, full, frz, Row.fe, szOk]; (try subst hQ); (try simp only [ev_e, List.reduceReplicate, Nat.reduceAdd, Nat.reduceLT, Nat.reduceLeDiff, Nat.reduceSub, Int.reduceNeg, ↓reduceIte, Int.reduceLT, Int.reduceLE, Int.reduceAdd, Int.reduceSub, Int.reduceBEq, reduceCtorEq, ne_eq, Nat.reduceBEq, ev_0, ev_1, ev_2, ev_3, ev_4, ↓ev_d, startD, isFz, isFzs, szOk, wipeD, putBack, fulls, frzs, full, frz, Row.fe, szOk])); rfl, ?_⟩
    have := sm_r (i := w) (hc c (List.of_mem_zip hp).2)
    ((first | refine wp_gen fun Q hQ => ?_ | skip); simp only [ev_e, List.reduceReplicate, Nat.reduceAdd, Nat.reduceLT, Nat.reduceLeDiff, Nat.reduceSub, Int.reduceNeg, ↓reduceIte, Int.reduceLT, Int.reduceLE, Int.reduceAdd, Int.reduceSub, Int.reduceBEq, reduceCtorEq, ne_eq, Nat.reduceBEq, ev_0, ev_1, ev_2, ev_3, ev_4, ↓ev_d, startD, isFz, isFzs, szOk, wipeD, putBack, fulls, frzs, full, frz, Row.fe, this]; (try subst hQ); (try simp only [ev_e, List.reduceReplicate, Nat.reduceAdd, Nat.reduceLT, Nat.reduceLeDiff, Nat.reduceSub, Int.reduceNeg, ↓reduceIte, Int.reduceLT, Int.reduceLE, Int.reduceAdd, Int.reduceSub, Int.reduceBEq, reduceCtorEq, ne_eq, Nat.reduceBEq, ev_0, ev_1, ev_2, ev_3, ev_4, ↓ev_d, startD, isFz, isFzs, szOk, wipeD, putBack, fulls, frzs, full, frz, Row.fe, this]))
  · have e : (((fore ws).zip cs).map fun p => D.int (p.1 * p.2)) = (((fore ws).zip cs).map fun p => p.1 * p.2).map .int := by simp
    have e2 : biD .sum [.lst true (((fore ws).zip cs).map fun p => D.int (p.1 * p.2))] = some (.int (dot (fore ws) cs)) := by rw [e, i_sumL, dot_zip]
    ((first | refine wp_gen fun Q hQ => ?_ | skip); simp only [ev_e, List.reduceReplicate, Nat.reduceAdd, Nat.reduceLT, Nat.reduceLeDiff, Nat.reduceSub, Int.reduceNeg, ↓reduceIte, Int.reduceLT, Int.reduceLE, Int.reduceAdd, Int.reduceSub, Int.reduceBEq, reduceCtorEq, ne_eq, Nat.reduceBEq, ev_0, ev_1, ev_2, ev_3, ev_4, ↓ev_d, startD, isFz, isFzs, szOk, wipeD, putBack, fulls, frzs, full, frz, Row.fe, e2]; (try subst hQ); (try simp only [ev_e, List.reduceReplicate, Nat.reduceAdd, Nat.reduceLT, Nat.reduceLeDiff, Nat.reduceSub, Int.reduceNeg, ↓reduceIte, Int.reduceLT, Int.reduceLE, Int.reduceAdd, Int.reduceSub, Int.reduceBEq, reduceCtorEq, ne_eq, Nat.reduceBEq, ev_0, ev_1, ev_2, ev_3, ev_4, ↓ev_d, startD, isFz, isFzs, szOk, wipeD, putBack, fulls, frzs, full, frz, Row.fe, e2]))
    by_cases hp : 0 < last ws
    · have d1 := dv_c hp (by omega)
      have eb : brk ws c cs = -(-(c - dot (fore ws) cs) / last ws) := by unfold brk left; rw [if_pos hp]
      repeat (rw [wp_cons]; refine wp_gen fun Q hQ => ?_; simp only [ev_e, List.reduceReplicate, Nat.reduceAdd, Nat.reduceLT, Nat.reduceLeDiff, Nat.reduceSub, Int.reduceNeg, ↓reduceIte, Int.reduceLT, Int.reduceLE, Int.reduceAdd, Int.reduceSub, Int.reduceBEq, reduceCtorEq, ne_eq, Nat.reduceBEq, ev_0, ev_1, ev_2, ev_3, ev_4, ↓ev_d, startD, isFz, isFzs, szOk, wipeD, putBack, fulls, frzs, full, frz, Row.fe, hp, d1, flr_pos hp, r_break_at, dS, eb]; (try subst hQ); (try simp only [ev_e, List.reduceReplicate, Nat.reduceAdd, Nat.reduceLT, Nat.reduceLeDiff, Nat.reduceSub, Int.reduceNeg, ↓reduceIte, Int.reduceLT, Int.reduceLE, Int.reduceAdd, Int.reduceSub, Int.reduceBEq, reduceCtorEq, ne_eq, Nat.reduceBEq, ev_0, ev_1, ev_2, ev_3, ev_4, ↓ev_d, startD, isFz, isFzs, szOk, wipeD, putBack, fulls, frzs, full, frz, Row.fe, hp, d1, flr_pos hp, r_break_at, dS, eb]))
    · have hn : 0 < -last ws := by omega
      have d1 := dv_c hn (by omega)
      have h2 : decide (0 < last ws) = false := decide_eq_false hp
      have eb : brk ws c cs = -(c - dot (fore ws) cs) / -last ws + 1 := by unfold brk left; rw [if_neg hp]
      repeat (rw [wp_cons]; refine wp_gen fun Q hQ => ?_; simp only [ev_e, List.reduceReplicate, Nat.reduceAdd, Nat.reduceLT, Nat.reduceLeDiff, Nat.reduceSub, Int.reduceNeg, ↓reduceIte, Int.reduceLT, Int.reduceLE, Int.reduceAdd, Int.reduceSub, Int.reduceBEq, reduceCtorEq, ne_eq, Nat.reduceBEq, ev_0, ev_1, ev_2, ev_3, ev_4, ↓ev_d, startD, isFz, isFzs, szOk, wipeD, putBack, fulls, frzs, full, frz, Row.fe, h2, d1, flr_pos hn, r_break_at, dS, eb]; (try subst hQ); (try simp only [ev_e, List.reduceReplicate, Nat.reduceAdd, Nat.reduceLT, Nat.reduceLeDiff, Nat.reduceSub, Int.reduceNeg, ↓reduceIte, Int.reduceLT, Int.reduceLE, Int.reduceAdd, Int.reduceSub, Int.reduceBEq, reduceCtorEq, ne_eq, Nat.reduceBEq, ev_0, ev_1, ev_2, ev_3, ev_4, ↓ev_d, startD, isFz, isFzs, szOk, wipeD, putBack, fulls, frzs, full, frz, Row.fe, h2, d1, flr_pos hn, r_break_at, dS, eb]))
/-- bounds by which a witness is looked for -/
structure WOk (cs : List Int) (s : Sen) : Prop where
  w : Wf (cs.length + 1) s
  c : Sms cs
  l : cs.length ≤ 900
  at_ : (atoms s).length ≤ 50
  lp : ∀ a ∈ atoms s, (lastOf a).natAbs ≤ 1000 ∧ partOf a < 4611686018427387904
  wh : wheel s ≤ 60
  br : ∀ h ∈ headsL s cs, -1000000000000 ≤ h ∧ h ≤ 1000000000000
theorem s_least_so (k : Nat) (cs : List Int) (s : Sen) (h : WOk cs s) (hd : dep s ≤ k + 1) : callN tab kn (k + 3) "least_so" [dS s, .tup (cs.map .int)] = .ok (dO (lwit s cs), [dS s, .tup (cs.map .int)]) := by
  obtain ⟨w, hc, hl, hat, hlp, hwh, hbr⟩ := h
  have hW0 := (wheel_ok w).1
  have hwa := wf_atoms s w
  rw [call_code t_least_so]
  refine run_eq rfl ?_
  show Wp (evSs _ b_least_so (startD 8 [dS s, .tup (cs.map .int)])) _
  unfold b_least_so
  have hbk := s_breaking s cs.length k w (by omega) (by omega)
  rw [wp_cons]
  ((first | refine wp_gen fun Q hQ => ?_ | skip); simp only [ev_e, List.reduceReplicate, Nat.reduceAdd, Nat.reduceLT, Nat.reduceLeDiff, Nat.reduceSub, Int.reduceNeg, ↓reduceIte, Int.reduceLT, Int.reduceLE, Int.reduceAdd, Int.reduceSub, Int.reduceBEq, reduceCtorEq, ne_eq, Nat.reduceBEq, ev_0, ev_1, ev_2, ev_3, ev_4, ↓ev_d, startD, isFz, isFzs, szOk, wipeD, putBack, fulls, frzs, full, frz, Row.fe, nud_dS, isU_dS, fz_dS]; (try subst hQ); (try simp only [ev_e, List.reduceReplicate, Nat.reduceAdd, Nat.reduceLT, Nat.reduceLeDiff, Nat.reduceSub, Int.reduceNeg, ↓reduceIte, Int.reduceLT, Int.reduceLE, Int.reduceAdd, Int.reduceSub, Int.reduceBEq, reduceCtorEq, ne_eq, Nat.reduceBEq, ev_0, ev_1, ev_2, ev_3, ev_4, ↓ev_d, startD, isFz, isFzs, szOk, wipeD, putBack, fulls, frzs, full, frz, Row.fe, nud_dS, isU_dS, fz_dS]))
  refine (s_wheel_of s cs.length k w (by omega) (by omega) (fun a ha => (hlp a ha).2) (by omega)).mono ?_
  rintro _ rfl
  ((first | refine wp_gen fun Q hQ => ?_ | skip); simp only [ev_e, List.reduceReplicate, Nat.reduceAdd, Nat.reduceLT, Nat.reduceLeDiff, Nat.reduceSub, Int.reduceNeg, ↓reduceIte, Int.reduceLT, Int.reduceLE, Int.reduceAdd, Int.reduceSub, Int.reduceBEq, reduceCtorEq, ne_eq, Nat.reduceBEq, ev_0, ev_1, ev_2, ev_3, ev_4, ↓ev_d, startD, isFz, isFzs, szOk, wipeD, putBack, fulls, frzs, full, frz, Row.fe, nud_dS, isU_dS, fz_dS]; (try subst hQ); (try simp only [ev_e, List.reduceReplicate, Nat.reduceAdd, Nat.reduceLT, Nat.reduceLeDiff, Nat.reduceSub, Int.reduceNeg, ↓reduceIte, Int.reduceLT, Int.reduceLE, Int.reduceAdd, Int.reduceSub, Int.reduceBEq, reduceCtorEq, ne_eq, Nat.reduceBEq, ev_0, ev_1, ev_2, ev_3, ev_4, ↓ev_d, startD, isFz, isFzs, szOk, wipeD, putBack, fulls, frzs, full, frz, Row.fe, nud_dS, isU_dS, fz_dS]))
  (rw [wp_cons]; refine wp_gen fun Q hQ => ?_; simp only [ev_e, List.reduceReplicate, Nat.reduceAdd, Nat.reduceLT, Nat.reduceLeDiff, Nat.reduceSub, Int.reduceNeg, ↓reduceIte, Int.reduceLT, Int.reduceLE, Int.reduceAdd, Int.reduceSub, Int.reduceBEq, reduceCtorEq, ne_eq, Nat.reduceBEq, ev_0, ev_1, ev_2, ev_3, ev_4, ↓ev_d, startD, isFz, isFzs, szOk, wipeD, putBack, fulls, frzs, full, frz, Row.fe, szOk]; (try subst hQ); (try simp only [ev_e, List.reduceReplicate, Nat.reduceAdd, Nat.reduceLT, Nat.reduceLeDiff, Nat.reduceSub, Int.reduceNeg, ↓reduceIte, Int.reduceLT, Int.reduceLE, Int.reduceAdd, Int.reduceSub, Int.reduceBEq, reduceCtorEq, ne_eq, Nat.reduceBEq, ev_0, ev_1, ev_2, ev_3, ev_4, ↓ev_d, startD, isFz, isFzs, szOk, wipeD, putBack, fulls, frzs, full, frz, Row.fe, szOk]))
  have hbl : (breaking s).length ≤ 50 := Nat.le_trans (List.length_filter_le ..) hat
  refine wp_lcM (breaking s) dS (fun a => .int (brkA cs a)) [dS s, .tup (cs.map .int), .int (wheel s), .undef, .undef, .undef, .undef, .undef] ?_ ?_ ?_ ?_
  · ((first | refine wp_gen fun Q hQ => ?_ | skip); simp only [ev_e, List.reduceReplicate, Nat.reduceAdd, Nat.reduceLT, Nat.reduceLeDiff, Nat.reduceSub, Int.reduceNeg, ↓reduceIte, Int.reduceLT, Int.reduceLE, Int.reduceAdd, Int.reduceSub, Int.reduceBEq, reduceCtorEq, ne_eq, Nat.reduceBEq, ev_0, ev_1, ev_2, ev_3, ev_4, ↓ev_d, startD, isFz, isFzs, szOk, wipeD, putBack, fulls, frzs, full, frz, Row.fe, nud_dS, isU_dS, fz_dS, hbk, fulls_dSs, frzs_dSs]; (try subst hQ); (try simp only [ev_e, List.reduceReplicate, Nat.reduceAdd, Nat.reduceLT, Nat.reduceLeDiff, Nat.reduceSub, Int.reduceNeg, ↓reduceIte, Int.reduceLT, Int.reduceLE, Int.reduceAdd, Int.reduceSub, Int.reduceBEq, reduceCtorEq, ne_eq, Nat.reduceBEq, ev_0, ev_1, ev_2, ev_3, ev_4, ↓ev_d, startD, isFz, isFzs, szOk, wipeD, putBack, fulls, frzs, full, frz, Row.fe, nud_dS, isU_dS, fz_dS, hbk, fulls_dSs, frzs_dSs]))
  · rw [sizeLine_eq]; omega
  · intro a ha
    obtain ⟨h1, h2⟩ := List.mem_filter.mp ha
    have wA := hwa a h1
    refine ⟨_, by ((first | refine wp_gen fun Q hQ => ?_ | skip); simp only [ev_e, List.reduceReplicate, Nat.reduceAdd, Nat.reduceLT, Nat.reduceLeDiff, Nat.reduceSub, Int.reduceNeg, ↓reduceIte, Int.reduceLT, Int.reduceLE, Int.reduceAdd, Int.reduceSub, Int.reduceBEq, reduceCtorEq, ne_eq, Nat.reduceBEq, ev_0, ev_1, ev_2, ev_3, ev_4, ↓ev_d, startD, isFz, isFzs, szOk, wipeD, putBack, fulls, frzs, full, frz, Row.fe, szOk]; (try subst hQ); (try simp only [ev_e, List.reduceReplicate, Nat.reduceAdd, Nat.reduceLT, Nat.reduceLeDiff, Nat.reduceSub, Int.reduceNeg, ↓reduceIte, Int.reduceLT, Int.reduceLE, Int.reduceAdd, Int.reduceSub, Int.reduceBEq, reduceCtorEq, ne_eq, Nat.reduceBEq, ev_0, ev_1, ev_2, ev_3, ev_4, ↓ev_d, startD, isFz, isFzs, szOk, wipeD, putBack, fulls, frzs, full, frz, Row.fe, szOk])); rfl, ?_⟩
    cases a with
    | least ws c =>
      have h0 : last ws ≠ 0 := by simpa [breaks] using h2
      have hb := s_break_at (k + 1) ws cs c wA hc (by omega) h0 (hlp _ h1).1
      ((first | refine wp_gen fun Q hQ => ?_ | skip); simp only [ev_e, List.reduceReplicate, Nat.reduceAdd, Nat.reduceLT, Nat.reduceLeDiff, Nat.reduceSub, Int.reduceNeg, ↓reduceIte, Int.reduceLT, Int.reduceLE, Int.reduceAdd, Int.reduceSub, Int.reduceBEq, reduceCtorEq, ne_eq, Nat.reduceBEq, ev_0, ev_1, ev_2, ev_3, ev_4, ↓ev_d, startD, isFz, isFzs, szOk, wipeD, putBack, fulls, frzs, full, frz, Row.fe, nud_dS, isU_dS, fz_dS, hb, brkA]; (try subst hQ); (try simp only [ev_e, List.reduceReplicate, Nat.reduceAdd, Nat.reduceLT, Nat.reduceLeDiff, Nat.reduceSub, Int.reduceNeg, ↓reduceIte, Int.reduceLT, Int.reduceLE, Int.reduceAdd, Int.reduceSub, Int.reduceBEq, reduceCtorEq, ne_eq, Nat.reduceBEq, ev_0, ev_1, ev_2, ev_3, ev_4, ↓ev_d, startD, isFz, isFzs, szOk, wipeD, putBack, fulls, frzs, full, frz, Row.fe, nud_dS, isU_dS, fz_dS, hb, brkA]))
    | rest _ _ _ => cases h2
    | neg _ => cases h2
    | and _ _ => cases h2
    | or _ _ => cases h2
  have e1 : ((breaking s).map fun a => D.int (brkA cs a)) = ((breaking s).map (brkA cs)).map .int := by rw [List.map_map]; rfl
  have z1 : decide (1 + (breaking s).length ≤ 16777216) = true := decide_eq_true (by omega)
  have z2 : ([D.int 0] ++ ((breaking s).map (brkA cs)).map .int) = (headsL s cs).map .int := rfl
  rw [e1]
  have hfz : (isFzs ((((breaking s).map (brkA cs))).map D.int)) = true := isFzs_ints _
  ((first | refine wp_gen fun Q hQ => ?_ | skip); simp only [ev_e, List.reduceReplicate, Nat.reduceAdd, Nat.reduceLT, Nat.reduceLeDiff, Nat.reduceSub, Int.reduceNeg, ↓reduceIte, Int.reduceLT, Int.reduceLE, Int.reduceAdd, Int.reduceSub, Int.reduceBEq, reduceCtorEq, ne_eq, Nat.reduceBEq, ev_0, ev_1, ev_2, ev_3, ev_4, ↓ev_d, startD, isFz, isFzs, szOk, wipeD, putBack, fulls, frzs, full, frz, Row.fe, z1, z2, hfz]; (try subst hQ); (try simp only [ev_e, List.reduceReplicate, Nat.reduceAdd, Nat.reduceLT, Nat.reduceLeDiff, Nat.reduceSub, Int.reduceNeg, ↓reduceIte, Int.reduceLT, Int.reduceLE, Int.reduceAdd, Int.reduceSub, Int.reduceBEq, reduceCtorEq, ne_eq, Nat.reduceBEq, ev_0, ev_1, ev_2, ev_3, ev_4, ↓ev_d, startD, isFz, isFzs, szOk, wipeD, putBack, fulls, frzs, full, frz, Row.fe, z1, z2, hfz]))
  rw [wp_cons]
  have r1 := itRng_small (lo := 0) (hi := wheel s) (by decide) (by decide) (by omega) (by omega)
  have hcl : ∀ l : List Int, (l.flatMap fun _ => rng (wheel s)).length = l.length * (wheel s).toNat := fun l => flat_len (fun _ => rng_len _) l
  have hhl : (headsL s cs).length ≤ 51 := by
    unfold headsL
    rw [List.length_cons, List.length_map]; omega
  refine wp_for (fun j ρ => (∀ x ∈ (candL s cs).take j, okAt s cs x = false) ∧ ∃ o c z, ρ = [dS s, .tup (cs.map .int), .int (wheel s), .lst o ((headsL s cs).map .int), z, c, .undef, .undef]) ((candL s cs).map .int) [dS s, .tup (cs.map .int), .int (wheel s), .lst false ((headsL s cs).map .int), .undef, .undef, .undef, .undef] ?_ ⟨fun x hx => by simp at hx, _, _, _, rfl⟩ ?_ ?_
  · ((first | refine wp_gen fun Q hQ => ?_ | skip); simp only [ev_e, List.reduceReplicate, Nat.reduceAdd, Nat.reduceLT, Nat.reduceLeDiff, Nat.reduceSub, Int.reduceNeg, ↓reduceIte, Int.reduceLT, Int.reduceLE, Int.reduceAdd, Int.reduceSub, Int.reduceBEq, reduceCtorEq, ne_eq, Nat.reduceBEq, ev_0, ev_1, ev_2, ev_3, ev_4, ↓ev_d, startD, isFz, isFzs, szOk, wipeD, putBack, fulls, frzs, full, frz, Row.fe, szOk]; (try subst hQ); (try simp only [ev_e, List.reduceReplicate, Nat.reduceAdd, Nat.reduceLT, Nat.reduceLeDiff, Nat.reduceSub, Int.reduceNeg, ↓reduceIte, Int.reduceLT, Int.reduceLE, Int.reduceAdd, Int.reduceSub, Int.reduceBEq, reduceCtorEq, ne_eq, Nat.reduceBEq, ev_0, ev_1, ev_2, ev_3, ev_4, ↓ev_d, startD, isFz, isFzs, szOk, wipeD, putBack, fulls, frzs, full, frz, Row.fe, szOk]))
    refine wp_ss2M (headsL s cs) .int (fun _ => rng (wheel s)) .int (fun h m => h + m) [dS s, .tup (cs.map .int), .int (wheel s), .lst false ((headsL s cs).map .int), .undef, .undef, .undef, .undef] ?_ ?_ ?_ ?_
    · ((first | refine wp_gen fun Q hQ => ?_ | skip); simp only [ev_e, List.reduceReplicate, Nat.reduceAdd, Nat.reduceLT, Nat.reduceLeDiff, Nat.reduceSub, Int.reduceNeg, ↓reduceIte, Int.reduceLT, Int.reduceLE, Int.reduceAdd, Int.reduceSub, Int.reduceBEq, reduceCtorEq, ne_eq, Nat.reduceBEq, ev_0, ev_1, ev_2, ev_3, ev_4, ↓ev_d, startD, isFz, isFzs, szOk, wipeD, putBack, fulls, frzs, full, frz, Row.fe, fulls_ints, frzs_ints]; (try subst hQ); (try simp only [ev_e, List.reduceReplicate, Nat.reduceAdd, Nat.reduceLT, Nat.reduceLeDiff, Nat.reduceSub, Int.reduceNeg, ↓reduceIte, Int.reduceLT, Int.reduceLE, Int.reduceAdd, Int.reduceSub, Int.reduceBEq, reduceCtorEq, ne_eq, Nat.reduceBEq, ev_0, ev_1, ev_2, ev_3, ev_4, ↓ev_d, startD, isFz, isFzs, szOk, wipeD, putBack, fulls, frzs, full, frz, Row.fe, fulls_ints, frzs_ints]))
    · rw [hcl]
      have := Nat.mul_le_mul hhl (show (wheel s).toNat ≤ 60 by omega)
      omega
    · intro a ha
      refine ⟨_, by ((first | refine wp_gen fun Q hQ => ?_ | skip); simp only [ev_e, List.reduceReplicate, Nat.reduceAdd, Nat.reduceLT, Nat.reduceLeDiff, Nat.reduceSub, Int.reduceNeg, ↓reduceIte, Int.reduceLT, Int.reduceLE, Int.reduceAdd, Int.reduceSub, Int.reduceBEq, reduceCtorEq, ne_eq, Nat.reduceBEq, ev_0, ev_1, ev_2, ev_3, ev_4, ↓ev_d, startD, isFz, isFzs, szOk, wipeD, putBack, fulls, frzs, full, frz, Row.fe, szOk]; (try subst hQ); (try simp only [ev_e, List.reduceReplicate, Nat.reduceAdd, Nat.reduceLT, Nat.reduceLeDiff, Nat.reduceSub, Int.reduceNeg, ↓reduceIte, Int.reduceLT, Int.reduceLE, Int.reduceAdd, Int.reduceSub, Int.reduceBEq, reduceCtorEq, ne_eq, Nat.reduceBEq, ev_0, ev_1, ev_2, ev_3, ev_4, ↓ev_d, startD, isFz, isFzs, szOk, wipeD, putBack, fulls, frzs, full, frz, Row.fe, szOk])); rfl, ?_⟩
      ((first | refine wp_gen fun Q hQ => ?_ | skip); simp only [ev_e, List.reduceReplicate, Nat.reduceAdd, Nat.reduceLT, Nat.reduceLeDiff, Nat.reduceSub, Int.reduceNeg, ↓reduceIte, Int.reduceLT, Int.reduceLE, Int.reduceAdd, Int.reduceSub, Int.reduceBEq, reduceCtorEq, ne_eq, Nat.reduceBEq, ev_0, ev_1, ev_2, ev_3, ev_4, ↓ev_d, startD, isFz, isFzs, szOk, wipeD, putBack, fulls, frzs, full, frz, Row.fe, r1, rangeD_rng]; (try subst hQ); (try simp only [ev_e, List.reduceReplicate, Nat.reduceAdd, Nat.reduceLT, Nat.reduceLeDiff, Nat.reduceSub, Int.reduceNeg, ↓reduceIte, Int.reduceLT, Int.reduceLE, Int.reduceAdd, Int.reduceSub, Int.reduceBEq, reduceCtorEq, ne_eq, Nat.reduceBEq, ev_0, ev_1, ev_2, ev_3, ev_4, ↓ev_d, startD, isFz, isFzs, szOk, wipeD, putBack, fulls, frzs, full, frz, Row.fe, r1, rangeD_rng]))
      intro b hb
      refine ⟨_, rfl, ?_⟩
      ((first | refine wp_gen fun Q hQ => ?_ | skip); simp only [ev_e, List.reduceReplicate, Nat.reduceAdd, Nat.reduceLT, Nat.reduceLeDiff, Nat.reduceSub, Int.reduceNeg, ↓reduceIte, Int.reduceLT, Int.reduceLE, Int.reduceAdd, Int.reduceSub, Int.reduceBEq, reduceCtorEq, ne_eq, Nat.reduceBEq, ev_0, ev_1, ev_2, ev_3, ev_4, ↓ev_d, startD, isFz, isFzs, szOk, wipeD, putBack, fulls, frzs, full, frz, Row.fe, szOk]; (try subst hQ); (try simp only [ev_e, List.reduceReplicate, Nat.reduceAdd, Nat.reduceLT, Nat.reduceLeDiff, Nat.reduceSub, Int.reduceNeg, ↓reduceIte, Int.reduceLT, Int.reduceLE, Int.reduceAdd, Int.reduceSub, Int.reduceBEq, reduceCtorEq, ne_eq, Nat.reduceBEq, ev_0, ev_1, ev_2, ev_3, ev_4, ↓ev_d, startD, isFz, isFzs, szOk, wipeD, putBack, fulls, frzs, full, frz, Row.fe, szOk]))
    · ((first | refine wp_gen fun Q hQ => ?_ | skip); simp only [ev_e, List.reduceReplicate, Nat.reduceAdd, Nat.reduceLT, Nat.reduceLeDiff, Nat.reduceSub, Int.reduceNeg, ↓reduceIte, Int.reduceLT, Int.reduceLE, Int.reduceAdd, Int.reduceSub, Int.reduceBEq, reduceCtorEq, ne_eq, Nat.reduceBEq, ev_0, ev_1, ev_2, ev_3, ev_4, ↓ev_d, startD, isFz, isFzs, szOk, wipeD, putBack, fulls, frzs, full, frz, Row.fe, fulls_ints, frzs_ints]; (try subst hQ); (try simp only [ev_e, List.reduceReplicate, Nat.reduceAdd, Nat.reduceLT, Nat.reduceLeDiff, Nat.reduceSub, Int.reduceNeg, ↓reduceIte, Int.reduceLT, Int.reduceLE, Int.reduceAdd, Int.reduceSub, Int.reduceBEq, reduceCtorEq, ne_eq, Nat.reduceBEq, ev_0, ev_1, ev_2, ev_3, ev_4, ↓ev_d, startD, isFz, isFzs, szOk, wipeD, putBack, fulls, frzs, full, frz, Row.fe, fulls_ints, frzs_ints]))
      simp [candL]
  · rintro j d ρ hj ⟨hn, o, c, z, rfl⟩
    rw [List.getElem?_map] at hj
    obtain ⟨x, hx, rfl⟩ := Option.map_eq_some_iff.mp hj
    refine ⟨_, by ((first | refine wp_gen fun Q hQ => ?_ | skip); simp only [ev_e, List.reduceReplicate, Nat.reduceAdd, Nat.reduceLT, Nat.reduceLeDiff, Nat.reduceSub, Int.reduceNeg, ↓reduceIte, Int.reduceLT, Int.reduceLE, Int.reduceAdd, Int.reduceSub, Int.reduceBEq, reduceCtorEq, ne_eq, Nat.reduceBEq, ev_0, ev_1, ev_2, ev_3, ev_4, ↓ev_d, startD, isFz, isFzs, szOk, wipeD, putBack, fulls, frzs, full, frz, Row.fe, szOk]; (try subst hQ); (try simp only [ev_e, List.reduceReplicate, Nat.reduceAdd, Nat.reduceLT, Nat.reduceLeDiff, Nat.reduceSub, Int.reduceNeg, ↓reduceIte, Int.reduceLT, Int.reduceLE, Int.reduceAdd, Int.reduceSub, Int.reduceBEq, reduceCtorEq, ne_eq, Nat.reduceBEq, ev_0, ev_1, ev_2, ev_3, ev_4, ↓ev_d, startD, isFz, isFzs, szOk, wipeD, putBack, fulls, frzs, full, frz, Row.fe, szOk])); rfl, ?_⟩
    obtain ⟨h0, hh, hl1, hl2⟩ := mem_cand.mp (List.mem_of_getElem? hx)
    obtain ⟨hb1, hb2⟩ := hbr h0 hh
    have next : okAt s cs x = false → ∀ y ∈ (candL s cs).take (j + 1), okAt s cs y = false := fun hf y hy => by
      rw [List.take_add_one, hx] at hy
      rcases List.mem_append.mp hy with hy | hy
      · exact hn y hy
      · simp at hy; rw [hy]; exact hf
    have hso := s_is_so (cs ++ [x]) (fun c hc2 => by
      rcases List.mem_append.mp hc2 with h | h
      · exact hc c h
      · rw [List.mem_singleton.mp h]; constructor <;> omega) (by simp; omega) s (k + 2) (by simpa using w) (by omega)
    have ea : cs.map D.int ++ [D.int x] = (cs ++ [x]).map .int := by simp
    have z3 : cs.length ≤ 16777215 := by omega
    by_cases hx0 : 0 ≤ x
    · have h1 : decide (0 ≤ x) = true := decide_eq_true hx0
      cases hs : so s (cs ++ [x]) with
      | true =>
        rw [hs] at hso
        (rw [wp_cons]; refine wp_gen fun Q hQ => ?_; simp only [ev_e, List.reduceReplicate, Nat.reduceAdd, Nat.reduceLT, Nat.reduceLeDiff, Nat.reduceSub, Int.reduceNeg, ↓reduceIte, Int.reduceLT, Int.reduceLE, Int.reduceAdd, Int.reduceSub, Int.reduceBEq, reduceCtorEq, ne_eq, Nat.reduceBEq, ev_0, ev_1, ev_2, ev_3, ev_4, ↓ev_d, startD, isFz, isFzs, szOk, wipeD, putBack, fulls, frzs, full, frz, Row.fe, h1, nud_dS, isU_dS, fz_dS, z3, ea, hso]; (try subst hQ); (try simp only [ev_e, List.reduceReplicate, Nat.reduceAdd, Nat.reduceLT, Nat.reduceLeDiff, Nat.reduceSub, Int.reduceNeg, ↓reduceIte, Int.reduceLT, Int.reduceLE, Int.reduceAdd, Int.reduceSub, Int.reduceBEq, reduceCtorEq, ne_eq, Nat.reduceBEq, ev_0, ev_1, ev_2, ev_3, ev_4, ↓ev_d, startD, isFz, isFzs, szOk, wipeD, putBack, fulls, frzs, full, frz, Row.fe, h1, nud_dS, isU_dS, fz_dS, z3, ea, hso]))
        rw [wp_cons]
        ((first | refine wp_gen fun Q hQ => ?_ | skip); simp only [ev_e, List.reduceReplicate, Nat.reduceAdd, Nat.reduceLT, Nat.reduceLeDiff, Nat.reduceSub, Int.reduceNeg, ↓reduceIte, Int.reduceLT, Int.reduceLE, Int.reduceAdd, Int.reduceSub, Int.reduceBEq, reduceCtorEq, ne_eq, Nat.reduceBEq, ev_0, ev_1, ev_2, ev_3, ev_4, ↓ev_d, startD, isFz, isFzs, szOk, wipeD, putBack, fulls, frzs, full, frz, Row.fe, szOk]; (try subst hQ); (try simp only [ev_e, List.reduceReplicate, Nat.reduceAdd, Nat.reduceLT, Nat.reduceLeDiff, Nat.reduceSub, Int.reduceNeg, ↓reduceIte, Int.reduceLT, Int.reduceLE, Int.reduceAdd, Int.reduceSub, Int.reduceBEq, reduceCtorEq, ne_eq, Nat.reduceBEq, ev_0, ev_1, ev_2, ev_3, ev_4, ↓ev_d, startD, isFz, isFzs, szOk, wipeD, putBack, fulls, frzs, full, frz, Row.fe, szOk]))
        have := find_at hx hn (by unfold okAt; rw [h1, hs]; rfl)
        simp [lwit, this, dO, endD, r_least_so, Row.fe, nx_ret, nx_nx, Tn]
      | false =>
        rw [hs] at hso
        (rw [wp_cons]; refine wp_gen fun Q hQ => ?_; simp only [ev_e, List.reduceReplicate, Nat.reduceAdd, Nat.reduceLT, Nat.reduceLeDiff, Nat.reduceSub, Int.reduceNeg, ↓reduceIte, Int.reduceLT, Int.reduceLE, Int.reduceAdd, Int.reduceSub, Int.reduceBEq, reduceCtorEq, ne_eq, Nat.reduceBEq, ev_0, ev_1, ev_2, ev_3, ev_4, ↓ev_d, startD, isFz, isFzs, szOk, wipeD, putBack, fulls, frzs, full, frz, Row.fe, h1, nud_dS, isU_dS, fz_dS, z3, ea, hso]; (try subst hQ); (try simp only [ev_e, List.reduceReplicate, Nat.reduceAdd, Nat.reduceLT, Nat.reduceLeDiff, Nat.reduceSub, Int.reduceNeg, ↓reduceIte, Int.reduceLT, Int.reduceLE, Int.reduceAdd, Int.reduceSub, Int.reduceBEq, reduceCtorEq, ne_eq, Nat.reduceBEq, ev_0, ev_1, ev_2, ev_3, ev_4, ↓ev_d, startD, isFz, isFzs, szOk, wipeD, putBack, fulls, frzs, full, frz, Row.fe, h1, nud_dS, isU_dS, fz_dS, z3, ea, hso]))
        exact ⟨next (by unfold okAt; rw [hs, Bool.and_false]), _, _, _, rfl⟩
    · have h1 : decide (0 ≤ x) = false := decide_eq_false hx0
      (rw [wp_cons]; refine wp_gen fun Q hQ => ?_; simp only [ev_e, List.reduceReplicate, Nat.reduceAdd, Nat.reduceLT, Nat.reduceLeDiff, Nat.reduceSub, Int.reduceNeg, ↓reduceIte, Int.reduceLT, Int.reduceLE, Int.reduceAdd, Int.reduceSub, Int.reduceBEq, reduceCtorEq, ne_eq, Nat.reduceBEq, ev_0, ev_1, ev_2, ev_3, ev_4, ↓ev_d, startD, isFz, isFzs, szOk, wipeD, putBack, fulls, frzs, full, frz, Row.fe, h1]; (try subst hQ); (try simp only [ev_e, List.reduceReplicate, Nat.reduceAdd, Nat.reduceLT, Nat.reduceLeDiff, Nat.reduceSub, Int.reduceNeg, ↓reduceIte, Int.reduceLT, Int.reduceLE, Int.reduceAdd, Int.reduceSub, Int.reduceBEq, reduceCtorEq, ne_eq, Nat.reduceBEq, ev_0, ev_1, ev_2, ev_3, ev_4, ↓ev_d, startD, isFz, isFzs, szOk, wipeD, putBack, fulls, frzs, full, frz, Row.fe, h1]))
      exact ⟨next (by unfold okAt; rw [h1]; rfl), _, _, _, rfl⟩
  · rintro ρ ⟨hn, o, c, z, rfl⟩
    rw [List.length_map, List.take_length] at hn
    rw [nx_nx]
    have : lwit s cs = none := List.find?_eq_none.mpr fun x hx => by rw [hn x hx]; exact Bool.false_ne_true
    repeat (rw [wp_cons]; refine wp_gen fun Q hQ => ?_; simp only [ev_e, List.reduceReplicate, Nat.reduceAdd, Nat.reduceLT, Nat.reduceLeDiff, Nat.reduceSub, Int.reduceNeg, ↓reduceIte, Int.reduceLT, Int.reduceLE, Int.reduceAdd, Int.reduceSub, Int.reduceBEq, reduceCtorEq, ne_eq, Nat.reduceBEq, ev_0, ev_1, ev_2, ev_3, ev_4, ↓ev_d, startD, isFz, isFzs, szOk, wipeD, putBack, fulls, frzs, full, frz, Row.fe, r_least_so, this, dO]; (try subst hQ); (try simp only [ev_e, List.reduceReplicate, Nat.reduceAdd, Nat.reduceLT, Nat.reduceLeDiff, Nat.reduceSub, Int.reduceNeg, ↓reduceIte, Int.reduceLT, Int.reduceLE, Int.reduceAdd, Int.reduceSub, Int.reduceBEq, reduceCtorEq, ne_eq, Nat.reduceBEq, ev_0, ev_1, ev_2, ev_3, ev_4, ↓ev_d, startD, isFz, isFzs, szOk, wipeD, putBack, fulls, frzs, full, frz, Row.fe, r_least_so, this, dO]))
theorem s_witness (k : Nat) (wd : Str) (hw : wd = "some" ∨ wd = "all") (cs : List Int) (s : Sen) (h : WOk cs (if wd = "some" then s else .neg s)) (hd : dep s + 1 ≤ k + 1) : callN tab kn (k + 4) "witness" [.tup [.str wd, dS s], .tup (cs.map .int)] = .ok (dO (lwit (if wd = "some" then s else .neg s) cs), [.tup [.str wd, dS s], .tup (cs.map .int)]) := by
  rw [call_code t_witness]
  refine run_eq rfl ?_
  show Wp (evSs _ b_witness (startD 2 [.tup [.str wd, dS s], .tup (cs.map .int)])) _
  unfold b_witness
  have h1 := s_sought (k + 2) wd hw s
  have hdd : dep (if wd = "some" then s else .neg s) ≤ k + 1 := by
    split
    · omega
    · show dep s + 1 ≤ k + 1; exact hd
  have h2 := s_least_so k cs _ h hdd
  repeat (rw [wp_cons]; refine wp_gen fun Q hQ => ?_; simp only [ev_e, List.reduceReplicate, Nat.reduceAdd, Nat.reduceLT, Nat.reduceLeDiff, Nat.reduceSub, Int.reduceNeg, ↓reduceIte, Int.reduceLT, Int.reduceLE, Int.reduceAdd, Int.reduceSub, Int.reduceBEq, reduceCtorEq, ne_eq, Nat.reduceBEq, ev_0, ev_1, ev_2, ev_3, ev_4, ↓ev_d, startD, isFz, isFzs, szOk, wipeD, putBack, fulls, frzs, full, frz, Row.fe, h1, h2, fz_dS, nud_dS, r_witness]; (try subst hQ); (try simp only [ev_e, List.reduceReplicate, Nat.reduceAdd, Nat.reduceLT, Nat.reduceLeDiff, Nat.reduceSub, Int.reduceNeg, ↓reduceIte, Int.reduceLT, Int.reduceLE, Int.reduceAdd, Int.reduceSub, Int.reduceBEq, reduceCtorEq, ne_eq, Nat.reduceBEq, ev_0, ev_1, ev_2, ev_3, ev_4, ↓ev_d, startD, isFz, isFzs, szOk, wipeD, putBack, fulls, frzs, full, frz, Row.fe, h1, h2, fz_dS, nud_dS, r_witness]))
theorem s_holds (k : Nat) (wd : Str) (hw : wd = "some" ∨ wd = "all") (cs : List Int) (s : Sen) (h : WOk cs (if wd = "some" then s else .neg s)) (hd : dep s + 1 ≤ k + 1) : callN tab kn (k + 5) "holds" [.tup [.str wd, dS s], .tup (cs.map .int)] = .ok (.bl ((lwit (if wd = "some" then s else .neg s) cs).isNone == decide (wd = "all")), [.tup [.str wd, dS s], .tup (cs.map .int)]) := by
  rw [call_code t_holds]
  refine run_eq rfl ?_
  show Wp (evSs _ b_holds (startD 2 [.tup [.str wd, dS s], .tup (cs.map .int)])) _
  unfold b_holds
  have h1 := s_witness k wd hw cs s h hd
  have hn : isN (dO (lwit (if wd = "some" then s else .neg s) cs)) = some ((lwit (if wd = "some" then s else .neg s) cs).isNone) := by cases lwit _ cs <;> rfl
  have hne : ¬ (("some" : Str) = "all") := by decide +kernel
  generalize lwit (if wd = "some" then s else .neg s) cs = t at *
  have q := eqD_bl t.isNone (decide (wd = "all"))
  rcases hw with rfl | rfl
  · rw [decide_eq_false hne] at q ⊢
    repeat (rw [wp_cons]; refine wp_gen fun Q hQ => ?_; simp only [ev_e, List.reduceReplicate, Nat.reduceAdd, Nat.reduceLT, Nat.reduceLeDiff, Nat.reduceSub, Int.reduceNeg, ↓reduceIte, Int.reduceLT, Int.reduceLE, Int.reduceAdd, Int.reduceSub, Int.reduceBEq, reduceCtorEq, ne_eq, Nat.reduceBEq, ev_0, ev_1, ev_2, ev_3, ev_4, ↓ev_d, startD, isFz, isFzs, szOk, wipeD, putBack, fulls, frzs, full, frz, Row.fe, ev_q, h1, hn, fz_dS, nud_dS, q, r_holds]; (try subst hQ); (try simp only [ev_e, List.reduceReplicate, Nat.reduceAdd, Nat.reduceLT, Nat.reduceLeDiff, Nat.reduceSub, Int.reduceNeg, ↓reduceIte, Int.reduceLT, Int.reduceLE, Int.reduceAdd, Int.reduceSub, Int.reduceBEq, reduceCtorEq, ne_eq, Nat.reduceBEq, ev_0, ev_1, ev_2, ev_3, ev_4, ↓ev_d, startD, isFz, isFzs, szOk, wipeD, putBack, fulls, frzs, full, frz, Row.fe, ev_q, h1, hn, fz_dS, nud_dS, q, r_holds]))
  · rw [decide_eq_true rfl] at q ⊢
    repeat (rw [wp_cons]; refine wp_gen fun Q hQ => ?_; simp only [ev_e, List.reduceReplicate, Nat.reduceAdd, Nat.reduceLT, Nat.reduceLeDiff, Nat.reduceSub, Int.reduceNeg, ↓reduceIte, Int.reduceLT, Int.reduceLE, Int.reduceAdd, Int.reduceSub, Int.reduceBEq, reduceCtorEq, ne_eq, Nat.reduceBEq, ev_0, ev_1, ev_2, ev_3, ev_4, ↓ev_d, startD, isFz, isFzs, szOk, wipeD, putBack, fulls, frzs, full, frz, Row.fe, ev_q, h1, hn, fz_dS, nud_dS, q, r_holds]; (try subst hQ); (try simp only [ev_e, List.reduceReplicate, Nat.reduceAdd, Nat.reduceLT, Nat.reduceLeDiff, Nat.reduceSub, Int.reduceNeg, ↓reduceIte, Int.reduceLT, Int.reduceLE, Int.reduceAdd, Int.reduceSub, Int.reduceBEq, reduceCtorEq, ne_eq, Nat.reduceBEq, ev_0, ev_1, ev_2, ev_3, ev_4, ↓ev_d, startD, isFz, isFzs, szOk, wipeD, putBack, fulls, frzs, full, frz, Row.fe, ev_q, h1, hn, fz_dS, nud_dS, q, r_holds]))
end K43
/-! the questions of k43, plainly -/
namespace Sn
open PySem L2 Cs
def anyF : Nat → List Sen → Sen
  | 0, l => l.headD (.least [] 0)
  | k + 1, l => if 1 < l.length then anyF k (pairUp l) else l.headD (.least [] 0)
theorem anyF_eq : ∀ (k : Nat) (l : List Sen), l.length ≤ 2 ^ k → anyOf l = anyF k l
  | 0, l, h => by
    unfold anyOf anyF
    rw [dif_neg (by simp at h; omega)]
  | k + 1, l, h => by
    unfold anyOf anyF
    split
    · exact anyF_eq k _ (by rw [pairUp_len]; rw [Nat.pow_succ] at h; omega)
    · rfl
def s1 : Sen := .and (.and (.least [0,1,-3] 0) (.least [0,-1,3] 0)) (.least [-3,0,1] 4)
def s2 : Sen := .and (.and (.least [1,0,-2] 0) (.least [-1,0,2] 0)) (.and (.least [0,-2,1] 0) (.least [0,2,-1] 0))
@[irreducible] def f1 : Sen := anyF 10 (found 2 s1)
@[irreducible] def f2 : Sen := anyF 10 (found 2 s2)
@[irreducible] def f3 : Sen := anyF 10 (found 1 f2)
theorem len1 : (found 2 s1).length ≤ 2 ^ 10 := by decide +kernel
theorem len2 : (found 2 s2).length ≤ 2 ^ 10 := by decide +kernel
theorem len3 : (found 1 f2).length ≤ 2 ^ 10 := by decide +kernel
theorem e1 : plainlySome 2 s1 = f1 := by unfold f1; exact anyF_eq 10 _ len1
theorem e2 : plainlySome 2 s2 = f2 := by unfold f2; exact anyF_eq 10 _ len2
theorem e3 : plainlySome 1 f2 = f3 := by unfold f3; exact anyF_eq 10 _ len3
theorem w1 : Wf 3 s1 := ⟨⟨rfl, rfl⟩, rfl⟩
theorem w2 : Wf 3 s2 := ⟨⟨rfl, rfl⟩, rfl, rfl⟩
theorem wf1 : Wf 2 f1 := e1 ▸ plainly_wf w1
theorem wf2 : Wf 2 f2 := e2 ▸ plainly_wf w2
theorem wf3 : Wf 1 f3 := e3 ▸ plainly_wf wf2
theorem d1 : dep f1 = 8 := by decide +kernel
theorem d2 : dep f2 = 8 := by decide +kernel
theorem d3 : dep f3 = 16 := by decide +kernel
theorem a1 : (atoms f1).length = 38 := by decide +kernel
theorem a2 : (atoms f2).length = 40 := by decide +kernel
theorem wh1 : wheel f1 = 3 := by decide +kernel
theorem wh2 : wheel f2 = 1 := by decide +kernel
def small : Sen → Bool
  | .least ws k => ws.all (fun w => decide (-100 ≤ w ∧ w ≤ 100)) && decide (-100 ≤ k ∧ k ≤ 100)
  | _ => true
def lastA : Sen → Int | .least ws _ => last ws | .rest ws _ _ => last ws | _ => 0
def partA : Sen → Int | .least _ _ => 1 | .rest _ m _ => m | _ => 1
theorem sm1 : ∀ a ∈ atoms f1, small a = true := by rw [← List.all_eq_true]; decide +kernel
theorem sm2 : ∀ a ∈ atoms f2, small a = true := by rw [← List.all_eq_true]; decide +kernel
theorem lp1 : ∀ a ∈ atoms f1, (lastA a).natAbs ≤ 4 ∧ partA a < 1000 := fun a ha => of_decide_eq_true (List.all_eq_true.mp (by decide +kernel : ((atoms f1).all fun a => decide ((lastA a).natAbs ≤ 4 ∧ partA a < 1000)) = true) a ha)
theorem lp2 : ∀ a ∈ atoms f2, (lastA a).natAbs ≤ 4 ∧ partA a < 1000 := fun a ha => of_decide_eq_true (List.all_eq_true.mp (by decide +kernel : ((atoms f2).all fun a => decide ((lastA a).natAbs ≤ 4 ∧ partA a < 1000)) = true) a ha)
theorem head_sm {n : Nat} {s : Sen} {cs : List Int} {M : Int} (w : Wf (n + 1) s) (hl : cs.length = n) (hn : n ≤ 2) (hM : 0 ≤ M) (hc : ∀ c ∈ cs, 0 ≤ c ∧ c ≤ M) (h : ∀ a ∈ atoms s, small a = true) : ∀ x ∈ headsL s cs, -(200 * M + 101) ≤ x ∧ x ≤ 200 * M + 101 := by
  intro x hx
  rcases List.mem_cons.mp hx with rfl | hx
  · omega
  obtain ⟨a, ha, rfl⟩ := List.mem_map.mp hx
  obtain ⟨h1, h2⟩ := List.mem_filter.mp ha
  have hb := h a h1
  have hw := wf_atoms s w a h1
  cases a with
  | least ws k =>
    have h0 : last ws ≠ 0 := by simpa [breaks] using h2
    have hwl : ws.length = n + 1 := hw
    unfold small at hb
    rw [Bool.and_eq_true, List.all_eq_true, decide_eq_true_eq] at hb
    have hm : ∀ w ∈ fore ws, -100 ≤ w ∧ w ≤ 100 := fun w hw => of_decide_eq_true (hb.1 w (List.dropLast_subset _ hw))
    obtain ⟨d1, d2⟩ := dot_bd (B := 100) (by decide) hM (fore ws) cs hm hc
    have e : 100 * M * (cs.length : Int) ≤ 100 * M * 2 := Int.mul_le_mul_of_nonneg_left (by omega) (by omega)
    obtain ⟨_, hk1, hk2⟩ := hb
    have := brk_bd (ws := ws) (cs := cs) (k := k) h0 (L := 200 * M + 100) (by unfold left; omega)
    show -(200 * M + 101) ≤ brk ws k cs ∧ brk ws k cs ≤ 200 * M + 101
    omega
  | rest _ _ _ => cases h2
  | neg _ => cases h2
  | and _ _ => cases h2
  | or _ _ => cases h2
theorem so_f1 (x y : Int) : so f1 [x, y] = true ↔ ∃ z, 0 ≤ z ∧ so s1 [x, y, z] = true := by
  rw [← e1]; exact plainly_so (cs := [x, y]) w1
theorem so_f2 (x y : Int) : so f2 [x, y] = true ↔ ∃ z, 0 ≤ z ∧ so s2 [x, y, z] = true := by
  rw [← e2]; exact plainly_so (cs := [x, y]) w2
theorem so_f3 (x : Int) : so f3 [x] = true ↔ ∃ y, 0 ≤ y ∧ so f2 [x, y] = true := by
  rw [← e3]; exact plainly_so (cs := [x]) wf2
theorem not_tr {b : Bool} (h : ¬ b = true) : b = false := by cases b <;> simp_all
theorem least1 {x : Int} (hx : 0 ≤ x) : IsLeast (fun y => so f1 ([x] ++ [y])) (some (9 * x + 12)) := by
  refine ⟨by omega, (so_f1 _ _).mpr ⟨3 * x + 4, by omega, ?_⟩, fun z hz h => ?_⟩
  · simp [so, s1, dot]; omega
  · obtain ⟨y, hy, h⟩ := (so_f1 _ _).mp h
    simp [so, s1, dot] at h; omega
theorem so2_iff {x y : Int} (hy : 0 ≤ y) : so f2 [x, y] = true ↔ x = 4 * y := by
  rw [so_f2]
  constructor
  · rintro ⟨z, hz, h⟩
    simp [so, s2, dot] at h; omega
  · intro h
    exact ⟨2 * y, by omega, by simp [so, s2, dot]; omega⟩
theorem least2 {x : Int} (hx : 0 ≤ x) : IsLeast (fun y => so f2 ([x] ++ [y])) (if x % 4 = 0 then some (x / 4) else none) := by
  split
  · refine ⟨by omega, (so2_iff (by omega)).mpr (by omega), fun z hz h => ?_⟩
    have := (so2_iff hz).mp h; omega
  · exact fun z hz => not_tr fun h => by have := (so2_iff hz).mp h; omega
theorem so3 {x : Int} (hx : 0 ≤ x) : so f3 [x] = decide (x % 4 = 0) := by
  rw [Bool.eq_iff_iff, so_f3, decide_eq_true_eq]
  constructor
  · rintro ⟨y, hy, h⟩; have := (so2_iff hy).mp h; omega
  · intro h; exact ⟨x / 4, by omega, (so2_iff (by omega)).mpr (by omega)⟩
end Sn
namespace K43
open PySem L2 Cs Sn
def AtB : Sen → Prop
  | .least ws k => (∀ w ∈ ws, -3 ≤ w ∧ w ≤ 3) ∧ -4 ≤ k ∧ k ≤ 4
  | .rest ws m _ => (∀ w ∈ ws, -3 ≤ w ∧ w ≤ 3) ∧ 2 ≤ m ∧ m ≤ 5
  | _ => False
structure Sb (n d : Nat) (s : Sen) : Prop where
  w : Wf n s
  dp : dep s ≤ d + 1
  at_ : (atoms s).length ≤ 2 ^ d
  b : ∀ a ∈ atoms s, AtB a
theorem wheel60 {n d : Nat} {s : Sen} (h : Sb n d s) : 0 < wheel s ∧ wheel s ≤ 60 := by
  have hw := (wheel_ok h.w).1
  refine ⟨hw, Int.le_of_dvd (by decide) (wheel_dvd 60 (atoms s) 1 (by decide) (by decide) (wf_atoms s h.w) fun a ha => ?_)⟩
  have hb := h.b a ha
  cases a with
  | least _ _ => trivial
  | rest ws m r =>
    have h1 : m = 2 ∨ m = 3 ∨ m = 4 ∨ m = 5 := by have := hb.2; omega
    show m ∣ 60
    rcases h1 with rfl | rfl | rfl | rfl <;> decide
  | neg _ => trivial
  | and _ _ => trivial
  | or _ _ => trivial
theorem atb_last {n d : Nat} {s : Sen} (h : Sb (n + 1) d s) : ∀ a ∈ atoms s, (lastOf a).natAbs ≤ 3 ∧ partOf a < 4611686018427387904 := fun a ha => by
  have hb := h.b a ha
  have hw := wf_atoms s h.w a ha
  cases a with
  | least ws k =>
    have := hb.1 _ (last_mem (show ws.length = n + 1 from hw))
    exact ⟨by show (last ws).natAbs ≤ 3; omega, by show (1 : Int) < _; decide⟩
  | rest ws m r =>
    have := hb.1 _ (last_mem (show ws.length = n + 1 from hw.1))
    exact ⟨by show (last ws).natAbs ≤ 3; omega, by show m < _; have := hb.2; omega⟩
  | neg _ => exact hb.elim
  | and _ _ => exact hb.elim
  | or _ _ => exact hb.elim
theorem neg_sb {n d : Nat} {s : Sen} (h : Sb n d s) : Sb n (d + 1) (.neg s) := ⟨h.w, by have := h.dp; show dep s + 1 ≤ _; omega, by have := h.at_; show (atoms s).length ≤ _; rw [Nat.pow_succ]; omega, h.b⟩
theorem ok_of {n d : Nat} {s : Sen} (hn : 1 ≤ n) (hn2 : n ≤ 1000) (h : Sb (n + 1) d s) (hd : d ≤ 3) : Ok n 3 s := by
  obtain ⟨h1, h2⟩ := wheel60 h
  refine ⟨h.w, hn, hn2, by decide, ?_, atb_last h, ?_⟩
  · have := h.at_
    have : 2 ^ d ≤ 2 ^ 3 := Nat.pow_le_pow_right (by decide) hd
    omega
  · omega
theorem plain_dep {n d : Nat} {s : Sen} (h : Sb (n + 1) d s) (hd : d ≤ 3) (ha : (atoms s).length ≤ 4) : dep (plainlySome n s) ≤ d + 13 := by
  obtain ⟨h1, h2⟩ := wheel60 h
  have hl := atb_last h
  have hlen : (found n s).length ≤ 2 ^ 10 := by
    have := found_len (n := n) (B := 3) (s := s) fun a ha => by
      have := (hl a ha).1
      cases a <;> first | exact this | trivial
    have h3 : (wheel s).toNat * (1 + (atoms s).length * 3) ≤ 60 * 13 := Nat.mul_le_mul (by omega) (by omega)
    omega
  have := dep_any (dep s + 2) 10 (found n s) (found_ne h.w) hlen dep_found
  have := h.dp
  unfold plainlySome
  omega
theorem t_same : tab "_law_same" = some (.code r__law_same.fe) := by kernel_rfl
theorem t_questions : tab "_law_questions" = some (.code r__law_questions.fe) := by kernel_rfl
theorem t_told : tab "_law_told_right" = some (.code r__law_told_right.fe) := by kernel_rfl
theorem t_law : tab "law" = some (.code r_law.fe) := by kernel_rfl
def same (ws : List Int) (b : Int) : Sen := .and (.least ws b) (.least (ws.map (- ·)) (-b))
theorem s_same (k : Nat) (ws : List Int) (b : Int) (hw : ws.length ≤ 1000) : callN tab kn (k + 1) "_law_same" [.tup (ws.map .int), .int b] = .ok (dS (same ws b), [.tup (ws.map .int), .int b]) := by
  rw [call_code t_same]
  refine run_eq rfl ?_
  show Wp (evSs _ b__law_same (startD 4 [.tup (ws.map .int), .int b])) _
  unfold b__law_same
  rw [wp_cons]
  ((first | refine wp_gen fun Q hQ => ?_ | skip); simp only [ev_e, List.reduceReplicate, Nat.reduceAdd, Nat.reduceLT, Nat.reduceLeDiff, Nat.reduceSub, Int.reduceNeg, ↓reduceIte, Int.reduceLT, Int.reduceLE, Int.reduceAdd, Int.reduceSub, Int.reduceBEq, reduceCtorEq, ne_eq, Nat.reduceBEq, ev_0, ev_1, ev_2, ev_3, ev_4, ↓ev_d, startD, isFz, isFzs, szOk, wipeD, putBack, fulls, frzs, full, frz, Row.fe, szOk]; (try subst hQ); (try simp only [ev_e, List.reduceReplicate, Nat.reduceAdd, Nat.reduceLT, Nat.reduceLeDiff, Nat.reduceSub, Int.reduceNeg, ↓reduceIte, Int.reduceLT, Int.reduceLE, Int.reduceAdd, Int.reduceSub, Int.reduceBEq, reduceCtorEq, ne_eq, Nat.reduceBEq, ev_0, ev_1, ev_2, ev_3, ev_4, ↓ev_d, startD, isFz, isFzs, szOk, wipeD, putBack, fulls, frzs, full, frz, Row.fe, szOk]))
  refine wp_lcM ws (fun p => .int p) (fun p => .int (-p)) [.tup (ws.map .int), .int b, .undef, .undef] ?_ ?_ ?_ ?_
  · ((first | refine wp_gen fun Q hQ => ?_ | skip); simp only [ev_e, List.reduceReplicate, Nat.reduceAdd, Nat.reduceLT, Nat.reduceLeDiff, Nat.reduceSub, Int.reduceNeg, ↓reduceIte, Int.reduceLT, Int.reduceLE, Int.reduceAdd, Int.reduceSub, Int.reduceBEq, reduceCtorEq, ne_eq, Nat.reduceBEq, ev_0, ev_1, ev_2, ev_3, ev_4, ↓ev_d, startD, isFz, isFzs, szOk, wipeD, putBack, fulls, frzs, full, frz, Row.fe, szOk]; (try subst hQ); (try simp only [ev_e, List.reduceReplicate, Nat.reduceAdd, Nat.reduceLT, Nat.reduceLeDiff, Nat.reduceSub, Int.reduceNeg, ↓reduceIte, Int.reduceLT, Int.reduceLE, Int.reduceAdd, Int.reduceSub, Int.reduceBEq, reduceCtorEq, ne_eq, Nat.reduceBEq, ev_0, ev_1, ev_2, ev_3, ev_4, ↓ev_d, startD, isFz, isFzs, szOk, wipeD, putBack, fulls, frzs, full, frz, Row.fe, szOk]))
  · rw [sizeLine_eq]; omega
  · intro w hw
    refine ⟨_, by ((first | refine wp_gen fun Q hQ => ?_ | skip); simp only [ev_e, List.reduceReplicate, Nat.reduceAdd, Nat.reduceLT, Nat.reduceLeDiff, Nat.reduceSub, Int.reduceNeg, ↓reduceIte, Int.reduceLT, Int.reduceLE, Int.reduceAdd, Int.reduceSub, Int.reduceBEq, reduceCtorEq, ne_eq, Nat.reduceBEq, ev_0, ev_1, ev_2, ev_3, ev_4, ↓ev_d, startD, isFz, isFzs, szOk, wipeD, putBack, fulls, frzs, full, frz, Row.fe, szOk]; (try subst hQ); (try simp only [ev_e, List.reduceReplicate, Nat.reduceAdd, Nat.reduceLT, Nat.reduceLeDiff, Nat.reduceSub, Int.reduceNeg, ↓reduceIte, Int.reduceLT, Int.reduceLE, Int.reduceAdd, Int.reduceSub, Int.reduceBEq, reduceCtorEq, ne_eq, Nat.reduceBEq, ev_0, ev_1, ev_2, ev_3, ev_4, ↓ev_d, startD, isFz, isFzs, szOk, wipeD, putBack, fulls, frzs, full, frz, Row.fe, szOk])); rfl, ?_⟩
    ((first | refine wp_gen fun Q hQ => ?_ | skip); simp only [ev_e, List.reduceReplicate, Nat.reduceAdd, Nat.reduceLT, Nat.reduceLeDiff, Nat.reduceSub, Int.reduceNeg, ↓reduceIte, Int.reduceLT, Int.reduceLE, Int.reduceAdd, Int.reduceSub, Int.reduceBEq, reduceCtorEq, ne_eq, Nat.reduceBEq, ev_0, ev_1, ev_2, ev_3, ev_4, ↓ev_d, startD, isFz, isFzs, szOk, wipeD, putBack, fulls, frzs, full, frz, Row.fe, szOk]; (try subst hQ); (try simp only [ev_e, List.reduceReplicate, Nat.reduceAdd, Nat.reduceLT, Nat.reduceLeDiff, Nat.reduceSub, Int.reduceNeg, ↓reduceIte, Int.reduceLT, Int.reduceLE, Int.reduceAdd, Int.reduceSub, Int.reduceBEq, reduceCtorEq, ne_eq, Nat.reduceBEq, ev_0, ev_1, ev_2, ev_3, ev_4, ↓ev_d, startD, isFz, isFzs, szOk, wipeD, putBack, fulls, frzs, full, frz, Row.fe, szOk]))
  · have e : (ws.map fun p => D.int (-p)) = (ws.map (- ·)).map .int := by simp
    rw [e]
    ((first | refine wp_gen fun Q hQ => ?_ | skip); simp only [ev_e, List.reduceReplicate, Nat.reduceAdd, Nat.reduceLT, Nat.reduceLeDiff, Nat.reduceSub, Int.reduceNeg, ↓reduceIte, Int.reduceLT, Int.reduceLE, Int.reduceAdd, Int.reduceSub, Int.reduceBEq, reduceCtorEq, ne_eq, Nat.reduceBEq, ev_0, ev_1, ev_2, ev_3, ev_4, ↓ev_d, startD, isFz, isFzs, szOk, wipeD, putBack, fulls, frzs, full, frz, Row.fe, isFzs_ints]; (try subst hQ); (try simp only [ev_e, List.reduceReplicate, Nat.reduceAdd, Nat.reduceLT, Nat.reduceLeDiff, Nat.reduceSub, Int.reduceNeg, ↓reduceIte, Int.reduceLT, Int.reduceLE, Int.reduceAdd, Int.reduceSub, Int.reduceBEq, reduceCtorEq, ne_eq, Nat.reduceBEq, ev_0, ev_1, ev_2, ev_3, ev_4, ↓ev_d, startD, isFz, isFzs, szOk, wipeD, putBack, fulls, frzs, full, frz, Row.fe, isFzs_ints]))
    repeat (rw [wp_cons]; refine wp_gen fun Q hQ => ?_; simp only [ev_e, List.reduceReplicate, Nat.reduceAdd, Nat.reduceLT, Nat.reduceLeDiff, Nat.reduceSub, Int.reduceNeg, ↓reduceIte, Int.reduceLT, Int.reduceLE, Int.reduceAdd, Int.reduceSub, Int.reduceBEq, reduceCtorEq, ne_eq, Nat.reduceBEq, ev_0, ev_1, ev_2, ev_3, ev_4, ↓ev_d, startD, isFz, isFzs, szOk, wipeD, putBack, fulls, frzs, full, frz, Row.fe, same, dS, r__law_same]; (try subst hQ); (try simp only [ev_e, List.reduceReplicate, Nat.reduceAdd, Nat.reduceLT, Nat.reduceLeDiff, Nat.reduceSub, Int.reduceNeg, ↓reduceIte, Int.reduceLT, Int.reduceLE, Int.reduceAdd, Int.reduceSub, Int.reduceBEq, reduceCtorEq, ne_eq, Nat.reduceBEq, ev_0, ev_1, ev_2, ev_3, ev_4, ↓ev_d, startD, isFz, isFzs, szOk, wipeD, putBack, fulls, frzs, full, frz, Row.fe, same, dS, r__law_same]))
end K43
namespace K43
open PySem L2 Cs Sn
/-- a good question: of the sentence that is sought the answer is the least witness -/
structure Qn (wd : Str) (s : Sen) (cs : List Int) (o : Option Int) : Prop where
  hw : wd = "some" ∨ wd = "all"
  n1 : 1 ≤ cs.length
  n2 : cs.length ≤ 2
  sb : Sb (cs.length + 1) 3 (if wd = "some" then s else .neg s)
  at4 : (atoms s).length ≤ 4
  dp : dep s ≤ 3
  c : ∀ c ∈ cs, 0 ≤ c ∧ c ≤ 1000000
  il : IsLeast (fun y => so (if wd = "some" then s else .neg s) (cs ++ [y])) o
  ob : ∀ y, o = some y → 0 ≤ y ∧ y ≤ 4000000
theorem ne_as : ¬ (("all" : Str) = "some") := by decide +kernel
theorem qn_some {s : Sen} {cs : List Int} {o : Option Int} (n1 : 1 ≤ cs.length) (n2 : cs.length ≤ 2) (w : Wf (cs.length + 1) s) (dp : dep s ≤ 3) (at4 : (atoms s).length ≤ 4) (b : ∀ a ∈ atoms s, AtB a) (c : ∀ c ∈ cs, 0 ≤ c ∧ c ≤ 1000000) (il : IsLeast (fun y => so s (cs ++ [y])) o) (ob : ∀ y, o = some y → 0 ≤ y ∧ y ≤ 4000000) : Qn "some" s cs o :=
  ⟨.inl rfl, n1, n2, by rw [if_pos rfl]; exact ⟨w, by omega, by omega, b⟩, at4, dp, c, by rw [if_pos rfl]; exact il, ob⟩
theorem qn_all {s : Sen} {cs : List Int} {o : Option Int} (n1 : 1 ≤ cs.length) (n2 : cs.length ≤ 2) (w : Wf (cs.length + 1) s) (dp : dep s ≤ 3) (at4 : (atoms s).length ≤ 4) (b : ∀ a ∈ atoms s, AtB a) (c : ∀ c ∈ cs, 0 ≤ c ∧ c ≤ 1000000) (il : IsLeast (fun y => so (.neg s) (cs ++ [y])) o) (ob : ∀ y, o = some y → 0 ≤ y ∧ y ≤ 4000000) : Qn "all" s cs o :=
  ⟨.inr rfl, n1, n2, by rw [if_neg ne_as]; exact ⟨w, by show dep s + 1 ≤ 3 + 1; omega, by show (atoms s).length ≤ _; omega, b⟩, at4, dp, c, by rw [if_neg ne_as]; exact il, ob⟩
theorem ntr {b : Bool} (h : ¬ b = true) : b = false := by cases b <;> simp_all

theorem q1 {t mo x z m r : Int} (t1 : 1 ≤ t) (t3 : t ≤ 3) (m1 : 0 ≤ mo) (m4 : mo ≤ 4) (hx : 0 ≤ x) (hx2 : x ≤ 1000000) (hz : 0 ≤ z) (hz2 : z ≤ 1000000) (k2 : 2 ≤ m) (k5 : m ≤ 5) (r0 : 0 ≤ r) (r1 : r < m) : Qn "some" (same [1, -t] 0) [x] (if (x % t == 0) = true then some (x / t) else none) := by
  have ht : t = 1 ∨ t = 2 ∨ t = 3 := by omega
  refine qn_some (by simp) (by simp) ?_ (by simp [same, dep]) (by simp [same, atoms]) ?_ ?_ ?_ ?_
  · simp [same, Wf] <;> omega
  · intro a ha; simp [same, atoms] at ha; first | (rcases ha with rfl | rfl | rfl) | (rcases ha with rfl | rfl) | subst ha
    all_goals (refine ⟨fun w hw => ?_, ?_, ?_⟩ <;> (try simp at hw) <;> omega)
  · intro c hc; simp at hc; omega
  · split
    · rename_i h; try simp at h
      refine ⟨by rcases ht with rfl | rfl | rfl <;> omega, by simp [same, so, dot]; rcases ht with rfl | rfl | rfl <;> omega, fun y hy g => ?_⟩
      simp [same, so, dot] at g
      rcases ht with rfl | rfl | rfl <;> omega
    · rename_i h; try simp at h
      exact fun y hy => ntr fun g => by
        simp [same, so, dot] at g <;> (rcases ht with rfl | rfl | rfl <;> omega)
  · intro y hy; split at hy <;> rename_i h <;> (try simp at h)
    · first | (simp at hy; rcases ht with rfl | rfl | rfl <;> omega) | cases hy
    · first | (simp at hy; rcases ht with rfl | rfl | rfl <;> omega) | cases hy
theorem q2 {t mo x z m r : Int} (t1 : 1 ≤ t) (t3 : t ≤ 3) (m1 : 0 ≤ mo) (m4 : mo ≤ 4) (hx : 0 ≤ x) (hx2 : x ≤ 1000000) (hz : 0 ≤ z) (hz2 : z ≤ 1000000) (k2 : 2 ≤ m) (k5 : m ≤ 5) (r0 : 0 ≤ r) (r1 : r < m) : Qn "all" (.neg (same [1, -t] 0)) [x] (if (x % t == 0) = true then some (x / t) else none) := by
  have ht : t = 1 ∨ t = 2 ∨ t = 3 := by omega
  refine qn_all (by simp) (by simp) ?_ (by simp [same, dep]) (by simp [same, atoms]) ?_ ?_ ?_ ?_
  · simp [same, Wf] <;> omega
  · intro a ha; simp [same, atoms] at ha; first | (rcases ha with rfl | rfl | rfl) | (rcases ha with rfl | rfl) | subst ha
    all_goals (refine ⟨fun w hw => ?_, ?_, ?_⟩ <;> (try simp at hw) <;> omega)
  · intro c hc; simp at hc; omega
  · split
    · rename_i h; try simp at h
      refine ⟨by rcases ht with rfl | rfl | rfl <;> omega, by simp [same, so, dot]; rcases ht with rfl | rfl | rfl <;> omega, fun y hy g => ?_⟩
      simp [same, so, dot] at g
      rcases ht with rfl | rfl | rfl <;> omega
    · rename_i h; try simp at h
      exact fun y hy => ntr fun g => by
        simp [same, so, dot] at g <;> (rcases ht with rfl | rfl | rfl <;> omega)
  · intro y hy; split at hy <;> rename_i h <;> (try simp at h)
    · first | (simp at hy; rcases ht with rfl | rfl | rfl <;> omega) | cases hy
    · first | (simp at hy; rcases ht with rfl | rfl | rfl <;> omega) | cases hy
theorem q3 {t mo x z m r : Int} (t1 : 1 ≤ t) (t3 : t ≤ 3) (m1 : 0 ≤ mo) (m4 : mo ≤ 4) (hx : 0 ≤ x) (hx2 : x ≤ 1000000) (hz : 0 ≤ z) (hz2 : z ≤ 1000000) (k2 : 2 ≤ m) (k5 : m ≤ 5) (r0 : 0 ≤ r) (r1 : r < m) : Qn "some" (same [1, -1, -1] mo) [x, z] (if z + mo ≤ x then some (x - z - mo) else none) := by
  refine qn_some (by simp) (by simp) ?_ (by simp [same, dep]) (by simp [same, atoms]) ?_ ?_ ?_ ?_
  · simp [same, Wf] <;> omega
  · intro a ha; simp [same, atoms] at ha; first | (rcases ha with rfl | rfl | rfl) | (rcases ha with rfl | rfl) | subst ha
    all_goals (refine ⟨fun w hw => ?_, ?_, ?_⟩ <;> (try simp at hw) <;> omega)
  · intro c hc; simp at hc; omega
  · split
    · rename_i h; try simp at h
      refine ⟨by omega, by simp [same, so, dot]; omega, fun y hy g => ?_⟩
      simp [same, so, dot] at g
      omega
    · rename_i h; try simp at h
      exact fun y hy => ntr fun g => by
        simp [same, so, dot] at g <;> (omega)
  · intro y hy; split at hy <;> rename_i h <;> (try simp at h)
    · first | (simp at hy; omega) | cases hy
    · first | (simp at hy; omega) | cases hy
theorem q4 {t mo x z m r : Int} (t1 : 1 ≤ t) (t3 : t ≤ 3) (m1 : 0 ≤ mo) (m4 : mo ≤ 4) (hx : 0 ≤ x) (hx2 : x ≤ 1000000) (hz : 0 ≤ z) (hz2 : z ≤ 1000000) (k2 : 2 ≤ m) (k5 : m ≤ 5) (r0 : 0 ≤ r) (r1 : r < m) : Qn "all" (.least [1, 1] mo) [x] (if mo ≤ x then none else some 0) := by
  refine qn_all (by simp) (by simp) ?_ (by simp [same, dep]) (by simp [same, atoms]) ?_ ?_ ?_ ?_
  · simp [same, Wf] <;> omega
  · intro a ha; simp [same, atoms] at ha; first | (rcases ha with rfl | rfl | rfl) | (rcases ha with rfl | rfl) | subst ha
    all_goals (refine ⟨fun w hw => ?_, ?_, ?_⟩ <;> (try simp at hw) <;> omega)
  · intro c hc; simp at hc; omega
  · split
    · rename_i h; try simp at h
      exact fun y hy => ntr fun g => by
        simp [same, so, dot] at g <;> (omega)
    · rename_i h; try simp at h
      refine ⟨by omega, by simp [same, so, dot]; omega, fun y hy g => ?_⟩
      simp [same, so, dot] at g
      omega
  · intro y hy; split at hy <;> rename_i h <;> (try simp at h)
    · first | (simp at hy; omega) | cases hy
    · first | (simp at hy; omega) | cases hy
theorem q5 {t mo x z m r : Int} (t1 : 1 ≤ t) (t3 : t ≤ 3) (m1 : 0 ≤ mo) (m4 : mo ≤ 4) (hx : 0 ≤ x) (hx2 : x ≤ 1000000) (hz : 0 ≤ z) (hz2 : z ≤ 1000000) (k2 : 2 ≤ m) (k5 : m ≤ 5) (r0 : 0 ≤ r) (r1 : r < m) : Qn "all" (.least [1, -1] 0) [x] (some (x + 1)) := by
  refine qn_all (by simp) (by simp) ?_ (by simp [same, dep]) (by simp [same, atoms]) ?_ ?_ ?_ ?_
  · simp [same, Wf] <;> omega
  · intro a ha; simp [same, atoms] at ha; first | (rcases ha with rfl | rfl | rfl) | (rcases ha with rfl | rfl) | subst ha
    all_goals (refine ⟨fun w hw => ?_, ?_, ?_⟩ <;> (try simp at hw) <;> omega)
  · intro c hc; simp at hc; omega
  · refine ⟨by omega, by simp [same, so, dot]; omega, fun y hy g => ?_⟩
    simp [same, so, dot] at g
    omega
  · intro y hy; simp at hy; omega
theorem q6 {t mo x z m r : Int} (t1 : 1 ≤ t) (t3 : t ≤ 3) (m1 : 0 ≤ mo) (m4 : mo ≤ 4) (hx : 0 ≤ x) (hx2 : x ≤ 1000000) (hz : 0 ≤ z) (hz2 : z ≤ 1000000) (k2 : 2 ≤ m) (k5 : m ≤ 5) (r0 : 0 ≤ r) (r1 : r < m) : Qn "some" (.rest [1, 1] m r) [x] (some ((r - x) % m)) := by
  have hm : m = 2 ∨ m = 3 ∨ m = 4 ∨ m = 5 := by omega
  refine qn_some (by simp) (by simp) ?_ (by simp [same, dep]) (by simp [same, atoms]) ?_ ?_ ?_ ?_
  · simp [same, Wf] <;> omega
  · intro a ha; simp [same, atoms] at ha; first | (rcases ha with rfl | rfl | rfl) | (rcases ha with rfl | rfl) | subst ha
    all_goals (refine ⟨fun w hw => ?_, ?_, ?_⟩ <;> (try simp at hw) <;> omega)
  · intro c hc; simp at hc; omega
  · refine ⟨by rcases hm with rfl | rfl | rfl | rfl <;> omega, by simp [same, so, dot]; rcases hm with rfl | rfl | rfl | rfl <;> omega, fun y hy g => ?_⟩
    simp [same, so, dot] at g
    rcases hm with rfl | rfl | rfl | rfl <;> omega
  · intro y hy; simp at hy; rcases hm with rfl | rfl | rfl | rfl <;> omega
theorem q7 {t mo x z m r : Int} (t1 : 1 ≤ t) (t3 : t ≤ 3) (m1 : 0 ≤ mo) (m4 : mo ≤ 4) (hx : 0 ≤ x) (hx2 : x ≤ 1000000) (hz : 0 ≤ z) (hz2 : z ≤ 1000000) (k2 : 2 ≤ m) (k5 : m ≤ 5) (r0 : 0 ≤ r) (r1 : r < m) : Qn "all" (.rest [1, 0] m r) [x] (if (x % m == r) = true then none else some 0) := by
  have hm : m = 2 ∨ m = 3 ∨ m = 4 ∨ m = 5 := by omega
  refine qn_all (by simp) (by simp) ?_ (by simp [same, dep]) (by simp [same, atoms]) ?_ ?_ ?_ ?_
  · simp [same, Wf] <;> omega
  · intro a ha; simp [same, atoms] at ha; first | (rcases ha with rfl | rfl | rfl) | (rcases ha with rfl | rfl) | subst ha
    all_goals (refine ⟨fun w hw => ?_, ?_, ?_⟩ <;> (try simp at hw) <;> omega)
  · intro c hc; simp at hc; omega
  · split
    · rename_i h; try simp at h
      exact fun y hy => ntr fun g => by
        simp [same, so, dot] at g <;> (rcases hm with rfl | rfl | rfl | rfl <;> omega)
    · rename_i h; try simp at h
      refine ⟨by rcases hm with rfl | rfl | rfl | rfl <;> omega, by simp [same, so, dot]; rcases hm with rfl | rfl | rfl | rfl <;> omega, fun y hy g => ?_⟩
      simp [same, so, dot] at g
      rcases hm with rfl | rfl | rfl | rfl <;> omega
  · intro y hy; split at hy <;> rename_i h <;> (try simp at h)
    · first | (simp at hy; rcases hm with rfl | rfl | rfl | rfl <;> omega) | cases hy
    · first | (simp at hy; rcases hm with rfl | rfl | rfl | rfl <;> omega) | cases hy
theorem q8 {t mo x z m r : Int} (t1 : 1 ≤ t) (t3 : t ≤ 3) (m1 : 0 ≤ mo) (m4 : mo ≤ 4) (hx : 0 ≤ x) (hx2 : x ≤ 1000000) (hz : 0 ≤ z) (hz2 : z ≤ 1000000) (k2 : 2 ≤ m) (k5 : m ≤ 5) (r0 : 0 ≤ r) (r1 : r < m) : Qn "some" (.and (.least [-1, 2] 1) (.rest [0, 1] m r)) [x] (some (x / 2 + 1 + (r - x / 2 - 1) % m)) := by
  have hm : m = 2 ∨ m = 3 ∨ m = 4 ∨ m = 5 := by omega
  refine qn_some (by simp) (by simp) ?_ (by simp [same, dep]) (by simp [same, atoms]) ?_ ?_ ?_ ?_
  · simp [same, Wf] <;> omega
  · intro a ha; simp [same, atoms] at ha; first | (rcases ha with rfl | rfl | rfl) | (rcases ha with rfl | rfl) | subst ha
    all_goals (refine ⟨fun w hw => ?_, ?_, ?_⟩ <;> (try simp at hw) <;> omega)
  · intro c hc; simp at hc; omega
  · refine ⟨by rcases hm with rfl | rfl | rfl | rfl <;> omega, by simp [same, so, dot]; rcases hm with rfl | rfl | rfl | rfl <;> omega, fun y hy g => ?_⟩
    simp [same, so, dot] at g
    rcases hm with rfl | rfl | rfl | rfl <;> omega
  · intro y hy; simp at hy; rcases hm with rfl | rfl | rfl | rfl <;> omega
theorem q9 {t mo x z m r : Int} (t1 : 1 ≤ t) (t3 : t ≤ 3) (m1 : 0 ≤ mo) (m4 : mo ≤ 4) (hx : 0 ≤ x) (hx2 : x ≤ 1000000) (hz : 0 ≤ z) (hz2 : z ≤ 1000000) (k2 : 2 ≤ m) (k5 : m ≤ 5) (r0 : 0 ≤ r) (r1 : r < m) : Qn "some" (.neg (.least [1, -1] 0)) [x] (some (x + 1)) := by
  refine qn_some (by simp) (by simp) ?_ (by simp [same, dep]) (by simp [same, atoms]) ?_ ?_ ?_ ?_
  · simp [same, Wf] <;> omega
  · intro a ha; simp [same, atoms] at ha; first | (rcases ha with rfl | rfl | rfl) | (rcases ha with rfl | rfl) | subst ha
    all_goals (refine ⟨fun w hw => ?_, ?_, ?_⟩ <;> (try simp at hw) <;> omega)
  · intro c hc; simp at hc; omega
  · refine ⟨by omega, by simp [same, so, dot]; omega, fun y hy g => ?_⟩
    simp [same, so, dot] at g
    omega
  · intro y hy; simp at hy; omega
theorem q10 {t mo x z m r : Int} (t1 : 1 ≤ t) (t3 : t ≤ 3) (m1 : 0 ≤ mo) (m4 : mo ≤ 4) (hx : 0 ≤ x) (hx2 : x ≤ 1000000) (hz : 0 ≤ z) (hz2 : z ≤ 1000000) (k2 : 2 ≤ m) (k5 : m ≤ 5) (r0 : 0 ≤ r) (r1 : r < m) : Qn "some" (.and (.neg (.least [1, -1] 0)) (.rest [0, 1] m r)) [x] (some (x + 1 + (r - x - 1) % m)) := by
  have hm : m = 2 ∨ m = 3 ∨ m = 4 ∨ m = 5 := by omega
  refine qn_some (by simp) (by simp) ?_ (by simp [same, dep]) (by simp [same, atoms]) ?_ ?_ ?_ ?_
  · simp [same, Wf] <;> omega
  · intro a ha; simp [same, atoms] at ha; first | (rcases ha with rfl | rfl | rfl) | (rcases ha with rfl | rfl) | subst ha
    all_goals (refine ⟨fun w hw => ?_, ?_, ?_⟩ <;> (try simp at hw) <;> omega)
  · intro c hc; simp at hc; omega
  · refine ⟨by rcases hm with rfl | rfl | rfl | rfl <;> omega, by simp [same, so, dot]; rcases hm with rfl | rfl | rfl | rfl <;> omega, fun y hy g => ?_⟩
    simp [same, so, dot] at g
    rcases hm with rfl | rfl | rfl | rfl <;> omega
  · intro y hy; simp at hy; rcases hm with rfl | rfl | rfl | rfl <;> omega
theorem q11 {t mo x z m r : Int} (t1 : 1 ≤ t) (t3 : t ≤ 3) (m1 : 0 ≤ mo) (m4 : mo ≤ 4) (hx : 0 ≤ x) (hx2 : x ≤ 1000000) (hz : 0 ≤ z) (hz2 : z ≤ 1000000) (k2 : 2 ≤ m) (k5 : m ≤ 5) (r0 : 0 ≤ r) (r1 : r < m) : Qn "some" (.and (.least [1, 1] 0) (.least [0, -1] 1)) [x] (none) := by
  refine qn_some (by simp) (by simp) ?_ (by simp [same, dep]) (by simp [same, atoms]) ?_ ?_ ?_ ?_
  · simp [same, Wf] <;> omega
  · intro a ha; simp [same, atoms] at ha; first | (rcases ha with rfl | rfl | rfl) | (rcases ha with rfl | rfl) | subst ha
    all_goals (refine ⟨fun w hw => ?_, ?_, ?_⟩ <;> (try simp at hw) <;> omega)
  · intro c hc; simp at hc; omega
  · exact fun y hy => ntr fun g => by
      simp [same, so, dot] at g <;> omega
  · intro y hy; cases hy
theorem q12 {t mo x z m r : Int} (t1 : 1 ≤ t) (t3 : t ≤ 3) (m1 : 0 ≤ mo) (m4 : mo ≤ 4) (hx : 0 ≤ x) (hx2 : x ≤ 1000000) (hz : 0 ≤ z) (hz2 : z ≤ 1000000) (k2 : 2 ≤ m) (k5 : m ≤ 5) (r0 : 0 ≤ r) (r1 : r < m) : Qn "all" (.or (.least [1, -1] 0) (.neg (.least [1, -1] 0))) [x] (none) := by
  refine qn_all (by simp) (by simp) ?_ (by simp [same, dep]) (by simp [same, atoms]) ?_ ?_ ?_ ?_
  · simp [same, Wf] <;> omega
  · intro a ha; simp [same, atoms] at ha; first | (rcases ha with rfl | rfl | rfl) | (rcases ha with rfl | rfl) | subst ha
    all_goals (refine ⟨fun w hw => ?_, ?_, ?_⟩ <;> (try simp at hw) <;> omega)
  · intro c hc; simp at hc; omega
  · exact fun y hy => ntr fun g => by
      simp [same, so, dot] at g <;> omega
  · intro y hy; cases hy
theorem q13 {t mo x z m r : Int} (t1 : 1 ≤ t) (t3 : t ≤ 3) (m1 : 0 ≤ mo) (m4 : mo ≤ 4) (hx : 0 ≤ x) (hx2 : x ≤ 1000000) (hz : 0 ≤ z) (hz2 : z ≤ 1000000) (k2 : 2 ≤ m) (k5 : m ≤ 5) (r0 : 0 ≤ r) (r1 : r < m) : Qn "some" (.and (.least [-1, 2] 0) (.least [1, -2] (-mo))) [x] (if (x + 1) / 2 * 2 ≤ x + mo then some ((x + 1) / 2) else none) := by
  refine qn_some (by simp) (by simp) ?_ (by simp [same, dep]) (by simp [same, atoms]) ?_ ?_ ?_ ?_
  · simp [same, Wf] <;> omega
  · intro a ha; simp [same, atoms] at ha; first | (rcases ha with rfl | rfl | rfl) | (rcases ha with rfl | rfl) | subst ha
    all_goals (refine ⟨fun w hw => ?_, ?_, ?_⟩ <;> (try simp at hw) <;> omega)
  · intro c hc; simp at hc; omega
  · split
    · rename_i h; try simp at h
      refine ⟨by omega, by simp [same, so, dot]; omega, fun y hy g => ?_⟩
      simp [same, so, dot] at g
      omega
    · rename_i h; try simp at h
      exact fun y hy => ntr fun g => by
        simp [same, so, dot] at g <;> (omega)
  · intro y hy; split at hy <;> rename_i h <;> (try simp at h)
    · first | (simp at hy; omega) | cases hy
    · first | (simp at hy; omega) | cases hy
end K43
namespace K43
open PySem L2 Cs Sn
def qD (wd : Str) (s : Sen) (cs : List Int) (o : Option Int) : D := .tup [.tup [.str wd, dS s], .tup (cs.map .int), dO o]
def Gd (d : D) : Prop := ∃ (wd : Str) (s : Sen) (cs : List Int) (o : Option Int), d = qD wd s cs o ∧ Qn wd s cs o
theorem pick_b (P : Prop) [Decidable P] (v : Int) : atI [D.non, .int v] (if P then 1 else 0) = some (dO (if P then some v else none)) := by split <;> rfl
theorem pick_b2 (P : Prop) [Decidable P] (v : Int) : atI [D.int v, .non] (if P then 1 else 0) = some (dO (if P then none else some v)) := by split <;> rfl
theorem fz_dO (o : Option Int) : isFz (dO o) = true := by cases o <;> rfl
theorem nud_dO (o : Option Int) : nud (dO o) = some (dO o) := by cases o <;> rfl
theorem isU_dO (o : Option Int) : isU (some (dO o)) = false := by cases o <;> rfl
theorem fzO_dO (o : Option Int) : fzO (some (dO o)) = some (dO o) := by cases o <;> rfl
theorem frz_dO (o : Option Int) : frz (dO o) = dO o := by cases o <;> rfl
theorem full_dO (o : Option Int) : full (dO o) = true := by cases o <;> rfl
/-! MAXSTEPS -/
def Gl (n : Nat) (l : List D) : Prop := (∀ d ∈ l, Gd d) ∧ l.length ≤ n
theorem hide {n : Nat} {F : Cs.Ctx} {ss : CSs} {tp x z a b c6 c7 c8 c9 c10 : D} {l0 : List D} {Q : Fl → Prop} (h0 : Gl n l0) (h : ∀ l, Gl n l → Wp (evSs F ss [tp, x, z, a, b, .lst true l, c6, c7, c8, c9, c10]) Q) : Wp (evSs F ss [tp, x, z, a, b, .lst true l0, c6, c7, c8, c9, c10]) Q := h l0 h0
theorem snoc_gd {n : Nat} {l : List D} {d : D} (h : Gl n l) (g : Gd d) : Gl (n + 1) (l ++ [d]) := by
  refine ⟨fun e he => ?_, by have := h.2; simp; omega⟩
  rcases List.mem_append.mp he with he | he
  · exact h.1 e he
  · rw [List.mem_singleton.mp he]; exact g
theorem one_gd {d : D} (g : Gd d) : Gl 1 [d] := snoc_gd (l := []) ⟨fun d hd => (by cases hd), Nat.le_refl _⟩ g
theorem gl_sz {n : Nat} {l : List D} (h : Gl n l) (hn : n ≤ 100) : l.length < 16777216 := by have := h.2; omega
set_option maxHeartbeats 0 in
theorem s_questions (k : Nat) (m x z : Int) (hx : 0 ≤ x) (hx2 : x ≤ 1000000) (hz : 0 ≤ z) (hz2 : z ≤ 1000000) : Wp (callN tab kn (k + 2) "_law_questions" [.lst true [.int m], .int x, .int z]) (fun r => ∃ (m' : Int) (l : List D), (∀ d ∈ l, Gd d) ∧ r = (.lst true l, [.lst true [.int m'], .int x, .int z])) := by
  rw [call_code t_questions]
  refine run_wp rfl ?_
  show Wp (evSs _ b__law_questions (startD 11 [.lst true [.int m], .int x, .int z])) _
  unfold b__law_questions
  have h3 : ∀ m, callN tab kn (k + 1) "_law_digit" [.lst true [.int m], .int 3] = _ := fun m => s_digit k m 3 (by decide) (by decide)
  have h5 : ∀ m, callN tab kn (k + 1) "_law_digit" [.lst true [.int m], .int 5] = _ := fun m => s_digit k m 5 (by decide) (by decide)
  have h4 : ∀ m, callN tab kn (k + 1) "_law_digit" [.lst true [.int m], .int 4] = _ := fun m => s_digit k m 4 (by decide) (by decide)
  obtain ⟨g0, g1⟩ := digs m 3 (by decide)
  (rw [wp_cons]; refine wp_gen fun Q hQ => ?_; simp (maxSteps := 4000000) only [ev_e, List.reduceReplicate, Nat.reduceAdd, Nat.reduceLT, Nat.reduceLeDiff, Nat.reduceSub, Int.reduceNeg, ↓reduceIte, Int.reduceLT, Int.reduceLE, Int.reduceAdd, Int.reduceSub, Int.reduceBEq, reduceCtorEq, ne_eq, Nat.reduceBEq, ev_0, ev_1, ev_2, ev_3, ev_4, ↓ev_d, startD, isFz, isFzs, szOk, wipeD, putBack, fulls, frzs, full, frz, Row.fe, h3]; (try subst hQ); (try simp (maxSteps := 4000000) only [ev_e, List.reduceReplicate, Nat.reduceAdd, Nat.reduceLT, Nat.reduceLeDiff, Nat.reduceSub, Int.reduceNeg, ↓reduceIte, Int.reduceLT, Int.reduceLE, Int.reduceAdd, Int.reduceSub, Int.reduceBEq, reduceCtorEq, ne_eq, Nat.reduceBEq, ev_0, ev_1, ev_2, ev_3, ev_4, ↓ev_d, startD, isFz, isFzs, szOk, wipeD, putBack, fulls, frzs, full, frz, Row.fe, h3]))
  obtain ⟨t, ht⟩ : ∃ t, 1 + m % 3 = t := ⟨_, rfl⟩
  rw [ht]
  have ht1 : 1 ≤ t := by omega
  have ht3 : t ≤ 3 := by omega
  obtain ⟨g2, g3⟩ := digs (m / 3) 5 (by decide)
  (rw [wp_cons]; refine wp_gen fun Q hQ => ?_; simp (maxSteps := 4000000) only [ev_e, List.reduceReplicate, Nat.reduceAdd, Nat.reduceLT, Nat.reduceLeDiff, Nat.reduceSub, Int.reduceNeg, ↓reduceIte, Int.reduceLT, Int.reduceLE, Int.reduceAdd, Int.reduceSub, Int.reduceBEq, reduceCtorEq, ne_eq, Nat.reduceBEq, ev_0, ev_1, ev_2, ev_3, ev_4, ↓ev_d, startD, isFz, isFzs, szOk, wipeD, putBack, fulls, frzs, full, frz, Row.fe, h5]; (try subst hQ); (try simp (maxSteps := 4000000) only [ev_e, List.reduceReplicate, Nat.reduceAdd, Nat.reduceLT, Nat.reduceLeDiff, Nat.reduceSub, Int.reduceNeg, ↓reduceIte, Int.reduceLT, Int.reduceLE, Int.reduceAdd, Int.reduceSub, Int.reduceBEq, reduceCtorEq, ne_eq, Nat.reduceBEq, ev_0, ev_1, ev_2, ev_3, ev_4, ↓ev_d, startD, isFz, isFzs, szOk, wipeD, putBack, fulls, frzs, full, frz, Row.fe, h5]))
  obtain ⟨mo, hmo⟩ : ∃ v, m / 3 % 5 = v := ⟨_, rfl⟩
  rw [hmo] at g2 g3
  rw [hmo]
  have g3' : mo ≤ 4 := by omega
  have a1 : callN tab kn (k + 1) "_law_same" [.tup [.int 1, .int (-t)], .int 0] = .ok (dS (same [1, -t] 0), [.tup [.int 1, .int (-t)], .int 0]) := s_same k [1, -t] 0 (by simp)
  have a2 : callN tab kn (k + 1) "_law_same" [.tup [.int 1, .int (-1), .int (-1)], .int mo] = .ok (dS (same [1, -1, -1] mo), [.tup [.int 1, .int (-1), .int (-1)], .int mo]) := s_same k [1, -1, -1] mo (by simp)
  have t0 : t ≠ 0 := by omega
  have td := dv_c (j := t) (by omega) (by omega)
  have tp : 0 < t := by omega
  (rw [wp_cons]; refine wp_gen fun Q hQ => ?_; simp (maxSteps := 4000000) only [ev_e, List.reduceReplicate, Nat.reduceAdd, Nat.reduceLT, Nat.reduceLeDiff, Nat.reduceSub, Int.reduceNeg, ↓reduceIte, Int.reduceLT, Int.reduceLE, Int.reduceAdd, Int.reduceSub, Int.reduceBEq, reduceCtorEq, ne_eq, Nat.reduceBEq, ev_0, ev_1, ev_2, ev_3, ev_4, ↓ev_d, startD, isFz, isFzs, szOk, wipeD, putBack, fulls, frzs, full, frz, Row.fe, a1, t0, td, rst_pos tp, flr_pos tp, pick_b, fzO_dO, fz_dS, nud_dS, isU_dS, fz_dO, nud_dO, isU_dO, frz_dS, full_dS, frz_dO, full_dO]; (try subst hQ); (try simp (maxSteps := 4000000) only [ev_e, List.reduceReplicate, Nat.reduceAdd, Nat.reduceLT, Nat.reduceLeDiff, Nat.reduceSub, Int.reduceNeg, ↓reduceIte, Int.reduceLT, Int.reduceLE, Int.reduceAdd, Int.reduceSub, Int.reduceBEq, reduceCtorEq, ne_eq, Nat.reduceBEq, ev_0, ev_1, ev_2, ev_3, ev_4, ↓ev_d, startD, isFz, isFzs, szOk, wipeD, putBack, fulls, frzs, full, frz, Row.fe, a1, t0, td, rst_pos tp, flr_pos tp, pick_b, fzO_dO, fz_dS, nud_dS, isU_dS, fz_dO, nud_dO, isU_dO, frz_dS, full_dS, frz_dO, full_dO]))
  (rw [wp_cons]; refine wp_gen fun Q hQ => ?_; simp (maxSteps := 4000000) only [ev_e, List.reduceReplicate, Nat.reduceAdd, Nat.reduceLT, Nat.reduceLeDiff, Nat.reduceSub, Int.reduceNeg, ↓reduceIte, Int.reduceLT, Int.reduceLE, Int.reduceAdd, Int.reduceSub, Int.reduceBEq, reduceCtorEq, ne_eq, Nat.reduceBEq, ev_0, ev_1, ev_2, ev_3, ev_4, ↓ev_d, startD, isFz, isFzs, szOk, wipeD, putBack, fulls, frzs, full, frz, Row.fe, a1, fzO_dO, fz_dS, nud_dS, isU_dS, fz_dO, nud_dO, isU_dO, frz_dS, full_dS, frz_dO, full_dO]; (try subst hQ); (try simp (maxSteps := 4000000) only [ev_e, List.reduceReplicate, Nat.reduceAdd, Nat.reduceLT, Nat.reduceLeDiff, Nat.reduceSub, Int.reduceNeg, ↓reduceIte, Int.reduceLT, Int.reduceLE, Int.reduceAdd, Int.reduceSub, Int.reduceBEq, reduceCtorEq, ne_eq, Nat.reduceBEq, ev_0, ev_1, ev_2, ev_3, ev_4, ↓ev_d, startD, isFz, isFzs, szOk, wipeD, putBack, fulls, frzs, full, frz, Row.fe, a1, fzO_dO, fz_dS, nud_dS, isU_dS, fz_dO, nud_dO, isU_dO, frz_dS, full_dS, frz_dO, full_dO]))
  refine hide (snoc_gd (one_gd ⟨"some", _, [x], _, rfl, q1 (mo := mo) (z := z) (m := 2) (r := 0) ht1 ht3 g2 g3' hx hx2 hz hz2 (by decide) (by decide) (by decide) (by decide)⟩) ⟨"all", .neg (same [1, -t] 0), [x], _, rfl, q2 (mo := mo) (z := z) (m := 2) (r := 0) ht1 ht3 g2 g3' hx hx2 hz hz2 (by decide) (by decide) (by decide) (by decide)⟩) fun l hl => ?_
  have hz1 := gl_sz hl (by decide)
  (rw [wp_cons]; refine wp_gen fun Q hQ => ?_; simp (maxSteps := 4000000) only [ev_e, List.reduceReplicate, Nat.reduceAdd, Nat.reduceLT, Nat.reduceLeDiff, Nat.reduceSub, Int.reduceNeg, ↓reduceIte, Int.reduceLT, Int.reduceLE, Int.reduceAdd, Int.reduceSub, Int.reduceBEq, reduceCtorEq, ne_eq, Nat.reduceBEq, ev_0, ev_1, ev_2, ev_3, ev_4, ↓ev_d, startD, isFz, isFzs, szOk, wipeD, putBack, fulls, frzs, full, frz, Row.fe, a2, pick_b, pick_b2, fzO_dO, fz_dS, nud_dS, isU_dS, fz_dO, nud_dO, isU_dO, frz_dS, full_dS, frz_dO, full_dO, hz1]; (try subst hQ); (try simp (maxSteps := 4000000) only [ev_e, List.reduceReplicate, Nat.reduceAdd, Nat.reduceLT, Nat.reduceLeDiff, Nat.reduceSub, Int.reduceNeg, ↓reduceIte, Int.reduceLT, Int.reduceLE, Int.reduceAdd, Int.reduceSub, Int.reduceBEq, reduceCtorEq, ne_eq, Nat.reduceBEq, ev_0, ev_1, ev_2, ev_3, ev_4, ↓ev_d, startD, isFz, isFzs, szOk, wipeD, putBack, fulls, frzs, full, frz, Row.fe, a2, pick_b, pick_b2, fzO_dO, fz_dS, nud_dS, isU_dS, fz_dO, nud_dO, isU_dO, frz_dS, full_dS, frz_dO, full_dO, hz1]))
  refine hide (snoc_gd hl ⟨"some", same [1, -1, -1] mo, [x, z], _, rfl, q3 (t := 1) (mo := mo) (z := z) (m := 2) (r := 0) (by decide) (by decide) g2 g3' hx hx2 hz hz2 (by decide) (by decide) (by decide) (by decide)⟩) fun l hl => ?_
  have hz1 := gl_sz hl (by decide)
  (rw [wp_cons]; refine wp_gen fun Q hQ => ?_; simp (maxSteps := 4000000) only [ev_e, List.reduceReplicate, Nat.reduceAdd, Nat.reduceLT, Nat.reduceLeDiff, Nat.reduceSub, Int.reduceNeg, ↓reduceIte, Int.reduceLT, Int.reduceLE, Int.reduceAdd, Int.reduceSub, Int.reduceBEq, reduceCtorEq, ne_eq, Nat.reduceBEq, ev_0, ev_1, ev_2, ev_3, ev_4, ↓ev_d, startD, isFz, isFzs, szOk, wipeD, putBack, fulls, frzs, full, frz, Row.fe, pick_b, pick_b2, fzO_dO, fz_dS, nud_dS, isU_dS, fz_dO, nud_dO, isU_dO, frz_dS, full_dS, frz_dO, full_dO, hz1]; (try subst hQ); (try simp (maxSteps := 4000000) only [ev_e, List.reduceReplicate, Nat.reduceAdd, Nat.reduceLT, Nat.reduceLeDiff, Nat.reduceSub, Int.reduceNeg, ↓reduceIte, Int.reduceLT, Int.reduceLE, Int.reduceAdd, Int.reduceSub, Int.reduceBEq, reduceCtorEq, ne_eq, Nat.reduceBEq, ev_0, ev_1, ev_2, ev_3, ev_4, ↓ev_d, startD, isFz, isFzs, szOk, wipeD, putBack, fulls, frzs, full, frz, Row.fe, pick_b, pick_b2, fzO_dO, fz_dS, nud_dS, isU_dS, fz_dO, nud_dO, isU_dO, frz_dS, full_dS, frz_dO, full_dO, hz1]))
  refine hide (snoc_gd hl ⟨"all", .least [1, 1] mo, [x], _, rfl, q4 (t := 1) (mo := mo) (z := z) (m := 2) (r := 0) (by decide) (by decide) g2 g3' hx hx2 hz hz2 (by decide) (by decide) (by decide) (by decide)⟩) fun l hl => ?_
  have hz1 := gl_sz hl (by decide)
  (rw [wp_cons]; refine wp_gen fun Q hQ => ?_; simp (maxSteps := 4000000) only [ev_e, List.reduceReplicate, Nat.reduceAdd, Nat.reduceLT, Nat.reduceLeDiff, Nat.reduceSub, Int.reduceNeg, ↓reduceIte, Int.reduceLT, Int.reduceLE, Int.reduceAdd, Int.reduceSub, Int.reduceBEq, reduceCtorEq, ne_eq, Nat.reduceBEq, ev_0, ev_1, ev_2, ev_3, ev_4, ↓ev_d, startD, isFz, isFzs, szOk, wipeD, putBack, fulls, frzs, full, frz, Row.fe, pick_b, pick_b2, fzO_dO, fz_dS, nud_dS, isU_dS, fz_dO, nud_dO, isU_dO, frz_dS, full_dS, frz_dO, full_dO, hz1]; (try subst hQ); (try simp (maxSteps := 4000000) only [ev_e, List.reduceReplicate, Nat.reduceAdd, Nat.reduceLT, Nat.reduceLeDiff, Nat.reduceSub, Int.reduceNeg, ↓reduceIte, Int.reduceLT, Int.reduceLE, Int.reduceAdd, Int.reduceSub, Int.reduceBEq, reduceCtorEq, ne_eq, Nat.reduceBEq, ev_0, ev_1, ev_2, ev_3, ev_4, ↓ev_d, startD, isFz, isFzs, szOk, wipeD, putBack, fulls, frzs, full, frz, Row.fe, pick_b, pick_b2, fzO_dO, fz_dS, nud_dS, isU_dS, fz_dO, nud_dO, isU_dO, frz_dS, full_dS, frz_dO, full_dO, hz1]))
  refine hide (snoc_gd hl ⟨"all", .least [1, -1] 0, [x], _, rfl, q5 (t := 1) (mo := mo) (z := z) (m := 2) (r := 0) (by decide) (by decide) g2 g3' hx hx2 hz hz2 (by decide) (by decide) (by decide) (by decide)⟩) fun l hl => ?_
  have hz1 := gl_sz hl (by decide)
  obtain ⟨g4, g5⟩ := digs (m / 3 / 5) 4 (by decide)
  (rw [wp_cons]; refine wp_gen fun Q hQ => ?_; simp (maxSteps := 4000000) only [ev_e, List.reduceReplicate, Nat.reduceAdd, Nat.reduceLT, Nat.reduceLeDiff, Nat.reduceSub, Int.reduceNeg, ↓reduceIte, Int.reduceLT, Int.reduceLE, Int.reduceAdd, Int.reduceSub, Int.reduceBEq, reduceCtorEq, ne_eq, Nat.reduceBEq, ev_0, ev_1, ev_2, ev_3, ev_4, ↓ev_d, startD, isFz, isFzs, szOk, wipeD, putBack, fulls, frzs, full, frz, Row.fe, h4]; (try subst hQ); (try simp (maxSteps := 4000000) only [ev_e, List.reduceReplicate, Nat.reduceAdd, Nat.reduceLT, Nat.reduceLeDiff, Nat.reduceSub, Int.reduceNeg, ↓reduceIte, Int.reduceLT, Int.reduceLE, Int.reduceAdd, Int.reduceSub, Int.reduceBEq, reduceCtorEq, ne_eq, Nat.reduceBEq, ev_0, ev_1, ev_2, ev_3, ev_4, ↓ev_d, startD, isFz, isFzs, szOk, wipeD, putBack, fulls, frzs, full, frz, Row.fe, h4]))
  obtain ⟨mm, hmm⟩ : ∃ v, 2 + m / 3 / 5 % 4 = v := ⟨_, rfl⟩
  rw [hmm]
  have k2 : 2 ≤ mm := by omega
  have k5 : mm ≤ 5 := by omega
  have kp : 0 < mm := by omega
  have k0 : mm ≠ 0 := by omega
  have kd := dv_c (j := mm) (by omega) (by omega)
  obtain ⟨m3, hm3⟩ : ∃ v, m / 3 / 5 / 4 = v := ⟨_, rfl⟩
  rw [hm3]
  have hmd : callN tab kn (k + 1) "_law_digit" [.lst true [.int m3], .int mm] = _ := s_digit k m3 mm kp (by omega)
  obtain ⟨r0, r1⟩ := digs m3 mm kp
  (rw [wp_cons]; refine wp_gen fun Q hQ => ?_; simp (maxSteps := 4000000) only [ev_e, List.reduceReplicate, Nat.reduceAdd, Nat.reduceLT, Nat.reduceLeDiff, Nat.reduceSub, Int.reduceNeg, ↓reduceIte, Int.reduceLT, Int.reduceLE, Int.reduceAdd, Int.reduceSub, Int.reduceBEq, reduceCtorEq, ne_eq, Nat.reduceBEq, ev_0, ev_1, ev_2, ev_3, ev_4, ↓ev_d, startD, isFz, isFzs, szOk, wipeD, putBack, fulls, frzs, full, frz, Row.fe, hmd]; (try subst hQ); (try simp (maxSteps := 4000000) only [ev_e, List.reduceReplicate, Nat.reduceAdd, Nat.reduceLT, Nat.reduceLeDiff, Nat.reduceSub, Int.reduceNeg, ↓reduceIte, Int.reduceLT, Int.reduceLE, Int.reduceAdd, Int.reduceSub, Int.reduceBEq, reduceCtorEq, ne_eq, Nat.reduceBEq, ev_0, ev_1, ev_2, ev_3, ev_4, ↓ev_d, startD, isFz, isFzs, szOk, wipeD, putBack, fulls, frzs, full, frz, Row.fe, hmd]))
  obtain ⟨rr, hrr⟩ : ∃ v, m3 % mm = v := ⟨_, rfl⟩
  rw [hrr] at r0 r1
  rw [hrr]
  have t20 : (2 : Int) ≠ 0 := by decide
  have t2p : (0 : Int) < 2 := by decide
  have t2d := dv_c (j := 2) (by decide) (by decide)
  (rw [wp_cons]; refine wp_gen fun Q hQ => ?_; simp (maxSteps := 4000000) only [ev_e, List.reduceReplicate, Nat.reduceAdd, Nat.reduceLT, Nat.reduceLeDiff, Nat.reduceSub, Int.reduceNeg, ↓reduceIte, Int.reduceLT, Int.reduceLE, Int.reduceAdd, Int.reduceSub, Int.reduceBEq, reduceCtorEq, ne_eq, Nat.reduceBEq, ev_0, ev_1, ev_2, ev_3, ev_4, ↓ev_d, startD, isFz, isFzs, szOk, wipeD, putBack, fulls, frzs, full, frz, Row.fe, k0, kd, rst_pos kp, flr_pos kp, t20, t2d, rst_pos t2p, flr_pos t2p, pick_b, pick_b2, fzO_dO, fz_dS, nud_dS, isU_dS, fz_dO, nud_dO, isU_dO, frz_dS, full_dS, frz_dO, full_dO, hz1]; (try subst hQ); (try simp (maxSteps := 4000000) only [ev_e, List.reduceReplicate, Nat.reduceAdd, Nat.reduceLT, Nat.reduceLeDiff, Nat.reduceSub, Int.reduceNeg, ↓reduceIte, Int.reduceLT, Int.reduceLE, Int.reduceAdd, Int.reduceSub, Int.reduceBEq, reduceCtorEq, ne_eq, Nat.reduceBEq, ev_0, ev_1, ev_2, ev_3, ev_4, ↓ev_d, startD, isFz, isFzs, szOk, wipeD, putBack, fulls, frzs, full, frz, Row.fe, k0, kd, rst_pos kp, flr_pos kp, t20, t2d, rst_pos t2p, flr_pos t2p, pick_b, pick_b2, fzO_dO, fz_dS, nud_dS, isU_dS, fz_dO, nud_dO, isU_dO, frz_dS, full_dS, frz_dO, full_dO, hz1]))
  refine hide (snoc_gd hl ⟨"some", .rest [1, 1] mm rr, [x], _, rfl, q6 (t := t) (mo := mo) (z := z) (m := mm) (r := rr) ht1 ht3 g2 g3' hx hx2 hz hz2 k2 k5 r0 r1⟩) fun l hl => ?_
  have hz1 := gl_sz hl (by decide)
  (rw [wp_cons]; refine wp_gen fun Q hQ => ?_; simp (maxSteps := 4000000) only [ev_e, List.reduceReplicate, Nat.reduceAdd, Nat.reduceLT, Nat.reduceLeDiff, Nat.reduceSub, Int.reduceNeg, ↓reduceIte, Int.reduceLT, Int.reduceLE, Int.reduceAdd, Int.reduceSub, Int.reduceBEq, reduceCtorEq, ne_eq, Nat.reduceBEq, ev_0, ev_1, ev_2, ev_3, ev_4, ↓ev_d, startD, isFz, isFzs, szOk, wipeD, putBack, fulls, frzs, full, frz, Row.fe, k0, kd, rst_pos kp, flr_pos kp, t20, t2d, rst_pos t2p, flr_pos t2p, pick_b, pick_b2, fzO_dO, fz_dS, nud_dS, isU_dS, fz_dO, nud_dO, isU_dO, frz_dS, full_dS, frz_dO, full_dO, hz1]; (try subst hQ); (try simp (maxSteps := 4000000) only [ev_e, List.reduceReplicate, Nat.reduceAdd, Nat.reduceLT, Nat.reduceLeDiff, Nat.reduceSub, Int.reduceNeg, ↓reduceIte, Int.reduceLT, Int.reduceLE, Int.reduceAdd, Int.reduceSub, Int.reduceBEq, reduceCtorEq, ne_eq, Nat.reduceBEq, ev_0, ev_1, ev_2, ev_3, ev_4, ↓ev_d, startD, isFz, isFzs, szOk, wipeD, putBack, fulls, frzs, full, frz, Row.fe, k0, kd, rst_pos kp, flr_pos kp, t20, t2d, rst_pos t2p, flr_pos t2p, pick_b, pick_b2, fzO_dO, fz_dS, nud_dS, isU_dS, fz_dO, nud_dO, isU_dO, frz_dS, full_dS, frz_dO, full_dO, hz1]))
  refine hide (snoc_gd hl ⟨"all", .rest [1, 0] mm rr, [x], _, rfl, q7 (t := t) (mo := mo) (z := z) (m := mm) (r := rr) ht1 ht3 g2 g3' hx hx2 hz hz2 k2 k5 r0 r1⟩) fun l hl => ?_
  have hz1 := gl_sz hl (by decide)
  (rw [wp_cons]; refine wp_gen fun Q hQ => ?_; simp (maxSteps := 4000000) only [ev_e, List.reduceReplicate, Nat.reduceAdd, Nat.reduceLT, Nat.reduceLeDiff, Nat.reduceSub, Int.reduceNeg, ↓reduceIte, Int.reduceLT, Int.reduceLE, Int.reduceAdd, Int.reduceSub, Int.reduceBEq, reduceCtorEq, ne_eq, Nat.reduceBEq, ev_0, ev_1, ev_2, ev_3, ev_4, ↓ev_d, startD, isFz, isFzs, szOk, wipeD, putBack, fulls, frzs, full, frz, Row.fe, szOk]; (try subst hQ); (try simp (maxSteps := 4000000) only [ev_e, List.reduceReplicate, Nat.reduceAdd, Nat.reduceLT, Nat.reduceLeDiff, Nat.reduceSub, Int.reduceNeg, ↓reduceIte, Int.reduceLT, Int.reduceLE, Int.reduceAdd, Int.reduceSub, Int.reduceBEq, reduceCtorEq, ne_eq, Nat.reduceBEq, ev_0, ev_1, ev_2, ev_3, ev_4, ↓ev_d, startD, isFz, isFzs, szOk, wipeD, putBack, fulls, frzs, full, frz, Row.fe, szOk]))
  (rw [wp_cons]; refine wp_gen fun Q hQ => ?_; simp (maxSteps := 4000000) only [ev_e, List.reduceReplicate, Nat.reduceAdd, Nat.reduceLT, Nat.reduceLeDiff, Nat.reduceSub, Int.reduceNeg, ↓reduceIte, Int.reduceLT, Int.reduceLE, Int.reduceAdd, Int.reduceSub, Int.reduceBEq, reduceCtorEq, ne_eq, Nat.reduceBEq, ev_0, ev_1, ev_2, ev_3, ev_4, ↓ev_d, startD, isFz, isFzs, szOk, wipeD, putBack, fulls, frzs, full, frz, Row.fe, k0, kd, rst_pos kp, flr_pos kp, t20, t2d, rst_pos t2p, flr_pos t2p, pick_b, pick_b2, fzO_dO, fz_dS, nud_dS, isU_dS, fz_dO, nud_dO, isU_dO, frz_dS, full_dS, frz_dO, full_dO, hz1]; (try subst hQ); (try simp (maxSteps := 4000000) only [ev_e, List.reduceReplicate, Nat.reduceAdd, Nat.reduceLT, Nat.reduceLeDiff, Nat.reduceSub, Int.reduceNeg, ↓reduceIte, Int.reduceLT, Int.reduceLE, Int.reduceAdd, Int.reduceSub, Int.reduceBEq, reduceCtorEq, ne_eq, Nat.reduceBEq, ev_0, ev_1, ev_2, ev_3, ev_4, ↓ev_d, startD, isFz, isFzs, szOk, wipeD, putBack, fulls, frzs, full, frz, Row.fe, k0, kd, rst_pos kp, flr_pos kp, t20, t2d, rst_pos t2p, flr_pos t2p, pick_b, pick_b2, fzO_dO, fz_dS, nud_dS, isU_dS, fz_dO, nud_dO, isU_dO, frz_dS, full_dS, frz_dO, full_dO, hz1]))
  refine hide (snoc_gd hl ⟨"some", (.and (.least [-1, 2] 1) (.rest [0, 1] mm rr)), [x], _, rfl, q8 (t := t) (mo := mo) (z := z) (m := mm) (r := rr) ht1 ht3 g2 g3' hx hx2 hz hz2 k2 k5 r0 r1⟩) fun l hl => ?_
  have hz1 := gl_sz hl (by decide)
  (rw [wp_cons]; refine wp_gen fun Q hQ => ?_; simp (maxSteps := 4000000) only [ev_e, List.reduceReplicate, Nat.reduceAdd, Nat.reduceLT, Nat.reduceLeDiff, Nat.reduceSub, Int.reduceNeg, ↓reduceIte, Int.reduceLT, Int.reduceLE, Int.reduceAdd, Int.reduceSub, Int.reduceBEq, reduceCtorEq, ne_eq, Nat.reduceBEq, ev_0, ev_1, ev_2, ev_3, ev_4, ↓ev_d, startD, isFz, isFzs, szOk, wipeD, putBack, fulls, frzs, full, frz, Row.fe, szOk]; (try subst hQ); (try simp (maxSteps := 4000000) only [ev_e, List.reduceReplicate, Nat.reduceAdd, Nat.reduceLT, Nat.reduceLeDiff, Nat.reduceSub, Int.reduceNeg, ↓reduceIte, Int.reduceLT, Int.reduceLE, Int.reduceAdd, Int.reduceSub, Int.reduceBEq, reduceCtorEq, ne_eq, Nat.reduceBEq, ev_0, ev_1, ev_2, ev_3, ev_4, ↓ev_d, startD, isFz, isFzs, szOk, wipeD, putBack, fulls, frzs, full, frz, Row.fe, szOk]))
  (rw [wp_cons]; refine wp_gen fun Q hQ => ?_; simp (maxSteps := 4000000) only [ev_e, List.reduceReplicate, Nat.reduceAdd, Nat.reduceLT, Nat.reduceLeDiff, Nat.reduceSub, Int.reduceNeg, ↓reduceIte, Int.reduceLT, Int.reduceLE, Int.reduceAdd, Int.reduceSub, Int.reduceBEq, reduceCtorEq, ne_eq, Nat.reduceBEq, ev_0, ev_1, ev_2, ev_3, ev_4, ↓ev_d, startD, isFz, isFzs, szOk, wipeD, putBack, fulls, frzs, full, frz, Row.fe, k0, kd, rst_pos kp, flr_pos kp, t20, t2d, rst_pos t2p, flr_pos t2p, pick_b, pick_b2, fzO_dO, fz_dS, nud_dS, isU_dS, fz_dO, nud_dO, isU_dO, frz_dS, full_dS, frz_dO, full_dO, hz1]; (try subst hQ); (try simp (maxSteps := 4000000) only [ev_e, List.reduceReplicate, Nat.reduceAdd, Nat.reduceLT, Nat.reduceLeDiff, Nat.reduceSub, Int.reduceNeg, ↓reduceIte, Int.reduceLT, Int.reduceLE, Int.reduceAdd, Int.reduceSub, Int.reduceBEq, reduceCtorEq, ne_eq, Nat.reduceBEq, ev_0, ev_1, ev_2, ev_3, ev_4, ↓ev_d, startD, isFz, isFzs, szOk, wipeD, putBack, fulls, frzs, full, frz, Row.fe, k0, kd, rst_pos kp, flr_pos kp, t20, t2d, rst_pos t2p, flr_pos t2p, pick_b, pick_b2, fzO_dO, fz_dS, nud_dS, isU_dS, fz_dO, nud_dO, isU_dO, frz_dS, full_dS, frz_dO, full_dO, hz1]))
  refine hide (snoc_gd hl ⟨"some", (.neg (.least [1, -1] 0)), [x], _, rfl, q9 (t := t) (mo := mo) (z := z) (m := mm) (r := rr) ht1 ht3 g2 g3' hx hx2 hz hz2 k2 k5 r0 r1⟩) fun l hl => ?_
  have hz1 := gl_sz hl (by decide)
  (rw [wp_cons]; refine wp_gen fun Q hQ => ?_; simp (maxSteps := 4000000) only [ev_e, List.reduceReplicate, Nat.reduceAdd, Nat.reduceLT, Nat.reduceLeDiff, Nat.reduceSub, Int.reduceNeg, ↓reduceIte, Int.reduceLT, Int.reduceLE, Int.reduceAdd, Int.reduceSub, Int.reduceBEq, reduceCtorEq, ne_eq, Nat.reduceBEq, ev_0, ev_1, ev_2, ev_3, ev_4, ↓ev_d, startD, isFz, isFzs, szOk, wipeD, putBack, fulls, frzs, full, frz, Row.fe, k0, kd, rst_pos kp, flr_pos kp, t20, t2d, rst_pos t2p, flr_pos t2p, pick_b, pick_b2, fzO_dO, fz_dS, nud_dS, isU_dS, fz_dO, nud_dO, isU_dO, frz_dS, full_dS, frz_dO, full_dO, hz1]; (try subst hQ); (try simp (maxSteps := 4000000) only [ev_e, List.reduceReplicate, Nat.reduceAdd, Nat.reduceLT, Nat.reduceLeDiff, Nat.reduceSub, Int.reduceNeg, ↓reduceIte, Int.reduceLT, Int.reduceLE, Int.reduceAdd, Int.reduceSub, Int.reduceBEq, reduceCtorEq, ne_eq, Nat.reduceBEq, ev_0, ev_1, ev_2, ev_3, ev_4, ↓ev_d, startD, isFz, isFzs, szOk, wipeD, putBack, fulls, frzs, full, frz, Row.fe, k0, kd, rst_pos kp, flr_pos kp, t20, t2d, rst_pos t2p, flr_pos t2p, pick_b, pick_b2, fzO_dO, fz_dS, nud_dS, isU_dS, fz_dO, nud_dO, isU_dO, frz_dS, full_dS, frz_dO, full_dO, hz1]))
  refine hide (snoc_gd hl ⟨"some", .and (.neg (.least [1, -1] 0)) (.rest [0, 1] mm rr), [x], _, rfl, q10 (t := t) (mo := mo) (z := z) (m := mm) (r := rr) ht1 ht3 g2 g3' hx hx2 hz hz2 k2 k5 r0 r1⟩) fun l hl => ?_
  have hz1 := gl_sz hl (by decide)
  (rw [wp_cons]; refine wp_gen fun Q hQ => ?_; simp (maxSteps := 4000000) only [ev_e, List.reduceReplicate, Nat.reduceAdd, Nat.reduceLT, Nat.reduceLeDiff, Nat.reduceSub, Int.reduceNeg, ↓reduceIte, Int.reduceLT, Int.reduceLE, Int.reduceAdd, Int.reduceSub, Int.reduceBEq, reduceCtorEq, ne_eq, Nat.reduceBEq, ev_0, ev_1, ev_2, ev_3, ev_4, ↓ev_d, startD, isFz, isFzs, szOk, wipeD, putBack, fulls, frzs, full, frz, Row.fe, k0, kd, rst_pos kp, flr_pos kp, t20, t2d, rst_pos t2p, flr_pos t2p, pick_b, pick_b2, fzO_dO, fz_dS, nud_dS, isU_dS, fz_dO, nud_dO, isU_dO, frz_dS, full_dS, frz_dO, full_dO, hz1]; (try subst hQ); (try simp (maxSteps := 4000000) only [ev_e, List.reduceReplicate, Nat.reduceAdd, Nat.reduceLT, Nat.reduceLeDiff, Nat.reduceSub, Int.reduceNeg, ↓reduceIte, Int.reduceLT, Int.reduceLE, Int.reduceAdd, Int.reduceSub, Int.reduceBEq, reduceCtorEq, ne_eq, Nat.reduceBEq, ev_0, ev_1, ev_2, ev_3, ev_4, ↓ev_d, startD, isFz, isFzs, szOk, wipeD, putBack, fulls, frzs, full, frz, Row.fe, k0, kd, rst_pos kp, flr_pos kp, t20, t2d, rst_pos t2p, flr_pos t2p, pick_b, pick_b2, fzO_dO, fz_dS, nud_dS, isU_dS, fz_dO, nud_dO, isU_dO, frz_dS, full_dS, frz_dO, full_dO, hz1]))
  refine hide (snoc_gd hl ⟨"some", .and (.least [1, 1] 0) (.least [0, -1] 1), [x], _, rfl, q11 (t := t) (mo := mo) (z := z) (m := mm) (r := rr) ht1 ht3 g2 g3' hx hx2 hz hz2 k2 k5 r0 r1⟩) fun l hl => ?_
  have hz1 := gl_sz hl (by decide)
  (rw [wp_cons]; refine wp_gen fun Q hQ => ?_; simp (maxSteps := 4000000) only [ev_e, List.reduceReplicate, Nat.reduceAdd, Nat.reduceLT, Nat.reduceLeDiff, Nat.reduceSub, Int.reduceNeg, ↓reduceIte, Int.reduceLT, Int.reduceLE, Int.reduceAdd, Int.reduceSub, Int.reduceBEq, reduceCtorEq, ne_eq, Nat.reduceBEq, ev_0, ev_1, ev_2, ev_3, ev_4, ↓ev_d, startD, isFz, isFzs, szOk, wipeD, putBack, fulls, frzs, full, frz, Row.fe, k0, kd, rst_pos kp, flr_pos kp, t20, t2d, rst_pos t2p, flr_pos t2p, pick_b, pick_b2, fzO_dO, fz_dS, nud_dS, isU_dS, fz_dO, nud_dO, isU_dO, frz_dS, full_dS, frz_dO, full_dO, hz1]; (try subst hQ); (try simp (maxSteps := 4000000) only [ev_e, List.reduceReplicate, Nat.reduceAdd, Nat.reduceLT, Nat.reduceLeDiff, Nat.reduceSub, Int.reduceNeg, ↓reduceIte, Int.reduceLT, Int.reduceLE, Int.reduceAdd, Int.reduceSub, Int.reduceBEq, reduceCtorEq, ne_eq, Nat.reduceBEq, ev_0, ev_1, ev_2, ev_3, ev_4, ↓ev_d, startD, isFz, isFzs, szOk, wipeD, putBack, fulls, frzs, full, frz, Row.fe, k0, kd, rst_pos kp, flr_pos kp, t20, t2d, rst_pos t2p, flr_pos t2p, pick_b, pick_b2, fzO_dO, fz_dS, nud_dS, isU_dS, fz_dO, nud_dO, isU_dO, frz_dS, full_dS, frz_dO, full_dO, hz1]))
  refine hide (snoc_gd hl ⟨"all", .or (.least [1, -1] 0) (.neg (.least [1, -1] 0)), [x], _, rfl, q12 (t := t) (mo := mo) (z := z) (m := mm) (r := rr) ht1 ht3 g2 g3' hx hx2 hz hz2 k2 k5 r0 r1⟩) fun l hl => ?_
  have hz1 := gl_sz hl (by decide)
  (rw [wp_cons]; refine wp_gen fun Q hQ => ?_; simp (maxSteps := 4000000) only [ev_e, List.reduceReplicate, Nat.reduceAdd, Nat.reduceLT, Nat.reduceLeDiff, Nat.reduceSub, Int.reduceNeg, ↓reduceIte, Int.reduceLT, Int.reduceLE, Int.reduceAdd, Int.reduceSub, Int.reduceBEq, reduceCtorEq, ne_eq, Nat.reduceBEq, ev_0, ev_1, ev_2, ev_3, ev_4, ↓ev_d, startD, isFz, isFzs, szOk, wipeD, putBack, fulls, frzs, full, frz, Row.fe, szOk]; (try subst hQ); (try simp (maxSteps := 4000000) only [ev_e, List.reduceReplicate, Nat.reduceAdd, Nat.reduceLT, Nat.reduceLeDiff, Nat.reduceSub, Int.reduceNeg, ↓reduceIte, Int.reduceLT, Int.reduceLE, Int.reduceAdd, Int.reduceSub, Int.reduceBEq, reduceCtorEq, ne_eq, Nat.reduceBEq, ev_0, ev_1, ev_2, ev_3, ev_4, ↓ev_d, startD, isFz, isFzs, szOk, wipeD, putBack, fulls, frzs, full, frz, Row.fe, szOk]))
  have hmu : mulOk ((x + 1) / 2) 2 = true := sm_r ⟨by decide, by decide⟩
  (rw [wp_cons]; refine wp_gen fun Q hQ => ?_; simp (maxSteps := 4000000) only [ev_e, List.reduceReplicate, Nat.reduceAdd, Nat.reduceLT, Nat.reduceLeDiff, Nat.reduceSub, Int.reduceNeg, ↓reduceIte, Int.reduceLT, Int.reduceLE, Int.reduceAdd, Int.reduceSub, Int.reduceBEq, reduceCtorEq, ne_eq, Nat.reduceBEq, ev_0, ev_1, ev_2, ev_3, ev_4, ↓ev_d, startD, isFz, isFzs, szOk, wipeD, putBack, fulls, frzs, full, frz, Row.fe, hmu, k0, kd, rst_pos kp, flr_pos kp, t20, t2d, rst_pos t2p, flr_pos t2p, pick_b, pick_b2, fzO_dO, fz_dS, nud_dS, isU_dS, fz_dO, nud_dO, isU_dO, frz_dS, full_dS, frz_dO, full_dO, hz1]; (try subst hQ); (try simp (maxSteps := 4000000) only [ev_e, List.reduceReplicate, Nat.reduceAdd, Nat.reduceLT, Nat.reduceLeDiff, Nat.reduceSub, Int.reduceNeg, ↓reduceIte, Int.reduceLT, Int.reduceLE, Int.reduceAdd, Int.reduceSub, Int.reduceBEq, reduceCtorEq, ne_eq, Nat.reduceBEq, ev_0, ev_1, ev_2, ev_3, ev_4, ↓ev_d, startD, isFz, isFzs, szOk, wipeD, putBack, fulls, frzs, full, frz, Row.fe, hmu, k0, kd, rst_pos kp, flr_pos kp, t20, t2d, rst_pos t2p, flr_pos t2p, pick_b, pick_b2, fzO_dO, fz_dS, nud_dS, isU_dS, fz_dO, nud_dO, isU_dO, frz_dS, full_dS, frz_dO, full_dO, hz1]))
  refine hide (snoc_gd hl ⟨"some", .and (.least [-1, 2] 0) (.least [1, -2] (-mo)), [x], _, rfl, q13 (t := t) (mo := mo) (z := z) (m := mm) (r := rr) ht1 ht3 g2 g3' hx hx2 hz hz2 k2 k5 r0 r1⟩) fun l hl => ?_
  have hz1 := gl_sz hl (by decide)
  repeat (rw [wp_cons]; refine wp_gen fun Q hQ => ?_; simp (maxSteps := 4000000) only [ev_e, List.reduceReplicate, Nat.reduceAdd, Nat.reduceLT, Nat.reduceLeDiff, Nat.reduceSub, Int.reduceNeg, ↓reduceIte, Int.reduceLT, Int.reduceLE, Int.reduceAdd, Int.reduceSub, Int.reduceBEq, reduceCtorEq, ne_eq, Nat.reduceBEq, ev_0, ev_1, ev_2, ev_3, ev_4, ↓ev_d, startD, isFz, isFzs, szOk, wipeD, putBack, fulls, frzs, full, frz, Row.fe, r__law_questions, hz1]; (try subst hQ); (try simp (maxSteps := 4000000) only [ev_e, List.reduceReplicate, Nat.reduceAdd, Nat.reduceLT, Nat.reduceLeDiff, Nat.reduceSub, Int.reduceNeg, ↓reduceIte, Int.reduceLT, Int.reduceLE, Int.reduceAdd, Int.reduceSub, Int.reduceBEq, reduceCtorEq, ne_eq, Nat.reduceBEq, ev_0, ev_1, ev_2, ev_3, ev_4, ↓ev_d, startD, isFz, isFzs, szOk, wipeD, putBack, fulls, frzs, full, frz, Row.fe, r__law_questions, hz1]))

  exact ⟨_, l, hl.1, rfl⟩
end K43
namespace K43
open PySem L2 Cs Sn
/-! MAXSTEPS -/
theorem ok1 : Ok 2 4 s1 := ⟨w1, by decide, by decide, by decide, by decide +kernel, fun a ha => of_decide_eq_true (List.all_eq_true.mp (by decide +kernel : ((atoms s1).all fun a => decide ((lastOf a).natAbs ≤ 4 ∧ partOf a < 4611686018427387904)) = true) a ha), by decide +kernel⟩
theorem ok2 : Ok 2 4 s2 := ⟨w2, by decide, by decide, by decide, by decide +kernel, fun a ha => of_decide_eq_true (List.all_eq_true.mp (by decide +kernel : ((atoms s2).all fun a => decide ((lastOf a).natAbs ≤ 4 ∧ partOf a < 4611686018427387904)) = true) a ha), by decide +kernel⟩
theorem ok3 : Ok 1 4 f2 := ⟨wf2, by decide, by decide, by decide, by rw [a2]; decide, fun a ha => of_decide_eq_true (List.all_eq_true.mp (by decide +kernel : ((atoms f2).all fun a => decide ((lastOf a).natAbs ≤ 4 ∧ partOf a < 4611686018427387904)) = true) a ha), by rw [wh2]; decide⟩
theorem lq1 : ∀ a ∈ atoms f1, (lastOf a).natAbs ≤ 1000 ∧ partOf a < 4611686018427387904 := fun a ha => of_decide_eq_true (List.all_eq_true.mp (by decide +kernel : ((atoms f1).all fun a => decide ((lastOf a).natAbs ≤ 1000 ∧ partOf a < 4611686018427387904)) = true) a ha)
theorem lq2 : ∀ a ∈ atoms f2, (lastOf a).natAbs ≤ 1000 ∧ partOf a < 4611686018427387904 := fun a ha => of_decide_eq_true (List.all_eq_true.mp (by decide +kernel : ((atoms f2).all fun a => decide ((lastOf a).natAbs ≤ 1000 ∧ partOf a < 4611686018427387904)) = true) a ha)
theorem sms1 {x : Int} (h0 : 0 ≤ x) (h1 : x ≤ 1000000) : Sms [x] := fun c hc => by simp at hc; subst hc; constructor <;> omega
theorem cs1 {x : Int} (h0 : 0 ≤ x) (h1 : x ≤ 1000000) : ∀ c ∈ [x], 0 ≤ c ∧ c ≤ 1000000 := fun c hc => by simp at hc; omega
theorem wk1 {x : Int} (h0 : 0 ≤ x) (h1 : x ≤ 1000000) : WOk [x] f1 := ⟨wf1, sms1 h0 h1, by simp, by rw [a1]; decide, lq1, by rw [wh1]; decide, fun h hh => by have := head_sm (n := 1) (cs := [x]) (M := 1000000) wf1 rfl (by decide) (by decide) (cs1 h0 h1) sm1 h hh; omega⟩
theorem wk2 {x : Int} (h0 : 0 ≤ x) (h1 : x ≤ 1000000) : WOk [x] f2 := ⟨wf2, sms1 h0 h1, by simp, by rw [a2]; decide, lq2, by rw [wh2]; decide, fun h hh => by have := head_sm (n := 1) (cs := [x]) (M := 1000000) wf2 rfl (by decide) (by decide) (cs1 h0 h1) sm2 h hh; omega⟩
theorem wk3 {x : Int} (h0 : 0 ≤ x) (h1 : x ≤ 1000000) : WOk [x] (.neg (.neg f1)) := ⟨wf1, sms1 h0 h1, by simp, (wk1 h0 h1).at_, lq1, (wk1 h0 h1).wh, (wk1 h0 h1).br⟩
theorem nn1 {x : Int} (h0 : 0 ≤ x) : IsLeast (fun y => so (.neg (.neg f1)) ([x] ++ [y])) (some (9 * x + 12)) := by
  have e : (fun y => so (.neg (.neg f1)) ([x] ++ [y])) = fun y => so f1 ([x] ++ [y]) := funext fun y => by show (!(!so f1 _)) = _; rw [Bool.not_not]
  rw [e]; exact least1 h0
theorem wit1 (k : Nat) {x : Int} (h0 : 0 ≤ x) (h1 : x ≤ 1000000) : callN tab kn (k + 12) "witness" [.tup [.str "some", dS f1], .tup [.int x]] = .ok (.int (9 * x + 12), [.tup [.str "some", dS f1], .tup [.int x]]) := by
  have h := s_witness (k + 8) "some" (.inl rfl) [x] f1 (by rw [if_pos rfl]; exact wk1 h0 h1) (by rw [d1]; omega)
  rw [if_pos rfl, least_uniq (lwit_least (cs := [x]) wf1) (least1 h0)] at h
  exact h
theorem hol1 (k : Nat) {x : Int} (h0 : 0 ≤ x) (h1 : x ≤ 1000000) : callN tab kn (k + 13) "holds" [.tup [.str "some", dS f1], .tup [.int x]] = .ok (.bl true, [.tup [.str "some", dS f1], .tup [.int x]]) := by
  have h := s_holds (k + 8) "some" (.inl rfl) [x] f1 (by rw [if_pos rfl]; exact wk1 h0 h1) (by rw [d1]; omega)
  rw [if_pos rfl, least_uniq (lwit_least (cs := [x]) wf1) (least1 h0)] at h
  rw [decide_eq_false (show ¬ (("some" : Str) = "all") by decide +kernel)] at h
  exact h
theorem wit2 (k : Nat) {x : Int} (h0 : 0 ≤ x) (h1 : x ≤ 1000000) : callN tab kn (k + 13) "witness" [.tup [.str "all", .tup [.str "not", dS f1]], .tup [.int x]] = .ok (.int (9 * x + 12), [.tup [.str "all", .tup [.str "not", dS f1]], .tup [.int x]]) := by
  have h := s_witness (k + 9) "all" (.inr rfl) [x] (.neg f1) (by rw [if_neg ne_as]; exact wk3 h0 h1) (by show dep f1 + 1 + 1 ≤ _; rw [d1]; omega)
  rw [if_neg ne_as, least_uniq (lwit_least (s := .neg (.neg f1)) (cs := [x]) wf1) (nn1 h0)] at h
  exact h
theorem hol2 (k : Nat) {x : Int} (h0 : 0 ≤ x) (h1 : x ≤ 1000000) : callN tab kn (k + 14) "holds" [.tup [.str "all", .tup [.str "not", dS f1]], .tup [.int x]] = .ok (.bl false, [.tup [.str "all", .tup [.str "not", dS f1]], .tup [.int x]]) := by
  have h := s_holds (k + 9) "all" (.inr rfl) [x] (.neg f1) (by rw [if_neg ne_as]; exact wk3 h0 h1) (by show dep f1 + 1 + 1 ≤ _; rw [d1]; omega)
  rw [if_neg ne_as, least_uniq (lwit_least (s := .neg (.neg f1)) (cs := [x]) wf1) (nn1 h0)] at h
  rw [decide_eq_true rfl] at h
  exact h
theorem wit4 (k : Nat) {x : Int} (h0 : 0 ≤ x) (h1 : x ≤ 1000000) : callN tab kn (k + 12) "witness" [.tup [.str "some", dS f2], .tup [.int x]] = .ok (dO (if x % 4 = 0 then some (x / 4) else none), [.tup [.str "some", dS f2], .tup [.int x]]) := by
  have h := s_witness (k + 8) "some" (.inl rfl) [x] f2 (by rw [if_pos rfl]; exact wk2 h0 h1) (by rw [d2]; omega)
  rw [if_pos rfl, least_uniq (lwit_least (cs := [x]) wf2) (least2 h0)] at h
  exact h
theorem hol4 (k : Nat) {x : Int} (h0 : 0 ≤ x) (h1 : x ≤ 1000000) : callN tab kn (k + 13) "holds" [.tup [.str "some", dS f2], .tup [.int x]] = .ok (.bl (decide (x % 4 = 0)), [.tup [.str "some", dS f2], .tup [.int x]]) := by
  have h := s_holds (k + 8) "some" (.inl rfl) [x] f2 (by rw [if_pos rfl]; exact wk2 h0 h1) (by rw [d2]; omega)
  rw [if_pos rfl, least_uniq (lwit_least (cs := [x]) wf2) (least2 h0)] at h
  rw [decide_eq_false (show ¬ (("some" : Str) = "all") by decide +kernel)] at h
  by_cases hx : x % 4 = 0
  · rw [if_pos hx] at h; rw [decide_eq_true hx]; exact h
  · rw [if_neg hx] at h; rw [decide_eq_false hx]; exact h
theorem iss4 (k : Nat) {x : Int} (h0 : 0 ≤ x) (h1 : x ≤ 1000000) : callN tab kn (k + 17) "is_so" [dS f3, .tup [.int x]] = .ok (.bl (decide (x % 4 = 0)), [dS f3, .tup [.int x]]) := by
  have h := s_is_so [x] (sms1 h0 h1) (by simp) f3 (k + 17) wf3 (by rw [d3]; omega)
  rw [so3 h0] at h
  exact h
theorem pl1 (k : Nat) : Wp (callN tab kn (k + 12) "plainly" [.tup [.str "some", dS s1]]) (fun r => r = (dS f1, [.tup [.str "some", dS s1]])) := by
  have h := s_plainly (k + 7) 2 4 "some" (.inl rfl) s1 (by rw [if_pos rfl]; exact ok1) (by show 4 ≤ _; omega)
  rw [if_pos rfl, e1] at h
  exact h
theorem pl2 (k : Nat) : Wp (callN tab kn (k + 12) "plainly" [.tup [.str "some", dS s2]]) (fun r => r = (dS f2, [.tup [.str "some", dS s2]])) := by
  have h := s_plainly (k + 7) 2 4 "some" (.inl rfl) s2 (by rw [if_pos rfl]; exact ok2) (by show 4 ≤ _; omega)
  rw [if_pos rfl, e2] at h
  exact h
theorem pl3 (k : Nat) : Wp (callN tab kn (k + 14) "plainly" [.tup [.str "some", dS f2]]) (fun r => r = (dS f3, [.tup [.str "some", dS f2]])) := by
  have h := s_plainly (k + 9) 1 4 "some" (.inl rfl) f2 (by rw [if_pos rfl]; exact ok3) (by rw [d2]; omega)
  rw [if_pos rfl, e3] at h
  exact h
end K43
namespace K43
open PySem L2 Cs Sn
/-! MAXSTEPS -/
theorem eqD_bl2 (a b c d : Bool) : eqD (.lst true [.bl a, .bl b]) (.lst true [.bl c, .bl d]) = some (a == c && b == d) := by cases a <;> cases b <;> cases c <;> cases d <;> kernel_rfl
theorem repr_dO (o : Option Int) (h : ∀ x, o = some x → x.natAbs.log2 < 1920) : ∃ t : Str, biD .repr [dO o] = some (.str t) ∧ eqD (.str t) (.str t) = some true := by
  cases o with
  | none => exact ⟨"None", rfl, eqD_strs (str_ok _)⟩
  | some x => exact ⟨toString x, by rw [show dO (some x) = .int x from rfl, i_repr, decide_eq_true (h x rfl)]; rfl, eqD_strs (str_ok _)⟩
theorem log_ok {x : Int} (h0 : 0 ≤ x) (h1 : x ≤ 100000000) : x.natAbs.log2 < 1920 := by
  by_cases h : x.natAbs = 0
  · rw [h]; decide
  · exact Nat.lt_trans ((Nat.log2_lt h).mpr (show x.natAbs < 2 ^ 30 by omega)) (by decide)
set_option maxHeartbeats 0 in
theorem s_told (a b : Int) (ha : 0 ≤ a) (ha2 : a ≤ 1000000) (hb : 0 ≤ b) (hb2 : b ≤ 1000000) : Wp (callN tab kn 19 "_law_told_right" [.lst true [.int 12, .int 0, .int a, .int b]]) (fun r => r = (.bl true, [.lst false [.int 12, .int 0, .int a, .int b]])) := by
  rw [call_code (k := 18) t_told]
  refine run_wp rfl ?_
  show Wp (evSs _ b__law_told_right (startD 6 [.lst true [.int 12, .int 0, .int a, .int b]])) _
  unfold b__law_told_right
  (rw [wp_cons]; refine wp_gen fun Q hQ => ?_; simp (maxSteps := 4000000) only [ev_e, List.reduceReplicate, Nat.reduceAdd, Nat.reduceLT, Nat.reduceLeDiff, Nat.reduceSub, Int.reduceNeg, ↓reduceIte, Int.reduceLT, Int.reduceLE, Int.reduceAdd, Int.reduceSub, Int.reduceBEq, reduceCtorEq, ne_eq, Nat.reduceBEq, ev_0, ev_1, ev_2, ev_3, ev_4, ↓ev_d, startD, isFz, isFzs, szOk, wipeD, putBack, fulls, frzs, full, frz, Row.fe, szOk]; (try subst hQ); (try simp (maxSteps := 4000000) only [ev_e, List.reduceReplicate, Nat.reduceAdd, Nat.reduceLT, Nat.reduceLeDiff, Nat.reduceSub, Int.reduceNeg, ↓reduceIte, Int.reduceLT, Int.reduceLE, Int.reduceAdd, Int.reduceSub, Int.reduceBEq, reduceCtorEq, ne_eq, Nat.reduceBEq, ev_0, ev_1, ev_2, ev_3, ev_4, ↓ev_d, startD, isFz, isFzs, szOk, wipeD, putBack, fulls, frzs, full, frz, Row.fe, szOk]))
  rw [wp_cons]
  ((first | refine wp_gen fun Q hQ => ?_ | skip); simp (maxSteps := 4000000) only [ev_e, List.reduceReplicate, Nat.reduceAdd, Nat.reduceLT, Nat.reduceLeDiff, Nat.reduceSub, Int.reduceNeg, ↓reduceIte, Int.reduceLT, Int.reduceLE, Int.reduceAdd, Int.reduceSub, Int.reduceBEq, reduceCtorEq, ne_eq, Nat.reduceBEq, ev_0, ev_1, ev_2, ev_3, ev_4, ↓ev_d, startD, isFz, isFzs, szOk, wipeD, putBack, fulls, frzs, full, frz, Row.fe, szOk]; (try subst hQ); (try simp (maxSteps := 4000000) only [ev_e, List.reduceReplicate, Nat.reduceAdd, Nat.reduceLT, Nat.reduceLeDiff, Nat.reduceSub, Int.reduceNeg, ↓reduceIte, Int.reduceLT, Int.reduceLE, Int.reduceAdd, Int.reduceSub, Int.reduceBEq, reduceCtorEq, ne_eq, Nat.reduceBEq, ev_0, ev_1, ev_2, ev_3, ev_4, ↓ev_d, startD, isFz, isFzs, szOk, wipeD, putBack, fulls, frzs, full, frz, Row.fe, szOk]))
  refine (pl1 6).mono ?_
  rintro _ rfl
  ((first | refine wp_gen fun Q hQ => ?_ | skip); simp (maxSteps := 4000000) only [ev_e, List.reduceReplicate, Nat.reduceAdd, Nat.reduceLT, Nat.reduceLeDiff, Nat.reduceSub, Int.reduceNeg, ↓reduceIte, Int.reduceLT, Int.reduceLE, Int.reduceAdd, Int.reduceSub, Int.reduceBEq, reduceCtorEq, ne_eq, Nat.reduceBEq, ev_0, ev_1, ev_2, ev_3, ev_4, ↓ev_d, startD, isFz, isFzs, szOk, wipeD, putBack, fulls, frzs, full, frz, Row.fe, fz_dS, full_dS, frz_dS]; (try subst hQ); (try simp (maxSteps := 4000000) only [ev_e, List.reduceReplicate, Nat.reduceAdd, Nat.reduceLT, Nat.reduceLeDiff, Nat.reduceSub, Int.reduceNeg, ↓reduceIte, Int.reduceLT, Int.reduceLE, Int.reduceAdd, Int.reduceSub, Int.reduceBEq, reduceCtorEq, ne_eq, Nat.reduceBEq, ev_0, ev_1, ev_2, ev_3, ev_4, ↓ev_d, startD, isFz, isFzs, szOk, wipeD, putBack, fulls, frzs, full, frz, Row.fe, fz_dS, full_dS, frz_dS]))
  (rw [wp_cons]; refine wp_gen fun Q hQ => ?_; simp (maxSteps := 4000000) only [ev_e, List.reduceReplicate, Nat.reduceAdd, Nat.reduceLT, Nat.reduceLeDiff, Nat.reduceSub, Int.reduceNeg, ↓reduceIte, Int.reduceLT, Int.reduceLE, Int.reduceAdd, Int.reduceSub, Int.reduceBEq, reduceCtorEq, ne_eq, Nat.reduceBEq, ev_0, ev_1, ev_2, ev_3, ev_4, ↓ev_d, startD, isFz, isFzs, szOk, wipeD, putBack, fulls, frzs, full, frz, Row.fe, szOk]; (try subst hQ); (try simp (maxSteps := 4000000) only [ev_e, List.reduceReplicate, Nat.reduceAdd, Nat.reduceLT, Nat.reduceLeDiff, Nat.reduceSub, Int.reduceNeg, ↓reduceIte, Int.reduceLT, Int.reduceLE, Int.reduceAdd, Int.reduceSub, Int.reduceBEq, reduceCtorEq, ne_eq, Nat.reduceBEq, ev_0, ev_1, ev_2, ev_3, ev_4, ↓ev_d, startD, isFz, isFzs, szOk, wipeD, putBack, fulls, frzs, full, frz, Row.fe, szOk]))
  rw [wp_cons]
  ((first | refine wp_gen fun Q hQ => ?_ | skip); simp (maxSteps := 4000000) only [ev_e, List.reduceReplicate, Nat.reduceAdd, Nat.reduceLT, Nat.reduceLeDiff, Nat.reduceSub, Int.reduceNeg, ↓reduceIte, Int.reduceLT, Int.reduceLE, Int.reduceAdd, Int.reduceSub, Int.reduceBEq, reduceCtorEq, ne_eq, Nat.reduceBEq, ev_0, ev_1, ev_2, ev_3, ev_4, ↓ev_d, startD, isFz, isFzs, szOk, wipeD, putBack, fulls, frzs, full, frz, Row.fe, szOk]; (try subst hQ); (try simp (maxSteps := 4000000) only [ev_e, List.reduceReplicate, Nat.reduceAdd, Nat.reduceLT, Nat.reduceLeDiff, Nat.reduceSub, Int.reduceNeg, ↓reduceIte, Int.reduceLT, Int.reduceLE, Int.reduceAdd, Int.reduceSub, Int.reduceBEq, reduceCtorEq, ne_eq, Nat.reduceBEq, ev_0, ev_1, ev_2, ev_3, ev_4, ↓ev_d, startD, isFz, isFzs, szOk, wipeD, putBack, fulls, frzs, full, frz, Row.fe, szOk]))
  refine (pl2 6).mono ?_
  rintro _ rfl
  ((first | refine wp_gen fun Q hQ => ?_ | skip); simp (maxSteps := 4000000) only [ev_e, List.reduceReplicate, Nat.reduceAdd, Nat.reduceLT, Nat.reduceLeDiff, Nat.reduceSub, Int.reduceNeg, ↓reduceIte, Int.reduceLT, Int.reduceLE, Int.reduceAdd, Int.reduceSub, Int.reduceBEq, reduceCtorEq, ne_eq, Nat.reduceBEq, ev_0, ev_1, ev_2, ev_3, ev_4, ↓ev_d, startD, isFz, isFzs, szOk, wipeD, putBack, fulls, frzs, full, frz, Row.fe, fz_dS, full_dS, frz_dS]; (try subst hQ); (try simp (maxSteps := 4000000) only [ev_e, List.reduceReplicate, Nat.reduceAdd, Nat.reduceLT, Nat.reduceLeDiff, Nat.reduceSub, Int.reduceNeg, ↓reduceIte, Int.reduceLT, Int.reduceLE, Int.reduceAdd, Int.reduceSub, Int.reduceBEq, reduceCtorEq, ne_eq, Nat.reduceBEq, ev_0, ev_1, ev_2, ev_3, ev_4, ↓ev_d, startD, isFz, isFzs, szOk, wipeD, putBack, fulls, frzs, full, frz, Row.fe, fz_dS, full_dS, frz_dS]))
  rw [wp_cons]
  ((first | refine wp_gen fun Q hQ => ?_ | skip); simp (maxSteps := 4000000) only [ev_e, List.reduceReplicate, Nat.reduceAdd, Nat.reduceLT, Nat.reduceLeDiff, Nat.reduceSub, Int.reduceNeg, ↓reduceIte, Int.reduceLT, Int.reduceLE, Int.reduceAdd, Int.reduceSub, Int.reduceBEq, reduceCtorEq, ne_eq, Nat.reduceBEq, ev_0, ev_1, ev_2, ev_3, ev_4, ↓ev_d, startD, isFz, isFzs, szOk, wipeD, putBack, fulls, frzs, full, frz, Row.fe, fz_dS, full_dS, frz_dS, nud_dS, isU_dS]; (try subst hQ); (try simp (maxSteps := 4000000) only [ev_e, List.reduceReplicate, Nat.reduceAdd, Nat.reduceLT, Nat.reduceLeDiff, Nat.reduceSub, Int.reduceNeg, ↓reduceIte, Int.reduceLT, Int.reduceLE, Int.reduceAdd, Int.reduceSub, Int.reduceBEq, reduceCtorEq, ne_eq, Nat.reduceBEq, ev_0, ev_1, ev_2, ev_3, ev_4, ↓ev_d, startD, isFz, isFzs, szOk, wipeD, putBack, fulls, frzs, full, frz, Row.fe, fz_dS, full_dS, frz_dS, nud_dS, isU_dS]))
  refine (pl3 4).mono ?_
  rintro _ rfl
  ((first | refine wp_gen fun Q hQ => ?_ | skip); simp (maxSteps := 4000000) only [ev_e, List.reduceReplicate, Nat.reduceAdd, Nat.reduceLT, Nat.reduceLeDiff, Nat.reduceSub, Int.reduceNeg, ↓reduceIte, Int.reduceLT, Int.reduceLE, Int.reduceAdd, Int.reduceSub, Int.reduceBEq, reduceCtorEq, ne_eq, Nat.reduceBEq, ev_0, ev_1, ev_2, ev_3, ev_4, ↓ev_d, startD, isFz, isFzs, szOk, wipeD, putBack, fulls, frzs, full, frz, Row.fe, fz_dS, full_dS, frz_dS]; (try subst hQ); (try simp (maxSteps := 4000000) only [ev_e, List.reduceReplicate, Nat.reduceAdd, Nat.reduceLT, Nat.reduceLeDiff, Nat.reduceSub, Int.reduceNeg, ↓reduceIte, Int.reduceLT, Int.reduceLE, Int.reduceAdd, Int.reduceSub, Int.reduceBEq, reduceCtorEq, ne_eq, Nat.reduceBEq, ev_0, ev_1, ev_2, ev_3, ev_4, ↓ev_d, startD, isFz, isFzs, szOk, wipeD, putBack, fulls, frzs, full, frz, Row.fe, fz_dS, full_dS, frz_dS]))
  rw [wp_cons]
  refine wp_forI (fun ρ => ∃ z1 z : D, ρ = [.lst false [.int 12, .int 0, .int a, .int b], z1, dS f1, dS f2, dS f3, z]) [.int 12, .int 0, .int a, .int b] [.lst false [.int 12, .int 0, .int a, .int b], dS (.and (.least [1, 0, -2] 0) (.least [-1, 0, 2] 0)), dS f1, dS f2, dS f3, .undef] ?_ ⟨_, _, rfl⟩ ?_ ?_
  · ((first | refine wp_gen fun Q hQ => ?_ | skip); simp (maxSteps := 4000000) only [ev_e, List.reduceReplicate, Nat.reduceAdd, Nat.reduceLT, Nat.reduceLeDiff, Nat.reduceSub, Int.reduceNeg, ↓reduceIte, Int.reduceLT, Int.reduceLE, Int.reduceAdd, Int.reduceSub, Int.reduceBEq, reduceCtorEq, ne_eq, Nat.reduceBEq, ev_0, ev_1, ev_2, ev_3, ev_4, ↓ev_d, startD, isFz, isFzs, szOk, wipeD, putBack, fulls, frzs, full, frz, Row.fe, szOk]; (try subst hQ); (try simp (maxSteps := 4000000) only [ev_e, List.reduceReplicate, Nat.reduceAdd, Nat.reduceLT, Nat.reduceLeDiff, Nat.reduceSub, Int.reduceNeg, ↓reduceIte, Int.reduceLT, Int.reduceLE, Int.reduceAdd, Int.reduceSub, Int.reduceBEq, reduceCtorEq, ne_eq, Nat.reduceBEq, ev_0, ev_1, ev_2, ev_3, ev_4, ↓ev_d, startD, isFz, isFzs, szOk, wipeD, putBack, fulls, frzs, full, frz, Row.fe, szOk]))
    try rfl
  · rintro d hd ρ ⟨z1, z, rfl⟩
    obtain ⟨x, rfl, hx, hx2⟩ : ∃ x : Int, d = .int x ∧ 0 ≤ x ∧ x ≤ 1000000 := by
      simp at hd
      rcases hd with rfl | rfl | rfl | rfl
      · exact ⟨12, rfl, by decide, by decide⟩
      · exact ⟨0, rfl, by decide, by decide⟩
      · exact ⟨a, rfl, ha, ha2⟩
      · exact ⟨b, rfl, hb, hb2⟩
    refine ⟨_, by ((first | refine wp_gen fun Q hQ => ?_ | skip); simp (maxSteps := 4000000) only [ev_e, List.reduceReplicate, Nat.reduceAdd, Nat.reduceLT, Nat.reduceLeDiff, Nat.reduceSub, Int.reduceNeg, ↓reduceIte, Int.reduceLT, Int.reduceLE, Int.reduceAdd, Int.reduceSub, Int.reduceBEq, reduceCtorEq, ne_eq, Nat.reduceBEq, ev_0, ev_1, ev_2, ev_3, ev_4, ↓ev_d, startD, isFz, isFzs, szOk, wipeD, putBack, fulls, frzs, full, frz, Row.fe, szOk]; (try subst hQ); (try simp (maxSteps := 4000000) only [ev_e, List.reduceReplicate, Nat.reduceAdd, Nat.reduceLT, Nat.reduceLeDiff, Nat.reduceSub, Int.reduceNeg, ↓reduceIte, Int.reduceLT, Int.reduceLE, Int.reduceAdd, Int.reduceSub, Int.reduceBEq, reduceCtorEq, ne_eq, Nat.reduceBEq, ev_0, ev_1, ev_2, ev_3, ev_4, ↓ev_d, startD, isFz, isFzs, szOk, wipeD, putBack, fulls, frzs, full, frz, Row.fe, szOk])); rfl, ?_⟩
    have i1 := wit1 6 hx hx2
    have i2 := wit2 5 hx hx2
    have i3 := hol1 5 hx hx2
    have i4 := hol2 4 hx hx2
    have i5 := wit4 6 hx hx2
    have i6 := hol4 5 hx hx2
    have i7 := iss4 1 hx hx2
    obtain ⟨tx, ht1, ht2⟩ := repr_dO (some (9 * x + 12)) fun y hy => by simp at hy; exact log_ok (by omega) (by omega)
    have ht3 : biD .repr [.int (9 * x + 12)] = some (.str tx) := ht1
    have s9 : mulOk 9 x = true := sm_r (by constructor <;> omega)
    (rw [wp_cons]; refine wp_gen fun Q hQ => ?_; simp (maxSteps := 4000000) only [ev_e, List.reduceReplicate, Nat.reduceAdd, Nat.reduceLT, Nat.reduceLeDiff, Nat.reduceSub, Int.reduceNeg, ↓reduceIte, Int.reduceLT, Int.reduceLE, Int.reduceAdd, Int.reduceSub, Int.reduceBEq, reduceCtorEq, ne_eq, Nat.reduceBEq, ev_0, ev_1, ev_2, ev_3, ev_4, ↓ev_d, startD, isFz, isFzs, szOk, wipeD, putBack, fulls, frzs, full, frz, Row.fe, i1, ht3, ht2, s9, fz_dS, full_dS, frz_dS, nud_dS, isU_dS, fz_dO, nud_dO, isU_dO, frz_dO, full_dO]; (try subst hQ); (try simp (maxSteps := 4000000) only [ev_e, List.reduceReplicate, Nat.reduceAdd, Nat.reduceLT, Nat.reduceLeDiff, Nat.reduceSub, Int.reduceNeg, ↓reduceIte, Int.reduceLT, Int.reduceLE, Int.reduceAdd, Int.reduceSub, Int.reduceBEq, reduceCtorEq, ne_eq, Nat.reduceBEq, ev_0, ev_1, ev_2, ev_3, ev_4, ↓ev_d, startD, isFz, isFzs, szOk, wipeD, putBack, fulls, frzs, full, frz, Row.fe, i1, ht3, ht2, s9, fz_dS, full_dS, frz_dS, nud_dS, isU_dS, fz_dO, nud_dO, isU_dO, frz_dO, full_dO]))
    (rw [wp_cons]; refine wp_gen fun Q hQ => ?_; simp (maxSteps := 4000000) only [ev_e, List.reduceReplicate, Nat.reduceAdd, Nat.reduceLT, Nat.reduceLeDiff, Nat.reduceSub, Int.reduceNeg, ↓reduceIte, Int.reduceLT, Int.reduceLE, Int.reduceAdd, Int.reduceSub, Int.reduceBEq, reduceCtorEq, ne_eq, Nat.reduceBEq, ev_0, ev_1, ev_2, ev_3, ev_4, ↓ev_d, startD, isFz, isFzs, szOk, wipeD, putBack, fulls, frzs, full, frz, Row.fe, i2, ht3, ht2, s9, fz_dS, full_dS, frz_dS, nud_dS, isU_dS, fz_dO, nud_dO, isU_dO, frz_dO, full_dO]; (try subst hQ); (try simp (maxSteps := 4000000) only [ev_e, List.reduceReplicate, Nat.reduceAdd, Nat.reduceLT, Nat.reduceLeDiff, Nat.reduceSub, Int.reduceNeg, ↓reduceIte, Int.reduceLT, Int.reduceLE, Int.reduceAdd, Int.reduceSub, Int.reduceBEq, reduceCtorEq, ne_eq, Nat.reduceBEq, ev_0, ev_1, ev_2, ev_3, ev_4, ↓ev_d, startD, isFz, isFzs, szOk, wipeD, putBack, fulls, frzs, full, frz, Row.fe, i2, ht3, ht2, s9, fz_dS, full_dS, frz_dS, nud_dS, isU_dS, fz_dO, nud_dO, isU_dO, frz_dO, full_dO]))
    (rw [wp_cons]; refine wp_gen fun Q hQ => ?_; simp (maxSteps := 4000000) only [ev_e, List.reduceReplicate, Nat.reduceAdd, Nat.reduceLT, Nat.reduceLeDiff, Nat.reduceSub, Int.reduceNeg, ↓reduceIte, Int.reduceLT, Int.reduceLE, Int.reduceAdd, Int.reduceSub, Int.reduceBEq, reduceCtorEq, ne_eq, Nat.reduceBEq, ev_0, ev_1, ev_2, ev_3, ev_4, ↓ev_d, startD, isFz, isFzs, szOk, wipeD, putBack, fulls, frzs, full, frz, Row.fe, i3, i4, eqD_bl2, fz_dS, full_dS, frz_dS, nud_dS, isU_dS, fz_dO, nud_dO, isU_dO, frz_dO, full_dO]; (try subst hQ); (try simp (maxSteps := 4000000) only [ev_e, List.reduceReplicate, Nat.reduceAdd, Nat.reduceLT, Nat.reduceLeDiff, Nat.reduceSub, Int.reduceNeg, ↓reduceIte, Int.reduceLT, Int.reduceLE, Int.reduceAdd, Int.reduceSub, Int.reduceBEq, reduceCtorEq, ne_eq, Nat.reduceBEq, ev_0, ev_1, ev_2, ev_3, ev_4, ↓ev_d, startD, isFz, isFzs, szOk, wipeD, putBack, fulls, frzs, full, frz, Row.fe, i3, i4, eqD_bl2, fz_dS, full_dS, frz_dS, nud_dS, isU_dS, fz_dO, nud_dO, isU_dO, frz_dO, full_dO]))
    have d4 := dv_c (j := 4) (by decide) (by decide)
    have p4 : (0 : Int) < 4 := by decide
    have n4 : (4 : Int) ≠ 0 := by decide
    obtain ⟨ty, hu1, hu2⟩ := repr_dO (if x % 4 = 0 then some (x / 4) else none) fun y hy => by
      split at hy
      · simp at hy; exact log_ok (by omega) (by omega)
      · cases hy
    have hb4 : (if (x % 4 == 0) = true then some (x / 4) else none) = (if x % 4 = 0 then some (x / 4) else none) := by by_cases h : x % 4 = 0 <;> simp [h]
    have hdb : (x % 4 == 0) = decide (x % 4 = 0) := rfl
    have hml : ∀ c : Bool, binD .Mult (.lst true [.bl c]) (.int 2) = some (.lst true [.bl c, .bl c]) := fun c => by rfl
    have hself : ((decide (x % 4 = 0) == decide (x % 4 = 0)) && (decide (x % 4 = 0) == decide (x % 4 = 0))) = true := by simp
    (rw [wp_cons]; refine wp_gen fun Q hQ => ?_; simp (maxSteps := 4000000) only [ev_e, List.reduceReplicate, Nat.reduceAdd, Nat.reduceLT, Nat.reduceLeDiff, Nat.reduceSub, Int.reduceNeg, ↓reduceIte, Int.reduceLT, Int.reduceLE, Int.reduceAdd, Int.reduceSub, Int.reduceBEq, reduceCtorEq, ne_eq, Nat.reduceBEq, ev_0, ev_1, ev_2, ev_3, ev_4, ↓ev_d, startD, isFz, isFzs, szOk, wipeD, putBack, fulls, frzs, full, frz, Row.fe, i5, d4, n4, rst_pos p4, flr_pos p4, pick_b, fzO_dO, hb4, hu1, hu2, fz_dS, full_dS, frz_dS, nud_dS, isU_dS, fz_dO, nud_dO, isU_dO, frz_dO, full_dO]; (try subst hQ); (try simp (maxSteps := 4000000) only [ev_e, List.reduceReplicate, Nat.reduceAdd, Nat.reduceLT, Nat.reduceLeDiff, Nat.reduceSub, Int.reduceNeg, ↓reduceIte, Int.reduceLT, Int.reduceLE, Int.reduceAdd, Int.reduceSub, Int.reduceBEq, reduceCtorEq, ne_eq, Nat.reduceBEq, ev_0, ev_1, ev_2, ev_3, ev_4, ↓ev_d, startD, isFz, isFzs, szOk, wipeD, putBack, fulls, frzs, full, frz, Row.fe, i5, d4, n4, rst_pos p4, flr_pos p4, pick_b, fzO_dO, hb4, hu1, hu2, fz_dS, full_dS, frz_dS, nud_dS, isU_dS, fz_dO, nud_dO, isU_dO, frz_dO, full_dO]))
    (rw [wp_cons]; refine wp_gen fun Q hQ => ?_; simp (maxSteps := 4000000) only [ev_e, List.reduceReplicate, Nat.reduceAdd, Nat.reduceLT, Nat.reduceLeDiff, Nat.reduceSub, Int.reduceNeg, ↓reduceIte, Int.reduceLT, Int.reduceLE, Int.reduceAdd, Int.reduceSub, Int.reduceBEq, reduceCtorEq, ne_eq, Nat.reduceBEq, ev_0, ev_1, ev_2, ev_3, ev_4, ↓ev_d, startD, isFz, isFzs, szOk, wipeD, putBack, fulls, frzs, full, frz, Row.fe, i6, i7, d4, n4, rst_pos p4, hdb, hml, eqD_bl2, hself, fz_dS, full_dS, frz_dS, nud_dS, isU_dS, fz_dO, nud_dO, isU_dO, frz_dO, full_dO]; (try subst hQ); (try simp (maxSteps := 4000000) only [ev_e, List.reduceReplicate, Nat.reduceAdd, Nat.reduceLT, Nat.reduceLeDiff, Nat.reduceSub, Int.reduceNeg, ↓reduceIte, Int.reduceLT, Int.reduceLE, Int.reduceAdd, Int.reduceSub, Int.reduceBEq, reduceCtorEq, ne_eq, Nat.reduceBEq, ev_0, ev_1, ev_2, ev_3, ev_4, ↓ev_d, startD, isFz, isFzs, szOk, wipeD, putBack, fulls, frzs, full, frz, Row.fe, i6, i7, d4, n4, rst_pos p4, hdb, hml, eqD_bl2, hself, fz_dS, full_dS, frz_dS, nud_dS, isU_dS, fz_dO, nud_dO, isU_dO, frz_dO, full_dO]))
    exact ⟨_, _, rfl⟩
  · rintro ρ ⟨z1, z, rfl⟩
    rw [nx_nx]
    repeat (rw [wp_cons]; refine wp_gen fun Q hQ => ?_; simp (maxSteps := 4000000) only [ev_e, List.reduceReplicate, Nat.reduceAdd, Nat.reduceLT, Nat.reduceLeDiff, Nat.reduceSub, Int.reduceNeg, ↓reduceIte, Int.reduceLT, Int.reduceLE, Int.reduceAdd, Int.reduceSub, Int.reduceBEq, reduceCtorEq, ne_eq, Nat.reduceBEq, ev_0, ev_1, ev_2, ev_3, ev_4, ↓ev_d, startD, isFz, isFzs, szOk, wipeD, putBack, fulls, frzs, full, frz, Row.fe, r__law_told_right]; (try subst hQ); (try simp (maxSteps := 4000000) only [ev_e, List.reduceReplicate, Nat.reduceAdd, Nat.reduceLT, Nat.reduceLeDiff, Nat.reduceSub, Int.reduceNeg, ↓reduceIte, Int.reduceLT, Int.reduceLE, Int.reduceAdd, Int.reduceSub, Int.reduceBEq, reduceCtorEq, ne_eq, Nat.reduceBEq, ev_0, ev_1, ev_2, ev_3, ev_4, ↓ev_d, startD, isFz, isFzs, szOk, wipeD, putBack, fulls, frzs, full, frz, Row.fe, r__law_told_right]))
end K43
namespace K43
open PySem L2 Cs Sn
/-! MAXSTEPS -/
theorem head_bd {n d : Nat} {s : Sen} {cs : List Int} {M : Int} (h : Sb (n + 1) d s) (hl : cs.length = n) (hn : n ≤ 2) (hM : 0 ≤ M) (hc : ∀ c ∈ cs, 0 ≤ c ∧ c ≤ M) : ∀ x ∈ headsL s cs, -(6 * M + 5) ≤ x ∧ x ≤ 6 * M + 5 := by
  intro x hx
  rcases List.mem_cons.mp hx with rfl | hx
  · omega
  obtain ⟨a, ha, rfl⟩ := List.mem_map.mp hx
  obtain ⟨h1, h2⟩ := List.mem_filter.mp ha
  have hb := h.b a h1
  have hw := wf_atoms s h.w a h1
  cases a with
  | least ws k =>
    have h0 : last ws ≠ 0 := by simpa [breaks] using h2
    have hwl : ws.length = n + 1 := hw
    have hm : ∀ w ∈ fore ws, -3 ≤ w ∧ w ≤ 3 := fun w hw => hb.1 w (List.dropLast_subset _ hw)
    obtain ⟨d1, d2⟩ := dot_bd (B := 3) (by decide) hM (fore ws) cs hm hc
    have e : 3 * M * (cs.length : Int) ≤ 3 * M * 2 := Int.mul_le_mul_of_nonneg_left (by omega) (by omega)
    obtain ⟨_, hk1, hk2⟩ := hb
    have := brk_bd (ws := ws) (cs := cs) (k := k) h0 (L := 6 * M + 4) (by unfold left; omega)
    show -(6 * M + 5) ≤ brk ws k cs ∧ brk ws k cs ≤ 6 * M + 5
    omega
  | rest _ _ _ => cases h2
  | neg _ => cases h2
  | and _ _ => cases h2
  | or _ _ => cases h2
theorem wok_of {n d : Nat} {s : Sen} {cs : List Int} {M : Int} (h : Sb (n + 1) d s) (hl : cs.length = n) (hn : n ≤ 2) (hM : 0 ≤ M) (hM2 : M ≤ 10000000) (hc : ∀ c ∈ cs, 0 ≤ c ∧ c ≤ M) (hd : d ≤ 3) : WOk cs s := by
  obtain ⟨w1, w2⟩ := wheel60 h
  subst hl
  refine ⟨h.w, fun c hcm => by have := hc c hcm; constructor <;> omega, by omega, ?_, fun a ha => by have := atb_last h a ha; omega, w2, fun x hx => by have := head_bd h rfl hn hM hc x hx; omega⟩
  have := h.at_
  have : 2 ^ d ≤ 2 ^ 3 := Nat.pow_le_pow_right (by decide) hd
  omega
theorem pick4 (x : Int) (h0 : 0 ≤ x) (h1 : x < 4) : ∃ c, 0 < c ∧ c ≤ 1000001 ∧ fzO (atI [D.int 9, .int 100, .int 1000001, .int 1000001] x) = some (.int c) := by
  have : x = 0 ∨ x = 1 ∨ x = 2 ∨ x = 3 := by omega
  rcases this with rfl | rfl | rfl | rfl <;> exact ⟨_, by decide, by decide, rfl⟩
theorem fz_gd {d : D} (h : Gd d) : isFz d = true := by
  obtain ⟨wd, s, cs, o, rfl, q⟩ := h
  show (isFzs [.tup [.str wd, dS s], .tup (cs.map .int), dO o]) = true
  simp [isFzs, isFz, fz_dS, fz_dO, isFzs_ints]
theorem fz_all : ∀ l : List D, (∀ d ∈ l, Gd d) → isFzs l = true
  | [], _ => rfl
  | d :: l, h => by
    have h1 := fz_gd (h d (by simp))
    have h2 := fz_all l fun e he => h e (by simp [he])
    simp [isFzs, h1, h2]
theorem isN_dO (o : Option Int) : isN (dO o) = some o.isNone := by cases o <;> rfl
theorem ex_of_least {q : Int → Bool} {o : Option Int} (h : IsLeast q o) : (∃ x, 0 ≤ x ∧ q x = true) ↔ o.isNone = false := by
  cases o with
  | none =>
    constructor
    · rintro ⟨x, h0, h1⟩
      have h := h x h0
      rw [h1] at h; cases h
    · intro h; cases h
  | some y => exact ⟨fun _ => rfl, fun _ => ⟨y, h.1, h.2.1⟩⟩
theorem good_so {wd : Str} {s : Sen} {cs : List Int} {o : Option Int} (q : Qn wd s cs o) : so (if wd = "some" then plainlySome cs.length s else .neg (plainlySome cs.length (.neg s))) cs = (o.isNone == decide (wd = "all")) := by
  have hne : ¬ (("some" : Str) = "all") := by decide +kernel
  have hi := q.il
  have hw := q.sb.w
  rcases q.hw with rfl | rfl
  · rw [if_pos rfl] at hi hw
    rw [if_pos rfl, decide_eq_false hne]
    have h1 := (plainly_so hw).trans (ex_of_least hi)
    cases hs : so (plainlySome cs.length s) cs <;> cases ho : o.isNone <;> simp_all
  · rw [if_neg ne_as] at hi hw
    rw [if_neg ne_as, decide_eq_true rfl]
    show (!so (plainlySome cs.length (.neg s)) cs) = _
    have h1 := (plainly_so hw).trans (ex_of_least hi)
    cases hs : so (plainlySome cs.length (.neg s)) cs <;> cases ho : o.isNone <;> simp_all
theorem plain_wd {wd : Str} {s : Sen} {cs : List Int} {o : Option Int} (q : Qn wd s cs o) : Wf cs.length (if wd = "some" then plainlySome cs.length s else .neg (plainlySome cs.length (.neg s))) ∧ dep (if wd = "some" then plainlySome cs.length s else .neg (plainlySome cs.length (.neg s))) < 19 := by
  have hw := q.sb
  have ha := q.at4
  rcases q.hw with rfl | rfl
  · rw [if_pos rfl] at hw
    rw [if_pos rfl]
    have := plain_dep hw (by decide) ha
    exact ⟨plainly_wf hw.w, by omega⟩
  · rw [if_neg ne_as] at hw
    rw [if_neg ne_as]
    have := plain_dep hw (by decide) ha
    exact ⟨plainly_wf (s := .neg s) hw.w, by show dep (plainlySome cs.length (.neg s)) + 1 < 19; omega⟩
set_option maxHeartbeats 0 in
theorem plain (ns : List Int) (hns : ns.length ≤ 63) : ∃ p, callN tab kn 20 "law" [.lkd (ns.map .int)] = .ok (.bl true, p) := by
  suffices W : Wp (callN tab kn 20 "law" [.lkd (ns.map .int)]) (fun p => p.1 = .bl true) by
    obtain ⟨p, e, h⟩ := W
    exact ⟨p.2, by rw [e, ← h]⟩
  rw [call_code (k := 19) t_law]
  refine run_wp rfl ?_
  show Wp (evSs _ b_law (startD 10 [.lkd (ns.map .int)])) _
  unfold b_law
  have h100 : ∀ m, callN tab kn 19 "_law_digit" [.lst true [.int m], .int 100] = _ := fun m => s_digit 18 m 100 (by decide) (by decide)
  have hmil : ∀ m, callN tab kn 19 "_law_digit" [.lst true [.int m], .int 1000001] = _ := fun m => s_digit 18 m 1000001 (by decide) (by decide)
  have h4 : ∀ m, callN tab kn 19 "_law_digit" [.lst true [.int m], .int 4] = _ := fun m => s_digit 18 m 4 (by decide) (by decide)
  rw [wp_cons]
  ((first | refine wp_gen fun Q hQ => ?_ | skip); simp (maxSteps := 4000000) only [ev_e, List.reduceReplicate, Nat.reduceAdd, Nat.reduceLT, Nat.reduceLeDiff, Nat.reduceSub, Int.reduceNeg, ↓reduceIte, Int.reduceLT, Int.reduceLE, Int.reduceAdd, Int.reduceSub, Int.reduceBEq, reduceCtorEq, ne_eq, Nat.reduceBEq, ev_0, ev_1, ev_2, ev_3, ev_4, ↓ev_d, startD, isFz, isFzs, szOk, wipeD, putBack, fulls, frzs, full, frz, Row.fe, szOk]; (try subst hQ); (try simp (maxSteps := 4000000) only [ev_e, List.reduceReplicate, Nat.reduceAdd, Nat.reduceLT, Nat.reduceLeDiff, Nat.reduceSub, Int.reduceNeg, ↓reduceIte, Int.reduceLT, Int.reduceLE, Int.reduceAdd, Int.reduceSub, Int.reduceBEq, reduceCtorEq, ne_eq, Nat.reduceBEq, ev_0, ev_1, ev_2, ev_3, ev_4, ↓ev_d, startD, isFz, isFzs, szOk, wipeD, putBack, fulls, frzs, full, frz, Row.fe, szOk]))
  refine (show Wp (callN tab kn 19 "_law_tape" [.lkd (ns.map .int), .int 0]) _ from s_tape 17 ns 0 (by decide)).mono ?_
  rintro _ ⟨m, rfl⟩
  ((first | refine wp_gen fun Q hQ => ?_ | skip); simp (maxSteps := 4000000) only [ev_e, List.reduceReplicate, Nat.reduceAdd, Nat.reduceLT, Nat.reduceLeDiff, Nat.reduceSub, Int.reduceNeg, ↓reduceIte, Int.reduceLT, Int.reduceLE, Int.reduceAdd, Int.reduceSub, Int.reduceBEq, reduceCtorEq, ne_eq, Nat.reduceBEq, ev_0, ev_1, ev_2, ev_3, ev_4, ↓ev_d, startD, isFz, isFzs, szOk, wipeD, putBack, fulls, frzs, full, frz, Row.fe, szOk]; (try subst hQ); (try simp (maxSteps := 4000000) only [ev_e, List.reduceReplicate, Nat.reduceAdd, Nat.reduceLT, Nat.reduceLeDiff, Nat.reduceSub, Int.reduceNeg, ↓reduceIte, Int.reduceLT, Int.reduceLE, Int.reduceAdd, Int.reduceSub, Int.reduceBEq, reduceCtorEq, ne_eq, Nat.reduceBEq, ev_0, ev_1, ev_2, ev_3, ev_4, ↓ev_d, startD, isFz, isFzs, szOk, wipeD, putBack, fulls, frzs, full, frz, Row.fe, szOk]))
  rw [wp_cons]
  have hpw : binD .Pow (.int 10) (.int 6) = some (.int 1000000) := by kernel_rfl
  ((first | refine wp_gen fun Q hQ => ?_ | skip); simp (maxSteps := 4000000) only [ev_e, List.reduceReplicate, Nat.reduceAdd, Nat.reduceLT, Nat.reduceLeDiff, Nat.reduceSub, Int.reduceNeg, ↓reduceIte, Int.reduceLT, Int.reduceLE, Int.reduceAdd, Int.reduceSub, Int.reduceBEq, reduceCtorEq, ne_eq, Nat.reduceBEq, ev_0, ev_1, ev_2, ev_3, ev_4, ↓ev_d, startD, isFz, isFzs, szOk, wipeD, putBack, fulls, frzs, full, frz, Row.fe, h100, hpw, hmil]; (try subst hQ); (try simp (maxSteps := 4000000) only [ev_e, List.reduceReplicate, Nat.reduceAdd, Nat.reduceLT, Nat.reduceLeDiff, Nat.reduceSub, Int.reduceNeg, ↓reduceIte, Int.reduceLT, Int.reduceLE, Int.reduceAdd, Int.reduceSub, Int.reduceBEq, reduceCtorEq, ne_eq, Nat.reduceBEq, ev_0, ev_1, ev_2, ev_3, ev_4, ↓ev_d, startD, isFz, isFzs, szOk, wipeD, putBack, fulls, frzs, full, frz, Row.fe, h100, hpw, hmil]))
  obtain ⟨b0, b1⟩ := digs m 100 (by decide)
  obtain ⟨b2, b3⟩ := digs (m / 100) 1000001 (by decide)
  refine (s_told (m % 100) (m / 100 % 1000001) b0 (by omega) b2 (by omega)).mono ?_
  rintro _ rfl
  ((first | refine wp_gen fun Q hQ => ?_ | skip); simp (maxSteps := 4000000) only [ev_e, List.reduceReplicate, Nat.reduceAdd, Nat.reduceLT, Nat.reduceLeDiff, Nat.reduceSub, Int.reduceNeg, ↓reduceIte, Int.reduceLT, Int.reduceLE, Int.reduceAdd, Int.reduceSub, Int.reduceBEq, reduceCtorEq, ne_eq, Nat.reduceBEq, ev_0, ev_1, ev_2, ev_3, ev_4, ↓ev_d, startD, isFz, isFzs, szOk, wipeD, putBack, fulls, frzs, full, frz, Row.fe, szOk]; (try subst hQ); (try simp (maxSteps := 4000000) only [ev_e, List.reduceReplicate, Nat.reduceAdd, Nat.reduceLT, Nat.reduceLeDiff, Nat.reduceSub, Int.reduceNeg, ↓reduceIte, Int.reduceLT, Int.reduceLE, Int.reduceAdd, Int.reduceSub, Int.reduceBEq, reduceCtorEq, ne_eq, Nat.reduceBEq, ev_0, ev_1, ev_2, ev_3, ev_4, ↓ev_d, startD, isFz, isFzs, szOk, wipeD, putBack, fulls, frzs, full, frz, Row.fe, szOk]))
  have hM : ∃ M : Int, 0 ≤ M ∧ M < 100 ∧ (if (if (ns.length : Int) < 8 then (ns.length : Int) else 8) > 2 then (if (ns.length : Int) < 8 then (ns.length : Int) else 8) else 2) = M := ⟨_, by split <;> omega, by split <;> omega, rfl⟩
  obtain ⟨M, hM0, hM1, hM⟩ := hM
  rw [wp_cons]
  refine wp_forI (fun ρ => ∃ z1 z2 z3 z4 z5 z6 z7 z8 : D, ρ = [.lkd (ns.map .int), z1, z2, z3, z4, z5, z6, z7, z8, .undef]) (rangeD 0 M) [.lkd (ns.map .int), .lst true [.int (m / 100 / 1000001)], .undef, .undef, .undef, .undef, .undef, .undef, .undef, .undef] ?_ ⟨_, _, _, _, _, _, _, _, rfl⟩ ?_ ?_
  · have hr := itRng_small (lo := 0) (hi := M) (by decide) (by decide) (by omega) (by omega)
    ((first | refine wp_gen fun Q hQ => ?_ | skip); simp (maxSteps := 4000000) only [ev_e, List.reduceReplicate, Nat.reduceAdd, Nat.reduceLT, Nat.reduceLeDiff, Nat.reduceSub, Int.reduceNeg, ↓reduceIte, Int.reduceLT, Int.reduceLE, Int.reduceAdd, Int.reduceSub, Int.reduceBEq, reduceCtorEq, ne_eq, Nat.reduceBEq, ev_0, ev_1, ev_2, ev_3, ev_4, ↓ev_d, startD, isFz, isFzs, szOk, wipeD, putBack, fulls, frzs, full, frz, Row.fe, hM, hr]; (try subst hQ); (try simp (maxSteps := 4000000) only [ev_e, List.reduceReplicate, Nat.reduceAdd, Nat.reduceLT, Nat.reduceLeDiff, Nat.reduceSub, Int.reduceNeg, ↓reduceIte, Int.reduceLT, Int.reduceLE, Int.reduceAdd, Int.reduceSub, Int.reduceBEq, reduceCtorEq, ne_eq, Nat.reduceBEq, ev_0, ev_1, ev_2, ev_3, ev_4, ↓ev_d, startD, isFz, isFzs, szOk, wipeD, putBack, fulls, frzs, full, frz, Row.fe, hM, hr]))
  · rintro d hd ρ ⟨z1, z2, z3, z4, z5, z6, z7, z8, rfl⟩
    obtain ⟨i, rfl, hi⟩ := rangeD_mem hd
    have hz : (0 : Int) + (i : Int) = (i : Int) := by omega
    rw [hz]
    refine ⟨_, by ((first | refine wp_gen fun Q hQ => ?_ | skip); simp (maxSteps := 4000000) only [ev_e, List.reduceReplicate, Nat.reduceAdd, Nat.reduceLT, Nat.reduceLeDiff, Nat.reduceSub, Int.reduceNeg, ↓reduceIte, Int.reduceLT, Int.reduceLE, Int.reduceAdd, Int.reduceSub, Int.reduceBEq, reduceCtorEq, ne_eq, Nat.reduceBEq, ev_0, ev_1, ev_2, ev_3, ev_4, ↓ev_d, startD, isFz, isFzs, szOk, wipeD, putBack, fulls, frzs, full, frz, Row.fe, szOk]; (try subst hQ); (try simp (maxSteps := 4000000) only [ev_e, List.reduceReplicate, Nat.reduceAdd, Nat.reduceLT, Nat.reduceLeDiff, Nat.reduceSub, Int.reduceNeg, ↓reduceIte, Int.reduceLT, Int.reduceLE, Int.reduceAdd, Int.reduceSub, Int.reduceBEq, reduceCtorEq, ne_eq, Nat.reduceBEq, ev_0, ev_1, ev_2, ev_3, ev_4, ↓ev_d, startD, isFz, isFzs, szOk, wipeD, putBack, fulls, frzs, full, frz, Row.fe, szOk])); rfl, ?_⟩
    rw [wp_cons]
    ((first | refine wp_gen fun Q hQ => ?_ | skip); simp (maxSteps := 4000000) only [ev_e, List.reduceReplicate, Nat.reduceAdd, Nat.reduceLT, Nat.reduceLeDiff, Nat.reduceSub, Int.reduceNeg, ↓reduceIte, Int.reduceLT, Int.reduceLE, Int.reduceAdd, Int.reduceSub, Int.reduceBEq, reduceCtorEq, ne_eq, Nat.reduceBEq, ev_0, ev_1, ev_2, ev_3, ev_4, ↓ev_d, startD, isFz, isFzs, szOk, wipeD, putBack, fulls, frzs, full, frz, Row.fe, szOk]; (try subst hQ); (try simp (maxSteps := 4000000) only [ev_e, List.reduceReplicate, Nat.reduceAdd, Nat.reduceLT, Nat.reduceLeDiff, Nat.reduceSub, Int.reduceNeg, ↓reduceIte, Int.reduceLT, Int.reduceLE, Int.reduceAdd, Int.reduceSub, Int.reduceBEq, reduceCtorEq, ne_eq, Nat.reduceBEq, ev_0, ev_1, ev_2, ev_3, ev_4, ↓ev_d, startD, isFz, isFzs, szOk, wipeD, putBack, fulls, frzs, full, frz, Row.fe, szOk]))
    refine (s_tape 17 ns i (by omega)).mono ?_
    rintro _ ⟨m, rfl⟩
    ((first | refine wp_gen fun Q hQ => ?_ | skip); simp (maxSteps := 4000000) only [ev_e, List.reduceReplicate, Nat.reduceAdd, Nat.reduceLT, Nat.reduceLeDiff, Nat.reduceSub, Int.reduceNeg, ↓reduceIte, Int.reduceLT, Int.reduceLE, Int.reduceAdd, Int.reduceSub, Int.reduceBEq, reduceCtorEq, ne_eq, Nat.reduceBEq, ev_0, ev_1, ev_2, ev_3, ev_4, ↓ev_d, startD, isFz, isFzs, szOk, wipeD, putBack, fulls, frzs, full, frz, Row.fe, szOk]; (try subst hQ); (try simp (maxSteps := 4000000) only [ev_e, List.reduceReplicate, Nat.reduceAdd, Nat.reduceLT, Nat.reduceLeDiff, Nat.reduceSub, Int.reduceNeg, ↓reduceIte, Int.reduceLT, Int.reduceLE, Int.reduceAdd, Int.reduceSub, Int.reduceBEq, reduceCtorEq, ne_eq, Nat.reduceBEq, ev_0, ev_1, ev_2, ev_3, ev_4, ↓ev_d, startD, isFz, isFzs, szOk, wipeD, putBack, fulls, frzs, full, frz, Row.fe, szOk]))
    rw [wp_cons]
    have r2 : itRng 0 2 = some (rangeD 0 2) := itRng_small (by decide) (by decide) (by decide) (by decide)
    ((first | refine wp_gen fun Q hQ => ?_ | skip); simp (maxSteps := 4000000) only [ev_e, List.reduceReplicate, Nat.reduceAdd, Nat.reduceLT, Nat.reduceLeDiff, Nat.reduceSub, Int.reduceNeg, ↓reduceIte, Int.reduceLT, Int.reduceLE, Int.reduceAdd, Int.reduceSub, Int.reduceBEq, reduceCtorEq, ne_eq, Nat.reduceBEq, ev_0, ev_1, ev_2, ev_3, ev_4, ↓ev_d, startD, isFz, isFzs, szOk, wipeD, putBack, fulls, frzs, full, frz, Row.fe, szOk]; (try subst hQ); (try simp (maxSteps := 4000000) only [ev_e, List.reduceReplicate, Nat.reduceAdd, Nat.reduceLT, Nat.reduceLeDiff, Nat.reduceSub, Int.reduceNeg, ↓reduceIte, Int.reduceLT, Int.reduceLE, Int.reduceAdd, Int.reduceSub, Int.reduceBEq, reduceCtorEq, ne_eq, Nat.reduceBEq, ev_0, ev_1, ev_2, ev_3, ev_4, ↓ev_d, startD, isFz, isFzs, szOk, wipeD, putBack, fulls, frzs, full, frz, Row.fe, szOk]))
    refine wp_lc (fun ρ => ∃ m' : Int, ρ = [.lkd (ns.map .int), .lst true [.int m'], .int i, z3, z4, z5, z6, z7, z8, .undef]) (fun d => ∃ c : Int, d = .int c ∧ (0 ≤ c ∧ c ≤ 1000000)) (rangeD 0 2) [.lkd (ns.map .int), .lst true [.int m], .int i, z3, z4, z5, z6, z7, z8, .undef] ?_ ?_ ⟨_, rfl⟩ ?_ ?_
    · ((first | refine wp_gen fun Q hQ => ?_ | skip); simp (maxSteps := 4000000) only [ev_e, List.reduceReplicate, Nat.reduceAdd, Nat.reduceLT, Nat.reduceLeDiff, Nat.reduceSub, Int.reduceNeg, ↓reduceIte, Int.reduceLT, Int.reduceLE, Int.reduceAdd, Int.reduceSub, Int.reduceBEq, reduceCtorEq, ne_eq, Nat.reduceBEq, ev_0, ev_1, ev_2, ev_3, ev_4, ↓ev_d, startD, isFz, isFzs, szOk, wipeD, putBack, fulls, frzs, full, frz, Row.fe, r2]; (try subst hQ); (try simp (maxSteps := 4000000) only [ev_e, List.reduceReplicate, Nat.reduceAdd, Nat.reduceLT, Nat.reduceLeDiff, Nat.reduceSub, Int.reduceNeg, ↓reduceIte, Int.reduceLT, Int.reduceLE, Int.reduceAdd, Int.reduceSub, Int.reduceBEq, reduceCtorEq, ne_eq, Nat.reduceBEq, ev_0, ev_1, ev_2, ev_3, ev_4, ↓ev_d, startD, isFz, isFzs, szOk, wipeD, putBack, fulls, frzs, full, frz, Row.fe, r2]))
    · rw [rangeD_len, sizeLine_eq]; omega
    · rintro d hd ρ ⟨m6, rfl⟩
      obtain ⟨j, rfl, hj⟩ := rangeD_mem hd
      refine ⟨_, by ((first | refine wp_gen fun Q hQ => ?_ | skip); simp (maxSteps := 4000000) only [ev_e, List.reduceReplicate, Nat.reduceAdd, Nat.reduceLT, Nat.reduceLeDiff, Nat.reduceSub, Int.reduceNeg, ↓reduceIte, Int.reduceLT, Int.reduceLE, Int.reduceAdd, Int.reduceSub, Int.reduceBEq, reduceCtorEq, ne_eq, Nat.reduceBEq, ev_0, ev_1, ev_2, ev_3, ev_4, ↓ev_d, startD, isFz, isFzs, szOk, wipeD, putBack, fulls, frzs, full, frz, Row.fe, szOk]; (try subst hQ); (try simp (maxSteps := 4000000) only [ev_e, List.reduceReplicate, Nat.reduceAdd, Nat.reduceLT, Nat.reduceLeDiff, Nat.reduceSub, Int.reduceNeg, ↓reduceIte, Int.reduceLT, Int.reduceLE, Int.reduceAdd, Int.reduceSub, Int.reduceBEq, reduceCtorEq, ne_eq, Nat.reduceBEq, ev_0, ev_1, ev_2, ev_3, ev_4, ↓ev_d, startD, isFz, isFzs, szOk, wipeD, putBack, fulls, frzs, full, frz, Row.fe, szOk])); rfl, ?_⟩
      obtain ⟨g6, g7⟩ := digs m6 4 (by decide)
      obtain ⟨c, c1, c2, c3⟩ := pick4 _ g6 g7
      have hdc : callN tab kn 19 "_law_digit" [.lst true [.int (m6 / 4)], .int c] = _ := s_digit 18 (m6 / 4) c c1 (by omega)
      ((first | refine wp_gen fun Q hQ => ?_ | skip); simp (maxSteps := 4000000) only [ev_e, List.reduceReplicate, Nat.reduceAdd, Nat.reduceLT, Nat.reduceLeDiff, Nat.reduceSub, Int.reduceNeg, ↓reduceIte, Int.reduceLT, Int.reduceLE, Int.reduceAdd, Int.reduceSub, Int.reduceBEq, reduceCtorEq, ne_eq, Nat.reduceBEq, ev_0, ev_1, ev_2, ev_3, ev_4, ↓ev_d, startD, isFz, isFzs, szOk, wipeD, putBack, fulls, frzs, full, frz, Row.fe, hpw, h4, c3, hdc]; (try subst hQ); (try simp (maxSteps := 4000000) only [ev_e, List.reduceReplicate, Nat.reduceAdd, Nat.reduceLT, Nat.reduceLeDiff, Nat.reduceSub, Int.reduceNeg, ↓reduceIte, Int.reduceLT, Int.reduceLE, Int.reduceAdd, Int.reduceSub, Int.reduceBEq, reduceCtorEq, ne_eq, Nat.reduceBEq, ev_0, ev_1, ev_2, ev_3, ev_4, ↓ev_d, startD, isFz, isFzs, szOk, wipeD, putBack, fulls, frzs, full, frz, Row.fe, hpw, h4, c3, hdc]))
      obtain ⟨g8, g9⟩ := digs (m6 / 4) c c1
      exact ⟨⟨_, rfl, by omega, by omega⟩, _, rfl⟩
    · rintro ys ρ' hl hy ⟨m6, rfl⟩
      obtain ⟨cs, rfl, hcs⟩ := ints_of hy
      have hcl : cs.length = 2 := by
        rw [List.length_map, rangeD_len] at hl
        omega
      obtain ⟨x, z, rfl⟩ : ∃ x z, cs = [x, z] := by
        match cs, hcl with
        | [x, z], _ => exact ⟨x, z, rfl⟩
      obtain ⟨hx, hx2⟩ := hcs x (by simp)
      obtain ⟨hz0, hz2⟩ := hcs z (by simp)
      obtain ⟨_, hq, m', l, hgl, rfl⟩ := s_questions 17 m6 x z hx hx2 hz0 hz2
      ((first | refine wp_gen fun Q hQ => ?_ | skip); simp (maxSteps := 4000000) only [ev_e, List.reduceReplicate, Nat.reduceAdd, Nat.reduceLT, Nat.reduceLeDiff, Nat.reduceSub, Int.reduceNeg, ↓reduceIte, Int.reduceLT, Int.reduceLE, Int.reduceAdd, Int.reduceSub, Int.reduceBEq, reduceCtorEq, ne_eq, Nat.reduceBEq, ev_0, ev_1, ev_2, ev_3, ev_4, ↓ev_d, startD, isFz, isFzs, szOk, wipeD, putBack, fulls, frzs, full, frz, Row.fe, szOk]; (try subst hQ); (try simp (maxSteps := 4000000) only [ev_e, List.reduceReplicate, Nat.reduceAdd, Nat.reduceLT, Nat.reduceLeDiff, Nat.reduceSub, Int.reduceNeg, ↓reduceIte, Int.reduceLT, Int.reduceLE, Int.reduceAdd, Int.reduceSub, Int.reduceBEq, reduceCtorEq, ne_eq, Nat.reduceBEq, ev_0, ev_1, ev_2, ev_3, ev_4, ↓ev_d, startD, isFz, isFzs, szOk, wipeD, putBack, fulls, frzs, full, frz, Row.fe, szOk]))
      rw [wp_cons]
      refine wp_forI (fun ρ => ∃ z5 z6 z7 z8 : D, ρ = [.lkd (ns.map .int), .lst true [.int m'], .int i, .int x, .int z, z5, z6, z7, z8, .undef]) l [.lkd (ns.map .int), .lst true [.int m'], .int i, .int x, .int z, z5, z6, z7, z8, .undef] ?_ ⟨_, _, _, _, rfl⟩ ?_ ?_
      · have hfz : isFzs l = true := fz_all l hgl
        ((first | refine wp_gen fun Q hQ => ?_ | skip); simp (maxSteps := 4000000) only [ev_e, List.reduceReplicate, Nat.reduceAdd, Nat.reduceLT, Nat.reduceLeDiff, Nat.reduceSub, Int.reduceNeg, ↓reduceIte, Int.reduceLT, Int.reduceLE, Int.reduceAdd, Int.reduceSub, Int.reduceBEq, reduceCtorEq, ne_eq, Nat.reduceBEq, ev_0, ev_1, ev_2, ev_3, ev_4, ↓ev_d, startD, isFz, isFzs, szOk, wipeD, putBack, fulls, frzs, full, frz, Row.fe, hq]; (try subst hQ); (try simp (maxSteps := 4000000) only [ev_e, List.reduceReplicate, Nat.reduceAdd, Nat.reduceLT, Nat.reduceLeDiff, Nat.reduceSub, Int.reduceNeg, ↓reduceIte, Int.reduceLT, Int.reduceLE, Int.reduceAdd, Int.reduceSub, Int.reduceBEq, reduceCtorEq, ne_eq, Nat.reduceBEq, ev_0, ev_1, ev_2, ev_3, ev_4, ↓ev_d, startD, isFz, isFzs, szOk, wipeD, putBack, fulls, frzs, full, frz, Row.fe, hq]))
        rw [if_pos (fulls_fz l hfz)]
        exact frzs_fz l hfz
      · rintro d hd ρ ⟨z5, z6, z7, z8, rfl⟩
        obtain ⟨wd, s, cs, o, rfl, q⟩ := hgl d hd
        unfold qD
        refine ⟨_, by ((first | refine wp_gen fun Q hQ => ?_ | skip); simp (maxSteps := 4000000) only [ev_e, List.reduceReplicate, Nat.reduceAdd, Nat.reduceLT, Nat.reduceLeDiff, Nat.reduceSub, Int.reduceNeg, ↓reduceIte, Int.reduceLT, Int.reduceLE, Int.reduceAdd, Int.reduceSub, Int.reduceBEq, reduceCtorEq, ne_eq, Nat.reduceBEq, ev_0, ev_1, ev_2, ev_3, ev_4, ↓ev_d, startD, isFz, isFzs, szOk, wipeD, putBack, fulls, frzs, full, frz, Row.fe, fz_dS, full_dS, frz_dS, nud_dS, isU_dS, fz_dO, nud_dO, isU_dO, frz_dO, full_dO, isFzs_ints, fulls_ints, frzs_ints]; (try subst hQ); (try simp (maxSteps := 4000000) only [ev_e, List.reduceReplicate, Nat.reduceAdd, Nat.reduceLT, Nat.reduceLeDiff, Nat.reduceSub, Int.reduceNeg, ↓reduceIte, Int.reduceLT, Int.reduceLE, Int.reduceAdd, Int.reduceSub, Int.reduceBEq, reduceCtorEq, ne_eq, Nat.reduceBEq, ev_0, ev_1, ev_2, ev_3, ev_4, ↓ev_d, startD, isFz, isFzs, szOk, wipeD, putBack, fulls, frzs, full, frz, Row.fe, fz_dS, full_dS, frz_dS, nud_dS, isU_dS, fz_dO, nud_dO, isU_dO, frz_dO, full_dO, isFzs_ints, fulls_ints, frzs_ints])); rfl, ?_⟩
        have hne : ¬ (("some" : Str) = "all") := by decide +kernel
        have hw := q.sb.w
        have hwo := wok_of (M := 1000000) q.sb rfl q.n2 (by decide) (by decide) q.c (by decide)
        have hok := ok_of q.n1 (by have := q.n2; omega) q.sb (by decide)
        have hdp := q.dp
        have hwi := s_witness 15 wd q.hw cs s hwo (by omega)
        have hho := s_holds 14 wd q.hw cs s hwo (by omega)
        obtain ⟨_, hpl, hpe⟩ := s_plainly 14 cs.length 3 wd q.hw s hok (by omega)
        rw [hpe] at hpl
        obtain ⟨pw, pd⟩ := plain_wd q
        have hgs := good_so q
        have hsm : Sms cs := fun c hc => by have := q.c c hc; constructor <;> omega
        generalize hps : (if wd = "some" then plainlySome cs.length s else .neg (plainlySome cs.length (.neg s))) = ps at *
        have his := s_is_so cs hsm (by have := q.n2; omega) ps 19 pw pd
        rw [hgs] at his
        rw [least_uniq (lwit_least hw) q.il] at hwi hho
        obtain ⟨tx, ht1, ht2⟩ := repr_dO o fun y hy => by have := q.ob y hy; exact log_ok (by omega) (by omega)
        have hqa : eqD (.str wd) (.str "all") = some (decide (wd = "all")) := by
          rcases q.hw with rfl | rfl
          · rw [decide_eq_false hne]; exact q_some_all
          · rw [decide_eq_true rfl]; exact q_all_all
        have qb := eqD_bl o.isNone (decide (wd = "all"))
        have hself : ((o.isNone == decide (wd = "all")) == (o.isNone == decide (wd = "all")) && (o.isNone == decide (wd = "all")) == (o.isNone == decide (wd = "all"))) = true := by simp
        (rw [wp_cons]; refine wp_gen fun Q hQ => ?_; simp (maxSteps := 4000000) only [ev_e, List.reduceReplicate, Nat.reduceAdd, Nat.reduceLT, Nat.reduceLeDiff, Nat.reduceSub, Int.reduceNeg, ↓reduceIte, Int.reduceLT, Int.reduceLE, Int.reduceAdd, Int.reduceSub, Int.reduceBEq, reduceCtorEq, ne_eq, Nat.reduceBEq, ev_0, ev_1, ev_2, ev_3, ev_4, ↓ev_d, startD, isFz, isFzs, szOk, wipeD, putBack, fulls, frzs, full, frz, Row.fe, hwi, ht1, ht2, fz_dS, full_dS, frz_dS, nud_dS, isU_dS, fz_dO, nud_dO, isU_dO, frz_dO, full_dO, isFzs_ints, fulls_ints, frzs_ints]; (try subst hQ); (try simp (maxSteps := 4000000) only [ev_e, List.reduceReplicate, Nat.reduceAdd, Nat.reduceLT, Nat.reduceLeDiff, Nat.reduceSub, Int.reduceNeg, ↓reduceIte, Int.reduceLT, Int.reduceLE, Int.reduceAdd, Int.reduceSub, Int.reduceBEq, reduceCtorEq, ne_eq, Nat.reduceBEq, ev_0, ev_1, ev_2, ev_3, ev_4, ↓ev_d, startD, isFz, isFzs, szOk, wipeD, putBack, fulls, frzs, full, frz, Row.fe, hwi, ht1, ht2, fz_dS, full_dS, frz_dS, nud_dS, isU_dS, fz_dO, nud_dO, isU_dO, frz_dO, full_dO, isFzs_ints, fulls_ints, frzs_ints]))
        (rw [wp_cons]; refine wp_gen fun Q hQ => ?_; simp (maxSteps := 4000000) only [ev_e, List.reduceReplicate, Nat.reduceAdd, Nat.reduceLT, Nat.reduceLeDiff, Nat.reduceSub, Int.reduceNeg, ↓reduceIte, Int.reduceLT, Int.reduceLE, Int.reduceAdd, Int.reduceSub, Int.reduceBEq, reduceCtorEq, ne_eq, Nat.reduceBEq, ev_0, ev_1, ev_2, ev_3, ev_4, ↓ev_d, startD, isFz, isFzs, szOk, wipeD, putBack, fulls, frzs, full, frz, Row.fe, isN_dO, hqa, qb, fz_dS, full_dS, frz_dS, nud_dS, isU_dS, fz_dO, nud_dO, isU_dO, frz_dO, full_dO, isFzs_ints, fulls_ints, frzs_ints]; (try subst hQ); (try simp (maxSteps := 4000000) only [ev_e, List.reduceReplicate, Nat.reduceAdd, Nat.reduceLT, Nat.reduceLeDiff, Nat.reduceSub, Int.reduceNeg, ↓reduceIte, Int.reduceLT, Int.reduceLE, Int.reduceAdd, Int.reduceSub, Int.reduceBEq, reduceCtorEq, ne_eq, Nat.reduceBEq, ev_0, ev_1, ev_2, ev_3, ev_4, ↓ev_d, startD, isFz, isFzs, szOk, wipeD, putBack, fulls, frzs, full, frz, Row.fe, isN_dO, hqa, qb, fz_dS, full_dS, frz_dS, nud_dS, isU_dS, fz_dO, nud_dO, isU_dO, frz_dO, full_dO, isFzs_ints, fulls_ints, frzs_ints]))
        (rw [wp_cons]; refine wp_gen fun Q hQ => ?_; simp (maxSteps := 4000000) only [ev_e, List.reduceReplicate, Nat.reduceAdd, Nat.reduceLT, Nat.reduceLeDiff, Nat.reduceSub, Int.reduceNeg, ↓reduceIte, Int.reduceLT, Int.reduceLE, Int.reduceAdd, Int.reduceSub, Int.reduceBEq, reduceCtorEq, ne_eq, Nat.reduceBEq, ev_0, ev_1, ev_2, ev_3, ev_4, ↓ev_d, startD, isFz, isFzs, szOk, wipeD, putBack, fulls, frzs, full, frz, Row.fe, hho, hpl, his, eqD_bl2, hself, fz_dS, full_dS, frz_dS, nud_dS, isU_dS, fz_dO, nud_dO, isU_dO, frz_dO, full_dO, isFzs_ints, fulls_ints, frzs_ints]; (try subst hQ); (try simp (maxSteps := 4000000) only [ev_e, List.reduceReplicate, Nat.reduceAdd, Nat.reduceLT, Nat.reduceLeDiff, Nat.reduceSub, Int.reduceNeg, ↓reduceIte, Int.reduceLT, Int.reduceLE, Int.reduceAdd, Int.reduceSub, Int.reduceBEq, reduceCtorEq, ne_eq, Nat.reduceBEq, ev_0, ev_1, ev_2, ev_3, ev_4, ↓ev_d, startD, isFz, isFzs, szOk, wipeD, putBack, fulls, frzs, full, frz, Row.fe, hho, hpl, his, eqD_bl2, hself, fz_dS, full_dS, frz_dS, nud_dS, isU_dS, fz_dO, nud_dO, isU_dO, frz_dO, full_dO, isFzs_ints, fulls_ints, frzs_ints]))
        exact ⟨_, _, _, _, rfl⟩
      · rintro ρ ⟨z5, z6, z7, z8, rfl⟩
        rw [nx_nx, wp_nil]
        exact ⟨_, _, _, _, _, _, _, _, rfl⟩
  · rintro ρ ⟨z1, z2, z3, z4, z5, z6, z7, z8, rfl⟩
    rw [nx_nx]
    repeat (rw [wp_cons]; refine wp_gen fun Q hQ => ?_; simp (maxSteps := 4000000) only [ev_e, List.reduceReplicate, Nat.reduceAdd, Nat.reduceLT, Nat.reduceLeDiff, Nat.reduceSub, Int.reduceNeg, ↓reduceIte, Int.reduceLT, Int.reduceLE, Int.reduceAdd, Int.reduceSub, Int.reduceBEq, reduceCtorEq, ne_eq, Nat.reduceBEq, ev_0, ev_1, ev_2, ev_3, ev_4, ↓ev_d, startD, isFz, isFzs, szOk, wipeD, putBack, fulls, frzs, full, frz, Row.fe, r_law]; (try subst hQ); (try simp (maxSteps := 4000000) only [ev_e, List.reduceReplicate, Nat.reduceAdd, Nat.reduceLT, Nat.reduceLeDiff, Nat.reduceSub, Int.reduceNeg, ↓reduceIte, Int.reduceLT, Int.reduceLE, Int.reduceAdd, Int.reduceSub, Int.reduceBEq, reduceCtorEq, ne_eq, Nat.reduceBEq, ev_0, ev_1, ev_2, ev_3, ev_4, ↓ev_d, startD, isFz, isFzs, szOk, wipeD, putBack, fulls, frzs, full, frz, Row.fe, r_law]))
end K43
namespace K43
open PySem L2 Cs
section
variable {P : Program} {w : World} {K : PySem.W.Frag} {h base : Heap} {mg : Str → Option Value}
theorem lean0 (X : K.In h) (G : h.Ns mainGlobals mg) (c : He.SaysX fa fn ts [] ex w h K) : Lean0 K mg nms kn := ⟨(fun x hx => nomatch hx), (fun x d e => nomatch e), fun x hx => free_of c.t.d X G (List.mem_append_right _ (List.mem_append_left _ (List.mem_map_of_mem hx)))⟩
theorem said (X : K.In h) (G : h.Ns mainGlobals mg) (c : He.SaysX fa fn ts [] ex w h K) : Said P w K mg base nms kn tab := (tells (lean0 X G c)).said c.t.d X G (fun f hf => nomatch hf)
theorem tab_law : tab "law" = some (.code r_law.fe) := by kernel_rfl
theorem m_law : r_law ∈ rows := by unfold rows; simp
theorem n_law : ("law" : Str) ∈ nms.fl := by simp
theorem facts {f : Addr} (X : K.In h) (G : h.Ns mainGlobals mg) (hfa : mg ("law" : Str) = some (.ref f)) (c : He.SaysX fa fn ts [] ex w h K) :
    ∃ fd : FuncData, (∀ (s : Shared) (v : Value), BindsTo s fd ⟨[v], []⟩ [("script", v)]) ∧ ∀ base : Heap, K.In base → base.Ns mainGlobals mg → FnOk P w K mg base (L2.CX P w) 21 f fd ["script"] (spF K mg (callN tab kn 20 "law")) := by
  obtain ⟨fd, F⟩ := fun_of c.t.d (rn_ m_law)
  have e := hfa.symm.trans (glo_of c.t.d X G (gl_ n_law))
  cases e
  have F2 := F
  rw [dvs0 (d := r_law.d) rfl] at F2
  have b := FunD.bindsA (ps := ["script"]) F2 (fun _ _ _ _ _ _ us hl => match us, hl with | [_], _ => rfl)
  exact ⟨fd, fun s v => b s [v] rfl, fun base _ _ => o_law.kept (lean0 X G c) F tab_law 19 ((said (base := base) X G c).lvs 19)⟩
end
end K43
open PySem PySem.W PySem.Calls PyProof.Rows in
theorem PySem.Challenge.cw_crowdsay_k43_questions_by_hand_holds : PySem.Challenge.rw_crowdsay_k43_questions_by_hand.Holds := by
  w_on; o_law
  refine HandSHeadRun.head_any (r := OpenLaw.row PySem.Challenge.rw_crowdsay_k43_questions_by_hand) (q := view (OpenLaw.row PySem.Challenge.rw_crowdsay_k43_questions_by_hand).prog [27]) (H := K43.hk) (ob := K43.ob) (M := 4000) (loose := K43.loose)
    (d := HandSHeadRun.topDef (OpenLaw.row PySem.Challenge.rw_crowdsay_k43_questions_by_hand).prog 27) (kwd := []) K43.ob_eq (by kernel_rfl) (fun s => by kernel_rfl) K43.run (by kernel_rfl) (by kernel_rfl)
    (by kernel_rfl) (by rfl) (by first | assumption | decide +kernel) (by decide +kernel) ⟨rfl, rfl, rfl, rfl, rfl, by decide +kernel⟩ ?hw ?hc
  case hw => w_witness2
  case hc =>
    refine Cs.walk_x (l := PySem.Challenge.rw_crowdsay_k43_questions_by_hand) (n := 63) (k := 21) (x := "script") rfl (by decide) (by kernel_rfl) ⟨rfl, by decide, by decide⟩ ?F
    intro w mg fa h Y G hm0
    obtain ⟨K, KX, c⟩ := Y
    have hm1 : mg ("law" : PySem.Str) = some (.ref fa) := by
      have e : (HandSHeadRun.topDef (OpenLaw.row PySem.Challenge.rw_crowdsay_k43_questions_by_hand).prog 27).name = ("law" : PySem.Str) := by kernel_rfl
      rw [← e]
      exact hm0
    obtain ⟨fd, hb, hF⟩ := K43.facts (P := PySem.Challenge.rw_crowdsay_k43_questions_by_hand.prog) (w := w) KX G hm1 c
    exact ⟨K, fd, Cs.callN K43.tab K43.kn 20 "law", KX, hb, K43.plain, hF⟩
