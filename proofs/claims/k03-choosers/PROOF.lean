import PyProof.Rows.All
import Wide.All
import OpenK.AllK
import Wide.FinOn
import HandS.ForMost
import HandS.Wide
import HandS.Evl
import HandS.SortInts
import HandS.TupAny
import HandS.RaiseMore
import HandS.Exc
import HandS.ExcOwn
import HandS.WordsExc
import HandS.CallSlots
import KE.KTupSum
import HandS.Walk
import HandS.Defaults
import HandS.Ends
import HandS.HeadHook1
import HandS.HeadHook2
import HandS.HeadHook3
import HandS.CallLocal
import HandS.HeadHook4
import HandS.Head0
import HandS.Head1
import HandS.Head2
import HandS.HeadEnd
import PySem.Challenge.RW_crowdsay_k03_choosers
set_option Elab.async false
set_option linter.all false
set_option maxRecDepth 100000
/-! Cs1: data trees, what they stand for in the abstract heap. -/
namespace Cs
open PySem L2

/-- data trees; a flag true: a node that may change and that nobody else holds -/
inductive D where
  | undef | non | bl (b : Bool) | int (i : Int) | str (x : Str)
  | tup (xs : List D) | lst (o : Bool) (xs : List D) | lkd (xs : List D)
  | dK (o : Bool) (ks : List Key) (xs : List D)
  | dT (o : Bool) (ks : List (List Key)) (xs : List D)
  | ins (o : Bool) (C : Str) (fs : List Str) (xs : List D)
  | glb (x : Str)

mutual
def frz : D → D
  | .tup xs => .tup (frzs xs)
  | .lst _ xs => .lst false (frzs xs)
  | .lkd xs => .lkd (frzs xs)
  | .dK _ ks xs => .dK false ks (frzs xs)
  | .dT _ ks xs => .dT false ks (frzs xs)
  | .ins _ C fs xs => .ins false C fs (frzs xs)
  | .undef => .undef
  | .non => .non
  | .bl b => .bl b
  | .int i => .int i
  | .str x => .str x
  | .glb x => .glb x
def frzs : List D → List D
  | [] => []
  | d :: ds => frz d :: frzs ds
end
mutual
def isFz : D → Bool
  | .tup xs => isFzs xs
  | .lst o xs => !o && isFzs xs
  | .lkd xs => isFzs xs
  | .dK o _ xs => !o && isFzs xs
  | .dT o _ xs => !o && isFzs xs
  | .ins o _ _ xs => !o && isFzs xs
  | .undef => false
  | .non => true
  | .bl _ => true
  | .int _ => true
  | .str _ => true
  | .glb _ => true
def isFzs : List D → Bool
  | [] => true
  | d :: ds => isFz d && isFzs ds
end
mutual
/-- nothing within is missing -/
def full : D → Bool
  | .tup xs => fulls xs
  | .lst _ xs => fulls xs
  | .lkd xs => fulls xs
  | .dK _ _ xs => fulls xs
  | .dT _ _ xs => fulls xs
  | .ins _ _ _ xs => fulls xs
  | .undef => false
  | .non => true
  | .bl _ => true
  | .int _ => true
  | .str _ => true
  | .glb _ => true
def fulls : List D → Bool
  | [] => true
  | d :: ds => full d && fulls ds
end

section
variable (K : PySem.W.Frag) (mg : Str → Option Value)
mutual
/-- v stands for d: frozen nodes lie in Hf, the others in H, at fp -/
def Rp (Hf H : Hp) : D → V → List Addr → Prop
  | .undef, _, fp => fp = []
  | .non, v, fp => v = .non ∧ fp = []
  | .bl b, v, fp => v = .bl b ∧ fp = []
  | .int i, v, fp => v = .int i ∧ fp = []
  | .str x, v, fp => v = .str x ∧ fp = []
  | .tup ds, v, fp => fp = [] ∧ ∃ a vs, v = .ref a ∧ SqT K Hf a vs ∧ Rps Hf H ds vs []
  | .lst false ds, v, fp => fp = [] ∧ ∃ a vs, v = .ref a ∧ Hf a = some (.lst vs) ∧ Rps Hf H ds vs []
  | .lkd ds, v, fp => fp = [] ∧ ∃ a vs, v = .ref a ∧ SqL K Hf a vs ∧ Rps Hf H ds vs []
  | .lst true ds, v, fp => ∃ a vs f, v = .ref a ∧ fp = a :: f ∧ H a = some (.lst vs) ∧ Rps Hf H ds vs f
  | .dK false ks ds, v, fp => fp = [] ∧ ∃ a vs, v = .ref a ∧ Rd Hf a (.dK (ks.zip vs)) ∧ ks.length = vs.length ∧ Rps Hf H ds vs []
  | .dK true ks ds, v, fp => ∃ a vs f, v = .ref a ∧ fp = a :: f ∧ H a = some (.dK (ks.zip vs)) ∧ ks.length = vs.length ∧ Rps Hf H ds vs f
  | .dT false ks ds, v, fp => fp = [] ∧ ∃ a vs, v = .ref a ∧ Rd Hf a (.dT (ks.zip vs)) ∧ ks.length = vs.length ∧ Rps Hf H ds vs []
  | .dT true ks ds, v, fp => ∃ a vs f, v = .ref a ∧ fp = a :: f ∧ H a = some (.dT (ks.zip vs)) ∧ ks.length = vs.length ∧ Rps Hf H ds vs f
  | .ins false C fs ds, v, fp => fp = [] ∧ ∃ a dx CA vs, v = .ref a ∧ mg C = some (.ref CA) ∧ Hf a = some (.ins CA dx (fs.zip vs)) ∧ fs.length = vs.length ∧ Rps Hf H ds vs []
  | .ins true C fs ds, v, fp => ∃ a dx CA vs f, v = .ref a ∧ fp = a :: f ∧ mg C = some (.ref CA) ∧ H a = some (.ins CA dx (fs.zip vs)) ∧ fs.length = vs.length ∧ Rps Hf H ds vs f
  | .glb x, v, fp => fp = [] ∧ ∃ a, v = .ref a ∧ mg x = some (.ref a)
def Rps (Hf H : Hp) : List D → List V → List Addr → Prop
  | [], vs, fp => vs = [] ∧ fp = []
  | d :: ds, vs, fp => ∃ v vs' f1 f2, vs = v :: vs' ∧ fp = f1 ++ f2 ∧ Rp Hf H d v f1 ∧ Rps Hf H ds vs' f2
end
end

section
variable {K : PySem.W.Frag} {mg : Str → Option Value} {Hf Hf' H H' : Hp}

theorem Ex.seqT {a : Addr} {vs : List V} (e : Evl.Ex Hf Hf') (h : SqT K Hf a vs) : SqT K Hf' a vs := Evl.ex_t e h
mutual
/-- the frozen part may grow; the owned part may change elsewhere -/
theorem Rp.mv (e : Evl.Ex Hf Hf') : ∀ (d : D) {v : V} {fp : List Addr}, (∀ a ∈ fp, H' a = H a) → Rp K mg Hf H d v fp → Rp K mg Hf' H' d v fp
  | .undef, _, _, _, h => h
  | .non, _, _, _, h => h
  | .bl _, _, _, _, h => h
  | .int _, _, _, _, h => h
  | .str _, _, _, _, h => h
  | .glb _, _, _, _, h => h
  | .tup ds, _, _, _, ⟨h0, a, vs, h1, h2, h3⟩ => ⟨h0, a, vs, h1, Evl.ex_t e h2, Rps.mv e ds (fun _ q => nomatch q) h3⟩
  | .lst false ds, _, _, _, ⟨h0, a, vs, h1, h2, h3⟩ => ⟨h0, a, vs, h1, e _ _ h2, Rps.mv e ds (fun _ q => nomatch q) h3⟩
  | .lkd ds, _, _, _, ⟨h0, a, vs, h1, h2, h3⟩ => ⟨h0, a, vs, h1, Evl.ex_l e h2, Rps.mv e ds (fun _ q => nomatch q) h3⟩
  | .lst true ds, _, _, hl, ⟨a, vs, f, h1, h2, h3, h4⟩ => by
    subst h2
    exact ⟨a, vs, f, h1, rfl, (hl a List.mem_cons_self).trans h3, Rps.mv e ds (fun b hb => hl b (List.mem_cons_of_mem _ hb)) h4⟩
  | .dK false _ ds, _, _, _, ⟨h0, a, vs, h1, h2, h3, h4⟩ => ⟨h0, a, vs, h1, Evl.ex_rd e h2, h3, Rps.mv e ds (fun _ q => nomatch q) h4⟩
  | .dK true _ ds, _, _, hl, ⟨a, vs, f, h1, h2, h3, h4, h5⟩ => by
    subst h2
    exact ⟨a, vs, f, h1, rfl, (hl a List.mem_cons_self).trans h3, h4, Rps.mv e ds (fun b hb => hl b (List.mem_cons_of_mem _ hb)) h5⟩
  | .dT false _ ds, _, _, _, ⟨h0, a, vs, h1, h2, h3, h4⟩ => ⟨h0, a, vs, h1, Evl.ex_rd e h2, h3, Rps.mv e ds (fun _ q => nomatch q) h4⟩
  | .dT true _ ds, _, _, hl, ⟨a, vs, f, h1, h2, h3, h4, h5⟩ => by
    subst h2
    exact ⟨a, vs, f, h1, rfl, (hl a List.mem_cons_self).trans h3, h4, Rps.mv e ds (fun b hb => hl b (List.mem_cons_of_mem _ hb)) h5⟩
  | .ins false _ _ ds, _, _, _, ⟨h0, a, dx, CA, vs, h1, h2, h3, h4, h5⟩ => ⟨h0, a, dx, CA, vs, h1, h2, e _ _ h3, h4, Rps.mv e ds (fun _ q => nomatch q) h5⟩
  | .ins true _ _ ds, _, _, hl, ⟨a, dx, CA, vs, f, h1, h2, h3, h4, h5, h6⟩ => by
    subst h2
    exact ⟨a, dx, CA, vs, f, h1, rfl, h3, (hl a List.mem_cons_self).trans h4, h5, Rps.mv e ds (fun b hb => hl b (List.mem_cons_of_mem _ hb)) h6⟩
theorem Rps.mv (e : Evl.Ex Hf Hf') : ∀ (ds : List D) {vs : List V} {fp : List Addr}, (∀ a ∈ fp, H' a = H a) → Rps K mg Hf H ds vs fp → Rps K mg Hf' H' ds vs fp
  | [], _, _, _, h => h
  | d :: ds, _, _, hl, ⟨v, vs', f1, f2, h1, h2, h3, h4⟩ => by
    subst h2
    exact ⟨v, vs', f1, f2, h1, rfl, Rp.mv e d (fun a ha => hl a (List.mem_append_left _ ha)) h3, Rps.mv e ds (fun a ha => hl a (List.mem_append_right _ ha)) h4⟩
end
mutual
/-- what is owned stands -/
theorem Rp.dom : ∀ (d : D) {v : V} {fp : List Addr}, Rp K mg Hf H d v fp → ∀ a ∈ fp, ∃ o, H a = some o
  | .undef, _, _, h, a, ha => by rw [show _ = _ from h] at ha; cases ha
  | .non, _, _, h, a, ha => by rw [h.2] at ha; cases ha
  | .bl _, _, _, h, a, ha => by rw [h.2] at ha; cases ha
  | .int _, _, _, h, a, ha => by rw [h.2] at ha; cases ha
  | .str _, _, _, h, a, ha => by rw [h.2] at ha; cases ha
  | .glb _, _, _, h, a, ha => by rw [h.1] at ha; cases ha
  | .tup ds, _, _, h, a, ha => by rw [h.1] at ha; cases ha
  | .lst false ds, _, _, h, a, ha => by rw [h.1] at ha; cases ha
  | .lkd ds, _, _, h, a, ha => by rw [h.1] at ha; cases ha
  | .lst true ds, _, _, ⟨b, vs, f, h1, h2, h3, h4⟩, a, ha => by
    rw [h2] at ha
    rcases List.mem_cons.mp ha with q | q
    · exact ⟨_, q ▸ h3⟩
    · exact Rps.dom ds h4 a q
  | .dK false _ ds, _, _, h, a, ha => by rw [h.1] at ha; cases ha
  | .dK true _ ds, _, _, ⟨b, vs, f, h1, h2, h3, h4, h5⟩, a, ha => by
    rw [h2] at ha
    rcases List.mem_cons.mp ha with q | q
    · exact ⟨_, q ▸ h3⟩
    · exact Rps.dom ds h5 a q
  | .dT false _ ds, _, _, h, a, ha => by rw [h.1] at ha; cases ha
  | .dT true _ ds, _, _, ⟨b, vs, f, h1, h2, h3, h4, h5⟩, a, ha => by
    rw [h2] at ha
    rcases List.mem_cons.mp ha with q | q
    · exact ⟨_, q ▸ h3⟩
    · exact Rps.dom ds h5 a q
  | .ins false _ _ ds, _, _, h, a, ha => by rw [h.1] at ha; cases ha
  | .ins true _ _ ds, _, _, ⟨b, dx, CA, vs, f, h1, h2, h3, h4, h5, h6⟩, a, ha => by
    rw [h2] at ha
    rcases List.mem_cons.mp ha with q | q
    · exact ⟨_, q ▸ h4⟩
    · exact Rps.dom ds h6 a q
theorem Rps.dom : ∀ (ds : List D) {vs : List V} {fp : List Addr}, Rps K mg Hf H ds vs fp → ∀ a ∈ fp, ∃ o, H a = some o
  | [], _, _, h, a, ha => by rw [h.2] at ha; cases ha
  | d :: ds, _, _, ⟨v, vs', f1, f2, h1, h2, h3, h4⟩, a, ha => by
    rw [h2] at ha
    rcases List.mem_append.mp ha with q | q
    · exact Rp.dom d h3 a q
    · exact Rps.dom ds h4 a q
end
mutual
/-- frozen: what was owned goes over to the frozen part -/
theorem Rp.frz (e : Evl.Ex Hf Hf') : ∀ (d : D) {v : V} {fp : List Addr}, (∀ a ∈ fp, ∀ o, H a = some o → Hf' a = some o) → Rp K mg Hf H d v fp → Rp K mg Hf' H' (frz d) v []
  | .undef, _, _, _, h => rfl
  | .non, _, _, _, h => ⟨h.1, rfl⟩
  | .bl _, _, _, _, h => ⟨h.1, rfl⟩
  | .int _, _, _, _, h => ⟨h.1, rfl⟩
  | .str _, _, _, _, h => ⟨h.1, rfl⟩
  | .glb _, _, _, _, h => ⟨rfl, h.2⟩
  | .tup ds, _, _, _, ⟨h0, a, vs, h1, h2, h3⟩ => ⟨rfl, a, vs, h1, Evl.ex_t e h2, Rps.frz e ds (fun _ q => absurd q List.not_mem_nil) h3⟩
  | .lst false ds, _, _, _, ⟨h0, a, vs, h1, h2, h3⟩ => ⟨rfl, a, vs, h1, e _ _ h2, Rps.frz e ds (fun _ q => absurd q List.not_mem_nil) h3⟩
  | .lkd ds, _, _, _, ⟨h0, a, vs, h1, h2, h3⟩ => ⟨rfl, a, vs, h1, Evl.ex_l e h2, Rps.frz e ds (fun _ q => absurd q List.not_mem_nil) h3⟩
  | .lst true ds, _, _, hl, ⟨a, vs, f, h1, h2, h3, h4⟩ => by
    subst h2
    exact ⟨rfl, a, vs, h1, hl a List.mem_cons_self _ h3, Rps.frz e ds (fun b hb => hl b (List.mem_cons_of_mem _ hb)) h4⟩
  | .dK false _ ds, _, _, _, ⟨h0, a, vs, h1, h2, h3, h4⟩ => ⟨rfl, a, vs, h1, Evl.ex_rd e h2, h3, Rps.frz e ds (fun _ q => absurd q List.not_mem_nil) h4⟩
  | .dK true _ ds, _, _, hl, ⟨a, vs, f, h1, h2, h3, h4, h5⟩ => by
    subst h2
    exact ⟨rfl, a, vs, h1, .inl (hl a List.mem_cons_self _ h3), h4, Rps.frz e ds (fun b hb => hl b (List.mem_cons_of_mem _ hb)) h5⟩
  | .dT false _ ds, _, _, _, ⟨h0, a, vs, h1, h2, h3, h4⟩ => ⟨rfl, a, vs, h1, Evl.ex_rd e h2, h3, Rps.frz e ds (fun _ q => absurd q List.not_mem_nil) h4⟩
  | .dT true _ ds, _, _, hl, ⟨a, vs, f, h1, h2, h3, h4, h5⟩ => by
    subst h2
    exact ⟨rfl, a, vs, h1, .inl (hl a List.mem_cons_self _ h3), h4, Rps.frz e ds (fun b hb => hl b (List.mem_cons_of_mem _ hb)) h5⟩
  | .ins false _ _ ds, _, _, _, ⟨h0, a, dx, CA, vs, h1, h2, h3, h4, h5⟩ => ⟨rfl, a, dx, CA, vs, h1, h2, e _ _ h3, h4, Rps.frz e ds (fun _ q => absurd q List.not_mem_nil) h5⟩
  | .ins true _ _ ds, _, _, hl, ⟨a, dx, CA, vs, f, h1, h2, h3, h4, h5, h6⟩ => by
    subst h2
    exact ⟨rfl, a, dx, CA, vs, h1, h3, hl a List.mem_cons_self _ h4, h5, Rps.frz e ds (fun b hb => hl b (List.mem_cons_of_mem _ hb)) h6⟩
theorem Rps.frz (e : Evl.Ex Hf Hf') : ∀ (ds : List D) {vs : List V} {fp : List Addr}, (∀ a ∈ fp, ∀ o, H a = some o → Hf' a = some o) → Rps K mg Hf H ds vs fp → Rps K mg Hf' H' (frzs ds) vs []
  | [], _, _, _, h => ⟨h.1, rfl⟩
  | d :: ds, _, _, hl, ⟨v, vs', f1, f2, h1, h2, h3, h4⟩ => by
    subst h2
    exact ⟨v, vs', [], [], h1, rfl, Rp.frz e d (fun a ha => hl a (List.mem_append_left _ ha)) h3, Rps.frz e ds (fun a ha => hl a (List.mem_append_right _ ha)) h4⟩
end
mutual
/-- a frozen one owns nothing, and says nothing of H -/
theorem Rp.fz : ∀ (d : D) {v : V} {fp : List Addr}, isFz d = true → Rp K mg Hf H d v fp → fp = [] ∧ ∀ H', Rp K mg Hf H' d v []
  | .undef, _, _, z, h => nomatch z
  | .non, _, _, _, h => ⟨h.2, fun _ => ⟨h.1, rfl⟩⟩
  | .bl _, _, _, _, h => ⟨h.2, fun _ => ⟨h.1, rfl⟩⟩
  | .int _, _, _, _, h => ⟨h.2, fun _ => ⟨h.1, rfl⟩⟩
  | .str _, _, _, _, h => ⟨h.2, fun _ => ⟨h.1, rfl⟩⟩
  | .glb _, _, _, _, h => ⟨h.1, fun _ => ⟨rfl, h.2⟩⟩
  | .tup ds, _, _, z, ⟨h0, a, vs, h1, h2, h3⟩ => ⟨h0, fun H' => ⟨rfl, a, vs, h1, h2, (Rps.fz ds z h3).2 H'⟩⟩
  | .lst false ds, _, _, z, ⟨h0, a, vs, h1, h2, h3⟩ => ⟨h0, fun H' => ⟨rfl, a, vs, h1, h2, (Rps.fz ds z h3).2 H'⟩⟩
  | .lst true ds, _, _, z, _ => nomatch z
  | .lkd ds, _, _, z, ⟨h0, a, vs, h1, h2, h3⟩ => ⟨h0, fun H' => ⟨rfl, a, vs, h1, h2, (Rps.fz ds z h3).2 H'⟩⟩
  | .dK false _ ds, _, _, z, ⟨h0, a, vs, h1, h2, h3, h4⟩ => ⟨h0, fun H' => ⟨rfl, a, vs, h1, h2, h3, (Rps.fz ds z h4).2 H'⟩⟩
  | .dK true _ ds, _, _, z, _ => nomatch z
  | .dT false _ ds, _, _, z, ⟨h0, a, vs, h1, h2, h3, h4⟩ => ⟨h0, fun H' => ⟨rfl, a, vs, h1, h2, h3, (Rps.fz ds z h4).2 H'⟩⟩
  | .dT true _ ds, _, _, z, _ => nomatch z
  | .ins false _ _ ds, _, _, z, ⟨h0, a, dx, CA, vs, h1, h2, h3, h4, h5⟩ => ⟨h0, fun H' => ⟨rfl, a, dx, CA, vs, h1, h2, h3, h4, (Rps.fz ds z h5).2 H'⟩⟩
  | .ins true _ _ ds, _, _, z, _ => nomatch z
theorem Rps.fz : ∀ (ds : List D) {vs : List V} {fp : List Addr}, isFzs ds = true → Rps K mg Hf H ds vs fp → fp = [] ∧ ∀ H', Rps K mg Hf H' ds vs []
  | [], _, _, _, h => ⟨h.2, fun _ => ⟨h.1, rfl⟩⟩
  | d :: ds, _, _, z, ⟨v, vs', f1, f2, h1, h2, h3, h4⟩ => by
    have z' : isFz d = true ∧ isFzs ds = true := by simpa [isFzs] using z
    obtain ⟨e1, q1⟩ := Rp.fz d z'.1 h3
    obtain ⟨e2, q2⟩ := Rps.fz ds z'.2 h4
    subst e1; subst e2
    exact ⟨h2, fun H' => ⟨v, vs', [], [], h1, rfl, q1 H', q2 H'⟩⟩
end
mutual
theorem isFz_frz : ∀ d : D, full d = true → isFz (frz d) = true
  | .undef, z => nomatch z
  | .non, _ => rfl
  | .bl _, _ => rfl
  | .int _, _ => rfl
  | .str _, _ => rfl
  | .glb _, _ => rfl
  | .tup ds, z => isFzs_frzs ds z
  | .lst _ ds, z => isFzs_frzs ds z
  | .lkd ds, z => isFzs_frzs ds z
  | .dK _ _ ds, z => isFzs_frzs ds z
  | .dT _ _ ds, z => isFzs_frzs ds z
  | .ins _ _ _ ds, z => isFzs_frzs ds z
theorem isFzs_frzs : ∀ ds : List D, fulls ds = true → isFzs (frzs ds) = true
  | [], _ => rfl
  | d :: ds, z => by
    have z' : full d = true ∧ fulls ds = true := by simpa [fulls] using z
    show (isFz (frz d) && isFzs (frzs ds)) = true
    rw [isFz_frz d z'.1, isFzs_frzs ds z'.2]; rfl
end
mutual
theorem frz_fz : ∀ d : D, isFz d = true → frz d = d
  | .undef, z => rfl
  | .non, _ => rfl
  | .bl _, _ => rfl
  | .int _, _ => rfl
  | .str _, _ => rfl
  | .glb _, _ => rfl
  | .tup ds, z => congrArg D.tup (frzs_fz ds z)
  | .lst false ds, z => congrArg (D.lst false) (frzs_fz ds z)
  | .lkd ds, z => congrArg D.lkd (frzs_fz ds z)
  | .lst true ds, z => nomatch z
  | .dK false ks ds, z => congrArg (D.dK false ks) (frzs_fz ds z)
  | .dK true _ ds, z => nomatch z
  | .dT false ks ds, z => congrArg (D.dT false ks) (frzs_fz ds z)
  | .dT true _ ds, z => nomatch z
  | .ins false C fs ds, z => congrArg (D.ins false C fs) (frzs_fz ds z)
  | .ins true _ _ ds, z => nomatch z
theorem frzs_fz : ∀ ds : List D, isFzs ds = true → frzs ds = ds
  | [], _ => rfl
  | d :: ds, z => by
    have z' : isFz d = true ∧ isFzs ds = true := by simpa [isFzs] using z
    show frz d :: frzs ds = d :: ds
    rw [frz_fz d z'.1, frzs_fz ds z'.2]
end
mutual
theorem full_fz : ∀ d : D, isFz d = true → full d = true
  | .undef, z => nomatch z
  | .non, _ => rfl
  | .bl _, _ => rfl
  | .int _, _ => rfl
  | .str _, _ => rfl
  | .glb _, _ => rfl
  | .tup ds, z => fulls_fz ds z
  | .lst false ds, z => fulls_fz ds z
  | .lkd ds, z => fulls_fz ds z
  | .lst true ds, z => nomatch z
  | .dK false ks ds, z => fulls_fz ds z
  | .dK true _ ds, z => nomatch z
  | .dT false ks ds, z => fulls_fz ds z
  | .dT true _ ds, z => nomatch z
  | .ins false C fs ds, z => fulls_fz ds z
  | .ins true _ _ ds, z => nomatch z
theorem fulls_fz : ∀ ds : List D, isFzs ds = true → fulls ds = true
  | [], _ => rfl
  | d :: ds, z => by
    have z' : isFz d = true ∧ isFzs ds = true := by simpa [isFzs] using z
    show (full d && fulls ds) = true
    rw [full_fz d z'.1, fulls_fz ds z'.2]; rfl
end
theorem isFzs_all : ∀ {ds : List D}, isFzs ds = true ↔ ∀ d ∈ ds, isFz d = true
  | [] => by simp [isFzs]
  | d :: ds => by simp [isFzs, isFzs_all (ds := ds)]
theorem fulls_all : ∀ {ds : List D}, fulls ds = true ↔ ∀ d ∈ ds, full d = true
  | [] => by simp [fulls]
  | d :: ds => by simp [fulls, fulls_all (ds := ds)]
theorem frzs_map : ∀ ds : List D, frzs ds = ds.map frz
  | [] => rfl
  | d :: ds => by
    show frz d :: frzs ds = frz d :: ds.map frz
    rw [frzs_map ds]
theorem Rps.len : ∀ {ds : List D} {vs : List V} {fp : List Addr}, Rps K mg Hf H ds vs fp → ds.length = vs.length
  | [], _, _, h => by rw [h.1]; rfl
  | d :: ds, _, _, ⟨v, vs', f1, f2, h1, h2, h3, h4⟩ => by
    subst h1
    rw [List.length_cons, List.length_cons, Rps.len h4]
/-- frozen: by pairs -/
def Fz (K : PySem.W.Frag) (mg : Str → Option Value) (Hf : Hp) (d : D) (v : V) : Prop := isFz d = true ∧ ∀ H, Rp K mg Hf H d v []
theorem Rp.toFz {d : D} {v : V} {fp : List Addr} (z : isFz d = true) (h : Rp K mg Hf H d v fp) : Fz K mg Hf d v := ⟨z, (Rp.fz d z h).2⟩
theorem Rps.get : ∀ {ds : List D} {vs : List V} {fp : List Addr} {i : Nat} {d : D}, Rps K mg Hf H ds vs fp → ds[i]? = some d → ∃ v f, vs[i]? = some v ∧ Rp K mg Hf H d v f
  | [], _, _, _, _, _, e => nomatch e
  | d :: ds, _, _, 0, _, ⟨v, vs', f1, f2, h1, h2, h3, h4⟩, e => by
    subst h1
    cases e
    exact ⟨v, f1, rfl, h3⟩
  | d :: ds, _, _, i + 1, d', ⟨v, vs', f1, f2, h1, h2, h3, h4⟩, e => by
    subst h1
    obtain ⟨v', f, q1, q2⟩ := Rps.get (i := i) (d := d') h4 (by simpa using e)
    exact ⟨v', f, by simpa using q1, q2⟩
/-- all frozen, by pairs -/
inductive Fzs (K : PySem.W.Frag) (mg : Str → Option Value) (Hf : Hp) : List D → List V → Prop
  | nil : Fzs K mg Hf [] []
  | cons {d : D} {v : V} {ds : List D} {vs : List V} : Fz K mg Hf d v → Fzs K mg Hf ds vs → Fzs K mg Hf (d :: ds) (v :: vs)
theorem Rps.toFzs : ∀ {ds : List D} {vs : List V} {fp : List Addr}, isFzs ds = true → Rps K mg Hf H ds vs fp → Fzs K mg Hf ds vs
  | [], _, _, _, h => by rw [h.1]; exact .nil
  | d :: ds, _, _, z, ⟨v, vs', f1, f2, h1, h2, h3, h4⟩ => by
    subst h1
    have z' : isFz d = true ∧ isFzs ds = true := by simpa [isFzs] using z
    exact .cons (h3.toFz z'.1) (Rps.toFzs z'.2 h4)
theorem Fzs.rps : ∀ {ds : List D} {vs : List V}, Fzs K mg Hf ds vs → Rps K mg Hf H ds vs []
  | _, _, .nil => ⟨rfl, rfl⟩
  | _, _, .cons h t => ⟨_, _, [], [], rfl, rfl, h.2 H, t.rps⟩
theorem Fzs.fzs : ∀ {ds : List D} {vs : List V}, Fzs K mg Hf ds vs → isFzs ds = true
  | _, _, .nil => rfl
  | _, _, .cons h t => by
    show (isFz _ && isFzs _) = true
    rw [h.1, t.fzs]; rfl
theorem Fzs.len : ∀ {ds : List D} {vs : List V}, Fzs K mg Hf ds vs → ds.length = vs.length
  | _, _, .nil => rfl
  | _, _, .cons h t => by rw [List.length_cons, List.length_cons, t.len]
theorem Fz.mv {d : D} {v : V} (e : Evl.Ex Hf Hf') (h : Fz K mg Hf d v) : Fz K mg Hf' d v := ⟨h.1, fun H => Rp.mv e d (fun _ q => nomatch q) (h.2 H)⟩
theorem Fzs.mv : ∀ {ds : List D} {vs : List V}, Evl.Ex Hf Hf' → Fzs K mg Hf ds vs → Fzs K mg Hf' ds vs
  | _, _, _, .nil => .nil
  | _, _, e, .cons h t => .cons (h.mv e) (t.mv e)
theorem Fzs.append : ∀ {ds es : List D} {vs ws : List V}, Fzs K mg Hf ds vs → Fzs K mg Hf es ws → Fzs K mg Hf (ds ++ es) (vs ++ ws)
  | _, _, _, _, .nil, t => t
  | _, _, _, _, .cons h r, t => .cons h (r.append t)
theorem Fzs.get : ∀ {ds : List D} {vs : List V} {i : Nat} {d : D}, Fzs K mg Hf ds vs → ds[i]? = some d → ∃ v, vs[i]? = some v ∧ Fz K mg Hf d v
  | _, _, _, _, .nil, e => by simp at e
  | _, _, 0, _, .cons h t, e => by
    simp at e; subst e
    exact ⟨_, rfl, h⟩
  | _, _, i + 1, d, .cons h t, e => by
    obtain ⟨v, q1, q2⟩ := Fzs.get (i := i) (d := d) t (by simpa using e)
    exact ⟨v, by simpa using q1, q2⟩
theorem Fzs.take : ∀ {ds : List D} {vs : List V} (n : Nat), Fzs K mg Hf ds vs → Fzs K mg Hf (ds.take n) (vs.take n)
  | _, _, 0, _ => .nil
  | _, _, _ + 1, .nil => .nil
  | _, _, n + 1, .cons h t => .cons h (t.take n)
theorem Fzs.drop : ∀ {ds : List D} {vs : List V} (n : Nat), Fzs K mg Hf ds vs → Fzs K mg Hf (ds.drop n) (vs.drop n)
  | _, _, 0, h => h
  | _, _, _ + 1, .nil => .nil
  | _, _, n + 1, .cons h t => t.drop n
end
end Cs
/-! Cs2: the state: roots, each with what it owns. -/
namespace Cs
open PySem L2
abbrev Roots := List (D × V)
section
variable (K : PySem.W.Frag) (mg : Str → Option Value)
def Rr (Hf H : Hp) : Roots → List Addr → Prop
  | [], fp => fp = []
  | (d, v) :: rs, fp => ∃ f1 f2, fp = f1 ++ f2 ∧ Rp K mg Hf H d v f1 ∧ Rr Hf H rs f2
structure Stt (Hf H : Hp) (fp : List Addr) (rs : Roots) : Prop where
  ex : Evl.Ex Hf H
  rr : Rr K mg Hf H rs fp
  nd : fp.Nodup
  dj : ∀ a ∈ fp, Hf a = none
def St (H : Hp) (rs : Roots) : Prop := ∃ Hf fp, Stt K mg Hf H fp rs
end
section
variable {K : PySem.W.Frag} {mg : Str → Option Value} {Hf Hf' H H' : Hp} {rs rs' : Roots} {d e : D} {v w : V} {fp : List Addr}
theorem Rr.mv (e : Evl.Ex Hf Hf') : ∀ {rs : Roots} {fp : List Addr}, (∀ a ∈ fp, H' a = H a) → Rr K mg Hf H rs fp → Rr K mg Hf' H' rs fp
  | [], _, _, h => h
  | (d, v) :: rs, _, hl, ⟨f1, f2, h1, h2, h3⟩ => by
    subst h1
    exact ⟨f1, f2, rfl, Rp.mv e d (fun a ha => hl a (List.mem_append_left _ ha)) h2, Rr.mv e (fun a ha => hl a (List.mem_append_right _ ha)) h3⟩
theorem Rr.dom : ∀ {rs : Roots} {fp : List Addr}, Rr K mg Hf H rs fp → ∀ a ∈ fp, ∃ o, H a = some o
  | [], _, h, a, ha => by rw [show _ = _ from h] at ha; cases ha
  | (d, v) :: rs, _, ⟨f1, f2, h1, h2, h3⟩, a, ha => by
    rw [h1] at ha
    rcases List.mem_append.mp ha with q | q
    · exact Rp.dom d h2 a q
    · exact Rr.dom h3 a q
/-- fewer roots -/
theorem Rr.sub : ∀ {rs rs' : Roots} {fp : List Addr}, List.Sublist rs' rs → Rr K mg Hf H rs fp → ∃ fp', List.Sublist fp' fp ∧ Rr K mg Hf H rs' fp'
  | _, _, _, .slnil, h => ⟨_, .refl _, h⟩
  | _, _, _, .cons _ s, ⟨f1, f2, h1, h2, h3⟩ => by
    subst h1
    obtain ⟨g, q1, q2⟩ := Rr.sub s h3
    exact ⟨g, q1.trans (List.sublist_append_right _ _), q2⟩
  | _, _, _, .cons_cons _ s, ⟨f1, f2, h1, h2, h3⟩ => by
    subst h1
    obtain ⟨g, q1, q2⟩ := Rr.sub s h3
    exact ⟨f1 ++ g, List.Sublist.append (.refl _) q1, f1, g, rfl, h2, q2⟩
/-- in another order -/
theorem Rr.perm : ∀ {rs rs' : Roots}, List.Perm rs rs' → ∀ {fp : List Addr}, Rr K mg Hf H rs fp → ∃ fp', List.Perm fp fp' ∧ Rr K mg Hf H rs' fp' := fun {rs rs'} p => by
  induction p with
  | nil => intro fp h; exact ⟨fp, .refl _, h⟩
  | cons x _ ih =>
    rintro fp ⟨f1, f2, h1, h2, h3⟩
    subst h1
    obtain ⟨g, q1, q2⟩ := ih h3
    exact ⟨f1 ++ g, List.Perm.append_left _ q1, f1, g, rfl, h2, q2⟩
  | swap x y l =>
    rintro fp ⟨f1, f2, h1, h2, f3, f4, h3, h4, h5⟩
    subst h1; subst h3
    refine ⟨f3 ++ (f1 ++ f4), ?_, f3, _, rfl, h4, f1, f4, rfl, h2, h5⟩
    rw [← List.append_assoc, ← List.append_assoc]
    exact List.Perm.append_right _ List.perm_append_comm
  | trans _ _ ih1 ih2 =>
    intro fp h
    obtain ⟨g, q1, q2⟩ := ih1 h
    obtain ⟨g', q3, q4⟩ := ih2 q2
    exact ⟨g', q1.trans q3, q4⟩
theorem St.sub (s : List.Sublist rs' rs) : St K mg H rs → St K mg H rs' := fun ⟨Hf, fp, ex, rr, nd, dj⟩ => by
  obtain ⟨g, q1, q2⟩ := rr.sub s
  exact ⟨Hf, g, ex, q2, q1.nodup nd, fun a ha => dj a (q1.subset ha)⟩
theorem St.perm (p : List.Perm rs rs') : St K mg H rs → St K mg H rs' := fun ⟨Hf, fp, ex, rr, nd, dj⟩ => by
  obtain ⟨g, q1, q2⟩ := rr.perm p
  exact ⟨Hf, g, ex, q2, q1.nodup_iff.mp nd, fun a ha => dj a (q1.mem_iff.mpr ha)⟩
theorem St.drop (h : St K mg H ((d, v) :: rs)) : St K mg H rs := h.sub (List.sublist_cons_self _ _)
theorem St.drop2 {r q : D × V} (h : St K mg H (r :: q :: rs)) : St K mg H (r :: rs) := h.sub ((List.sublist_cons_self _ _).cons_cons _)
theorem St.swap {r q : D × V} (h : St K mg H (r :: q :: rs)) : St K mg H (q :: r :: rs) := h.perm (List.Perm.swap _ _ _)
/-- a root that owns nothing and asks nothing -/
theorem Stt.add (s : Stt K mg Hf H fp rs) (h : Rp K mg Hf H d v []) : Stt K mg Hf H fp ((d, v) :: rs) := ⟨s.ex, ⟨[], fp, rfl, h, s.rr⟩, s.nd, s.dj⟩
theorem St.con (h : ∀ Hf H, Rp K mg Hf H d v []) : St K mg H rs → St K mg H ((d, v) :: rs) := fun ⟨Hf, fp, s⟩ => ⟨Hf, fp, s.add (h Hf H)⟩
theorem St.int (i : Int) (h : St K mg H rs) : St K mg H ((.int i, .int i) :: rs) := h.con fun _ _ => ⟨rfl, rfl⟩
theorem St.bl (b : Bool) (h : St K mg H rs) : St K mg H ((.bl b, .bl b) :: rs) := h.con fun _ _ => ⟨rfl, rfl⟩
theorem St.str (x : Str) (h : St K mg H rs) : St K mg H ((.str x, .str x) :: rs) := h.con fun _ _ => ⟨rfl, rfl⟩
theorem St.non (h : St K mg H rs) : St K mg H ((.non, .non) :: rs) := h.con fun _ _ => ⟨rfl, rfl⟩
theorem St.undef (v : V) (h : St K mg H rs) : St K mg H ((.undef, v) :: rs) := h.con fun _ _ => rfl
/-- what stands at a root -/
theorem Rr.mem : ∀ {rs : Roots} {fp : List Addr}, Rr K mg Hf H rs fp → (d, v) ∈ rs → ∃ f, Rp K mg Hf H d v f ∧ List.Sublist f fp
  | [], _, _, h => nomatch h
  | (e, w) :: rs, _, ⟨f1, f2, h1, h2, h3⟩, hm => by
    subst h1
    rcases List.mem_cons.mp hm with q | q
    · cases q
      exact ⟨f1, h2, List.sublist_append_left _ _⟩
    · obtain ⟨f, r, s⟩ := h3.mem q
      exact ⟨f, r, s.trans (List.sublist_append_right _ _)⟩
/-- a frozen root once more -/
theorem St.dup (z : isFz d = true) (hm : (d, v) ∈ rs) : St K mg H rs → St K mg H ((d, v) :: rs) := fun ⟨Hf, fp, s⟩ => by
  obtain ⟨f, r, _⟩ := s.rr.mem hm
  exact ⟨Hf, fp, s.add ((Rp.fz d z r).2 H)⟩
/-- the frozen part takes up what is at f -/
noncomputable def grow (Hf H : Hp) (f : List Addr) : Hp := fun a => if a ∈ f then H a else Hf a
theorem grow_ex {f : List Addr} (dj : ∀ a ∈ f, Hf a = none) : Evl.Ex Hf (grow Hf H f) := fun a o e => by
  unfold grow
  rw [if_neg fun h => by rw [dj a h] at e; cases e]
  exact e
theorem grow_in {f : List Addr} (ex : Evl.Ex Hf H) : Evl.Ex (grow Hf H f) H := fun a o e => by
  unfold grow at e
  by_cases h : a ∈ f
  · rw [if_pos h] at e; exact e
  · rw [if_neg h] at e; exact ex a o e
theorem grow_at {f : List Addr} : ∀ a ∈ f, ∀ o, H a = some o → grow Hf H f a = some o := fun a h o e => by
  unfold grow; rw [if_pos h]; exact e
theorem grow_out {f : List Addr} {a : Addr} (h : a ∉ f) : grow Hf H f a = Hf a := by unfold grow; rw [if_neg h]
/-- the first root is frozen -/
theorem St.freeze : St K mg H ((d, v) :: rs) → St K mg H ((frz d, v) :: rs) := fun ⟨Hf, fp, ex, ⟨f1, f2, h1, h2, h3⟩, nd, dj⟩ => by
  subst h1
  have dj1 : ∀ a ∈ f1, Hf a = none := fun a ha => dj a (List.mem_append_left _ ha)
  obtain ⟨n1, n2, n3⟩ := List.nodup_append.mp nd
  refine ⟨grow Hf H f1, f2, grow_in ex, ⟨[], f2, rfl, Rp.frz (grow_ex dj1) d grow_at h2, h3.mv (grow_ex dj1) fun _ _ => rfl⟩, n2, fun a ha => ?_⟩
  rw [grow_out fun h => n3 a h a ha rfl]
  exact dj a (List.mem_append_right _ ha)
/-- a new frozen object -/
theorem Stt.newF {p : Addr} {o : HO} (s : Stt K mg Hf H fp rs) (hp : H p = none) : Stt K mg (upd Hf p o) (upd H p o) fp rs ∧ Evl.Ex Hf (upd Hf p o) ∧ Hf p = none := by
  have hf : Hf p = none := Evl.fresh_back s.ex hp
  have hx : Evl.Ex Hf (upd Hf p o) := Evl.Ex.new hf
  have hn : ∀ a ∈ fp, a ≠ p := fun a ha q => by
    obtain ⟨u, e⟩ := s.rr.dom a ha
    rw [q, hp] at e; cases e
  refine ⟨⟨fun a u e => ?_, s.rr.mv hx fun a ha => upd_ne (hn a ha), s.nd, fun a ha => ?_⟩, hx, hf⟩
  · by_cases q : a = p
    · subst q
      rw [upd_same] at e ⊢
      exact e
    · rw [upd_ne q] at e ⊢
      exact s.ex a u e
  · rw [upd_ne (hn a ha)]
    exact s.dj a ha
/-- a new object that the state does not speak of -/
theorem Stt.newU {p : Addr} {o : HO} (s : Stt K mg Hf H fp rs) (hp : H p = none) : Stt K mg Hf (upd H p o) fp rs := by
  have hn : ∀ a ∈ fp, a ≠ p := fun a ha q => by
    obtain ⟨u, e⟩ := s.rr.dom a ha
    rw [q, hp] at e; cases e
  exact ⟨s.ex.trans (Evl.Ex.new hp), s.rr.mv (Evl.Ex.refl _) fun a ha => upd_ne (hn a ha), s.nd, s.dj⟩
theorem St.newU {p : Addr} {o : HO} (hp : H p = none) : St K mg H rs → St K mg (upd H p o) rs := fun ⟨Hf, fp, s⟩ => ⟨Hf, fp, s.newU hp⟩
/-- a new tuple of frozen things -/
theorem Stt.newT {p : Addr} {ds : List D} {vs : List V} (s : Stt K mg Hf H fp rs) (hp : H p = none) (z : Fzs K mg Hf ds vs) : St K mg (upd H p (.tup vs)) ((.tup ds, .ref p) :: rs) := by
  obtain ⟨s', hx, hf⟩ := s.newF (o := .tup vs) hp
  exact ⟨_, _, s'.add ⟨rfl, p, vs, rfl, .inl (.inl upd_same), (z.mv hx).rps⟩⟩
/-- a new list of frozen things, frozen -/
theorem Stt.newLF {p : Addr} {ds : List D} {vs : List V} (s : Stt K mg Hf H fp rs) (hp : H p = none) (z : Fzs K mg Hf ds vs) : St K mg (upd H p (.lst vs)) ((.lst false ds, .ref p) :: rs) := by
  obtain ⟨s', hx, hf⟩ := s.newF (o := .lst vs) hp
  exact ⟨_, _, s'.add ⟨rfl, p, vs, rfl, upd_same, (z.mv hx).rps⟩⟩
/-- a new list of frozen things, owned -/
theorem Stt.newL {p : Addr} {ds : List D} {vs : List V} (s : Stt K mg Hf H fp rs) (hp : H p = none) (z : Fzs K mg Hf ds vs) : St K mg (upd H p (.lst vs)) ((.lst true ds, .ref p) :: rs) := by
  have s' := s.newU (o := .lst vs) hp
  have hf : Hf p = none := Evl.fresh_back s.ex hp
  have hn : p ∉ fp := fun ha => by
    obtain ⟨u, e⟩ := s.rr.dom p ha
    rw [hp] at e; cases e
  exact ⟨Hf, p :: fp, s'.ex, ⟨[p], fp, rfl, ⟨p, vs, [], rfl, rfl, upd_same, z.rps⟩, s'.rr⟩, List.nodup_cons.mpr ⟨hn, s.nd⟩, fun a ha => by
    rcases List.mem_cons.mp ha with q | q
    · rw [q]; exact hf
    · exact s.dj a q⟩
theorem Rr.split : ∀ {ds : List D} {vs : List V} {fp : List Addr}, ds.length = vs.length → Rr K mg Hf H (ds.zip vs ++ rs) fp → ∃ f1 f2, fp = f1 ++ f2 ∧ Rps K mg Hf H ds vs f1 ∧ Rr K mg Hf H rs f2
  | [], [], fp, _, h => ⟨[], fp, rfl, ⟨rfl, rfl⟩, h⟩
  | d :: ds, v :: vs, fp, e, ⟨f1, f2, h1, h2, h3⟩ => by
    obtain ⟨g1, g2, q1, q2, q3⟩ := Rr.split (ds := ds) (vs := vs) (by simpa using e) h3
    subst q1; subst h1
    exact ⟨f1 ++ g1, g2, by rw [List.append_assoc], ⟨v, vs, f1, g1, rfl, rfl, h2, q2⟩, q3⟩
  | [], _ :: _, _, e, _ => by simp at e
  | _ :: _, [], _, e, _ => by simp at e
theorem Rr.join : ∀ {ds : List D} {vs : List V} {f1 f2 : List Addr}, Rps K mg Hf H ds vs f1 → Rr K mg Hf H rs f2 → Rr K mg Hf H (ds.zip vs ++ rs) (f1 ++ f2)
  | [], _, _, _, h, r => by
    obtain ⟨rfl, rfl⟩ := h
    exact r
  | d :: ds, _, _, f2, ⟨v, vs', g1, g2, h1, h2, h3, h4⟩, r => by
    subst h1; subst h2
    exact ⟨g1, g2 ++ f2, by rw [List.append_assoc], h3, Rr.join h4 r⟩
/-- a new list of the first roots, whatever they own -/
theorem St.newL {p : Addr} {ds : List D} {vs : List V} (e : ds.length = vs.length) (hp : H p = none) : St K mg H (ds.zip vs ++ rs) → St K mg (upd H p (.lst vs)) ((.lst true ds, .ref p) :: rs) := fun ⟨Hf, fp, s⟩ => by
  have s' := s.newU (o := .lst vs) hp
  have hf : Hf p = none := Evl.fresh_back s.ex hp
  have hn : p ∉ fp := fun ha => by
    obtain ⟨u, e⟩ := s.rr.dom p ha
    rw [hp] at e; cases e
  obtain ⟨f1, f2, q1, q2, q3⟩ := s'.rr.split e
  subst q1
  exact ⟨Hf, p :: (f1 ++ f2), s'.ex, ⟨p :: f1, f2, rfl, ⟨p, vs, f1, rfl, rfl, upd_same, q2⟩, q3⟩, List.nodup_cons.mpr ⟨hn, s.nd⟩, fun a ha => by
    rcases List.mem_cons.mp ha with q | q
    · rw [q]; exact hf
    · exact s.dj a q⟩
/-- the first roots frozen, all -/
theorem St.freezes : ∀ {ds : List D} {vs : List V} {rs : Roots}, ds.length = vs.length → St K mg H (ds.zip vs ++ rs) → St K mg H ((frzs ds).zip vs ++ rs)
  | [], _, _, _, h => h
  | d :: ds, [], _, e, _ => by simp at e
  | d :: ds, v :: vs, rs, e, h => by
    have e' : ds.length = vs.length := by simpa using e
    have h1 : St K mg H (ds.zip vs ++ ((frz d, v) :: rs)) := (St.freeze h).perm (List.perm_middle.symm)
    have h2 := St.freezes e' h1
    exact h2.perm List.perm_middle
theorem St.newT {p : Addr} {ds : List D} {vs : List V} (e : ds.length = vs.length) (z : isFzs ds = true) (hp : H p = none) : St K mg H (ds.zip vs ++ rs) → St K mg (upd H p (.tup vs)) ((.tup ds, .ref p) :: rs) := fun ⟨Hf, fp, s⟩ => by
  obtain ⟨f1, f2, q1, q2, q3⟩ := s.rr.split e
  have q4 := (Rps.fz ds z q2).1
  subst q4
  have s2 : Stt K mg Hf H fp rs := ⟨s.ex, by rw [q1]; exact q3, s.nd, s.dj⟩
  exact s2.newT hp (q2.toFzs z)
/-- an owned list at the first root is stored anew: g tells what becomes of its items, given further roots -/
theorem St.lstW {ds es : List D} {ws : List V} {rs2 : Roots} (h : St K mg H ((.lst true ds, v) :: rs))
    (step : ∀ (Hf : Hp) (vs : List V) (fp : List Addr), Rr K mg Hf H (ds.zip vs ++ rs) fp → ds.length = vs.length → ∃ fp', List.Sublist fp' fp ∧ es.length = ws.length ∧ Rr K mg Hf H (es.zip ws ++ rs2) fp') :
    ∃ a, v = .ref a ∧ St K mg (upd H a (.lst ws)) ((.lst true es, v) :: rs2) := by
  obtain ⟨Hf, fp, ex, ⟨f1, f2, h1, ⟨a, vs, f, rfl, h2, h3, h4⟩, h5⟩, nd, dj⟩ := h
  subst h1; subst h2
  obtain ⟨fp', sl, el, rr⟩ := step Hf vs (f ++ f2) (Rr.join h4 h5) h4.len
  have nd' : (a :: (f ++ f2)).Nodup := nd
  obtain ⟨n1, n2⟩ := List.nodup_cons.mp nd'
  have ha : Hf a = none := dj a List.mem_cons_self
  have hl : ∀ b ∈ fp', upd H a (.lst ws) b = H b := fun b hb => upd_ne fun q => n1 (by rw [← q]; exact sl.subset hb)
  have rr' := rr.mv (H' := upd H a (.lst ws)) (Evl.Ex.refl Hf) hl
  obtain ⟨g1, g2, q1, q2, q3⟩ := rr'.split el
  subst q1
  refine ⟨a, rfl, Hf, a :: (g1 ++ g2), fun b o e => ?_, ⟨a :: g1, g2, rfl, ⟨a, ws, g1, rfl, rfl, upd_same, q2⟩, q3⟩, List.nodup_cons.mpr ⟨fun hb => n1 (sl.subset hb), sl.nodup n2⟩, fun b hb => ?_⟩
  · have hb : b ≠ a := fun q => by rw [q, ha] at e; cases e
    rw [upd_ne hb]
    exact ex b o e
  · rcases List.mem_cons.mp hb with q | q
    · rw [q]; exact ha
    · exact dj b (List.mem_cons_of_mem _ (sl.subset q))
end
end Cs
/-! Cs3: the compact language and its evaluator. -/
namespace Cs
open PySem L2
abbrev Env := List D

/-! ### values -/
mutual
/-- as the library's data -/
def toP : D → Option PyData
  | .non => some .none
  | .bl b => some (.bool b)
  | .int i => some (.int i)
  | .str x => some (.str x)
  | .tup xs => (toPs xs).map .tuple
  | .lst _ xs => (toPs xs).map .list
  | .lkd xs => (toPs xs).map .list
  | _ => none
def toPs : List D → Option (List PyData)
  | [] => some []
  | d :: ds => match toP d, toPs ds with
    | some p, some ps => some (p :: ps)
    | _, _ => none
end
def szOk (n : Nat) : Bool := decide (n ≤ sizeLine)
def mulOk (i j : Int) : Bool := decide (-(2 ^ 64) < i ∧ i < 2 ^ 64) || (decide (-(2 ^ 64) < j ∧ j < 2 ^ 64) || decide (i.natAbs.log2 + j.natAbs.log2 < 1000000))
def dvOk (j : Int) : Bool := decide (j ≠ 0) && decide (j.natAbs.log2 < 9000)
def flr (i j : Int) : Int := if 0 < j then i / j else i.fdiv j
def rst (i j : Int) : Int := if 0 < j then i % j else i.fmod j
def intsOf : List D → Option (List Int)
  | [] => some []
  | .int i :: ds => (intsOf ds).map (i :: ·)
  | _ => none
def blsOf : List D → Option (List Bool)
  | [] => some []
  | .bl b :: ds => (blsOf ds).map (b :: ·)
  | _ => none
def strsOf : List D → Option (List Str)
  | [] => some []
  | .str x :: ds => (strsOf ds).map (x :: ·)
  | _ => none
def seqOf : D → Option (List D)
  | .lst _ xs => some xs
  | .lkd xs => some xs
  | .tup xs => some xs
  | _ => none
def guardL (b : Bool) (d : D) : Option D := if b then some d else none
def binD (op : Operator) (x y : D) : Option D :=
  match op, x, y with
  | .Add, .int i, .int j => some (.int (i + j))
  | .Add, .str a, .str b => guardL (szOk (a.length + b.length)) (.str (a ++ b))
  | .Add, .tup xs, .tup ys => guardL (szOk (xs.length + ys.length) && (isFzs xs && isFzs ys)) (.tup (xs ++ ys))
  | .Add, .lst _ xs, .lst _ ys => guardL (szOk (xs.length + ys.length) && (isFzs xs && isFzs ys)) (.lst true (xs ++ ys))
  | .Sub, .int i, .int j => some (.int (i - j))
  | .Mult, .int i, .int j => guardL (mulOk i j) (.int (i * j))
  | .FloorDiv, .int i, .int j => guardL (dvOk j) (.int (flr i j))
  | .Mod, .int i, .int j => guardL (decide (j ≠ 0)) (.int (rst i j))
  | .Pow, .int i, .int j => guardL (decide (0 ≤ j ∧ j ≤ 1000000 ∧ i.natAbs < 2 ^ 64)) (.int (i ^ j.toNat))
  | .BitXor, .int i, .int j => some (.int (Builtin.bitXor i j))
  | _, _, _ => none
def eqD (x y : D) : Option Bool := match toP x, toP y with
  | some p, some q => if SeqAt.shaped p && SeqAt.shaped q then some (PyData.eqv p q) else none
  | _, _ => none
def flatD : D → Bool
  | .non => true
  | .bl _ => true
  | .int _ => true
  | .str _ => true
  | _ => false
def flatE : D → D → Bool
  | .non, .non => true
  | .bl a, .bl b => a == b
  | .bl a, .int b => (if a then 1 else 0) == b
  | .int a, .bl b => a == (if b then 1 else 0)
  | .int a, .int b => a == b
  | .str a, .str b => a == b
  | _, _ => false
def inD (x y : D) : Option Bool := match x, y with
  | .str a, .str b => some (!(Builtin.Str.occurrences b a 0 b.length 1).isEmpty)
  | x, y => match seqOf y with
    | some ds => if flatD x && ds.all flatD then some (ds.any fun e => flatE e x) else none
    | none => none
def isN : D → Option Bool
  | .undef => none
  | .non => some true
  | _ => some false
def cmpD (op : CmpOp) (x y : D) : Option Bool :=
  match op with
  | .Lt => match x, y with | .int i, .int j => some (decide (i < j)) | _, _ => none
  | .LtE => match x, y with | .int i, .int j => some (decide (i ≤ j)) | _, _ => none
  | .Gt => match x, y with | .int i, .int j => some (decide (j < i)) | _, _ => none
  | .GtE => match x, y with | .int i, .int j => some (decide (j ≤ i)) | _, _ => none
  | .Eq => eqD x y
  | .NotEq => (eqD x y).map (!·)
  | .In => inD x y
  | .NotIn => (inD x y).map (!·)
  | .Is => match y with
    | .non => isN x
    | _ => none
  | .IsNot => match y with
    | .non => (isN x).map (!·)
    | _ => none
def trD : D → Option Bool
  | .non => some false
  | .bl b => some b
  | .int i => some (i != 0)
  | .str y => if szOk y.length then some ((y.length : Int) != 0) else none
  | .lst _ xs => some !xs.isEmpty
  | .lkd xs => some !xs.isEmpty
  | .tup xs => some !xs.isEmpty
  | _ => none
def fzO (o : Option D) : Option D := match o with
  | some d => if isFz d then some d else none
  | none => none
def idxD (x y : D) : Option D :=
  match y with
  | .int i => match x with
    | .lst _ xs => fzO (atI xs i)
    | .lkd xs => fzO (atI xs i)
    | .tup xs => fzO (atI xs i)
    | .str z => if szOk z.length then (atI z.cps.toList i).map fun c => .str ⟨#[c]⟩ else none
    | _ => none
  | _ => none
def cutD (xs : List D) (lo hi : Option Int) : List D := (xs.drop (HT.sIx xs.length 0 lo)).take (HT.sIx xs.length xs.length hi - HT.sIx xs.length 0 lo)
def slcD (x : D) (lo hi : Option Int) : Option D := match x with
  | .lst _ xs => guardL (isFzs xs) (.lst true (cutD xs lo hi))
  | .lkd xs => guardL (isFzs xs) (.lst true (cutD xs lo hi))
  | _ => none
inductive BI where | len | abs | min1 | max1 | min2 | max2 | sum | sorted | all | any | list | tuple | int | str | repr | bool
  deriving DecidableEq
def minL : List Int → Option Int
  | [] => none
  | i :: is => some (is.foldl (fun a b => if b < a then b else a) i)
def maxL : List Int → Option Int
  | [] => none
  | i :: is => some (is.foldl (fun a b => if a < b then b else a) i)
def nList : D → Option (List D)
  | .lst _ xs => some xs
  | .lkd xs => some xs
  | _ => none
def biD (b : BI) (ds : List D) : Option D :=
  match b, ds with
  | .len, [.str x] => guardL (szOk x.length) (.int x.length)
  | .len, [d] => (seqOf d).map fun xs => .int xs.length
  | .abs, [.int i] => some (.int (if i < 0 then -i else i))
  | .min2, [.int i, .int j] => some (.int (if j < i then j else i))
  | .max2, [.int i, .int j] => some (.int (if j > i then j else i))
  | .min1, [d] => match nList d with
    | some xs => match intsOf xs with
      | some ns => (minL ns).map .int
      | none => none
    | none => none
  | .max1, [d] => match nList d with
    | some xs => match intsOf xs with
      | some ns => (maxL ns).map .int
      | none => none
    | none => none
  | .sum, [.tup xs] => (intsOf xs).map fun ns => .int ns.sum
  | .sum, [d] => match nList d with
    | some xs => (intsOf xs).map fun ns => .int ns.sum
    | none => none
  | .sorted, [d] => match nList d with
    | some xs => (intsOf xs).map fun ns => .lst true ((ns.mergeSort (· ≤ ·)).map .int)
    | none => none
  | .all, [d] => match nList d with
    | some xs => (blsOf xs).map fun bs => .bl (bs.all id)
    | none => none
  | .any, [d] => match nList d with
    | some xs => (blsOf xs).map fun bs => .bl (bs.any id)
    | none => none
  | .list, [d] => match seqOf d with
    | some xs => guardL (isFzs xs) (.lst true xs)
    | none => none
  | .tuple, [.tup xs] => guardL (isFzs xs) (.tup xs)
  | .tuple, [d] => match nList d with
    | some xs => guardL (isFzs xs) (.tup xs)
    | none => none
  | .int, [.int i] => some (.int i)
  | .int, [.bl b] => some (.int (if b then 1 else 0))
  | .bool, [.int i] => some (.bl (i != 0))
  | .bool, [.bl b] => some (.bl b)
  | .str, [.int i] => guardL (decide (i.natAbs.log2 < 1920)) (.str (toString i))
  | .repr, [.int i] => guardL (decide (i.natAbs.log2 < 1920)) (.str (toString i))
  | _, _ => none

/-! ### outcomes -/
/-- an error: its class, its fields -/
structure Exn where
  C : Str
  fs : List Str
  xs : List D
inductive R (α : Type) where
  | ok (a : α)
  | exc (x : Exn) (ρ : Env)
  | fail
def R.bind {α β : Type} (r : R α) (f : α → R β) : R β := match r with
  | .ok a => f a
  | .exc x ρ => .exc x ρ
  | .fail => .fail
def R.map {α β : Type} (f : α → β) (r : R α) : R β := match r with
  | .ok a => .ok (f a)
  | .exc x ρ => .exc x ρ
  | .fail => .fail
def R.of {α : Type} (o : Option α) : R α := match o with
  | some a => .ok a
  | none => .fail
/-- what lets no error out -/
def R.mute {α : Type} (r : R α) : R α := match r with
  | .ok a => .ok a
  | _ => .fail
def R.thn {α : Type} (r : R α) (P : α → Prop) (E : Exn → Env → Prop) : Prop := match r with
  | .ok a => P a
  | .exc x ρ => E x ρ
  | .fail => False
theorem R.thn_bind {α β : Type} {r : R α} {f : α → R β} {P : β → Prop} {E : Exn → Env → Prop} : (r.bind f).thn P E = r.thn (fun a => (f a).thn P E) E := by cases r <;> rfl
theorem R.thn_map {α β : Type} {r : R α} {f : α → β} {P : β → Prop} {E : Exn → Env → Prop} : (r.map f).thn P E = r.thn (fun a => P (f a)) E := by cases r <;> rfl
theorem R.thn.mono {α : Type} {r : R α} {P P' : α → Prop} {E E' : Exn → Env → Prop} (h : r.thn P E) (hp : ∀ a, P a → P' a) (he : ∀ x ρ, E x ρ → E' x ρ) : r.thn P' E' := by
  cases r with
  | ok a => exact hp a h
  | exc x ρ => exact he x ρ h
  | fail => exact h
theorem R.thn_of {α : Type} {o : Option α} {P : α → Prop} {E : Exn → Env → Prop} (h : (R.of o).thn P E) : ∃ a, o = some a ∧ P a := by
  cases o with
  | none => exact h.elim
  | some a => exact ⟨a, rfl, h⟩
theorem R.thn_mute {α : Type} {r : R α} {P : α → Prop} {E : Exn → Env → Prop} (h : r.mute.thn P E) : ∃ a, r = .ok a ∧ P a := by
  cases r with
  | ok a => exact ⟨a, rfl, h⟩
  | exc x ρ => exact h.elim
  | fail => exact h.elim

/-! ### the language -/
mutual
inductive CE
  | var (i : Nat) | mv (i : Nat) | int (i : Int) | str (x : Str) | bl (b : Bool) | non
  | con (x : Str) | glb (x : Str)
  | tup (es : CEs) | lst (es : CEs)
  | bin (op : Operator) (a b : CE) | neg (a : CE)
  | cmp (op : CmpOp) (a b : CE)
  | chain (op op' : CmpOp) (a b c : CE)
  | andv (a b : CE) | orv (a b : CE) | notv (a : CE)
  | ifx (t : CT) (a b : CE)
  | idx (a b : CE) | slc (a : CE) (lo hi : CO)
  | call (f : Str) (as : CEs)
  | bi (b : BI) (as : CEs)
  | lc (own : List Nat) (g : CG) (it : CI) (t : CT) (elt : CE)
inductive CEs
  | nil | cons (e : CE) (es : CEs)
inductive CT
  | and (a b : CT) | or (a b : CT) | not (a : CT) | cmp (op : CmpOp) (a b : CE) | chain (op op' : CmpOp) (a b c : CE) | val (e : CE) | yes
inductive CO
  | none | some (e : CE)
inductive CG
  | name (i : Nat) | tup (gs : CGs)
inductive CGs
  | nil | cons (g : CG) (gs : CGs)
inductive CI
  | seq (e : CE) | rng1 (e : CE) | rng2 (a b : CE) | enm (e : CE) | zip (a b : CE)
end
mutual
inductive CS
  | asg (g : CG) (e : CE) | par (i j : Nat) (a b : CE) | aug (i : Nat) (op : Operator) (e : CE)
  | setI (e : CE) (s : Nat) (i : CE)
  | app (i : Nat) (e : CE)
  | drop (e : CE) | ret (e : CE) | retN | pass | brk | cont
  | ife (t : CT) (a b : CSs) | whl (t : CT) (b : CSs) | for (g : CG) (it : CI) (b : CSs)
inductive CSs
  | nil | cons (s : CS) (ss : CSs)
end

/-- an operand: what a slot holds, or a new value -/
inductive Ref where | slot (i : Nat) | tmp (d : D)
def slotE (ρ : Env) (i : Nat) : Option D := match ρ[i]? with
  | some .undef => none
  | some d => some d
  | none => none
def Ref.get (ρ : Env) : Ref → Option D
  | .slot i => slotE ρ i
  | .tmp d => some d
def Ref.gets (ρ : Env) : List Ref → Option (List D)
  | [] => some []
  | r :: rs => match r.get ρ, Ref.gets ρ rs with
    | some d, some ds => some (d :: ds)
    | _, _ => none
/-- a name's value: frozen from then on -/
def varE (i : Nat) (ρ : Env) : Option (D × Env) := match slotE ρ i with
  | some d => if isFz d then some (d, ρ) else if full d then some (frz d, ρ.set i (frz d)) else none
  | none => none
def refOf (e : CE) (r : R (D × Env)) (ρ : Env) : R (Ref × Env) := match e with
  | .var i => R.of ((slotE ρ i).map fun _ => (.slot i, ρ))
  | _ => r.map fun p => (.tmp p.1, p.2)
/-- an argument is lent -/
def lend : List Ref → Env → Option (List D × Env)
  | [], ρ => some ([], ρ)
  | .tmp d :: rs, ρ => (lend rs ρ).map fun p => (d :: p.1, p.2)
  | .slot i :: rs, ρ => match slotE ρ i with
    | some d => if isFz d then (lend rs ρ).map fun p => (d :: p.1, p.2) else (lend rs (ρ.set i .undef)).map fun p => (d :: p.1, p.2)
    | none => none
/-- and given back -/
def back : List Ref → List D → Env → Env
  | .slot i :: rs, d :: ds, ρ => match ρ[i]? with
    | some .undef => back rs ds (ρ.set i d)
    | _ => back rs ds ρ
  | .tmp _ :: rs, _ :: ds, ρ => back rs ds ρ
  | _, _, ρ => ρ
def wipeD (ρ : Env) : List Nat → Env
  | [] => ρ
  | i :: is => (wipeD ρ is).set i .undef
/-- the slots is as in ρ0 -/
def putBack (ρ0 ρ : Env) : List Nat → Env
  | [] => ρ
  | i :: is => (putBack ρ0 ρ is).set i (ρ0.getD i .undef)
def loopC (turn : D → Env → R (Option D × Env)) : List D → List D → Env → R (List D × Env)
  | [], acc, ρ => .ok (acc, ρ)
  | d :: ds, acc, ρ => match turn d ρ with
    | .ok (some y, ρ') => loopC turn ds (acc ++ [y]) ρ'
    | .ok (none, ρ') => loopC turn ds acc ρ'
    | _ => .fail
inductive Fl where | nx (ρ : Env) | ret (d : D) (ρ : Env) | bk (ρ : Env) | ct (ρ : Env)
def loopF (turn : D → Env → R Fl) : List D → Env → R Fl
  | [], ρ => .ok (.nx ρ)
  | d :: ds, ρ => match turn d ρ with
    | .ok (.nx ρ') => loopF turn ds ρ'
    | .ok (.ct ρ') => loopF turn ds ρ'
    | .ok (.bk ρ') => .ok (.nx ρ')
    | .ok (.ret v ρ') => .ok (.ret v ρ')
    | .exc x ρ' => .exc x ρ'
    | .fail => .fail
/-- what a turn of a while comes to -/
def flW : Fl → Sum Env Fl
  | .nx ρ => .inl ρ
  | .ct ρ => .inl ρ
  | .bk ρ => .inr (.nx ρ)
  | .ret d ρ => .inr (.ret d ρ)
abbrev WStep := Env → R (Sum Env Fl)
def loopW (step : WStep) : Nat → Env → R Fl
  | 0, _ => .fail
  | n + 1, ρ => match step ρ with
    | .ok (.inl ρ') => loopW step n ρ'
    | .ok (.inr f) => .ok f
    | .exc x ρ' => .exc x ρ'
    | .fail => .fail
structure Ctx where
  fns : Str → List D → R (D × List D)
  cons : Str → Option D
  whl : WStep → Env → R Fl
def rangeD (lo hi : Int) : List D := (List.range (hi - lo).toNat).map fun (i : Nat) => .int (lo + i)
def smallI (i : Int) : Bool := decide (-(2 ^ 62) ≤ i ∧ i < 2 ^ 62)
def enumD (ds : List D) : List D := (List.range ds.length).map fun (i : Nat) => .tup [.int i, ds.getD i .undef]
def zipD (xs ys : List D) : List D := (List.zip xs ys).map fun p => .tup [p.1, p.2]
def asI : D → Option Int
  | .int i => some i
  | _ => none
def asB : D → Option Bool
  | .bl b => some b
  | _ => none
def opt2 {β : Type} (f : D → D → Option β) (o p : Option D) : Option β := match o, p with
  | some x, some y => f x y
  | _, _ => none
theorem opt2_some {β : Type} {f : D → D → Option β} {o p : Option D} {c : β} (h : opt2 f o p = some c) : ∃ x y, o = some x ∧ p = some y ∧ f x y = some c := by
  cases o with
  | none => cases h
  | some x =>
    cases p with
    | none => cases h
    | some y => exact ⟨x, y, rfl, rfl, h⟩
/-- x op= y: numbers and texts -/
def augD (op : Operator) (x y : D) : Option D := match op, x, y with
  | .Add, .int i, .int j => some (.int (i + j))
  | .Sub, .int i, .int j => some (.int (i - j))
  | .Mult, .int i, .int j => guardL (mulOk i j) (.int (i * j))
  | .Mod, .int i, .int j => guardL (decide (0 < j)) (.int (i % j))
  | .Add, .str a, .str b => guardL (szOk (a.length + b.length)) (.str (a ++ b))
  | _, _, _ => none

mutual
def assign : CG → D → Env → Option Env
  | .name i, d, ρ => if i < ρ.length then some (ρ.set i d) else none
  | .tup gs, d, ρ => match d with
    | .tup ds => if isFzs ds then assigns gs ds ρ else none
    | _ => none
def assigns : CGs → List D → Env → Option Env
  | .nil, [], ρ => some ρ
  | .cons g gs, d :: ds, ρ => (assign g d ρ).bind (assigns gs ds)
  | _, _, _ => none
end
def itSeq (d : D) : Option (List D) := (seqOf d).bind fun ds => if fulls ds then some (frzs ds) else none
def itEnm (d : D) : Option (List D) := (nList d).bind fun ds => if fulls ds then some (enumD (frzs ds)) else none
def itZip (d e : D) : Option (List D) := match nList d, nList e with
  | some ds, some es => if fulls ds && fulls es then some (zipD (frzs ds) (frzs es)) else none
  | _, _ => none
def itRng (lo hi : Int) : Option (List D) := if smallI lo && smallI hi then some (rangeD lo hi) else none

/-- an owned list -/
def ownL : Option D → Option (List D)
  | some (.lst true xs) => some xs
  | _ => none
def setD (o : Option D) (k : Int) (y : D) : Option D := (ownL o).bind fun xs => (ixN xs.length k).map fun j => .lst true (xs.set j y)
def appD (o : Option D) (y : D) : Option D := (ownL o).bind fun xs => if xs.length < sizeLine then some (.lst true (xs ++ [y])) else none
section
variable (C : Ctx)
mutual
def evE : CE → Env → R (D × Env)
  | .var i, ρ => R.of (varE i ρ)
  | .mv i, ρ => R.of ((slotE ρ i).map fun d => (d, ρ.set i .undef))
  | .int i, ρ => .ok (.int i, ρ)
  | .str x, ρ => .ok (.str x, ρ)
  | .bl b, ρ => .ok (.bl b, ρ)
  | .non, ρ => .ok (.non, ρ)
  | .con x, ρ => R.of ((C.cons x).map fun d => (d, ρ))
  | .glb x, ρ => .ok (.glb x, ρ)
  | .tup es, ρ => (evEs es ρ).bind fun p => R.of (if fulls p.1 && szOk p.1.length then some (.tup (frzs p.1), p.2) else none)
  | .lst es, ρ => (evEs es ρ).bind fun p => R.of (if szOk p.1.length then some (.lst true p.1, p.2) else none)
  | .bin op a b, ρ => (refOf a (evE a ρ) ρ).bind fun p => (refOf b (evE b p.2) p.2).bind fun q => R.of ((opt2 (binD op) (p.1.get q.2) (q.1.get q.2)).map fun d => (d, q.2))
  | .neg a, ρ => (evE a ρ).bind fun p => R.of ((asI p.1).map fun i => (.int (-i), p.2))
  | .cmp op a b, ρ => (refOf a (evE a ρ) ρ).bind fun p => (refOf b (evE b p.2) p.2).bind fun q => R.of ((opt2 (cmpD op) (p.1.get q.2) (q.1.get q.2)).map fun c => (.bl c, q.2))
  | .chain op op' a b c, ρ => (evE a ρ).bind fun p => (evE b p.2).bind fun q => (R.of (cmpD op p.1 q.1)).bind fun k => if k then (evE c q.2).bind fun r => R.of ((cmpD op' q.1 r.1).map fun c => (.bl c, r.2)) else .ok (.bl false, q.2)
  | .andv a b, ρ => (evE a ρ).bind fun p => (R.of (asB p.1)).bind fun k => if k then evE b p.2 else .ok (.bl false, p.2)
  | .orv a b, ρ => (evE a ρ).bind fun p => (R.of (asB p.1)).bind fun k => if k then .ok (.bl true, p.2) else evE b p.2
  | .notv a, ρ => (evE a ρ).bind fun p => R.of ((asB p.1).map fun b => (.bl !b, p.2))
  | .ifx t a b, ρ => (evT t ρ).bind fun p => if p.1 then evE a p.2 else evE b p.2
  | .idx a b, ρ => (refOf a (evE a ρ) ρ).bind fun p => (refOf b (evE b p.2) p.2).bind fun q => R.of ((opt2 idxD (p.1.get q.2) (q.1.get q.2)).map fun d => (d, q.2))
  | .slc a lo hi, ρ => (refOf a (evE a ρ) ρ).bind fun p => (evO lo p.2).bind fun q => (evO hi q.2).bind fun r => R.of (((p.1.get r.2).bind fun x => slcD x q.1 r.1).map fun d => (d, r.2))
  | .call f as, ρ => (evRs as ρ).bind fun p => (R.of (lend p.1 p.2)).bind fun q => match C.fns f q.1 with
    | .ok r => .ok (r.1, back p.1 r.2 q.2)
    | .exc x ds => .exc x (back p.1 ds q.2)
    | .fail => .fail
  | .bi b as, ρ => (evRs as ρ).bind fun p => R.of (((Ref.gets p.2 p.1).bind (biD b)).map fun d => (d, p.2))
  | .lc own g it t elt, ρ => (evI it ρ).bind fun p => (loopC (fun d ρ1 => (R.of (assign g d ρ1)).bind fun ρ2 => (evT t ρ2).bind fun c => if c.1 then (evE elt c.2).map fun y => (some y.1, wipeD y.2 own) else .ok (none, wipeD c.2 own)) p.1 [] (wipeD p.2 own)).bind fun q =>
      R.of (if szOk q.1.length then some (.lst true q.1, putBack p.2 q.2 own) else none)
def evEs : CEs → Env → R (List D × Env)
  | .nil, ρ => .ok ([], ρ)
  | .cons e es, ρ => (evE e ρ).bind fun p => (evEs es p.2).map fun q => (p.1 :: q.1, q.2)
def evRs : CEs → Env → R (List Ref × Env)
  | .nil, ρ => .ok ([], ρ)
  | .cons e es, ρ => (refOf e (evE e ρ) ρ).bind fun p => (evRs es p.2).map fun q => (p.1 :: q.1, q.2)
def evT : CT → Env → R (Bool × Env)
  | .and a b, ρ => (evT a ρ).bind fun p => if p.1 then evT b p.2 else .ok (false, p.2)
  | .or a b, ρ => (evT a ρ).bind fun p => if p.1 then .ok (true, p.2) else evT b p.2
  | .not a, ρ => (evT a ρ).map fun p => (!p.1, p.2)
  | .cmp op a b, ρ => (refOf a (evE a ρ) ρ).bind fun p => (refOf b (evE b p.2) p.2).bind fun q => R.of ((opt2 (cmpD op) (p.1.get q.2) (q.1.get q.2)).map fun c => (c, q.2))
  | .chain op op' a b c, ρ => (evE a ρ).bind fun p => (evE b p.2).bind fun q => (R.of (cmpD op p.1 q.1)).bind fun k => if k then (evE c q.2).bind fun r => R.of ((cmpD op' q.1 r.1).map fun c => (c, r.2)) else .ok (false, q.2)
  | .val e, ρ => (refOf e (evE e ρ) ρ).bind fun p => R.of (((p.1.get p.2).bind trD).map fun c => (c, p.2))
  | .yes, ρ => .ok (true, ρ)
def evO : CO → Env → R (Option Int × Env)
  | .none, ρ => .ok (none, ρ)
  | .some e, ρ => (evE e ρ).bind fun p => R.of ((asI p.1).map fun i => (some i, p.2))
def evI : CI → Env → R (List D × Env)
  | .seq e, ρ => (evE e ρ).bind fun p => R.of ((itSeq p.1).map fun ds => (ds, p.2))
  | .rng1 e, ρ => (evE e ρ).bind fun p => R.of (((asI p.1).bind fun i => itRng 0 i).map fun ds => (ds, p.2))
  | .rng2 a b, ρ => (evE a ρ).bind fun p => (evE b p.2).bind fun q => R.of (((asI p.1).bind fun i => (asI q.1).bind fun j => itRng i j).map fun ds => (ds, q.2))
  | .enm e, ρ => (evE e ρ).bind fun p => R.of ((itEnm p.1).map fun ds => (ds, p.2))
  | .zip a b, ρ => (evE a ρ).bind fun p => (evE b p.2).bind fun q => R.of ((itZip p.1 q.1).map fun ds => (ds, q.2))
end
mutual
def evS : CS → Env → R Fl
  | .asg g e, ρ => (evE C e ρ).bind fun p => R.of ((assign g p.1 p.2).map .nx)
  | .par i j a b, ρ => (evE C a ρ).bind fun p => (evE C b p.2).bind fun q => R.of (if i < q.2.length && j < q.2.length then some (.nx ((q.2.set i p.1).set j q.1)) else none)
  | .aug i op e, ρ => (R.of (slotE ρ i)).bind fun _ => (evE C e ρ).bind fun p => R.of ((opt2 (augD op) (slotE p.2 i) (some p.1)).map fun d => .nx (p.2.set i d))
  | .setI e s i, ρ => (evE C e ρ).bind fun p => (R.of (slotE p.2 s)).bind fun _ => (evE C i p.2).bind fun q => R.of (((asI q.1).bind fun k => setD (slotE q.2 s) k p.1).map fun d => .nx (q.2.set s d))
  | .app i e, ρ => (R.of (ownL (slotE ρ i))).bind fun _ => (evE C e ρ).bind fun p => R.of ((appD (slotE p.2 i) p.1).map fun d => .nx (p.2.set i d))
  | .drop e, ρ => (evE C e ρ).map fun p => .nx p.2
  | .ret e, ρ => (evE C e ρ).map fun p => .ret p.1 p.2
  | .retN, ρ => .ok (.ret .non ρ)
  | .pass, ρ => .ok (.nx ρ)
  | .brk, ρ => .ok (.bk ρ)
  | .cont, ρ => .ok (.ct ρ)
  | .ife t a b, ρ => (evT C t ρ).bind fun p => if p.1 then evSs a p.2 else evSs b p.2
  | .whl t b, ρ => C.whl (fun ρ1 => (evT C t ρ1).bind fun p => if p.1 then (evSs b p.2).map flW else .ok (.inr (.nx p.2))) ρ
  | .for g it b, ρ => (evI C it ρ).bind fun p => loopF (fun d ρ1 => (R.of (assign g d ρ1)).bind fun ρ2 => evSs b ρ2) p.1 p.2
def evSs : CSs → Env → R Fl
  | .nil, ρ => .ok (.nx ρ)
  | .cons s ss, ρ => (evS s ρ).bind fun f => match f with
    | .nx ρ' => evSs ss ρ'
    | r => .ok r
end
end
end Cs
/-! Cs4: slots and what they hold. -/
namespace Cs
open PySem L2
def rts : Env → L2.St → Roots
  | d :: ρ, o :: σ => (d, o.getD .non) :: rts ρ σ
  | _, _ => []
/-- a slot is unknown, or it holds something -/
def Wd : Env → L2.St → Prop
  | [], [] => True
  | d :: ρ, o :: σ => (d = .undef ∨ ∃ v, o = some v) ∧ Wd ρ σ
  | _, _ => False
theorem Wd.len : ∀ {ρ : Env} {σ : L2.St}, Wd ρ σ → ρ.length = σ.length
  | [], [], _ => rfl
  | d :: ρ, o :: σ, h => by rw [List.length_cons, List.length_cons, Wd.len h.2]
  | [], _ :: _, h => h.elim
  | _ :: _, [], h => h.elim
theorem Wd.get : ∀ {ρ : Env} {σ : L2.St} {i : Nat} {d : D}, Wd ρ σ → ρ[i]? = some d → ∃ o, σ[i]? = some o ∧ (d = .undef ∨ ∃ v, o = some v)
  | [], [], _, _, _, e => nomatch e
  | d :: ρ, o :: σ, 0, _, h, e => by cases e; exact ⟨o, rfl, h.1⟩
  | d :: ρ, o :: σ, i + 1, d', h, e => by
    obtain ⟨o', q, r⟩ := Wd.get (i := i) (d := d') h.2 (by simpa using e)
    exact ⟨o', by simpa using q, r⟩
  | [], _ :: _, _, _, h, _ => h.elim
  | _ :: _, [], _, _, h, _ => h.elim
theorem Wd.set : ∀ {ρ : Env} {σ : L2.St} (i : Nat) (d : D) (v : V), Wd ρ σ → Wd (ρ.set i d) (σ.set i (some v))
  | [], [], _, _, _, h => h
  | d :: ρ, o :: σ, 0, _, v, h => ⟨.inr ⟨v, rfl⟩, h.2⟩
  | d :: ρ, o :: σ, i + 1, d', v, h => ⟨h.1, Wd.set i d' v h.2⟩
  | [], _ :: _, _, _, _, h => h.elim
  | _ :: _, [], _, _, _, h => h.elim
/-- the slot's entry alone -/
theorem Wd.setD : ∀ {ρ : Env} {σ : L2.St} {i : Nat} (d : D) {v : V}, Wd ρ σ → σ[i]? = some (some v) → Wd (ρ.set i d) σ
  | [], [], _, _, _, h, _ => h
  | d :: ρ, o :: σ, 0, _, v, h, e => by
    cases e
    exact ⟨.inr ⟨v, rfl⟩, h.2⟩
  | d :: ρ, o :: σ, i + 1, d', v, h, e => ⟨h.1, Wd.setD d' h.2 (by simpa using e)⟩
  | [], _ :: _, _, _, _, h, _ => h.elim
  | _ :: _, [], _, _, _, h, _ => h.elim
theorem Wd.setU : ∀ {ρ : Env} {σ : L2.St} (i : Nat), Wd ρ σ → Wd (ρ.set i .undef) σ
  | [], [], _, h => h
  | d :: ρ, o :: σ, 0, h => ⟨.inl rfl, h.2⟩
  | d :: ρ, o :: σ, i + 1, h => ⟨h.1, Wd.setU i h.2⟩
  | [], _ :: _, _, h => h.elim
  | _ :: _, [], _, h => h.elim
theorem Wd.setUN : ∀ {ρ : Env} {σ : L2.St} (i : Nat) (o : Option V), Wd ρ σ → Wd (ρ.set i .undef) (σ.set i o)
  | [], [], _, _, h => h
  | d :: ρ, o :: σ, 0, _, h => ⟨.inl rfl, h.2⟩
  | d :: ρ, o :: σ, i + 1, o', h => ⟨h.1, Wd.setUN i o' h.2⟩
  | [], _ :: _, _, _, h => h.elim
  | _ :: _, [], _, _, h => h.elim
/-- a slot apart from the others -/
theorem rts_at : ∀ {ρ : Env} {σ : L2.St} {i : Nat} {d : D} {o : Option V}, ρ[i]? = some d → σ[i]? = some o →
    ∃ R : Roots, (rts ρ σ).Perm ((d, o.getD .non) :: R) ∧ (∀ d' o', (rts (ρ.set i d') (σ.set i o')).Perm ((d', o'.getD .non) :: R)) ∧ ∀ d', (rts (ρ.set i d') σ).Perm ((d', o.getD .non) :: R)
  | [], _, _, _, _, e, _ => nomatch e
  | _ :: _, [], _, _, _, _, e => nomatch e
  | d :: ρ, o :: σ, 0, _, _, e, e' => by
    cases e; cases e'
    exact ⟨rts ρ σ, .refl _, fun _ _ => .refl _, fun _ => .refl _⟩
  | d :: ρ, o :: σ, i + 1, d', o', e, e' => by
    obtain ⟨R, h1, h2, h3⟩ := rts_at (ρ := ρ) (σ := σ) (i := i) (d := d') (o := o') (by simpa using e) (by simpa using e')
    refine ⟨(d, o.getD .non) :: R, ?_, fun d2 o2 => ?_, fun d2 => ?_⟩
    · exact (List.Perm.cons _ h1).trans (List.Perm.swap _ _ _)
    · exact (List.Perm.cons _ (h2 d2 o2)).trans (List.Perm.swap _ _ _)
    · exact (List.Perm.cons _ (h3 d2)).trans (List.Perm.swap _ _ _)
theorem slotE_get {ρ : Env} {i : Nat} {d : D} (h : slotE ρ i = some d) : ρ[i]? = some d ∧ d ≠ .undef := by
  unfold slotE at h
  split at h
  · cases h
  · rename_i q hq
    cases h
    exact ⟨hq, fun z => by subst z; simp_all⟩
  · cases h

section
variable (K : PySem.W.Frag) (mg : Str → Option Value)
structure SS (H : Hp) (F : Roots) (ρ : Env) (σ : L2.St) : Prop where
  wd : Wd ρ σ
  st : St K mg H (F ++ rts ρ σ)
end
section
variable {K : PySem.W.Frag} {mg : Str → Option Value} {H H' : Hp} {F F' : Roots} {ρ ρ' : Env} {σ σ' : L2.St} {d d' : D} {v w : V} {i : Nat}
theorem SS.len (s : SS K mg H F ρ σ) : ρ.length = σ.length := s.wd.len
theorem SS.sub (s : SS K mg H F ρ σ) (h : List.Sublist F' F) : SS K mg H F' ρ σ := ⟨s.wd, s.st.sub (h.append (.refl _))⟩
theorem SS.permF (s : SS K mg H F ρ σ) (h : List.Perm F F') : SS K mg H F' ρ σ := ⟨s.wd, s.st.perm (h.append_right _)⟩
theorem SS.drop (s : SS K mg H ((d, v) :: F) ρ σ) : SS K mg H F ρ σ := s.sub (List.sublist_cons_self _ _)
theorem SS.map (s : SS K mg H F ρ σ) (f : St K mg H (F ++ rts ρ σ) → St K mg H' (F' ++ rts ρ σ)) : SS K mg H' F' ρ σ := ⟨s.wd, f s.st⟩
theorem SS.int (i : Int) (s : SS K mg H F ρ σ) : SS K mg H ((.int i, .int i) :: F) ρ σ := s.map (St.int i)
theorem SS.bl (b : Bool) (s : SS K mg H F ρ σ) : SS K mg H ((.bl b, .bl b) :: F) ρ σ := s.map (St.bl b)
theorem SS.str (x : Str) (s : SS K mg H F ρ σ) : SS K mg H ((.str x, .str x) :: F) ρ σ := s.map (St.str x)
theorem SS.non (s : SS K mg H F ρ σ) : SS K mg H ((.non, .non) :: F) ρ σ := s.map St.non
/-- what a slot holds -/
theorem SS.slot (s : SS K mg H F ρ σ) (h : slotE ρ i = some d) : ∃ v, σ[i]? = some (some v) ∧ (d, v) ∈ rts ρ σ := by
  obtain ⟨h1, h2⟩ := slotE_get h
  obtain ⟨o, q1, q2⟩ := s.wd.get h1
  rcases q2 with q2 | ⟨v, rfl⟩
  · exact absurd q2 h2
  · obtain ⟨R, p, _⟩ := rts_at h1 q1
    exact ⟨v, q1, p.mem_iff.mpr List.mem_cons_self⟩
/-- a frozen one, read -/
theorem SS.var (s : SS K mg H F ρ σ) (h : slotE ρ i = some d) (z : isFz d = true) : ∃ v, σ[i]? = some (some v) ∧ SS K mg H ((d, v) :: F) ρ σ := by
  obtain ⟨v, h1, h2⟩ := s.slot h
  exact ⟨v, h1, s.map fun t => t.dup z (List.mem_append_right _ h2)⟩
/-- a slot's root goes to the front, the slot is unknown -/
theorem SS.take (s : SS K mg H F ρ σ) (h : slotE ρ i = some d) : ∃ v, σ[i]? = some (some v) ∧ SS K mg H ((d, v) :: F) (ρ.set i .undef) σ := by
  obtain ⟨v, h1, h2⟩ := s.slot h
  obtain ⟨R, p1, _, p3⟩ := rts_at (slotE_get h).1 h1
  refine ⟨v, h1, s.wd.setU i, ?_⟩
  have t : St K mg H ((d, v) :: (F ++ R)) := s.st.perm ((p1.append_left F).trans List.perm_middle)
  have t2 : St K mg H ((D.undef, v) :: (d, v) :: (F ++ R)) := t.undef v
  refine t2.perm ?_
  have p4 : (rts (ρ.set i .undef) σ).Perm ((D.undef, v) :: R) := p3 .undef
  have p5 : (F ++ rts (ρ.set i .undef) σ).Perm ((D.undef, v) :: (F ++ R)) := (p4.append_left F).trans List.perm_middle
  exact (List.Perm.swap _ _ _).trans (List.Perm.cons _ p5.symm)
/-- and comes back -/
theorem SS.give (s : SS K mg H ((d, v) :: F) ρ σ) (h : σ[i]? = some (some v)) : SS K mg H F (ρ.set i d) σ := by
  by_cases hi : i < ρ.length
  · obtain ⟨R, p1, _, p3⟩ := rts_at (List.getElem?_eq_getElem hi) h
    refine ⟨s.wd.setD d h, ?_⟩
    have t : St K mg H ((d, v) :: (F ++ R)) := s.st.sub ((List.sublist_append_right [(d, v)] _).trans (.refl _)) |>.perm (.refl _) |> fun _ =>
      (s.st.perm (List.Perm.cons _ ((p1.append_left F).trans List.perm_middle))).drop2
    exact t.perm (((p3 d).append_left F).trans List.perm_middle).symm
  · exact absurd (List.getElem?_eq_some_iff.mp h).1 (by rw [← s.len]; exact hi)
/-- a new value in a slot -/
theorem SS.set (s : SS K mg H ((d, v) :: F) ρ σ) (hi : i < ρ.length) : SS K mg H F (ρ.set i d) (σ.set i (some v)) := by
  have h' : i < σ.length := by rw [← s.len]; exact hi
  obtain ⟨R, p1, p2, _⟩ := rts_at (List.getElem?_eq_getElem hi) (List.getElem?_eq_getElem h')
  refine ⟨s.wd.set i d v, ?_⟩
  have t : St K mg H ((d, v) :: (F ++ R)) := (s.st.perm (List.Perm.cons _ ((p1.append_left F).trans List.perm_middle))).drop2
  exact t.perm (((p2 d (some v)).append_left F).trans List.perm_middle).symm
/-- a slot is forgotten -/
theorem SS.unset (s : SS K mg H F ρ σ) (i : Nat) (o : Option V) : SS K mg H F (ρ.set i .undef) (σ.set i o) := by
  by_cases hi : i < ρ.length
  · have h' : i < σ.length := by rw [← s.len]; exact hi
    obtain ⟨R, p1, p2, _⟩ := rts_at (List.getElem?_eq_getElem hi) (List.getElem?_eq_getElem h')
    refine ⟨s.wd.setUN i o, ?_⟩
    have t : St K mg H (F ++ R) := (s.st.perm ((p1.append_left F).trans List.perm_middle)).drop
    exact (t.undef (o.getD .non)).perm (((p2 .undef o).append_left F).trans List.perm_middle).symm
  · have hs : ¬ i < σ.length := by rw [← s.len]; exact hi
    rw [List.set_eq_of_length_le (by omega), List.set_eq_of_length_le (by omega)]
    exact s
/-- read and frozen -/
theorem SS.varF (s : SS K mg H F ρ σ) (h : slotE ρ i = some d) (z : full d = true) : ∃ v, σ[i]? = some (some v) ∧ SS K mg H ((frz d, v) :: F) (ρ.set i (frz d)) σ := by
  obtain ⟨v, h1, t⟩ := s.take h
  have t2 : SS K mg H ((frz d, v) :: F) (ρ.set i .undef) σ := t.map St.freeze
  have t3 : SS K mg H ((frz d, v) :: (frz d, v) :: F) (ρ.set i .undef) σ := t2.map fun q => q.dup (isFz_frz d z) List.mem_cons_self
  have t4 := t3.give h1
  rw [List.set_set] at t4
  exact ⟨v, h1, t4⟩
theorem SS.varE (s : SS K mg H F ρ σ) (h : varE i ρ = some (d, ρ')) : ∃ v, σ[i]? = some (some v) ∧ SS K mg H ((d, v) :: F) ρ' σ := by
  unfold Cs.varE at h
  split at h
  · rename_i e he
    split at h
    · rename_i z
      cases h
      exact s.var he z
    · split at h
      · rename_i z
        cases h
        exact s.varF he z
      · cases h
  · cases h
end
end Cs
/-! Cs5: what the evaluator says of an expression holds of the program's. -/
namespace Cs
open PySem L2
/-- an error as it lies -/
def XAt (mg : Str → Option Value) (x : Exn) (cls : Value) (d : Option Addr) (H : Hp) (vs : List V) : Prop :=
  (∃ a, mg x.C = some (.ref a) ∧ cls = .ref a) ∧ x.xs.length = vs.length ∧ x.fs.length = vs.length ∧ (match d with
    | none => x.fs = []
    | some a => H a = some (.xd (x.fs.zip vs)))
/-- a def by what the evaluator says of it -/
def spF (K : PySem.W.Frag) (mg : Str → Option Value) (f : List D → R (D × List D)) : Sp := fun vs H Q E => ∃ ds rs, ds.length = vs.length ∧ St K mg H (ds.zip vs ++ rs) ∧
  (f ds).thn (fun r => ∀ v H', St K mg H' ((r.1, v) :: (r.2.zip vs ++ rs)) → Q v H') (fun x es => ∀ cls d H' ws, XAt mg x cls d H' ws → St K mg H' (x.xs.zip ws ++ (es.zip vs ++ rs)) → E cls d H')
/-- the names: of slots, of defs, of built-ins -/
structure Gam where
  N : List Str
  fl : List Str
  bl : List Str
def FnAt (X : Cx) (f : Str) (g : List D → R (D × List D)) : Prop := ∃ (j : Nat) (a : Addr) (fd : FuncData) (ps : List Str), X.mg f = some (.ref a) ∧ PySem.W.keepIn X.K (.ref a) = true ∧ Binds X.K fd ps [] ∧ Room j X.A ∧
  FnOk X.prog X.w X.K X.mg X.base (L2.CX X.prog X.w) j a fd ps (spF X.K X.mg g)
structure Gd (Γ : Gam) (X : Cx) (C : Ctx) (W : WX) : Prop where
  N : X.N = Γ.N
  nd : X.N.Nodup
  kind : X.env.scope.kind = .function
  calm : X.calm = true
  tk : Takes X W
  pass : PassesOwn (model X.prog X.w) X.A X.env X.xe
  units : X.A.units + 64 < cLine
  fns : ∀ f ∈ Γ.fl, FnAt X f (C.fns f)
  blt : ∀ x ∈ Γ.bl, X.mg x = none
  con : ∀ x d, C.cons x = some d → ∃ u v, X.mg x = some u ∧ RelV v u ∧ ∀ Hf H, Rp X.K X.mg Hf H d v []
  whl : ∀ (step : WStep) ρ, ∃ n, C.whl step ρ = loopW step n ρ
def ExcP (X : Cx) (W : WX) (F : Roots) (σ : L2.St) : Exn → Env → Prop := fun x ρ' => ∀ cls d H' vs, XAt X.mg x cls d H' vs → SS X.K X.mg H' (x.xs.zip vs ++ F) ρ' σ → W cls d σ H'
theorem ExcP.sub {X : Cx} {W : WX} {F F' : Roots} {σ : L2.St} {x : Exn} {ρ : Env} (h : ExcP X W F σ x ρ) (s : List.Sublist F F') : ExcP X W F' σ x ρ := fun cls d H' vs a t => h cls d H' vs a (t.sub ((List.Sublist.refl _).append s))
section
variable (X : Cx) (C : Ctx) (W : WX)
def tEv (c : CE) : TE := fun σ H Q => ∃ F ρ, SS X.K X.mg H F ρ σ ∧ (evE C c ρ).thn (fun p => ∀ v H', SS X.K X.mg H' ((p.1, v) :: F) p.2 σ → Q v H') (ExcP X W F σ)
def tTs (c : CT) : TT := fun σ H Q => ∃ F ρ, SS X.K X.mg H F ρ σ ∧ (evT C c ρ).thn (fun p => ∀ H', SS X.K X.mg H' F p.2 σ → Q p.1 H') (ExcP X W F σ)
def RfOk (σ : L2.St) (r : Ref) (v : V) (T : Roots) : Prop := match r with
  | .slot i => σ[i]? = some (some v) ∧ T = []
  | .tmp d => T = [(d, v)]
def tRf (c : CE) : TE := fun σ H Q => ∃ F ρ, SS X.K X.mg H F ρ σ ∧ (refOf c (evE C c ρ) ρ).thn (fun p => ∀ v T H', RfOk σ p.1 v T → SS X.K X.mg H' (T ++ F) p.2 σ → Q v H') (ExcP X W F σ)
def tEs (c : CEs) : TA := fun σ H Q => ∃ F ρ, SS X.K X.mg H F ρ σ ∧ (evEs C c ρ).thn (fun p => ∀ vs H', p.1.length = vs.length → SS X.K X.mg H' (p.1.zip vs ++ F) p.2 σ → Q vs H') (ExcP X W F σ)
inductive RvT (σ : L2.St) : List Ref → List V → Roots → Prop
  | nil : RvT σ [] [] []
  | slot {i : Nat} {v : V} {rs : List Ref} {vs : List V} {T : Roots} : σ[i]? = some (some v) → RvT σ rs vs T → RvT σ (.slot i :: rs) (v :: vs) T
  | tmp {d : D} {v : V} {rs : List Ref} {vs : List V} {T : Roots} : RvT σ rs vs T → RvT σ (.tmp d :: rs) (v :: vs) ((d, v) :: T)
def tRs (c : CEs) : TA := fun σ H Q => ∃ F ρ, SS X.K X.mg H F ρ σ ∧ (evRs C c ρ).thn (fun p => ∀ vs T H', RvT σ p.1 vs T → SS X.K X.mg H' (T ++ F) p.2 σ → Q vs H') (ExcP X W F σ)
def tOo (c : CO) : TO := fun σ H Q => ∃ F ρ, SS X.K X.mg H F ρ σ ∧ (evO C c ρ).thn (fun p => ∀ H', SS X.K X.mg H' F p.2 σ → Q p.1 H') (ExcP X W F σ)
end

section
variable {X : Cx} {C : Ctx} {W : WX} {Γ : Gam} {e a b : Expr} {c c1 c2 : CE} {pos : Pos} {σ : L2.St} {H : Hp} {F : Roots} {ρ ρ' : Env} {d : D} {v : V}
theorem pe_imp {t t' : TE} (h : PE X e t) (i : ∀ σ H Q, t' σ H Q → t σ H Q) : PE X e t' := ⟨fun pins s σ H Q I q => h.run pins s σ H Q I (i σ H Q q)⟩
theorem pt_imp {t t' : TT} (h : PT X e t) (i : ∀ σ H Q, t' σ H Q → t σ H Q) : PT X e t' := ⟨fun pins s σ H Q I q => h.run pins s σ H Q I (i σ H Q q)⟩
theorem pa_imp {es : List Expr} {t t' : TA} (h : PA X es t) (i : ∀ σ H Q, t' σ H Q → t σ H Q) : PA X es t' := ⟨fun pos pins s σ H Q I q => h.run pos pins s σ H Q I (i σ H Q q)⟩
/-- what a root holds -/
theorem Stt.at {K : PySem.W.Frag} {mg : Str → Option Value} {Hf H : Hp} {fp : List Addr} {rs : Roots} (s : Stt K mg Hf H fp rs) (h : (d, v) ∈ rs) : ∃ f, Rp K mg Hf H d v f := by
  obtain ⟨f, r, _⟩ := s.rr.mem h
  exact ⟨f, r⟩
theorem rf_mem {K : PySem.W.Frag} {mg : Str → Option Value} {r : Ref} {T : Roots} (s : SS K mg H F ρ σ) (k : RfOk σ r v T) (h : r.get ρ = some d) : (d, v) ∈ T ++ rts ρ σ := by
  cases r with
  | slot i =>
    obtain ⟨k1, rfl⟩ := k
    obtain ⟨w, q1, q2⟩ := s.slot h
    rw [k1] at q1
    cases q1
    exact q2
  | tmp e =>
    have e1 : T = [(e, v)] := k
    have e2 : e = d := Option.some.inj h
    subst e1; subst e2
    exact List.mem_append_left _ List.mem_cons_self

/-! ### names, constants -/
theorem snd_int {i : Int} {j : Nat} : PE X (.Constant (.int i) j pos) (tEv X C W (.int i)) := pe_imp pe_int fun _ _ Q ⟨F, ρ, ss, h⟩ => by
  rw [evE] at h
  exact h _ _ (ss.int i)
theorem snd_bl {i : Bool} {j : Nat} : PE X (.Constant (.bool i) j pos) (tEv X C W (.bl i)) := pe_imp pe_bl fun _ _ Q ⟨F, ρ, ss, h⟩ => by
  rw [evE] at h
  exact h _ _ (ss.bl i)
theorem snd_str {i : Str} {j : Nat} : PE X (.Constant (.str i) j pos) (tEv X C W (.str i)) := pe_imp pe_str fun _ _ Q ⟨F, ρ, ss, h⟩ => by
  rw [evE] at h
  exact h _ _ (ss.str i)
theorem snd_non {j : Nat} : PE X (.Constant .none j pos) (tEv X C W .non) := pe_imp pe_non fun _ _ Q ⟨F, ρ, ss, h⟩ => by
  rw [evE] at h
  exact h _ _ ss.non
theorem snd_var {i : Nat} {x : Str} (hN : X.N[i]? = some x) (hv : Vis X.env.scope x) (hd : (x == ("__debug__" : Str)) = false) (hcd : (x == ("__classdict__" : Str)) = false) : PE X (.Name x pos) (tEv X C W (.var i)) :=
  pe_imp (pe_var hN hv hd hcd) fun σ H Q ⟨F, ρ, ss, h⟩ => by
    rw [evE] at h
    obtain ⟨⟨d, ρ'⟩, e, k⟩ := R.thn_of h
    obtain ⟨v, h1, s'⟩ := ss.varE e
    exact ⟨v, h1, k v H s'⟩
theorem snd_mv {i : Nat} {x : Str} (hN : X.N[i]? = some x) (hv : Vis X.env.scope x) (hd : (x == ("__debug__" : Str)) = false) (hcd : (x == ("__classdict__" : Str)) = false) : PE X (.Name x pos) (tEv X C W (.mv i)) :=
  pe_imp (pe_var hN hv hd hcd) fun σ H Q ⟨F, ρ, ss, h⟩ => by
    rw [evE] at h
    obtain ⟨⟨d, ρ'⟩, e, k⟩ := R.thn_of h
    cases e1 : slotE ρ i with
    | none =>
      rw [e1] at e
      cases e
    | some d1 =>
      rw [e1] at e
      cases e
      obtain ⟨v, h1, s'⟩ := ss.take e1
      exact ⟨v, h1, k v H s'⟩
theorem rf_var {i : Nat} {x : Str} (hN : X.N[i]? = some x) (hv : Vis X.env.scope x) (hd : (x == ("__debug__" : Str)) = false) (hcd : (x == ("__classdict__" : Str)) = false) : PE X (.Name x pos) (tRf X C W (.var i)) :=
  pe_imp (pe_var hN hv hd hcd) fun σ H Q ⟨F, ρ, ss, h⟩ => by
    obtain ⟨⟨r, ρ'⟩, e, k⟩ := R.thn_of (show (R.of ((slotE ρ i).map fun _ => (Ref.slot i, ρ))).thn _ _ from h)
    cases e1 : slotE ρ i with
    | none =>
      rw [e1] at e
      cases e
    | some d1 =>
      rw [e1] at e
      cases e
      obtain ⟨v, h1, _⟩ := ss.slot e1
      exact ⟨v, h1, k v [] H ⟨h1, rfl⟩ ss⟩
theorem rf_of (hc : ∀ i, c ≠ .var i) (h : PE X e (tEv X C W c)) : PE X e (tRf X C W c) := pe_imp h fun σ H Q ⟨F, ρ, ss, h⟩ => by
  have e1 : refOf c (evE C c ρ) ρ = (evE C c ρ).map fun p => (.tmp p.1, p.2) := by
    cases c <;> first | rfl | exact absurd rfl (hc _)
  rw [e1, R.thn_map] at h
  exact ⟨F, ρ, ss, h.mono (fun p hp v H' s' => hp v [(p.1, v)] H' rfl s') fun _ _ z => z⟩
theorem snd_con {x : Str} {d : D} (g : Gd Γ X C W) (hg : Gl X x) (hc : C.cons x = some d) (hd : (x == ("__debug__" : Str)) = false) : PE X (.Name x pos) (tEv X C W (.con x)) := by
  obtain ⟨u, v, hm, r, hR⟩ := g.con x d hc
  refine pe_imp (pe_glob hg hm r hd) fun σ H Q ⟨F, ρ, ss, h⟩ => ?_
  rw [evE, hc] at h
  exact h v H (ss.map fun t => t.con hR)

/-! ### two operands -/
/-- two operands, then what they come to -/
theorem two {β γ : Type} {f : D → D → Option β} {g : β → Env → γ} {P : γ → Prop} {Q : V → V → Hp → Prop}
    (h : (refOf c1 (evE C c1 ρ) ρ).thn (fun p => (refOf c2 (evE C c2 p.2) p.2).thn (fun q => (R.of ((opt2 f (p.1.get q.2) (q.1.get q.2)).map fun d => g d q.2)).thn P (ExcP X W F σ)) (ExcP X W F σ)) (ExcP X W F σ)) (ss : SS X.K X.mg H F ρ σ)
    (fin : ∀ x y H' ρ' d1 d2 d G, f d1 d2 = some d → SS X.K X.mg H' G ρ' σ → List.Sublist F G → (d1, x) ∈ G ++ rts ρ' σ → (d2, y) ∈ G ++ rts ρ' σ → P (g d ρ') → Q x y H') : tRf X C W c1 σ H fun x H1 => tRf X C W c2 σ H1 fun y H2 => Q x y H2 := by
  refine ⟨F, ρ, ss, h.mono (fun p hp x T1 H1 k1 s1 => ?_) (fun _ _ z => z)⟩
  refine ⟨T1 ++ F, p.2, s1, hp.mono (fun q hq y T2 H2 k2 s2 => ?_) (fun _ _ z => z.sub (List.sublist_append_right _ _))⟩
  obtain ⟨pp, e, hk⟩ := R.thn_of hq
  obtain ⟨d, e1, e2⟩ := Option.map_eq_some_iff.mp e
  obtain ⟨d1, d2, g1, g2, e3⟩ := opt2_some e1
  subst e2
  have s3 : SS X.K X.mg H2 (T1 ++ F) q.2 σ := s2.sub (List.sublist_append_right _ _)
  have m1 := rf_mem s3 k1 g1
  have m2 := rf_mem s2 k2 g2
  refine fin x y H2 q.2 d1 d2 d (T2 ++ (T1 ++ F)) e3 s2 ((List.sublist_append_right _ _).trans (List.sublist_append_right _ _)) ?_ ?_ hk
  · simp only [List.mem_append] at m1 ⊢
    rcases m1 with m | m
    · exact .inl (.inr (.inl m))
    · exact .inr m
  · simp only [List.mem_append] at m2 ⊢
    rcases m2 with m | m
    · exact .inl (.inl m)
    · exact .inr m
/-- the new value in front, all but F dropped -/
theorem SS.fin {K : PySem.W.Frag} {mg : Str → Option Value} {G : Roots} (wd : Wd ρ σ) (st : St K mg H ((d, v) :: (G ++ rts ρ σ))) (sl : List.Sublist F G) : SS K mg H ((d, v) :: F) ρ σ :=
  ⟨wd, st.sub ((sl.append (.refl _)).cons_cons _)⟩
def rB (X : Cx) (f : D → D → Option D) : R2 := fun x y H Q => ∃ rs d1 d2 d, St X.K X.mg H rs ∧ (d1, x) ∈ rs ∧ (d2, y) ∈ rs ∧ f d1 d2 = some d ∧ ∀ v H', St X.K X.mg H' ((d, v) :: rs) → Q v H'
def rC (X : Cx) (f : D → D → Option Bool) : R2 := fun x y H Q => ∃ rs d1 d2 b, St X.K X.mg H rs ∧ (d1, x) ∈ rs ∧ (d2, y) ∈ rs ∧ f d1 d2 = some b ∧ Q (.bl b) H
theorem ent_bin {op : Operator} {Q : VK} : tEv X C W (.bin op c1 c2) σ H Q → tOp (rB X (binD op)) (tRf X C W c1) (tRf X C W c2) σ H Q := fun ⟨F, ρ, ss, h⟩ => by
  rw [evE, R.thn_bind] at h
  simp only [R.thn_bind] at h
  exact two h ss fun x y H' ρ' d1 d2 d G e s' sl m1 m2 k => ⟨_, d1, d2, d, s'.st, m1, m2, e, fun v H' st => k v H' (SS.fin s'.wd st sl)⟩
theorem ent_idx {Q : VK} : tEv X C W (.idx c1 c2) σ H Q → tOp (rB X idxD) (tRf X C W c1) (tRf X C W c2) σ H Q := fun ⟨F, ρ, ss, h⟩ => by
  rw [evE, R.thn_bind] at h
  simp only [R.thn_bind] at h
  exact two h ss fun x y H' ρ' d1 d2 d G e s' sl m1 m2 k => ⟨_, d1, d2, d, s'.st, m1, m2, e, fun v H' st => k v H' (SS.fin s'.wd st sl)⟩
theorem ent_cmp {op : CmpOp} {Q : VK} : tEv X C W (.cmp op c1 c2) σ H Q → tOp (rC X (cmpD op)) (tRf X C W c1) (tRf X C W c2) σ H Q := fun ⟨F, ρ, ss, h⟩ => by
  rw [evE, R.thn_bind] at h
  simp only [R.thn_bind] at h
  exact two h ss fun x y H' ρ' d1 d2 d G e s' sl m1 m2 k => ⟨_, d1, d2, d, s'.st, m1, m2, e, k _ _ (SS.fin s'.wd (s'.st.bl d) sl)⟩
theorem ent_cmpT {op : CmpOp} {Q : Bool → Hp → Prop} : tTs X C W (.cmp op c1 c2) σ H Q → tTest (tOp (rC X (cmpD op)) (tRf X C W c1) (tRf X C W c2)) σ H Q := fun ⟨F, ρ, ss, h⟩ => by
  rw [evT, R.thn_bind] at h
  simp only [R.thn_bind] at h
  exact two h ss fun x y H' ρ' d1 d2 d G e s' sl m1 m2 k => ⟨_, d1, d2, d, s'.st, m1, m2, e, d, rfl, k _ (s'.sub sl)⟩
end
end Cs
/-! Cs6: operators, comparisons, subscripts, by values. -/
namespace Cs
open PySem L2
section
variable {K : PySem.W.Frag} {mg : Str → Option Value} {Hf H : Hp} {fp : List Addr} {rs : Roots} {d : D} {v : V} {ds : List D}
theorem Stt.st (s : Stt K mg Hf H fp rs) : St K mg H rs := ⟨Hf, fp, s⟩
theorem Stt.lst {o : Bool} (s : Stt K mg Hf H fp rs) (h : (.lst o ds, v) ∈ rs) : ∃ a vs, v = .ref a ∧ H a = some (.lst vs) ∧ ds.length = vs.length ∧ (isFzs ds = true → Fzs K mg Hf ds vs) ∧ ∃ f, Rps K mg Hf H ds vs f := by
  obtain ⟨f, r⟩ := s.at h
  cases o with
  | false =>
    obtain ⟨_, a, vs, h1, h2, h3⟩ := r
    exact ⟨a, vs, h1, s.ex _ _ h2, h3.len, fun z => h3.toFzs z, _, h3⟩
  | true =>
    obtain ⟨a, vs, g, h1, _, h2, h3⟩ := r
    exact ⟨a, vs, h1, h2, h3.len, fun z => h3.toFzs z, _, h3⟩
theorem Stt.tup (s : Stt K mg Hf H fp rs) (h : (.tup ds, v) ∈ rs) : ∃ a vs, v = .ref a ∧ SqT K H a vs ∧ ds.length = vs.length ∧ (isFzs ds = true → Fzs K mg Hf ds vs) ∧ ∃ f, Rps K mg Hf H ds vs f := by
  obtain ⟨f, r⟩ := s.at h
  obtain ⟨_, a, vs, h1, h2, h3⟩ := r
  exact ⟨a, vs, h1, Evl.ex_t s.ex h2, h3.len, fun z => h3.toFzs z, _, h3⟩
theorem Stt.lkd (s : Stt K mg Hf H fp rs) (h : (.lkd ds, v) ∈ rs) : ∃ a vs, v = .ref a ∧ SqL K H a vs ∧ ds.length = vs.length ∧ (isFzs ds = true → Fzs K mg Hf ds vs) ∧ ∃ f, Rps K mg Hf H ds vs f := by
  obtain ⟨f, r⟩ := s.at h
  obtain ⟨_, a, vs, h1, h2, h3⟩ := r
  exact ⟨a, vs, h1, Evl.ex_l s.ex h2, h3.len, fun z => h3.toFzs z, _, h3⟩
/-- a list, of whatever kind -/
theorem Stt.nls (s : Stt K mg Hf H fp rs) (h : (d, v) ∈ rs) (e : nList d = some ds) : ∃ a vs, v = .ref a ∧ SqL K H a vs ∧ ds.length = vs.length ∧ (isFzs ds = true → Fzs K mg Hf ds vs) ∧ ∃ f, Rps K mg Hf H ds vs f := by
  cases d with
  | lst o xs =>
    cases e
    obtain ⟨a, vs, h1, h2, h3⟩ := s.lst h
    exact ⟨a, vs, h1, .inl (.inl h2), h3⟩
  | lkd xs =>
    cases e
    exact s.lkd h
  | _ => cases e
theorem Stt.seq (s : Stt K mg Hf H fp rs) (h : (d, v) ∈ rs) (e : seqOf d = some ds) : ∃ a vs, v = .ref a ∧ (SqL K H a vs ∨ SqT K H a vs) ∧ ds.length = vs.length ∧ (isFzs ds = true → Fzs K mg Hf ds vs) ∧ ∃ f, Rps K mg Hf H ds vs f := by
  cases d with
  | lst o xs =>
    cases e
    obtain ⟨a, vs, h1, h2, h3⟩ := s.lst h
    exact ⟨a, vs, h1, .inl (.inl (.inl h2)), h3⟩
  | lkd xs =>
    cases e
    obtain ⟨a, vs, h1, h2, h3⟩ := s.lkd h
    exact ⟨a, vs, h1, .inl h2, h3⟩
  | tup xs =>
    cases e
    obtain ⟨a, vs, h1, h2, h3⟩ := s.tup h
    exact ⟨a, vs, h1, .inr h2, h3⟩
  | _ => cases e
mutual
theorem Rp.dp (ex : Evl.Ex Hf H) : ∀ (d : D) {v : V} {f : List Addr} {p : PyData}, toP d = some p → Rp K mg Hf H d v f → Dp K H v p
  | .undef, _, _, _, e, _ => nomatch e
  | .non, _, _, _, e, h => by cases e; rw [h.1]; exact .non
  | .bl b, _, _, _, e, h => by cases e; rw [h.1]; exact .bl b
  | .int i, _, _, _, e, h => by cases e; rw [h.1]; exact .int i
  | .str x, _, _, _, e, h => by cases e; rw [h.1]; exact .str x
  | .glb x, _, _, _, e, _ => nomatch e
  | .dK _ _ _, _, _, _, e, _ => nomatch e
  | .dT _ _ _, _, _, _, e, _ => nomatch e
  | .ins _ _ _ _, _, _, _, e, _ => nomatch e
  | .tup ds, _, _, _, e, ⟨_, a, vs, h1, h2, h3⟩ => by
    obtain ⟨ps, e1, e2⟩ := Option.map_eq_some_iff.mp (show (toPs ds).map PyData.tuple = _ from e)
    subst e2; subst h1
    exact .tup (Evl.ex_t ex h2) (Rps.dp ex ds e1 h3)
  | .lst false ds, _, _, _, e, ⟨_, a, vs, h1, h2, h3⟩ => by
    obtain ⟨ps, e1, e2⟩ := Option.map_eq_some_iff.mp (show (toPs ds).map PyData.list = _ from e)
    subst e2; subst h1
    exact .lst (.inl (.inl (ex _ _ h2))) (Rps.dp ex ds e1 h3)
  | .lst true ds, _, _, _, e, ⟨a, vs, g, h1, _, h2, h3⟩ => by
    obtain ⟨ps, e1, e2⟩ := Option.map_eq_some_iff.mp (show (toPs ds).map PyData.list = _ from e)
    subst e2; subst h1
    exact .lst (.inl (.inl h2)) (Rps.dp ex ds e1 h3)
  | .lkd ds, _, _, _, e, ⟨_, a, vs, h1, h2, h3⟩ => by
    obtain ⟨ps, e1, e2⟩ := Option.map_eq_some_iff.mp (show (toPs ds).map PyData.list = _ from e)
    subst e2; subst h1
    exact .lst (Evl.ex_l ex h2) (Rps.dp ex ds e1 h3)
theorem Rps.dp (ex : Evl.Ex Hf H) : ∀ (ds : List D) {vs : List V} {f : List Addr} {ps : List PyData}, toPs ds = some ps → Rps K mg Hf H ds vs f → DpAll K H vs ps
  | [], _, _, _, e, h => by cases e; rw [h.1]; exact .nil
  | d :: ds, _, _, _, e, ⟨v, vs', f1, f2, h1, h2, h3, h4⟩ => by
    subst h1
    unfold toPs at e
    split at e
    · rename_i p ps e1 e2
      cases e
      exact .cons (Rp.dp ex d e1 h3) (Rps.dp ex ds e2 h4)
    · cases e
end
theorem eqD_dp {d e : D} {v w : V} {b : Bool} (s : Stt K mg Hf H fp rs) (h1 : (d, v) ∈ rs) (h2 : (e, w) ∈ rs) (h : eqD d e = some b) :
    ∃ p q, Dp K H v p ∧ Dp K H w q ∧ SeqAt.shaped p = true ∧ SeqAt.shaped q = true ∧ b = PyData.eqv p q := by
  unfold eqD at h
  split at h
  · rename_i p q e1 e2
    split at h
    · rename_i z
      cases h
      rw [Bool.and_eq_true] at z
      obtain ⟨f, r⟩ := s.at h1
      obtain ⟨g, t⟩ := s.at h2
      exact ⟨p, q, Rp.dp s.ex d e1 r, Rp.dp s.ex e e2 t, z.1, z.2, rfl⟩
    · cases h
  · cases h
theorem szOk_le {n : Nat} (h : szOk n = true) : n ≤ sizeLine := of_decide_eq_true h
theorem guardL_some {b : Bool} {d e : D} (h : guardL b d = some e) : b = true ∧ d = e := by
  unfold guardL at h
  split at h
  · rename_i z
    cases h
    exact ⟨z, rfl⟩
  · cases h
theorem fzO_some {o : Option D} {d : D} (h : fzO o = some d) : o = some d ∧ isFz d = true := by
  unfold fzO at h
  split at h
  · split at h
    · rename_i z
      cases h
      exact ⟨rfl, z⟩
    · cases h
  · cases h
theorem flat_v {d : D} {v : V} {f : List Addr} (h : flatD d = true) (r : Rp K mg Hf H d v f) : flatV v = true := by
  cases d with
  | non => rw [r.1]; rfl
  | bl b => rw [r.1]; rfl
  | int i => rw [r.1]; rfl
  | str x => rw [r.1]; rfl
  | _ => cases h
theorem isN_v {d : D} {v : V} {f : List Addr} {b : Bool} (h : isN d = some b) (r : Rp K mg Hf H d v f) : decide (v = V.non) = b := by
  cases d with
  | undef => cases h
  | non => cases h; rw [r.1]; rfl
  | bl b => cases h; rw [r.1]; rfl
  | int i => cases h; rw [r.1]; rfl
  | str x => cases h; rw [r.1]; rfl
  | tup ds => cases h; obtain ⟨_, a, vs, rfl, _⟩ := r; rfl
  | lkd ds => cases h; obtain ⟨_, a, vs, rfl, _⟩ := r; rfl
  | glb x => cases h; obtain ⟨_, a, rfl, _⟩ := r; rfl
  | lst o ds => cases h; cases o <;> (first | (obtain ⟨_, a, vs, rfl, _⟩ := r; rfl) | (obtain ⟨a, vs, g, rfl, _⟩ := r; rfl))
  | dK o ks ds => cases h; cases o <;> (first | (obtain ⟨_, a, vs, rfl, _⟩ := r; rfl) | (obtain ⟨a, vs, g, rfl, _⟩ := r; rfl))
  | dT o ks ds => cases h; cases o <;> (first | (obtain ⟨_, a, vs, rfl, _⟩ := r; rfl) | (obtain ⟨a, vs, g, rfl, _⟩ := r; rfl))
  | ins o C fs ds => cases h; cases o <;> (first | (obtain ⟨_, a, dx, CA, vs, rfl, _⟩ := r; rfl) | (obtain ⟨a, dx, CA, vs, g, rfl, _⟩ := r; rfl))
theorem flat_e {d e : D} {v w : V} {f g : List Addr} (h1 : flatD d = true) (h2 : flatD e = true) (r : Rp K mg Hf H d v f) (t : Rp K mg Hf H e w g) : flatE d e = eqV v w := by
  cases d with
  | non => rw [r.1]; cases e <;> first | (rw [t.1]; rfl) | cases h2
  | bl b => rw [r.1]; cases e <;> first | (rw [t.1]; rfl) | cases h2
  | int i => rw [r.1]; cases e <;> first | (rw [t.1]; rfl) | cases h2
  | str x => rw [r.1]; cases e <;> first | (rw [t.1]; rfl) | cases h2
  | _ => cases h1
theorem flats {ds : List D} {vs : List V} {f : List Addr} (h : ds.all flatD = true) (r : Rps K mg Hf H ds vs f) : vs.all flatV = true := by
  induction ds generalizing vs f with
  | nil => rw [r.1]; rfl
  | cons d ds ih =>
    obtain ⟨v, vs', f1, f2, h1, h2, h3, h4⟩ := r
    subst h1
    rw [List.all_cons, Bool.and_eq_true] at h ⊢
    exact ⟨flat_v h.1 h3, ih h.2 h4⟩
theorem any_e {x : D} {y : V} {ds : List D} {vs : List V} {f g : List Addr} (h : ds.all flatD = true) (hx : flatD x = true) (r : Rps K mg Hf H ds vs f) (t : Rp K mg Hf H x y g) : (ds.any fun e => flatE e x) = inV y vs := by
  induction ds generalizing vs f with
  | nil => rw [r.1]; rfl
  | cons d ds ih =>
    obtain ⟨v, vs', f1, f2, h1, h2, h3, h4⟩ := r
    subst h1
    rw [List.all_cons, Bool.and_eq_true] at h
    show (flatE d x || ds.any fun e => flatE e x) = (eqV v y || inV y vs')
    rw [ih h.2 h4, flat_e h.1 hx h3 t]
end

section
variable {X : Cx}
theorem ex_atI {α β : Type} {xs : List α} {ys : List β} (e : xs.length = ys.length) {i : Int} {x : α} (h : atI xs i = some x) : ∃ j : Nat, atI ys i = ys[j]? ∧ xs[j]? = some x := by
  unfold atI at h ⊢
  rw [← e]
  cases q : ixN xs.length i with
  | none => rw [q] at h; cases h
  | some j =>
    rw [q] at h
    exact ⟨j, rfl, h⟩
/-- a // b, b of either sign -/
theorem op_flr : OpR X (binaryOp .FloorDiv) (rI (fun _ j => j ≠ 0 ∧ j.natAbs.log2 < 9000) fun i j => .int (flr i j)) := opI fun i j _ _ _ _ _ hc q => by
  refine PyProof.Rows.floordiv_int hc.1 ?_ (.inl (PyProof.noPylong_of_log2 hc.2))
  unfold flr at q
  split at q
  · rename_i z
    rw [Int.fdiv_eq_ediv_of_nonneg i (by omega)]
    exact q
  · exact q
theorem op_rst : OpR X (binaryOp .Mod) (rI (fun _ j => j ≠ 0) fun i j => .int (rst i j)) := opI fun i j _ _ _ _ _ hc q => by
  refine PyProof.Rows.mod_int' hc ?_
  unfold rst at q
  split at q
  · rename_i z
    rw [Int.fmod_eq_emod_of_nonneg i (by omega)]
    exact q
  · exact q
theorem op_mulA : OpR X (binaryOp .Mult) (rI (fun i j => mulOk i j = true) fun i j => .int (i * j)) := by
  intro pins s σ H x y v u Q I rx ry ⟨i, j, h1, h2, hc, q⟩
  have hc : mulOk i j = true := hc
  unfold mulOk at hc
  rw [Bool.or_eq_true, Bool.or_eq_true] at hc
  rcases hc with h | h | h
  · exact op_mul pins s σ H x y v u Q I rx ry ⟨i, j, h1, h2, .inl (of_decide_eq_true h), q⟩
  · exact op_mul pins s σ H x y v u Q I rx ry ⟨i, j, h1, h2, .inr (of_decide_eq_true h), q⟩
  · exact op_mulW pins s σ H x y v u Q I rx ry ⟨i, j, h1, h2, of_decide_eq_true (p := i.natAbs.log2 + j.natAbs.log2 < 1000000) h, q⟩
theorem op_bin {op : Operator} : OpR X (binaryOp op) (rB X (binD op)) := by
  intro pins s σ H x y v u Q I rx ry ⟨rs, d1, d2, d, ⟨Hf, fp, S⟩, m1, m2, e, k⟩
  obtain ⟨f1, p1⟩ := S.at m1
  obtain ⟨f2, p2⟩ := S.at m2
  unfold binD at e
  split at e
  · cases e
    exact op_add pins s σ H x y v u Q I rx ry ⟨_, _, p1.1, p2.1, k _ _ (S.st.int _)⟩
  · obtain ⟨z, rfl⟩ := guardL_some e
    exact op_add_str pins s σ H x y v u Q I rx ry ⟨_, _, p1.1, p2.1, szOk_le z, k _ _ (S.st.str _)⟩
  · obtain ⟨z, rfl⟩ := guardL_some e
    rw [Bool.and_eq_true, Bool.and_eq_true] at z
    obtain ⟨a, vs, rfl, q1, l1, z1, _⟩ := S.tup m1
    obtain ⟨b, ws, rfl, q2, l2, z2, _⟩ := S.tup m2
    have w1 := z1 z.2.1
    have w2 := z2 z.2.2
    refine op_catA pins s σ H _ _ v u Q I rx ry ⟨a, b, vs, ws, rfl, rfl, q1, q2, by rw [← l1, ← l2]; exact szOk_le z.1, fun h => ?_, fun _ h => ?_, fun _ _ p hp => k _ _ (S.newT hp (w1.append w2))⟩
    · subst h
      cases w1
      exact k _ _ (S.st.dup z.2.2 m2)
    · subst h
      cases w2
      rw [List.append_nil] at k
      exact k _ _ (S.st.dup z.2.1 m1)
  · obtain ⟨z, rfl⟩ := guardL_some e
    rw [Bool.and_eq_true, Bool.and_eq_true] at z
    obtain ⟨a, vs, rfl, q1, l1, z1, _⟩ := S.lst m1
    obtain ⟨b, ws, rfl, q2, l2, z2, _⟩ := S.lst m2
    exact op_cat pins s σ H _ _ v u Q I rx ry ⟨a, b, vs, ws, rfl, rfl, q1, q2, by rw [← l1, ← l2]; exact szOk_le z.1, fun p hp => k _ _ (S.newL hp ((z1 z.2.1).append (z2 z.2.2)))⟩
  · cases e
    exact op_sub pins s σ H x y v u Q I rx ry ⟨_, _, p1.1, p2.1, k _ _ (S.st.int _)⟩
  · obtain ⟨z, rfl⟩ := guardL_some e
    exact op_mulA pins s σ H x y v u Q I rx ry ⟨_, _, p1.1, p2.1, z, k _ _ (S.st.int _)⟩
  · obtain ⟨z, rfl⟩ := guardL_some e
    unfold dvOk at z
    rw [Bool.and_eq_true] at z
    exact op_flr pins s σ H x y v u Q I rx ry ⟨_, _, p1.1, p2.1, ⟨of_decide_eq_true z.1, of_decide_eq_true z.2⟩, k _ _ (S.st.int _)⟩
  · obtain ⟨z, rfl⟩ := guardL_some e
    exact op_rst pins s σ H x y v u Q I rx ry ⟨_, _, p1.1, p2.1, of_decide_eq_true z, k _ _ (S.st.int _)⟩
  · obtain ⟨z, rfl⟩ := guardL_some e
    exact op_pow pins s σ H x y v u Q I rx ry ⟨_, _, p1.1, p2.1, of_decide_eq_true (p := _ ∧ _) z, k _ _ (S.st.int _)⟩
  · cases e
    exact op_xor pins s σ H x y v u Q I rx ry ⟨_, _, p1.1, p2.1, k _ _ (S.st.int _)⟩
  · cases e
theorem ix_any : IxR X (rB X idxD) := by
  intro value slice pins s σ H x y v u Q I rx ry h hs
  obtain ⟨rs, d1, d2, d, ⟨Hf, fp, S⟩, m1, m2, e, k⟩ := h
  obtain ⟨f2, p2⟩ := S.at m2
  unfold idxD at e
  split at e
  · rename_i i
    obtain rfl := p2.1
    split at e
    · rename_i o xs
      obtain ⟨e1, z⟩ := fzO_some e
      obtain ⟨a, vs, rfl, q1, l1, _, f, r⟩ := S.lst m1
      obtain ⟨j, e2, e3⟩ := ex_atI l1 e1
      obtain ⟨w, g, e4, t⟩ := r.get e3
      exact ix_list value slice pins s σ H _ _ v u Q I rx ry ⟨a, vs, i, w, rfl, rfl, .inl (.inl q1), e2.trans e4, k _ _ (S.add ((Rp.fz d z t).2 H)).st⟩ hs
    · rename_i xs
      obtain ⟨e1, z⟩ := fzO_some e
      obtain ⟨a, vs, rfl, q1, l1, _, f, r⟩ := S.lkd m1
      obtain ⟨j, e2, e3⟩ := ex_atI l1 e1
      obtain ⟨w, g, e4, t⟩ := r.get e3
      exact ix_list value slice pins s σ H _ _ v u Q I rx ry ⟨a, vs, i, w, rfl, rfl, q1, e2.trans e4, k _ _ (S.add ((Rp.fz d z t).2 H)).st⟩ hs
    · rename_i xs
      obtain ⟨e1, z⟩ := fzO_some e
      obtain ⟨a, vs, rfl, q1, l1, _, f, r⟩ := S.tup m1
      obtain ⟨j, e2, e3⟩ := ex_atI l1 e1
      obtain ⟨w, g, e4, t⟩ := r.get e3
      exact ix_tup value slice pins s σ H _ _ v u Q I rx ry ⟨a, vs, i, w, rfl, rfl, q1, e2.trans e4, k _ _ (S.add ((Rp.fz d z t).2 H)).st⟩ hs
    · rename_i z
      obtain ⟨f1, p1⟩ := S.at m1
      split at e
      · rename_i hz
        obtain ⟨c, e1, e2⟩ := Option.map_eq_some_iff.mp e
        subst e2
        exact ix_str value slice pins s σ H _ _ v u Q I rx ry ⟨z, i, c, p1.1, rfl, szOk_le hz, e1, k _ _ (S.st.str _)⟩ hs
      · cases e
    · cases e
  · cases e
theorem op_cmpA {op : CmpOp} (hu : X.A.units + 64 < cLine) : OpR X (compareOp op) (rC X (cmpD op)) := by
  intro pins s σ H x y v u Q I rx ry ⟨rs, d1, d2, b, ⟨Hf, fp, S⟩, m1, m2, e, k⟩
  obtain ⟨f1, p1⟩ := S.at m1
  obtain ⟨f2, p2⟩ := S.at m2
  cases op with
  | Lt =>
    unfold cmpD at e
    dsimp only at e
    split at e
    · cases e
      exact op_lt pins s σ H x y v u Q I rx ry ⟨_, _, p1.1, p2.1, k⟩
    · cases e
  | LtE =>
    unfold cmpD at e
    dsimp only at e
    split at e
    · cases e
      exact op_le pins s σ H x y v u Q I rx ry ⟨_, _, p1.1, p2.1, k⟩
    · cases e
  | Gt =>
    unfold cmpD at e
    dsimp only at e
    split at e
    · cases e
      exact op_gt pins s σ H x y v u Q I rx ry ⟨_, _, p1.1, p2.1, k⟩
    · cases e
  | GtE =>
    unfold cmpD at e
    dsimp only at e
    split at e
    · cases e
      exact op_ge pins s σ H x y v u Q I rx ry ⟨_, _, p1.1, p2.1, k⟩
    · cases e
  | Eq =>
    obtain ⟨p, q, g1, g2, g3, g4, rfl⟩ := eqD_dp S m1 m2 e
    exact op_eqD hu pins s σ H x y v u Q I rx ry ⟨p, q, g1, g2, g3, g4, k⟩
  | NotEq =>
    obtain ⟨c, e1, e2⟩ := Option.map_eq_some_iff.mp (show (eqD d1 d2).map (!·) = some b from e)
    subst e2
    obtain ⟨p, q, g1, g2, g3, g4, rfl⟩ := eqD_dp S m1 m2 e1
    exact op_neD hu pins s σ H x y v u Q I rx ry ⟨p, q, g1, g2, g3, g4, k⟩
  | Is =>
    unfold cmpD at e
    dsimp only at e
    split at e
    · exact op_isN pins s σ H x y v u Q I rx ry ⟨p2.1, by rw [isN_v e p1]; exact k⟩
    · cases e
  | IsNot =>
    unfold cmpD at e
    dsimp only at e
    split at e
    · obtain ⟨c, e1, e2⟩ := Option.map_eq_some_iff.mp e
      exact op_notN pins s σ H x y v u Q I rx ry ⟨p2.1, by rw [isN_v e1 p1, e2]; exact k⟩
    · cases e
  | In =>
    have e : inD d1 d2 = some b := e
    unfold inD at e
    split at e
    · cases e
      exact op_in_str pins s σ H x y v u Q I rx ry ⟨_, _, p1.1, p2.1, k⟩
    · split at e
      · rename_i ds q
        split at e
        · rename_i z
          cases e
          rw [Bool.and_eq_true] at z
          obtain ⟨a, vs, rfl, q1, l1, _, f, r⟩ := S.seq m2 q
          refine op_in_seq pins s σ H _ _ v u Q I rx ry ⟨a, vs, rfl, q1, flat_v z.1 p1, flats z.2 r, ?_⟩
          rw [any_e z.2 z.1 r p1] at k
          exact k
        · cases e
      · cases e
  | NotIn =>
    obtain ⟨c, e1, e2⟩ := Option.map_eq_some_iff.mp (show (inD d1 d2).map (!·) = some b from e)
    subst e2
    unfold inD at e1
    split at e1
    · cases e1
      exact op_notin_str pins s σ H x y v u Q I rx ry ⟨_, _, p1.1, p2.1, k⟩
    · split at e1
      · rename_i ds q
        split at e1
        · rename_i z
          cases e1
          rw [Bool.and_eq_true] at z
          obtain ⟨a, vs, rfl, q1, l1, _, f, r⟩ := S.seq m2 q
          refine op_notIn_seq pins s σ H _ _ v u Q I rx ry ⟨a, vs, rfl, q1, flat_v z.1 p1, flats z.2 r, ?_⟩
          rw [any_e z.2 z.1 r p1] at k
          exact k
        · cases e1
      · cases e1
end
end Cs
/-! Cs7: built-ins, truth, slices, by values. -/
namespace Cs
open PySem L2
/-- things that stand at roots -/
def Ms (rs : Roots) : List D → List V → Prop
  | [], [] => True
  | d :: ds, v :: vs => (d, v) ∈ rs ∧ Ms rs ds vs
  | _, _ => False
def rBi (X : Cx) (b : BI) : List V → Hp → VK → Prop := fun vs H Q => ∃ rs ds d, St X.K X.mg H rs ∧ Ms rs ds vs ∧ biD b ds = some d ∧ ∀ v H', St X.K X.mg H' ((d, v) :: rs) → Q v H'
def biN : BI → Str
  | .len => "len" | .abs => "abs" | .min1 => "min" | .max1 => "max" | .min2 => "min" | .max2 => "max" | .sum => "sum" | .sorted => "sorted" | .all => "all" | .any => "any"
  | .list => "list" | .tuple => "tuple" | .int => "int" | .str => "str" | .repr => "repr" | .bool => "bool"
def biV : BI → Value
  | .len => .builtin "len" | .abs => .builtin "abs" | .min1 => .builtin "min" | .max1 => .builtin "max" | .min2 => .builtin "min" | .max2 => .builtin "max" | .sum => .builtin "sum" | .sorted => .builtin "sorted"
  | .all => .builtin "all" | .any => .builtin "any"
  | .list => .type "list" | .tuple => .type "tuple" | .int => .type "int" | .str => .type "str" | .repr => .builtin "repr" | .bool => .type "bool"
theorem biN_boot (b : BI) : bootBuiltins (biN b) = some (biV b) := by cases b <;> decide +kernel
theorem biN_name (b : BI) : biN b ≠ "__name__" ∧ (biN b == ("__debug__" : Str)) = false := by cases b <;> decide +kernel
def rSumT (K : PySem.W.Frag) : List V → Hp → VK → Prop := fun vs H Q => ∃ (a : Addr) (ns : List Int), vs = [V.ref a] ∧ SqT K H a (ns.map V.int) ∧ Q (.int ns.sum) H
theorem cr_sumT {X : Cx} (hc : X.calm = true) : CallR X (.builtin "sum") (rSumT X.K) := by
  intro pins s σ H vs us Q I r h
  obtain ⟨a, ns, rfl, hs, q⟩ := h
  obtain ⟨its, rv, hl, _⟩ := I.tuple hs
  rw [Vals.ref1 r]
  have hi := rv.ints
  obtain ⟨xs, e⟩ := hi.allInts.items
  have hn : numsOf (PySem.intItems xs).toList = ns := by rw [← e]; exact hi.numsOf
  rw [PySem.nums_intItems] at hn
  rw [e] at hl
  refine PySem.W.ktm_sumG (I.ok.hd hc) hl fun h' tk t' hk => ?_
  rw [PySem.preSum_eq, List.take_of_length_le (by simp), hn]
  exact ⟨.int _, H, I.kept hk, ⟨_, rfl⟩, q⟩
section
variable {K : PySem.W.Frag} {mg : Str → Option Value} {Hf H : Hp} {fp : List Addr} {rs : Roots} {d : D} {v : V} {ds : List D} {vs : List V}
theorem ints_v : ∀ {ds : List D} {vs : List V} {ns : List Int} {f : List Addr}, intsOf ds = some ns → Rps K mg Hf H ds vs f → vs = ns.map V.int
  | [], _, _, _, e, h => by cases e; rw [h.1]; rfl
  | .int i :: ds, _, _, _, e, ⟨v, vs', f1, f2, h1, h2, h3, h4⟩ => by
    obtain ⟨ms, e1, e2⟩ := Option.map_eq_some_iff.mp (show (intsOf ds).map (i :: ·) = _ from e)
    subst e2; subst h1
    rw [ints_v e1 h4, h3.1]; rfl
  | .undef :: _, _, _, _, e, _ => nomatch e
  | .non :: _, _, _, _, e, _ => nomatch e
  | .bl _ :: _, _, _, _, e, _ => nomatch e
  | .str _ :: _, _, _, _, e, _ => nomatch e
  | .tup _ :: _, _, _, _, e, _ => nomatch e
  | .lst _ _ :: _, _, _, _, e, _ => nomatch e
  | .lkd _ :: _, _, _, _, e, _ => nomatch e
  | .dK _ _ _ :: _, _, _, _, e, _ => nomatch e
  | .dT _ _ _ :: _, _, _, _, e, _ => nomatch e
  | .ins _ _ _ _ :: _, _, _, _, e, _ => nomatch e
  | .glb _ :: _, _, _, _, e, _ => nomatch e
theorem bls_v : ∀ {ds : List D} {vs : List V} {ns : List Bool} {f : List Addr}, blsOf ds = some ns → Rps K mg Hf H ds vs f → vs = ns.map V.bl
  | [], _, _, _, e, h => by cases e; rw [h.1]; rfl
  | .bl i :: ds, _, _, _, e, ⟨v, vs', f1, f2, h1, h2, h3, h4⟩ => by
    obtain ⟨ms, e1, e2⟩ := Option.map_eq_some_iff.mp (show (blsOf ds).map (i :: ·) = _ from e)
    subst e2; subst h1
    rw [bls_v e1 h4, h3.1]; rfl
  | .undef :: _, _, _, _, e, _ => nomatch e
  | .non :: _, _, _, _, e, _ => nomatch e
  | .int _ :: _, _, _, _, e, _ => nomatch e
  | .str _ :: _, _, _, _, e, _ => nomatch e
  | .tup _ :: _, _, _, _, e, _ => nomatch e
  | .lst _ _ :: _, _, _, _, e, _ => nomatch e
  | .lkd _ :: _, _, _, _, e, _ => nomatch e
  | .dK _ _ _ :: _, _, _, _, e, _ => nomatch e
  | .dT _ _ _ :: _, _, _, _, e, _ => nomatch e
  | .ins _ _ _ _ :: _, _, _, _, e, _ => nomatch e
  | .glb _ :: _, _, _, _, e, _ => nomatch e
theorem fzs_ints : ∀ ns : List Int, Fzs K mg Hf (ns.map D.int) (ns.map V.int)
  | [] => .nil
  | n :: ns => .cons ⟨rfl, fun _ => ⟨rfl, rfl⟩⟩ (fzs_ints ns)
theorem Ms.one (h : Ms rs [d] vs) : ∃ v, vs = [v] ∧ (d, v) ∈ rs := by
  cases vs with
  | nil => exact h.elim
  | cons v vs =>
    cases vs with
    | nil => exact ⟨v, rfl, h.1⟩
    | cons _ _ => exact h.2.elim
theorem Ms.two {e : D} (h : Ms rs [d, e] vs) : ∃ v w, vs = [v, w] ∧ (d, v) ∈ rs ∧ (e, w) ∈ rs := by
  cases vs with
  | nil => exact h.elim
  | cons v vs =>
    obtain ⟨w, e1, e2⟩ := Ms.one h.2
    subst e1
    exact ⟨v, w, rfl, h.1, e2⟩
theorem foldl_min : ∀ (is : List Int) (i m : Int), (m = i ∨ m ∈ is) → m ≤ i → (∀ y ∈ is, m ≤ y) → is.foldl (fun a b => if b < a then b else a) i = m
  | [], i, m, h, _, _ => by
    rcases h with h | h
    · exact h.symm
    · cases h
  | j :: is, i, m, h, h1, h2 => by
    show is.foldl _ (if j < i then j else i) = m
    have hj := h2 j List.mem_cons_self
    refine foldl_min is _ m ?_ ?_ fun y hy => h2 y (List.mem_cons_of_mem _ hy)
    · rcases h with h | h
      · left; rw [if_neg (by omega)]; exact h
      · rcases List.mem_cons.mp h with h | h
        · by_cases c : j < i
          · left; rw [if_pos c]; exact h
          · left; rw [if_neg c]; omega
        · exact .inr h
    · split <;> assumption
theorem foldl_max : ∀ (is : List Int) (i m : Int), (m = i ∨ m ∈ is) → i ≤ m → (∀ y ∈ is, y ≤ m) → is.foldl (fun a b => if a < b then b else a) i = m
  | [], i, m, h, _, _ => by
    rcases h with h | h
    · exact h.symm
    · cases h
  | j :: is, i, m, h, h1, h2 => by
    show is.foldl _ (if i < j then j else i) = m
    have hj := h2 j List.mem_cons_self
    refine foldl_max is _ m ?_ ?_ fun y hy => h2 y (List.mem_cons_of_mem _ hy)
    · rcases h with h | h
      · left; rw [if_neg (by omega)]; exact h
      · rcases List.mem_cons.mp h with h | h
        · by_cases c : i < j
          · left; rw [if_pos c]; exact h
          · left; rw [if_neg c]; omega
        · exact .inr h
    · split <;> assumption
theorem sort_is {a b : List Int} (h : a.Perm b) (ha : a.Pairwise (· ≤ ·)) : a = b.mergeSort (fun x y => decide (x ≤ y)) := by
  have h2 : (b.mergeSort (fun x y => decide (x ≤ y))).Pairwise (· ≤ ·) := (List.pairwise_mergeSort (le := fun x y : Int => decide (x ≤ y)) (fun x y z h1 h2 => decide_eq_true (Int.le_trans (of_decide_eq_true h1) (of_decide_eq_true h2)))
    (fun x y => by
      rw [Bool.or_eq_true]
      rcases Int.le_total x y with h | h
      · exact .inl (decide_eq_true (p := x ≤ y) h)
      · exact .inr (decide_eq_true (p := y ≤ x) h)) b).imp fun h => of_decide_eq_true h
  exact List.Perm.eq_of_pairwise (fun x y _ _ h1 h2 => Int.le_antisymm h1 h2) ha h2 (h.trans (List.mergeSort_perm b _).symm)
end
section
variable {X : Cx}
theorem cr_bi (hc : X.calm = true) (b : BI) : CallR X (biV b) (rBi X b) := by
  intro pins s σ H xs us Q I rs ⟨rt, ds, d, ⟨Hf, fp, S⟩, ms, e, k⟩
  unfold biD at e
  split at e
  · obtain ⟨z, rfl⟩ := guardL_some e
    obtain ⟨v, rfl, m⟩ := ms.one
    obtain ⟨f, r⟩ := S.at m
    exact call_len_str pins s σ H _ us Q I rs ⟨_, by rw [r.1], szOk_le z, k _ _ (S.st.int _)⟩
  · obtain ⟨ys, e1, e2⟩ := Option.map_eq_some_iff.mp e
    subst e2
    obtain ⟨v, rfl, m⟩ := ms.one
    obtain ⟨a, vs, rfl, q1, l1, _⟩ := S.seq m e1
    exact call_len_seq pins s σ H _ us Q I rs ⟨a, vs, rfl, q1, k _ _ (by rw [l1]; exact S.st.int _)⟩
  · cases e
    obtain ⟨v, rfl, m⟩ := ms.one
    obtain ⟨f, r⟩ := S.at m
    exact call_abs pins s σ H _ us Q I rs ⟨_, by rw [r.1], k _ _ (S.st.int _)⟩
  · cases e
    obtain ⟨v, w, rfl, m1, m2⟩ := ms.two
    obtain ⟨f, r⟩ := S.at m1
    obtain ⟨g, t⟩ := S.at m2
    exact call_min2 hc pins s σ H _ us Q I rs ⟨_, _, by rw [r.1, t.1], k _ _ (S.st.int _)⟩
  · cases e
    obtain ⟨v, w, rfl, m1, m2⟩ := ms.two
    obtain ⟨f, r⟩ := S.at m1
    obtain ⟨g, t⟩ := S.at m2
    exact call_max2 hc pins s σ H _ us Q I rs ⟨_, _, by rw [r.1, t.1], k _ _ (S.st.int _)⟩
  · obtain ⟨v, rfl, m⟩ := ms.one
    split at e
    · rename_i ys e1
      split at e
      · rename_i ns e2
        obtain ⟨mm, e3, e4⟩ := Option.map_eq_some_iff.mp e
        subst e4
        obtain ⟨a, vs, rfl, q1, l1, _, f, r⟩ := S.nls m e1
        have ev := ints_v e2 r
        subst ev
        cases ns with
        | nil => cases e3
        | cons n ns =>
          refine cr_min hc pins s σ H _ us Q I rs ⟨a, n :: ns, rfl, q1, Nat.zero_lt_succ _, fun m1 hm hle => ?_⟩
          have em : mm = m1 := (Option.some.inj e3).symm.trans (foldl_min ns n m1 (List.mem_cons.mp hm) (hle n List.mem_cons_self) fun y hy => hle y (List.mem_cons_of_mem _ hy))
          rw [← em]
          exact k _ _ (S.st.int _)
      · cases e
    · cases e
  · obtain ⟨v, rfl, m⟩ := ms.one
    split at e
    · rename_i ys e1
      split at e
      · rename_i ns e2
        obtain ⟨mm, e3, e4⟩ := Option.map_eq_some_iff.mp e
        subst e4
        obtain ⟨a, vs, rfl, q1, l1, _, f, r⟩ := S.nls m e1
        have ev := ints_v e2 r
        subst ev
        cases ns with
        | nil => cases e3
        | cons n ns =>
          refine cr_max hc pins s σ H _ us Q I rs ⟨a, n :: ns, rfl, q1, Nat.zero_lt_succ _, fun m1 hm hle => ?_⟩
          have em : mm = m1 := (Option.some.inj e3).symm.trans (foldl_max ns n m1 (List.mem_cons.mp hm) (hle n List.mem_cons_self) fun y hy => hle y (List.mem_cons_of_mem _ hy))
          rw [← em]
          exact k _ _ (S.st.int _)
      · cases e
    · cases e
  · obtain ⟨v, rfl, m⟩ := ms.one
    obtain ⟨ns, e2, e4⟩ := Option.map_eq_some_iff.mp e
    subst e4
    obtain ⟨a, vs, rfl, q1, l1, _, f, r⟩ := S.tup m
    have ev := ints_v e2 r
    subst ev
    exact cr_sumT hc pins s σ H _ us Q I rs ⟨a, ns, rfl, q1, k _ _ (S.st.int _)⟩
  · obtain ⟨v, rfl, m⟩ := ms.one
    split at e
    · rename_i ys e1
      obtain ⟨ns, e2, e4⟩ := Option.map_eq_some_iff.mp e
      subst e4
      obtain ⟨a, vs, rfl, q1, l1, _, f, r⟩ := S.nls m e1
      have ev := ints_v e2 r
      subst ev
      exact cr_sum hc pins s σ H _ us Q I rs ⟨a, ns, rfl, q1, k _ _ (S.st.int _)⟩
    · cases e
  · obtain ⟨v, rfl, m⟩ := ms.one
    split at e
    · rename_i ys e1
      obtain ⟨ns, e2, e4⟩ := Option.map_eq_some_iff.mp e
      subst e4
      obtain ⟨a, vs, rfl, q1, l1, _, f, r⟩ := S.nls m e1
      have ev := ints_v e2 r
      subst ev
      refine cr_sortedI pins s σ H _ us Q I rs ⟨a, ns, rfl, q1, fun ns' p hp hs np => ?_⟩
      have es := sort_is hp hs
      rw [← es] at k
      exact k _ _ (S.newL np (fzs_ints ns'))
    · cases e
  · obtain ⟨v, rfl, m⟩ := ms.one
    split at e
    · rename_i ys e1
      obtain ⟨ns, e2, e4⟩ := Option.map_eq_some_iff.mp e
      subst e4
      obtain ⟨a, vs, rfl, q1, l1, _, f, r⟩ := S.nls m e1
      have ev := bls_v e2 r
      subst ev
      exact cr_all hc pins s σ H _ us Q I rs ⟨a, ns, rfl, q1, k _ _ (S.st.bl _)⟩
    · cases e
  · obtain ⟨v, rfl, m⟩ := ms.one
    split at e
    · rename_i ys e1
      obtain ⟨ns, e2, e4⟩ := Option.map_eq_some_iff.mp e
      subst e4
      obtain ⟨a, vs, rfl, q1, l1, _, f, r⟩ := S.nls m e1
      have ev := bls_v e2 r
      subst ev
      exact cr_any hc pins s σ H _ us Q I rs ⟨a, ns, rfl, q1, k _ _ (S.st.bl _)⟩
    · cases e
  · obtain ⟨v, rfl, m⟩ := ms.one
    split at e
    · rename_i ys e1
      obtain ⟨z, rfl⟩ := guardL_some e
      obtain ⟨a, vs, rfl, q1, l1, w, _⟩ := S.seq m e1
      exact call_list_of pins s σ H _ us Q I rs ⟨a, vs, rfl, q1, fun l hl => k _ _ (S.newL hl (w z))⟩
    · cases e
  · obtain ⟨z, rfl⟩ := guardL_some e
    obtain ⟨v, rfl, m⟩ := ms.one
    obtain ⟨a, vs, rfl, q1, l1, w, _⟩ := S.tup m
    exact call_tuple_of pins s σ H _ us Q I rs ⟨a, vs, rfl, .inr ⟨q1, k _ _ (S.st.dup z m)⟩⟩
  · obtain ⟨v, rfl, m⟩ := ms.one
    split at e
    · rename_i ys e1
      obtain ⟨z, rfl⟩ := guardL_some e
      obtain ⟨a, vs, rfl, q1, l1, w, _⟩ := S.nls m e1
      exact call_tuple_of pins s σ H _ us Q I rs ⟨a, vs, rfl, .inl ⟨q1, fun l hl => k _ _ (S.newT hl (w z))⟩⟩
    · cases e
  · cases e
    obtain ⟨v, rfl, m⟩ := ms.one
    obtain ⟨f, r⟩ := S.at m
    exact call_int1 pins s σ H _ us Q I rs (.inl ⟨_, by rw [r.1], k _ _ (S.st.int _)⟩)
  · cases e
    obtain ⟨v, rfl, m⟩ := ms.one
    obtain ⟨f, r⟩ := S.at m
    exact call_int1 pins s σ H _ us Q I rs (.inr ⟨_, by rw [r.1], k _ _ (S.st.int _)⟩)
  · cases e
    obtain ⟨v, rfl, m⟩ := ms.one
    obtain ⟨f, r⟩ := S.at m
    exact call_bool1 pins s σ H _ us Q I rs (.inl ⟨_, by rw [r.1], k _ _ (S.st.bl _)⟩)
  · cases e
    obtain ⟨v, rfl, m⟩ := ms.one
    obtain ⟨f, r⟩ := S.at m
    exact call_bool1 pins s σ H _ us Q I rs (.inr ⟨_, by rw [r.1], k _ _ (S.st.bl _)⟩)
  · obtain ⟨z, rfl⟩ := guardL_some e
    obtain ⟨v, rfl, m⟩ := ms.one
    obtain ⟨f, r⟩ := S.at m
    exact call_str_int pins s σ H _ us Q I rs ⟨_, by rw [r.1], of_decide_eq_true z, k _ _ (S.st.str _)⟩
  · obtain ⟨z, rfl⟩ := guardL_some e
    obtain ⟨v, rfl, m⟩ := ms.one
    obtain ⟨f, r⟩ := S.at m
    exact SkE.call_repr_int pins s σ H _ us Q I rs ⟨_, by rw [r.1], of_decide_eq_true z, k _ _ (S.st.str _)⟩
  · cases e
/-- truth -/
theorem tru_any {rs : Roots} {d : D} {v : V} {b : Bool} {H : Hp} {K : PySem.W.Frag} {mg : Str → Option Value} (st : St K mg H rs) (m : (d, v) ∈ rs) (e : trD d = some b) : TruV K v H b := by
  obtain ⟨Hf, fp, S⟩ := st
  obtain ⟨f, r⟩ := S.at m
  have emp : ∀ {ds : List D} {vs : List V}, ds.length = vs.length → (!ds.isEmpty) = !vs.isEmpty := fun {ds vs} l => by
    cases ds with
    | nil =>
      cases vs with
      | nil => rfl
      | cons _ _ => cases l
    | cons _ _ =>
      cases vs with
      | nil => cases l
      | cons _ _ => rfl
  cases d with
  | non => cases e; rw [r.1]; rfl
  | bl b => cases e; rw [r.1]; rfl
  | int i => cases e; rw [r.1]; rfl
  | str y =>
    have e : (if szOk y.length = true then some ((y.length : Int) != 0) else none) = some b := e
    split at e
    · rename_i z
      cases e
      rw [r.1]
      exact ⟨szOk_le z, rfl⟩
    · cases e
  | lst o ds =>
    cases e
    obtain ⟨a, vs, rfl, q1, l1, _⟩ := S.lst m
    exact .inl ⟨vs, .inl (.inl q1), emp l1⟩
  | lkd ds =>
    cases e
    obtain ⟨a, vs, rfl, q1, l1, _⟩ := S.lkd m
    exact .inl ⟨vs, q1, emp l1⟩
  | tup ds =>
    cases e
    obtain ⟨a, vs, rfl, q1, l1, _⟩ := S.tup m
    exact .inr (.inl ⟨vs, q1, emp l1⟩)
  | _ => cases e
/-- a slice -/
def rSA (X : Cx) : V → Option Int → Option Int → Hp → VK → Prop := fun x lo hi H Q => ∃ rs d1 d, St X.K X.mg H rs ∧ (d1, x) ∈ rs ∧ slcD d1 lo hi = some d ∧ ∀ v H', St X.K X.mg H' ((d, v) :: rs) → Q v H'
theorem cut_fzs {K : PySem.W.Frag} {mg : Str → Option Value} {Hf : Hp} {ds : List D} {vs : List V} {lo hi : Option Int} (l : ds.length = vs.length) (h : Fzs K mg Hf ds vs) : Fzs K mg Hf (cutD ds lo hi) (cutV vs lo hi) := by
  unfold cutD cutV
  rw [l]
  exact (h.drop _).take _
theorem sl_any : SlR X (rSA X) := by
  intro pins s σ H x v vl vu lo hi sl Q I rx hs pl pu ⟨rs, d1, d, ⟨Hf, fp, S⟩, m, e, k⟩
  unfold slcD at e
  split at e
  · obtain ⟨z, rfl⟩ := guardL_some e
    obtain ⟨a, vs, rfl, q1, l1, w, _⟩ := S.lst m
    exact sl_list pins s σ H _ v vl vu lo hi sl Q I rx hs pl pu ⟨a, vs, rfl, .inl (.inl q1), fun p hp => k _ _ (S.newL hp (cut_fzs l1 (w z)))⟩
  · obtain ⟨z, rfl⟩ := guardL_some e
    obtain ⟨a, vs, rfl, q1, l1, w, _⟩ := S.lkd m
    exact sl_list pins s σ H _ v vl vu lo hi sl Q I rx hs pl pu ⟨a, vs, rfl, q1, fun p hp => k _ _ (S.newL hp (cut_fzs l1 (w z)))⟩
  · cases e
end
end Cs
/-! Cs8: arguments, displays, calls, tests, slices. -/
namespace Cs
open PySem L2
section
variable {X : Cx} {C : Ctx} {W : WX} {Γ : Gam} {e a b : Expr} {es : List Expr} {c c1 c2 c3 : CE} {cs : CEs} {pos : Pos} {σ : L2.St} {H : Hp} {F G : Roots} {ρ ρ' : Env} {d : D} {v : V} {K : PySem.W.Frag} {mg : Str → Option Value}
/-! ### arguments -/
theorem snd_nil : PA X [] (tEs X C W .nil) := pa_imp pa_nil fun σ H Q ⟨F, ρ, ss, h⟩ => by
  rw [evEs] at h
  exact h [] H rfl ss
theorem snd_cons (h1 : PE X e (tEv X C W c)) (h2 : PA X es (tEs X C W cs)) (hs : starEach (e :: es) X.env = (false, eval e X.env) :: starEach es X.env) : PA X (e :: es) (tEs X C W (.cons c cs)) :=
  pa_imp (pa_cons h1 h2 hs) fun σ H Q ⟨F, ρ, ss, h⟩ => by
    rw [evEs, R.thn_bind] at h
    refine ⟨F, ρ, ss, h.mono (fun p hp v H1 s1 => ?_) fun _ _ z => z⟩
    rw [R.thn_map] at hp
    refine ⟨(p.1, v) :: F, p.2, s1, hp.mono (fun q hq vs H2 l s2 => ?_) fun _ _ z => z.sub (List.sublist_cons_self _ _)⟩
    exact hq (v :: vs) H2 (by simp [l]) (s2.permF List.perm_middle)
theorem rnd_nil : PA X [] (tRs X C W .nil) := pa_imp pa_nil fun σ H Q ⟨F, ρ, ss, h⟩ => by
  rw [evRs] at h
  exact h [] [] H .nil ss
theorem rnd_cons (h1 : PE X e (tRf X C W c)) (h2 : PA X es (tRs X C W cs)) (hs : starEach (e :: es) X.env = (false, eval e X.env) :: starEach es X.env) : PA X (e :: es) (tRs X C W (.cons c cs)) :=
  pa_imp (pa_cons h1 h2 hs) fun σ H Q ⟨F, ρ, ss, h⟩ => by
    rw [evRs, R.thn_bind] at h
    refine ⟨F, ρ, ss, h.mono (fun p hp v T H1 k s1 => ?_) fun _ _ z => z⟩
    rw [R.thn_map] at hp
    refine ⟨T ++ F, p.2, s1, hp.mono (fun q hq vs T2 H2 k2 s2 => ?_) fun _ _ z => z.sub (List.sublist_append_right _ _)⟩
    cases hr : p.1 with
    | slot i =>
      rw [hr] at k hq
      obtain ⟨k1, rfl⟩ := k
      exact hq (v :: vs) T2 H2 (.slot k1 k2) s2
    | tmp d =>
      rw [hr] at k hq
      have k1 : T = [(d, v)] := k
      subst k1
      exact hq (v :: vs) ((d, v) :: T2) H2 (.tmp k2) (s2.permF List.perm_middle)
theorem gets_ms (s : SS K mg H G ρ σ) : ∀ {rs : List Ref} {vs : List V} {T : Roots} {ds : List D}, RvT σ rs vs T → List.Subset T G → Ref.gets ρ rs = some ds → Ms (G ++ rts ρ σ) ds vs
  | _, _, _, _, .nil, _, e => by cases e; trivial
  | _, _, _, _, .slot (i := i) (rs := rs) k r, sb, e => by
    unfold Ref.gets at e
    split at e
    · rename_i d ds e1 e2
      cases e
      obtain ⟨w, q1, q2⟩ := s.slot e1
      rw [k] at q1
      cases q1
      exact ⟨List.mem_append_right _ q2, gets_ms s r sb e2⟩
    · cases e
  | _, _, _, _, .tmp (d := d1) (rs := rs) r, sb, e => by
    unfold Ref.gets at e
    split at e
    · rename_i d ds e1 e2
      cases e
      cases e1
      exact ⟨List.mem_append_left _ (sb List.mem_cons_self), gets_ms s r (fun _ h => sb (List.mem_cons_of_mem _ h)) e2⟩
    · cases e
theorem lend_ok : ∀ {rs : List Ref} {vs : List V} {T F : Roots} {ρ ρ' : Env} {ds : List D}, RvT σ rs vs T → SS K mg H (T ++ F) ρ σ → lend rs ρ = some (ds, ρ') → ds.length = vs.length ∧ SS K mg H (ds.zip vs ++ F) ρ' σ
  | _, _, _, _, _, _, _, .nil, s, e => by cases e; exact ⟨rfl, s⟩
  | _, _, _, F, _, _, _, .tmp (d := d) (v := v) r, s, e => by
    obtain ⟨p, e1, e2⟩ := Option.map_eq_some_iff.mp (show (lend _ _).map (fun p => (d :: p.1, p.2)) = _ from e)
    cases e2
    obtain ⟨l, s2⟩ := lend_ok (F := (d, v) :: F) r (s.permF List.perm_middle.symm) e1
    exact ⟨by simp [l], s2.permF List.perm_middle⟩
  | _, _, _, F, ρ, _, _, .slot (i := i) (v := v) (T := T) k r, s, e => by
    unfold lend at e
    split at e
    · rename_i d he
      split at e
      · rename_i z
        obtain ⟨p, e1, e2⟩ := Option.map_eq_some_iff.mp e
        cases e2
        obtain ⟨w, q1, s1⟩ := s.var he z
        rw [k] at q1
        cases q1
        obtain ⟨l, s2⟩ := lend_ok (F := (d, v) :: F) r (s1.permF List.perm_middle.symm) e1
        exact ⟨by simp [l], s2.permF List.perm_middle⟩
      · obtain ⟨p, e1, e2⟩ := Option.map_eq_some_iff.mp e
        cases e2
        obtain ⟨w, q1, s1⟩ := s.take he
        rw [k] at q1
        cases q1
        obtain ⟨l, s2⟩ := lend_ok (F := (d, v) :: F) r (s1.permF List.perm_middle.symm) e1
        exact ⟨by simp [l], s2.permF List.perm_middle⟩
    · cases e
theorem back_ok : ∀ {rs : List Ref} {vs : List V} {T F : Roots} {ρ : Env} {ds : List D}, RvT σ rs vs T → SS K mg H (ds.zip vs ++ F) ρ σ → SS K mg H F (back rs ds ρ) σ
  | _, _, _, _, _, ds, .nil, s => by
    have e : ds.zip ([] : List V) = [] := by cases ds <;> rfl
    rw [e] at s
    cases ds <;> exact s
  | _, _, _, _, _, [], .slot k r, s => s
  | _, _, _, _, _, [], .tmp r, s => s
  | _, _, _, F, ρ, d :: ds, .tmp (v := v) (rs := rs) r, s => by
    show SS K mg H F (back rs ds ρ) σ
    exact back_ok r s.drop
  | _, _, _, _, ρ, d :: ds, .slot (i := i) (v := v) k r, s => by
    unfold back
    split
    · exact back_ok r (s.give k)
    · exact back_ok r s.drop

/-! ### displays -/
theorem ent_tup {Q : VK} : tEv X C W (.tup cs) σ H Q → tTup (tEs X C W cs) σ H Q := fun ⟨F, ρ, ss, h⟩ => by
  rw [evE, R.thn_bind] at h
  refine ⟨F, ρ, ss, h.mono (fun p hp vs H1 l s1 => ?_) fun _ _ z => z⟩
  obtain ⟨q, e, k⟩ := R.thn_of hp
  split at e
  · rename_i z
    cases e
    rw [Bool.and_eq_true] at z
    refine ⟨by rw [← l]; exact szOk_le z.2, fun a ha => k (.ref a) _ ⟨s1.wd, ?_⟩⟩
    have st := s1.st
    rw [List.append_assoc] at st
    refine St.newT ?_ (isFzs_frzs _ z.1) ha (St.freezes l st)
    rw [frzs_map, List.length_map]
    exact l
  · cases e
theorem ent_lst {Q : VK} : tEv X C W (.lst cs) σ H Q → tLst (tEs X C W cs) σ H Q := fun ⟨F, ρ, ss, h⟩ => by
  rw [evE, R.thn_bind] at h
  refine ⟨F, ρ, ss, h.mono (fun p hp vs H1 l s1 => ?_) fun _ _ z => z⟩
  obtain ⟨q, e, k⟩ := R.thn_of hp
  split at e
  · rename_i z
    cases e
    refine ⟨by rw [← l]; exact szOk_le z, fun a ha => k (.ref a) _ ⟨s1.wd, ?_⟩⟩
    have st := s1.st
    rw [List.append_assoc] at st
    exact St.newL l ha st
  · cases e

/-! ### calls -/
theorem ent_call {f : Str} {Q : VK} : tEv X C W (.call f cs) σ H Q → tCallSD (spF X.K X.mg (C.fns f)) [] (WE W) (tRs X C W cs) σ H Q := fun ⟨F, ρ, ss, h⟩ => by
  rw [evE, R.thn_bind] at h
  refine ⟨F, ρ, ss, h.mono (fun p hp vs T H1 rv s1 => ?_) fun _ _ z => z⟩
  rw [R.thn_bind] at hp
  obtain ⟨q, e, k⟩ := R.thn_of hp
  obtain ⟨l, s2⟩ := lend_ok rv s1 e
  rw [List.append_nil]
  refine ⟨q.1, F ++ rts q.2 σ, l, by rw [← List.append_assoc]; exact s2.st, ?_⟩
  cases hf : C.fns f q.1 with
  | fail =>
    rw [hf] at k
    exact k.elim
  | ok r =>
    rw [hf] at k
    intro v H' st
    refine k v H' ?_
    have s3 : SS X.K X.mg H' (r.2.zip vs ++ ((r.1, v) :: F)) q.2 σ := ⟨s2.wd, by
      refine st.perm ?_
      rw [← List.append_assoc]
      exact (List.perm_middle (a := (r.1, v)) (l₁ := r.2.zip vs) (l₂ := F)).symm.append_right _⟩
    exact back_ok rv s3
  | exc x ds =>
    rw [hf] at k
    intro cls d H' ws xa st
    refine k cls d H' ws xa ?_
    have s3 : SS X.K X.mg H' (ds.zip vs ++ (x.xs.zip ws ++ F)) q.2 σ := ⟨s2.wd, by
      refine st.perm ?_
      rw [← List.append_assoc, ← List.append_assoc, ← List.append_assoc]
      exact (List.perm_append_comm.append_right _).append_right _⟩
    exact back_ok rv s3
theorem snd_call {f : Str} {p : Pos} (g : Gd Γ X C W) (hf : f ∈ Γ.fl) (hg : Gl X f) (ha : PA X (e :: es) (tRs X C W cs)) (hdb : (f == ("__debug__" : Str)) = false)
    (he : starEach (e :: es) X.env = (false, eval e X.env) :: starEach es X.env) (hpl : (backTo pos (starEach es X.env)).any (·.1) = false) : PE X (.Call (.Name f p) (e :: es) [] pos) (tEv X C W (.call f cs)) := by
  obtain ⟨j, fa, fd, ps, h1, h2, h3, h4, h5⟩ := g.fns f hf
  exact pe_imp (pe_callSD h5 h4 hg h1 h2 h3 .nil (fun σ => passAt g.tk σ) ha hdb he hpl) fun _ _ _ => ent_call
theorem snd_call0 {f : Str} {p : Pos} (g : Gd Γ X C W) (hf : f ∈ Γ.fl) (hg : Gl X f) (hdb : (f == ("__debug__" : Str)) = false) : PE X (.Call (.Name f p) [] [] pos) (tEv X C W (.call f .nil)) := by
  obtain ⟨j, fa, fd, ps, h1, h2, h3, h4, h5⟩ := g.fns f hf
  refine ⟨fun pins s σ H Q I h => ?_⟩
  obtain ⟨F, ρ, ss, h⟩ := ent_call h
  rw [evRs] at h
  have h := h [] [] H .nil ss
  refine wpAny_Call_Name_kw (ld_glob I hg h1 ?_ hdb)
  exact PySem.W.callWith_K0 I.kIn h2 (run_fnSD (us := []) (vs := []) h5 h4 h3 .nil (passAt g.tk σ) I .nil h)
theorem ent_bi {b : BI} {Q : VK} : tEv X C W (.bi b cs) σ H Q → tCB (rBi X b) (tRs X C W cs) σ H Q := fun ⟨F, ρ, ss, h⟩ => by
  rw [evE, R.thn_bind] at h
  refine ⟨F, ρ, ss, h.mono (fun p hp vs T H1 rv s1 => ?_) fun _ _ z => z⟩
  obtain ⟨q, e, k⟩ := R.thn_of hp
  obtain ⟨d, e1, e2⟩ := Option.map_eq_some_iff.mp e
  obtain ⟨ds, e3, e4⟩ := Option.bind_eq_some_iff.mp e1
  subst e2
  exact ⟨_, ds, d, s1.st, gets_ms s1 rv (List.subset_append_left _ _) e3, e4, fun v H' st => k v H' (SS.fin s1.wd st (List.sublist_append_right _ _))⟩
theorem snd_bi {b : BI} {p : Pos} (g : Gd Γ X C W) (hb : biN b ∈ Γ.bl) (hg : Gl X (biN b)) (ha : PA X (e :: es) (tRs X C W cs))
    (he : starEach (e :: es) X.env = (false, eval e X.env) :: starEach es X.env) (hpl : (backTo pos (starEach es X.env)).any (·.1) = false) : PE X (.Call (.Name (biN b) p) (e :: es) [] pos) (tEv X C W (.bi b cs)) := by
  refine pe_imp ?_ fun _ _ _ => ent_bi
  have hm := g.blt _ hb
  have hv := biN_boot b
  obtain ⟨hn, hd⟩ := biN_name b
  have hc := cr_bi g.calm b
  cases b <;> first
    | exact pe_callB hc hg hm hv ha hn hd he hpl
    | exact pe_callTy hc hg hm hv ha hn hd he hpl

/-! ### subscripts, slices, signs -/
theorem SS.isInt (s : SS K mg H ((d, v) :: F) ρ σ) {i : Int} (e : asI d = some i) : v = .int i := by
  cases d with
  | int j =>
    cases e
    obtain ⟨Hf, fp, S⟩ := s.st
    obtain ⟨f, r⟩ := S.at (List.mem_cons_self)
    exact r.1
  | _ => cases e
theorem SS.isBl (s : SS K mg H ((d, v) :: F) ρ σ) {i : Bool} (e : asB d = some i) : v = .bl i := by
  cases d with
  | bl j =>
    cases e
    obtain ⟨Hf, fp, S⟩ := s.st
    obtain ⟨f, r⟩ := S.at (List.mem_cons_self)
    exact r.1
  | _ => cases e
theorem snd_ono : PO X none (tOo X C W .none) := ⟨fun pins s σ H Q I h => by
  obtain ⟨F, ρ, ss, h⟩ := h
  rw [evO] at h
  exact po_none.run pins s σ H Q I (h H ss)⟩
theorem snd_osm (he : PE X e (tEv X C W c)) : PO X (some e) (tOo X C W (.some c)) := ⟨fun pins s σ H Q I h => by
  obtain ⟨F, ρ, ss, h⟩ := h
  rw [evO, R.thn_bind] at h
  refine (po_some he).run pins s σ H Q I ⟨F, ρ, ss, h.mono (fun p hp v H1 s1 => ?_) fun _ _ z => z⟩
  obtain ⟨q, e, k⟩ := R.thn_of hp
  obtain ⟨i, e1, e2⟩ := Option.map_eq_some_iff.mp e
  subst e2
  exact ⟨i, s1.isInt e1, k H1 s1.drop⟩⟩
theorem snd_slc {lo hi : Option Expr} {l u : CO} {p2 : Pos} (h1 : PE X e (tRf X C W c)) (h2 : PO X lo (tOo X C W l)) (h3 : PO X hi (tOo X C W u)) : PE X (.Subscript e (.Slice lo hi none p2) pos) (tEv X C W (.slc c l u)) :=
  pe_imp (pe_slice sl_any h1 h2 h3) fun σ H Q ⟨F, ρ, ss, h⟩ => by
    rw [evE, R.thn_bind] at h
    refine ⟨F, ρ, ss, h.mono (fun p hp v T H1 k s1 => ?_) fun _ _ z => z⟩
    rw [R.thn_bind] at hp
    refine ⟨T ++ F, p.2, s1, hp.mono (fun q hq H2 s2 => ?_) fun _ _ z => z.sub (List.sublist_append_right _ _)⟩
    rw [R.thn_bind] at hq
    refine ⟨T ++ F, q.2, s2, hq.mono (fun r hr H3 s3 => ?_) fun _ _ z => z.sub (List.sublist_append_right _ _)⟩
    obtain ⟨pp, e, kk⟩ := R.thn_of hr
    obtain ⟨d, e1, e2⟩ := Option.map_eq_some_iff.mp e
    obtain ⟨x, e3, e4⟩ := Option.bind_eq_some_iff.mp e1
    subst e2
    refine ⟨_, x, d, s3.st, ?_, e4, fun v H' st => kk v H' (SS.fin s3.wd st (List.sublist_append_right _ _))⟩
    have m := rf_mem s3 k e3
    simp only [List.mem_append] at m ⊢
    rcases m with m | m
    · exact .inl (.inl m)
    · exact .inr m
theorem snd_idx (h1 : PE X a (tRf X C W c1)) (h2 : PE X b (tRf X C W c2)) (hs : PlainIx b) : PE X (.Subscript a b pos) (tEv X C W (.idx c1 c2)) := pe_imp (pe_ix ix_any h1 h2 hs) fun _ _ _ => ent_idx
theorem snd_bin {op : Operator} (h1 : PE X a (tRf X C W c1)) (h2 : PE X b (tRf X C W c2)) : PE X (.BinOp a op b pos) (tEv X C W (.bin op c1 c2)) := pe_imp (pe_op op_bin h1 h2) fun _ _ _ => ent_bin
theorem snd_cmp {op : CmpOp} (hu : X.A.units + 64 < cLine) (h1 : PE X a (tRf X C W c1)) (h2 : PE X b (tRf X C W c2)) (hm : behindInMarks op b = false) : PE X (.Compare a [op] [b] pos) (tEv X C W (.cmp op c1 c2)) :=
  pe_imp (pe_cmpR (op_cmpA hu) h1 h2 hm) fun _ _ _ => ent_cmp
theorem tnd_cmp {op : CmpOp} (hu : X.A.units + 64 < cLine) (h1 : PE X a (tRf X C W c1)) (h2 : PE X b (tRf X C W c2)) (hm : behindInMarks op b = false) : PT X (.Compare a [op] [b] pos) (tTs X C W (.cmp op c1 c2)) :=
  pt_imp (pt_cmpR (op_cmpA hu) h1 h2 hm) fun _ _ _ => ent_cmpT
theorem snd_neg (h1 : PE X a (tEv X C W c)) : PE X (.UnaryOp .USub a pos) (tEv X C W (.neg c)) := pe_imp (pe_un un_neg h1) fun σ H Q ⟨F, ρ, ss, h⟩ => by
  rw [evE, R.thn_bind] at h
  refine ⟨F, ρ, ss, h.mono (fun p hp v H1 s1 => ?_) fun _ _ z => z⟩
  obtain ⟨q, e, k⟩ := R.thn_of hp
  obtain ⟨i, e1, e2⟩ := Option.map_eq_some_iff.mp e
  subst e2
  exact ⟨i, s1.isInt e1, k _ _ (s1.drop.int _)⟩
/-! ### and, or, not, if -/
variable {t t1 t2 : CT} {rest : List Expr}
theorem snd_ifx {q : Expr} (ht : PT X q (tTs X C W t)) (h1 : PE X a (tEv X C W c1)) (h2 : PE X b (tEv X C W c2)) : PE X (.IfExp q a b pos) (tEv X C W (.ifx t c1 c2)) := pe_imp (pe_ifExp ht h1 h2) fun σ H Q ⟨F, ρ, ss, h⟩ => by
  rw [evE, R.thn_bind] at h
  refine ⟨F, ρ, ss, h.mono (fun p hp H1 s1 => ?_) fun _ _ z => z⟩
  cases hb : p.1 with
  | true =>
    rw [hb, if_pos rfl] at hp
    rw [if_pos rfl]
    exact ⟨F, p.2, s1, hp⟩
  | false =>
    rw [hb, if_neg Bool.false_ne_true] at hp
    rw [if_neg Bool.false_ne_true]
    exact ⟨F, p.2, s1, hp⟩
theorem snd_notv (h1 : PE X a (tEv X C W c)) : PE X (.UnaryOp .Not a pos) (tEv X C W (.notv c)) := pe_imp (pe_not h1) fun σ H Q ⟨F, ρ, ss, h⟩ => by
  rw [evE, R.thn_bind] at h
  refine ⟨F, ρ, ss, h.mono (fun p hp v H1 s1 => ?_) fun _ _ z => z⟩
  obtain ⟨q, e, k⟩ := R.thn_of hp
  obtain ⟨i, e1, e2⟩ := Option.map_eq_some_iff.mp e
  subst e2
  exact ⟨i, s1.isBl e1, k _ _ (s1.drop.bl _)⟩
theorem snd_andv (h1 : PE X a (tEv X C W c1)) (h2 : PE X (.BoolOp .And (b :: rest) pos) (tEv X C W c2)) : PE X (.BoolOp .And (a :: b :: rest) pos) (tEv X C W (.andv c1 c2)) := pe_imp (pe_and h1 h2) fun σ H Q ⟨F, ρ, ss, h⟩ => by
  rw [evE, R.thn_bind] at h
  refine ⟨F, ρ, ss, h.mono (fun p hp v H1 s1 => ?_) fun _ _ z => z⟩
  rw [R.thn_bind] at hp
  obtain ⟨i, e1, k⟩ := R.thn_of hp
  refine ⟨i, s1.isBl e1, ?_⟩
  cases i with
  | true =>
    rw [if_pos rfl] at k ⊢
    exact ⟨F, p.2, s1.drop, k⟩
  | false =>
    rw [if_neg Bool.false_ne_true] at k ⊢
    exact k _ _ (s1.drop.bl _)
theorem snd_orv (h1 : PE X a (tEv X C W c1)) (h2 : PE X (.BoolOp .Or (b :: rest) pos) (tEv X C W c2)) : PE X (.BoolOp .Or (a :: b :: rest) pos) (tEv X C W (.orv c1 c2)) := pe_imp (pe_or h1 h2) fun σ H Q ⟨F, ρ, ss, h⟩ => by
  rw [evE, R.thn_bind] at h
  refine ⟨F, ρ, ss, h.mono (fun p hp v H1 s1 => ?_) fun _ _ z => z⟩
  rw [R.thn_bind] at hp
  obtain ⟨i, e1, k⟩ := R.thn_of hp
  refine ⟨i, s1.isBl e1, ?_⟩
  cases i with
  | true =>
    rw [if_pos rfl] at k ⊢
    exact k _ _ (s1.drop.bl _)
  | false =>
    rw [if_neg Bool.false_ne_true] at k ⊢
    exact ⟨F, p.2, s1.drop, k⟩
theorem snd_one {op : BoolOp} (h1 : PE X a (tEv X C W c)) : PE X (.BoolOp op [a] pos) (tEv X C W c) := pe_one h1
theorem pw_imp {u u' : TT} (h : PW X e u) (i : ∀ σ H Q, u' σ H Q → u σ H Q) : PW X e u' := ⟨fun wh pins s σ H Q I q => h.run wh pins s σ H Q I (i σ H Q q)⟩
theorem wnd_and (h1 : PT X a (tTs X C W t1)) (h2 : PW X (.BoolOp .And (b :: rest) pos) (tTs X C W t2)) : PW X (.BoolOp .And (a :: b :: rest) pos) (tTs X C W (.and t1 t2)) := pw_imp (pw_and h1 h2) fun σ H Q ⟨F, ρ, ss, h⟩ => by
  rw [evT, R.thn_bind] at h
  refine ⟨F, ρ, ss, h.mono (fun p hp H1 s1 => ?_) fun _ _ z => z⟩
  cases hb : p.1 with
  | true =>
    rw [hb, if_pos rfl] at hp
    rw [if_pos rfl]
    exact ⟨F, p.2, s1, hp⟩
  | false =>
    rw [hb, if_neg Bool.false_ne_true] at hp
    rw [if_neg Bool.false_ne_true]
    exact hp H1 s1
theorem wnd_or (h1 : PT X a (tTs X C W t1)) (h2 : PW X (.BoolOp .Or (b :: rest) pos) (tTs X C W t2)) : PW X (.BoolOp .Or (a :: b :: rest) pos) (tTs X C W (.or t1 t2)) := pw_imp (pw_or h1 h2) fun σ H Q ⟨F, ρ, ss, h⟩ => by
  rw [evT, R.thn_bind] at h
  refine ⟨F, ρ, ss, h.mono (fun p hp H1 s1 => ?_) fun _ _ z => z⟩
  cases hb : p.1 with
  | true =>
    rw [hb, if_pos rfl] at hp
    rw [if_pos rfl]
    exact hp H1 s1
  | false =>
    rw [hb, if_neg Bool.false_ne_true] at hp
    rw [if_neg Bool.false_ne_true]
    exact ⟨F, p.2, s1, hp⟩
theorem wnd_one1 (h1 : PT X a (tTs X C W t)) : PW X (.BoolOp .And [a] pos) (tTs X C W t) := pw_and1 h1
theorem wnd_one2 (h1 : PT X a (tTs X C W t)) : PW X (.BoolOp .Or [a] pos) (tTs X C W t) := pw_or1 h1
theorem tnd_not (h1 : PT X a (tTs X C W t)) : PT X (.UnaryOp .Not a pos) (tTs X C W (.not t)) := pt_imp (pt_not h1) fun σ H Q ⟨F, ρ, ss, h⟩ => by
  rw [evT, R.thn_map] at h
  exact ⟨F, ρ, ss, h⟩
theorem tnd_val (h1 : PE X a (tRf X C W c)) (he : ∀ whole, isTrue a X.env whole = (do let v ← whole; standAt a.pos; holding [v] (truthy v))) : PT X a (tTs X C W (.val c)) := pt_imp (pt_truth h1 he) fun σ H Q ⟨F, ρ, ss, h⟩ => by
  rw [evT, R.thn_bind] at h
  refine ⟨F, ρ, ss, h.mono (fun p hp v T H1 k s1 => ?_) fun _ _ z => z⟩
  obtain ⟨q, e, kk⟩ := R.thn_of hp
  obtain ⟨d, e1, e2⟩ := Option.map_eq_some_iff.mp e
  obtain ⟨x, e3, e4⟩ := Option.bind_eq_some_iff.mp e1
  subst e2
  refine ⟨d, tru_any s1.st ?_ e4, kk H1 (s1.sub (List.sublist_append_right _ _))⟩
  have m := rf_mem s1 k e3
  simp only [List.mem_append] at m ⊢
  rcases m with m | m
  · exact .inl (.inl m)
  · exact .inr m
/-! ### a op b op' c -/
theorem ent_chain {op op' : CmpOp} {Q : VK} : tEv X C W (.chain op op' c1 c2 c3) σ H Q → tChain (rC X (cmpD op)) (rC X (cmpD op')) (tEv X C W c1) (tEv X C W c2) (tEv X C W c3) σ H Q := fun ⟨F, ρ, ss, h⟩ => by
  rw [evE, R.thn_bind] at h
  refine ⟨F, ρ, ss, h.mono (fun p hp x H1 s1 => ?_) fun _ _ z => z⟩
  rw [R.thn_bind] at hp
  refine ⟨(p.1, x) :: F, p.2, s1, hp.mono (fun q hq y H2 s2 => ?_) fun _ _ z => z.sub (List.sublist_cons_self _ _)⟩
  rw [R.thn_bind] at hq
  obtain ⟨k, e, h3⟩ := R.thn_of hq
  refine ⟨_, p.1, q.1, k, s2.st, List.mem_cons_of_mem _ List.mem_cons_self, List.mem_cons_self, e, k, rfl, ?_⟩
  cases k with
  | false =>
    rw [if_neg Bool.false_ne_true] at h3 ⊢
    exact h3 _ _ ((s2.sub ((List.sublist_cons_self _ _).trans (List.sublist_cons_self _ _))).bl _)
  | true =>
    rw [if_pos rfl, R.thn_bind] at h3
    rw [if_pos rfl]
    refine ⟨(q.1, y) :: F, q.2, s2.sub ((List.sublist_cons_self _ _).cons_cons _), h3.mono (fun r hr w H3 s3 => ?_) fun _ _ z => z.sub (List.sublist_cons_self _ _)⟩
    obtain ⟨pp, e1, kk⟩ := R.thn_of hr
    obtain ⟨b, e2, e3⟩ := Option.map_eq_some_iff.mp e1
    subst e3
    exact ⟨_, q.1, r.1, b, s3.st, List.mem_cons_of_mem _ List.mem_cons_self, List.mem_cons_self, e2, kk _ _ ((s3.sub ((List.sublist_cons_self _ _).trans (List.sublist_cons_self _ _))).bl _)⟩
theorem snd_chain {e3 : Expr} {op op' : CmpOp} (hu : X.A.units + 64 < cLine) (h1 : PE X a (tEv X C W c1)) (h2 : PE X b (tEv X C W c2)) (h3 : PE X e3 (tEv X C W c3)) (hm : lastMarks [op, op'] [b, e3] = false) :
    PE X (.Compare a [op, op'] [b, e3] pos) (tEv X C W (.chain op op' c1 c2 c3)) := pe_imp (pe_chain (op_cmpA hu) (op_cmpA hu) h1 h2 h3 hm) fun _ _ _ => ent_chain
theorem tnd_chain {e3 : Expr} {op op' : CmpOp} (hu : X.A.units + 64 < cLine) (h1 : PE X a (tEv X C W c1)) (h2 : PE X b (tEv X C W c2)) (h3 : PE X e3 (tEv X C W c3)) (hm : lastMarks [op, op'] [b, e3] = false) :
    PT X (.Compare a [op, op'] [b, e3] pos) (tTs X C W (.chain op op' c1 c2 c3)) := pt_imp (pt_chain (op_cmpA hu) (op_cmpA hu) h1 h2 h3 hm) fun σ H Q ⟨F, ρ, ss, h⟩ => by
  refine ent_chain (Q := fun x H' => ∃ k, x = .bl k ∧ Q k H') ⟨F, ρ, ss, ?_⟩
  rw [evT, R.thn_bind] at h
  rw [evE, R.thn_bind]
  refine h.mono (fun p hp => ?_) fun _ _ z => z
  rw [R.thn_bind] at hp ⊢
  refine hp.mono (fun q hq => ?_) fun _ _ z => z
  rw [R.thn_bind] at hq ⊢
  refine hq.mono (fun k hk => ?_) fun _ _ z => z
  cases k with
  | false =>
    rw [if_neg Bool.false_ne_true] at hk ⊢
    intro v H' s
    exact ⟨false, s.isBl rfl, hk H' s.drop⟩
  | true =>
    rw [if_pos rfl, R.thn_bind] at hk ⊢
    refine hk.mono (fun r hr => ?_) fun _ _ z => z
    obtain ⟨pp, e1, kk⟩ := R.thn_of hr
    obtain ⟨b, e2, e3⟩ := Option.map_eq_some_iff.mp e1
    subst e3
    rw [e2]
    intro v H' s
    exact ⟨b, s.isBl rfl, kk H' s.drop⟩
end
end Cs
/-! Cs9a: what is stored into an owned list. -/
namespace Cs
open PySem L2
section
variable {K : PySem.W.Frag} {mg : Str → Option Value} {Hf H : Hp} {rs rs2 : Roots} {d e : D} {v w : V} {ds es : List D} {vs : List V} {f g : List Addr}
theorem Rps.append : ∀ {ds : List D} {vs : List V} {f : List Addr}, Rps K mg Hf H ds vs f → ∀ {es : List D} {ws : List V} {g : List Addr}, Rps K mg Hf H es ws g → Rps K mg Hf H (ds ++ es) (vs ++ ws) (f ++ g)
  | [], _, _, h, _, _, _, t => by
    obtain ⟨rfl, rfl⟩ := h
    exact t
  | d :: ds, _, _, ⟨v, vs', f1, f2, h1, h2, h3, h4⟩, _, _, _, t => by
    subst h1; subst h2
    exact ⟨v, vs' ++ _, f1, f2 ++ _, rfl, by rw [List.append_assoc], h3, h4.append t⟩
theorem Rps.one (h : Rp K mg Hf H d v f) : Rps K mg Hf H [d] [v] f := ⟨v, [], f, [], rfl, by rw [List.append_nil], h, rfl, rfl⟩
theorem Rps.set : ∀ {ds : List D} {vs : List V} {f : List Addr} {j : Nat}, Rps K mg Hf H ds vs f → j < ds.length → Rp K mg Hf H d w g → ∃ l g', l.Perm (f ++ g) ∧ List.Sublist g' l ∧ Rps K mg Hf H (ds.set j d) (vs.set j w) g'
  | [], _, _, _, _, hj, _ => absurd hj (Nat.not_lt_zero _)
  | d0 :: ds, _, _, 0, ⟨v, vs', f1, f2, h1, h2, h3, h4⟩, _, t => by
    subst h1; subst h2
    refine ⟨f1 ++ (g ++ f2), g ++ f2, ?_, List.sublist_append_right _ _, w, vs', g, f2, rfl, rfl, t, h4⟩
    rw [List.append_assoc]
    exact List.Perm.append_left _ List.perm_append_comm
  | d0 :: ds, _, _, j + 1, ⟨v, vs', f1, f2, h1, h2, h3, h4⟩, hj, t => by
    subst h1; subst h2
    obtain ⟨l, g', p, s, r⟩ := Rps.set (j := j) h4 (by simpa using hj) t
    refine ⟨f1 ++ l, f1 ++ g', ?_, (List.Sublist.refl _).append s, v, _, f1, g', rfl, rfl, h3, r⟩
    rw [List.append_assoc]
    exact List.Perm.append_left _ p
/-- an owned list is stored anew -/
theorem St.wr {ws : List V → List V} (h : St K mg H ((.lst true ds, v) :: rs))
    (step : ∀ Hf vs f f2, Rps K mg Hf H ds vs f → Rr K mg Hf H rs f2 → ∃ l g g2, l.Perm (f ++ f2) ∧ List.Sublist (g ++ g2) l ∧ Rps K mg Hf H es (ws vs) g ∧ Rr K mg Hf H rs2 g2) :
    ∃ a vs, v = .ref a ∧ H a = some (.lst vs) ∧ ds.length = vs.length ∧ St K mg (upd H a (.lst (ws vs))) ((.lst true es, v) :: rs2) := by
  obtain ⟨Hf, fp, ex, ⟨f1, f2, h1, ⟨a, vs, f, rfl, h2, h3, h4⟩, h5⟩, nd, dj⟩ := h
  subst h1; subst h2
  obtain ⟨l, g, g2, pl, sl, r1, r2⟩ := step Hf vs f f2 h4 h5
  have nd' : (a :: (f ++ f2)).Nodup := nd
  obtain ⟨n1, n2⟩ := List.nodup_cons.mp nd'
  have ha : Hf a = none := dj a List.mem_cons_self
  have sub : ∀ b, b ∈ g ++ g2 → b ∈ f ++ f2 := fun b hb => pl.mem_iff.mp (sl.subset hb)
  have ne : ∀ b, b ∈ g ++ g2 → b ≠ a := fun b hb q => n1 (by rw [← q]; exact sub b hb)
  refine ⟨a, vs, rfl, h3, h4.len, Hf, a :: (g ++ g2), fun b o e => ?_, ⟨a :: g, g2, rfl, ⟨a, ws vs, g, rfl, rfl, upd_same, Rps.mv (Evl.Ex.refl _) _ (fun b hb => upd_ne (ne b (List.mem_append_left _ hb))) r1⟩,
    r2.mv (Evl.Ex.refl _) fun b hb => upd_ne (ne b (List.mem_append_right _ hb))⟩, List.nodup_cons.mpr ⟨fun hb => n1 (sub a hb), sl.nodup (pl.nodup_iff.mpr n2)⟩, fun b hb => ?_⟩
  · rw [upd_ne fun q => by rw [q, ha] at e; cases e]
    exact ex b o e
  · rcases List.mem_cons.mp hb with q | q
    · rw [q]; exact ha
    · exact dj b (List.mem_cons_of_mem _ (sub b q))
theorem St.app (h : St K mg H ((.lst true ds, v) :: (d, w) :: rs)) : ∃ a vs, v = .ref a ∧ H a = some (.lst vs) ∧ ds.length = vs.length ∧ St K mg (upd H a (.lst (vs ++ [w]))) ((.lst true (ds ++ [d]), v) :: rs) :=
  St.wr (ws := fun vs => vs ++ [w]) h fun Hf vs f f2 r1 ⟨g1, g2, e, r2, r3⟩ => ⟨f ++ f2, f ++ g1, g2, .refl _, by rw [e, List.append_assoc]; exact .refl _, r1.append (Rps.one r2), r3⟩
theorem St.setL {j : Nat} (h : St K mg H ((.lst true ds, v) :: (d, w) :: rs)) (hj : j < ds.length) : ∃ a vs, v = .ref a ∧ H a = some (.lst vs) ∧ ds.length = vs.length ∧ St K mg (upd H a (.lst (vs.set j w))) ((.lst true (ds.set j d), v) :: rs) :=
  St.wr (ws := fun vs => vs.set j w) h fun Hf vs f f2 r1 ⟨g1, g2, e, r2, r3⟩ => by
    subst e
    obtain ⟨l, g', p, s, r⟩ := r1.set hj r2
    exact ⟨l ++ g2, g', g2, by rw [← List.append_assoc]; exact p.append_right _, s.append (.refl _), r, r3⟩
end
end Cs
/-! Cs9: targets, what is walked, comprehensions, statements. -/
namespace Cs
open PySem L2
mutual
def slotsG : CG → List Nat
  | .name i => [i]
  | .tup gs => slotsGs gs
def slotsGs : CGs → List Nat
  | .nil => []
  | .cons g gs => slotsG g ++ slotsGs gs
end
/-- all slots but these are as they were -/
def Chg (is : List Nat) (σ σ' : L2.St) : Prop := σ'.length = σ.length ∧ ∀ i, i ∉ is → σ'[i]? = σ[i]?
theorem Chg.refl {is : List Nat} {σ : L2.St} : Chg is σ σ := ⟨rfl, fun _ _ => rfl⟩
theorem Chg.trans {is js : List Nat} {σ σ1 σ2 : L2.St} (h1 : Chg is σ σ1) (h2 : Chg js σ1 σ2) : Chg (is ++ js) σ σ2 :=
  ⟨h2.1.trans h1.1, fun i hi => (h2.2 i fun h => hi (List.mem_append_right _ h)).trans (h1.2 i fun h => hi (List.mem_append_left _ h))⟩
theorem Chg.set {σ : L2.St} {i : Nat} {o : Option V} : Chg [i] σ (σ.set i o) := ⟨List.length_set, fun j hj => List.getElem?_set_ne fun e => hj (by rw [e]; exact List.mem_singleton.mpr rfl)⟩
theorem wipe_get {σ : L2.St} : ∀ {vs : List Nat} {i : Nat}, (wipe σ vs)[i]? = if i ∈ vs ∧ i < σ.length then some none else σ[i]?
  | [], i => by simp [wipe]
  | v :: vs, i => by
    show ((wipe σ vs).set v none)[i]? = _
    rw [List.getElem?_set, wipe_get (vs := vs), wipe_length]
    by_cases e : v = i
    · subst e
      by_cases l : v < σ.length
      · simp [l]
      · simp [l]
    · have e' : ¬ i = v := fun h => e h.symm
      simp [e, e']
theorem Chg.wipe {σ σ' : L2.St} {is vs : List Nat} (h : Chg is σ σ') (s : ∀ i ∈ is, i ∈ vs) : wipe σ' vs = wipe σ vs := by
  apply List.ext_getElem?
  intro i
  rw [wipe_get, wipe_get, h.1]
  by_cases hi : i ∈ vs
  · by_cases l : i < σ.length
    · rw [if_pos ⟨hi, l⟩, if_pos ⟨hi, l⟩]
    · rw [if_neg (fun z => l z.2), if_neg (fun z => l z.2), List.getElem?_eq_none (by rw [h.1]; omega), List.getElem?_eq_none (by omega)]
  · rw [if_neg (fun z => hi z.1), if_neg (fun z => hi z.1)]
    exact h.2 i fun z => hi (s i z)
theorem wipe_wipe {σ : L2.St} {vs : List Nat} : wipe (wipe σ vs) vs = wipe σ vs := by
  apply List.ext_getElem?
  intro i
  rw [wipe_get, wipe_get, wipe_length]
  split <;> rfl

section
variable (X : Cx) (C : Ctx) (W : WX)
def tTg (g : CG) : TG := fun v σ H Q => ∃ F ρ d ρ', SS X.K X.mg H ((d, v) :: F) ρ σ ∧ assign g d ρ = some ρ' ∧ ∀ σ', Chg (slotsG g) σ σ' → SS X.K X.mg H F ρ' σ' → Q σ' H
def tTgs (gs : CGs) : TGs := fun vs σ H Q => ∃ F ρ ds ρ', ds.length = vs.length ∧ SS X.K X.mg H (ds.zip vs ++ F) ρ σ ∧ assigns gs ds ρ = some ρ' ∧ ∀ σ', Chg (slotsGs gs) σ σ' → SS X.K X.mg H F ρ' σ' → Q σ' H
/-- an iterator that yields ds -/
def ItOk (K : PySem.W.Frag) (mg : Str → Option Value) (J : It) (ds : List D) (src : Roots) : Prop := ∃ G Y, Walk J ds.length G Y ∧ (∀ H rs, St K mg H rs → List.Subset src rs → G H) ∧
  ∀ i H x H' rs d, St K mg H rs → List.Subset src rs → ds[i]? = some d → Y i H x H' → St K mg H' ((d, x) :: rs)
def tIt (c : CI) : TI := fun σ H R => ∃ F ρ, SS X.K X.mg H F ρ σ ∧ (evI C c ρ).thn (fun p => ∀ J src H', ItOk X.K X.mg J p.1 src → SS X.K X.mg H' (src ++ F) p.2 σ → R J H') (ExcP X W F σ)
end
section
variable {X : Cx} {C : Ctx} {W : WX} {Γ : Gam} {e a b tg : Expr} {es : List Expr} {c c1 c2 c3 : CE} {cs : CEs} {g : CG} {gs : CGs} {pos : Pos} {σ σ' : L2.St} {H H' : Hp} {F G : Roots} {ρ ρ' : Env} {d : D} {v : V} {K : PySem.W.Frag} {mg : Str → Option Value}
theorem pg_imp {t t' : TG} (h : PG X tg t) (i : ∀ v σ H Q, t' v σ H Q → t v σ H Q) : PG X tg t' := ⟨fun pins s σ H v u Q I r q => h.run pins s σ H v u Q I r (i v σ H Q q)⟩
theorem pgs_imp {t t' : TGs} (h : PGs X es t) (i : ∀ v σ H Q, t' v σ H Q → t v σ H Q) : PGs X es t' := ⟨fun pins s σ H v u Q I r q => h.run pins s σ H v u Q I r (i v σ H Q q)⟩
theorem gnd_name {i : Nat} {x : Str} (hN : X.N.Nodup) (hi : X.N[i]? = some x) (hx : Loc X.env.scope x) (hf : X.fn x = true ∨ X.env.scope.names.lookup x = some .local) : PG X (.Name x pos) (tTg X (.name i)) :=
  pg_imp (pg_name hN hi hx hf) fun v σ H Q ⟨F, ρ, d, ρ', ss, e, k⟩ => by
    have e : (if i < ρ.length then some (ρ.set i d) else none) = some ρ' := e
    split at e
    · rename_i l
      cases e
      exact k _ Chg.set (ss.set l)
    · cases e
theorem gnd_nil : PGs X [] (tTgs X .nil) := pgs_imp pgs_nil fun vs σ H Q ⟨F, ρ, ds, ρ', l, ss, e, k⟩ => by
  cases ds with
  | cons _ _ => cases e
  | nil =>
    cases e
    cases vs with
    | cons _ _ => cases l
    | nil => exact ⟨rfl, k σ Chg.refl ss⟩
theorem gnd_cons (h1 : PG X e (tTg X g)) (h2 : PGs X es (tTgs X gs)) (hs : (assignEach (e :: es) X.env).map (·.2) = PySem.assign e X.env :: (assignEach es X.env).map (·.2)) : PGs X (e :: es) (tTgs X (.cons g gs)) :=
  pgs_imp (pgs_cons h1 h2 hs) fun vs σ H Q ⟨F, ρ, ds, ρ', l, ss, e, k⟩ => by
    cases ds with
    | nil => cases e
    | cons d ds =>
      cases vs with
      | nil => cases l
      | cons v vs =>
        obtain ⟨ρ1, e1, e2⟩ := Option.bind_eq_some_iff.mp (show (assign g d ρ).bind (assigns gs ds) = some ρ' from e)
        refine ⟨v, vs, rfl, ds.zip vs ++ F, ρ, d, ρ1, ss, e1, fun σ1 c1 s1 => ?_⟩
        exact ⟨F, ρ1, ds, ρ', by simpa using l, s1, e2, fun σ2 c2 s2 => k σ2 (c1.trans c2) s2⟩
theorem Stt.adds {Hf : Hp} {fp : List Addr} {rs : Roots} : ∀ {ds : List D} {vs : List V}, Stt K mg Hf H fp rs → Fzs K mg Hf ds vs → Stt K mg Hf H fp (ds.zip vs ++ rs)
  | _, _, s, .nil => s
  | _, _, s, .cons h t => (s.adds t).add (h.2 H)
theorem gnd_tup {k : Nat} (hc : X.calm = true) (h : PGs X es (tTgs X gs)) (hst : (assignEach es X.env).findIdx? (·.1) = none) (hl : (assignEach es X.env).length = es.length) (hn : ∀ ds ρ ρ', assigns gs ds ρ = some ρ' → ds.length = es.length) :
    PG X (.Tuple es k pos) (tTg X (.tup gs)) := pg_imp (pg_tup (n := es.length) hc h hl hst) fun v σ H Q ⟨F, ρ, d, ρ', ss, e, k⟩ => by
  cases d with
  | tup ds =>
    have e : (if isFzs ds = true then assigns gs ds ρ else none) = some ρ' := e
    split at e
    · rename_i z
      obtain ⟨Hf, fp, S⟩ := ss.st
      obtain ⟨a, vs, rfl, q1, l1, w, _⟩ := S.tup (List.mem_cons_self)
      refine ⟨a, vs, rfl, q1, by rw [← l1]; exact hn ds ρ ρ' e, F, ρ, ds, ρ', l1, ⟨ss.wd, ?_⟩, e, k⟩
      have S2 := S.adds (w z)
      have st2 := S2.st.perm (List.perm_middle (l₁ := ds.zip vs))
      have st3 := st2.drop
      rw [List.append_assoc]
      exact st3
    · cases e
  | _ => cases e
theorem assigns_len : ∀ {gs : CGs} {ds : List D} {ρ ρ' : Env} {n : Nat}, (∀ ds ρ ρ', assigns gs ds ρ = some ρ' → ds.length = n) → ∀ ds ρ ρ', assigns (.cons g gs) ds ρ = some ρ' → ds.length = n + 1 := fun {gs _ _ _ n} h ds ρ ρ' e => by
  cases ds with
  | nil => cases e
  | cons d ds =>
    obtain ⟨ρ1, e1, e2⟩ := Option.bind_eq_some_iff.mp (show (assign g d ρ).bind (assigns gs ds) = some ρ' from e)
    rw [List.length_cons, h ds ρ1 ρ' e2]

/-! ### what is walked -/
theorem pi_imp {w w' : TI} {it : Expr} (h : PI X tg it w) (i : ∀ σ H R, w' σ H R → w σ H R) : PI X tg it w' := ⟨fun pins s σ H R I q => h.run pins s σ H R I (i σ H R q)⟩
def iSeq (K : PySem.W.Frag) (tl : TE) : TI := fun σ H R => tl σ H fun x H1 => ∃ a, x = .ref a ∧ ((∃ xs, SqL K H1 a xs ∧ R (Itl K a) H1) ∨ (∃ xs, SqT K H1 a xs ∧ R (Itt K a) H1))
theorem pi_seq {l : Expr} {tl : TE} (hl : PE X l tl) : PI X tg l (iSeq X.K tl) := by
  refine ⟨fun pins s σ H R I h => thn (hl.run pins s σ H _ I h) fun v s1 hv => ?_⟩
  obtain ⟨x, H1, I1, r1, a, ex, q1⟩ := hv
  subst ex
  cases r1
  have new : ∀ b, b ∈ [s1.heap.objs.size] → FpOk X pins H1 b := fun b hb => by
    rw [List.mem_singleton.mp hb]
    exact I1.fpOk (Nat.le_refl _) (I1.hok.fresh (Nat.le_refl _))
  rcases q1 with ⟨xs, hq, q⟩ | ⟨xs, hq, q⟩
  · obtain ⟨its, rv, pl, _⟩ := I1.list hq
    exact wpAny_pyIter_list pl.isList ⟨_, [s1.heap.objs.size], _, _, H1, rfl, I1.kept (t' := s1.toks) (fun _ _ e => Heap.get?_push_of_some _ e), turn_list a _, ⟨_, Heap.get?_push_size _ rfl, rfl, rfl⟩, new, q⟩
  · obtain ⟨its, rv, pl, _⟩ := I1.tuple hq
    exact wpAny_pyIter_tuple (show s1.heap.IsTuple a its.toArray from pl) ⟨_, [s1.heap.objs.size], _, _, H1, rfl, I1.kept (t' := s1.toks) (fun _ _ e => Heap.get?_push_of_some _ e), turn_tuple a _, ⟨_, Heap.get?_push_size _ rfl, rfl, rfl⟩, new, q⟩
/-- the frozen form of what is walked -/
theorem seqOf_frz {d : D} {ds : List D} (h : seqOf d = some ds) : seqOf (frz d) = some (frzs ds) := by
  cases d <;> first | (cases h; rfl) | cases h
theorem nList_frz {d : D} {ds : List D} (h : nList d = some ds) : nList (frz d) = some (frzs ds) := by
  cases d <;> first | (cases h; rfl) | cases h
theorem St.pick {ds : List D} {xs : List V} {i : Nat} {d1 : D} {x : V} {Hf : Hp} {fp : List Addr} (S : Stt K mg Hf H fp F) (z : Fzs K mg Hf ds xs) (e1 : ds[i]? = some d1) (e2 : xs[i]? = some x) : St K mg H ((d1, x) :: F) := by
  obtain ⟨w, q1, q2⟩ := z.get e1
  rw [e2] at q1
  cases q1
  exact (S.add (q2.2 H)).st
theorem it_list {d : D} {a : Addr} {ds : List D} (h : nList d = some ds) (z : isFzs ds = true) : ItOk K mg (Itl K a) ds [(d, .ref a)] := by
  refine ⟨fun H => ∃ xs, xs.length = ds.length ∧ SqL K H a xs, fun i H x H' => H' = H ∧ ∀ xs, SqL K H a xs → xs[i]? = some x, ⟨fun i H hi ⟨xs, l, q⟩ => ⟨xs, xs[i]'(by omega), q, by simp [show i < xs.length by omega]⟩, fun H ⟨xs, l, q⟩ => ⟨xs, q, by omega⟩, fun i H x H' _ _ y => y⟩, fun H rs st sb => ?_, fun i H x H' rs d1 st sb e y => ?_⟩
  · obtain ⟨Hf, fp, S⟩ := st
    obtain ⟨b, vs, q0, q1, l1, _⟩ := S.nls (sb List.mem_cons_self) h
    cases q0
    exact ⟨vs, l1.symm, q1⟩
  · obtain ⟨Hf, fp, S⟩ := st
    obtain ⟨b, vs, q0, q1, l1, w, _⟩ := S.nls (sb List.mem_cons_self) h
    cases q0
    obtain ⟨rfl, y⟩ := y
    exact St.pick S (w z) e (y vs q1)
theorem it_tup {a : Addr} {ds : List D} (z : isFzs ds = true) : ItOk K mg (Itt K a) ds [(.tup ds, .ref a)] := by
  refine ⟨fun H => ∃ xs, xs.length = ds.length ∧ SqT K H a xs, fun i H x H' => H' = H ∧ ∀ xs, SqT K H a xs → xs[i]? = some x, ⟨fun i H hi ⟨xs, l, q⟩ => ⟨xs, xs[i]'(by omega), q, by simp [show i < xs.length by omega]⟩, fun H ⟨xs, l, q⟩ => ⟨xs, q, by omega⟩, fun i H x H' _ _ y => y⟩, fun H rs st sb => ?_, fun i H x H' rs d1 st sb e y => ?_⟩
  · obtain ⟨Hf, fp, S⟩ := st
    obtain ⟨b, vs, q0, q1, l1, _⟩ := S.tup (sb List.mem_cons_self)
    cases q0
    exact ⟨vs, l1.symm, q1⟩
  · obtain ⟨Hf, fp, S⟩ := st
    obtain ⟨b, vs, q0, q1, l1, w, _⟩ := S.tup (sb List.mem_cons_self)
    cases q0
    obtain ⟨rfl, y⟩ := y
    exact St.pick S (w z) e (y vs q1)
theorem it_rng {lo hi : Int} : ItOk K mg (Itr lo (hi - lo).toNat) (rangeD lo hi) [] := by
  have hl : (rangeD lo hi).length = (hi - lo).toNat := by unfold rangeD; rw [List.length_map, List.length_range]
  refine ⟨fun _ => True, fun i H x H' => H' = H ∧ x = .int (lo + i), by rw [hl]; exact walk_range, fun _ _ _ _ => trivial, fun i H x H' rs d1 st sb e y => ?_⟩
  obtain ⟨rfl, rfl⟩ := y
  have e2 : d1 = .int (lo + i) := by
    unfold rangeD at e
    rw [List.getElem?_map] at e
    obtain ⟨j, e3, e4⟩ := Option.map_eq_some_iff.mp e
    rw [← e4]
    have := List.getElem?_eq_some_iff.mp e3
    obtain ⟨hj, e5⟩ := this
    rw [List.getElem_range] at e5
    rw [e5]
  subst e2
  exact st.int _
theorem ind_seq (he : PE X e (tEv X C W c)) : PI X tg e (tIt X C W (.seq c)) := pi_imp (pi_seq he) fun σ H Rr ⟨F, ρ, ss, h⟩ => by
  rw [evI, R.thn_bind] at h
  refine ⟨F, ρ, ss, h.mono (fun p hp v H1 s1 => ?_) fun _ _ z => z⟩
  obtain ⟨q, e, k⟩ := R.thn_of hp
  obtain ⟨ds, e1, e2⟩ := Option.map_eq_some_iff.mp e
  subst e2
  obtain ⟨es, e3, e4⟩ := Option.bind_eq_some_iff.mp (show (seqOf p.1).bind (fun ds => if fulls ds = true then some (frzs ds) else none) = some ds from e1)
  split at e4
  · rename_i z
    cases e4
    have s2 : SS X.K X.mg H1 ((frz p.1, v) :: F) p.2 σ := s1.map St.freeze
    have zz := isFzs_frzs es z
    have sq := seqOf_frz e3
    obtain ⟨Hf, fp, S⟩ := s2.st
    cases hd : frz p.1 with
    | tup xs =>
      rw [hd] at sq S s2
      cases sq
      obtain ⟨a, vs, rfl, q1, _⟩ := S.tup (List.mem_cons_self)
      exact ⟨a, rfl, .inr ⟨vs, q1, k _ _ _ (it_tup zz) s2⟩⟩
    | lst o xs =>
      rw [hd] at sq S s2
      have sq' : nList (.lst o xs) = some (frzs es) := sq
      obtain ⟨a, vs, rfl, q1, _⟩ := S.nls (List.mem_cons_self) sq'
      exact ⟨a, rfl, .inl ⟨vs, q1, k _ _ _ (it_list sq' zz) s2⟩⟩
    | lkd xs =>
      rw [hd] at sq S s2
      have sq' : nList (.lkd xs) = some (frzs es) := sq
      obtain ⟨a, vs, rfl, q1, _⟩ := S.nls (List.mem_cons_self) sq'
      exact ⟨a, rfl, .inl ⟨vs, q1, k _ _ _ (it_list sq' zz) s2⟩⟩
    | _ =>
      rw [hd] at sq
      cases sq
  · cases e4
theorem itRng_some {lo hi : Int} {ds : List D} (h : itRng lo hi = some ds) : ds = rangeD lo hi ∧ -(2 ^ 62) ≤ lo ∧ lo < 2 ^ 62 ∧ -(2 ^ 62) ≤ hi ∧ hi < 2 ^ 62 := by
  unfold itRng at h
  split at h
  · rename_i z
    cases h
    rw [Bool.and_eq_true] at z
    obtain ⟨z1, z2⟩ := z
    have z1 := of_decide_eq_true (p := _ ∧ _) z1
    have z2 := of_decide_eq_true (p := _ ∧ _) z2
    exact ⟨rfl, z1.1, z1.2, z2.1, z2.2⟩
  · cases h
theorem ind_rng1 {p : Pos} (hg : Gl X "range") (hm : X.mg "range" = none) (ha : PE X a (tEv X C W c)) (hs : starEach [a] X.env = [(false, eval a X.env)]) : PI X tg (.Call (.Name "range" p) [a] [] pos) (tIt X C W (.rng1 c)) :=
  pi_imp (pi_range1 hg hm (pa_cons ha pa_nil (by rw [hs]; rfl)) hs) fun σ H Rr ⟨F, ρ, ss, h⟩ => by
    rw [evI, R.thn_bind] at h
    refine ⟨F, ρ, ss, h.mono (fun p hp v H1 s1 => ?_) fun _ _ z => z⟩
    obtain ⟨q, e, k⟩ := R.thn_of hp
    obtain ⟨ds, e1, e2⟩ := Option.map_eq_some_iff.mp e
    obtain ⟨i, e3, e4⟩ := Option.bind_eq_some_iff.mp e1
    subst e2
    obtain ⟨rfl, _, _, b3, b4⟩ := itRng_some e4
    have ev := s1.isInt e3
    subst ev
    have io := it_rng (K := X.K) (mg := X.mg) (lo := 0) (hi := i)
    rw [show i - 0 = i by omega] at io
    exact ⟨i, rfl, b3, b4, k _ [] _ io s1.drop⟩
theorem ind_rng2 {p : Pos} (hg : Gl X "range") (hm : X.mg "range" = none) (ha : PE X a (tEv X C W c1)) (hb : PE X b (tEv X C W c2)) (hs : starEach [a, b] X.env = [(false, eval a X.env), (false, eval b X.env)]) (hs2 : starEach [b] X.env = [(false, eval b X.env)]) :
    PI X tg (.Call (.Name "range" p) [a, b] [] pos) (tIt X C W (.rng2 c1 c2)) :=
  pi_imp (pi_range2 hg hm (pa_cons ha (pa_cons hb pa_nil (by rw [hs2]; rfl)) (by rw [hs, hs2])) hs hs2) fun σ H Rr ⟨F, ρ, ss, h⟩ => by
    rw [evI, R.thn_bind] at h
    refine ⟨F, ρ, ss, h.mono (fun p hp v H1 s1 => ?_) fun _ _ z => z⟩
    rw [R.thn_bind] at hp
    refine ⟨(p.1, v) :: F, p.2, s1, hp.mono (fun r hr w H2 s2 => ?_) fun _ _ z => z.sub (List.sublist_cons_self _ _)⟩
    obtain ⟨q, e, k⟩ := R.thn_of hr
    obtain ⟨ds, e1, e2⟩ := Option.map_eq_some_iff.mp e
    obtain ⟨i, e3, e4⟩ := Option.bind_eq_some_iff.mp e1
    obtain ⟨j, e5, e6⟩ := Option.bind_eq_some_iff.mp e4
    subst e2
    obtain ⟨rfl, b1, b2, b3, b4⟩ := itRng_some e6
    have ev := s1.isInt e3
    subst ev
    have ew := s2.isInt e5
    subst ew
    exact ⟨i, j, rfl, ⟨b1, b2, b3, b4⟩, k _ [] _ it_rng s2.drop.drop⟩

/-! ### comprehensions -/
theorem wd_wipe : ∀ {vs : List Nat}, SS K mg H F ρ σ → SS K mg H F (wipeD ρ vs) (wipe σ vs)
  | [], s => s
  | v :: vs, s => (wd_wipe (vs := vs) s).unset v none
theorem wipeD_get {ρ : Env} : ∀ {vs : List Nat} {i : Nat}, (wipeD ρ vs)[i]? = if i ∈ vs ∧ i < ρ.length then some .undef else ρ[i]?
  | [], i => by simp [wipeD]
  | v :: vs, i => by
    have hl : ∀ vs : List Nat, (wipeD ρ vs).length = ρ.length := fun vs => by
      induction vs with
      | nil => rfl
      | cons w ws ih => show ((wipeD ρ ws).set w .undef).length = _; rw [List.length_set, ih]
    show ((wipeD ρ vs).set v .undef)[i]? = _
    rw [List.getElem?_set, wipeD_get (vs := vs), hl]
    by_cases e : v = i
    · subst e
      by_cases l : v < ρ.length
      · simp [l]
      · simp [l]
    · have e' : ¬ i = v := fun h => e h.symm
      simp [e, e']
/-- the slots vs, kept aside -/
def kept (ρ : Env) (σ : L2.St) (vs : List Nat) : Roots := vs.map fun i => (ρ.getD i .undef, (σ.getD i none).getD .non)
theorem wd_aside : ∀ {vs : List Nat}, vs.Nodup → SS K mg H F ρ σ → SS K mg H (kept ρ σ vs ++ F) (wipeD ρ vs) (wipe σ vs)
  | [], _, s => s
  | v :: vs, nd, s => by
    obtain ⟨n1, n2⟩ := List.nodup_cons.mp nd
    have ih := wd_aside n2 s
    -- the slot v of the wiped state is as it was
    have hρ : (wipeD ρ vs)[v]? = ρ[v]? := by rw [wipeD_get, if_neg fun z => n1 z.1]
    have hσ : (wipe σ vs)[v]? = σ[v]? := by rw [wipe_get, if_neg fun z => n1 z.1]
    show SS K mg H ((ρ.getD v .undef, (σ.getD v none).getD .non) :: (kept ρ σ vs ++ F)) ((wipeD ρ vs).set v .undef) ((wipe σ vs).set v none)
    by_cases hv : v < ρ.length
    · have hv' : v < σ.length := by rw [← s.len]; exact hv
      have e1 : (wipeD ρ vs)[v]? = some (ρ.getD v .undef) := by rw [hρ, List.getElem?_eq_getElem hv, List.getD_eq_getElem?_getD, List.getElem?_eq_getElem hv]; rfl
      have e2 : (wipe σ vs)[v]? = some (σ.getD v none) := by rw [hσ, List.getElem?_eq_getElem hv', List.getD_eq_getElem?_getD, List.getElem?_eq_getElem hv']; rfl
      obtain ⟨R0, p1, p2, _⟩ := rts_at e1 e2
      refine ⟨ih.wd.setUN v none, ?_⟩
      have t : St K mg H ((ρ.getD v .undef, (σ.getD v none).getD .non) :: ((kept ρ σ vs ++ F) ++ R0)) := ih.st.perm ((p1.append_left _).trans List.perm_middle)
      refine ((t.undef .non).swap).perm (List.Perm.cons _ ?_)
      exact (((p2 .undef none).append_left _).trans List.perm_middle).symm
    · have hs : ¬ v < σ.length := by rw [← s.len]; exact hv
      have e1 : (wipeD ρ vs).length ≤ v := by
        have := ih.len
        rw [wipe_length] at this
        omega
      rw [List.set_eq_of_length_le e1, List.set_eq_of_length_le (by rw [wipe_length]; omega)]
      rw [show ρ.getD v .undef = .undef by rw [List.getD_eq_getElem?_getD, List.getElem?_eq_none (by omega)]; rfl]
      exact ih.map fun q => q.undef _
theorem putBack_get {ρ0 ρ : Env} : ∀ {vs : List Nat} {i : Nat}, (putBack ρ0 ρ vs)[i]? = if i ∈ vs ∧ i < ρ.length then some (ρ0.getD i .undef) else ρ[i]?
  | [], i => by simp [putBack]
  | v :: vs, i => by
    have hl : ∀ vs : List Nat, (putBack ρ0 ρ vs).length = ρ.length := fun vs => by
      induction vs with
      | nil => rfl
      | cons w ws ih => show ((putBack ρ0 ρ ws).set w _).length = _; rw [List.length_set, ih]
    show ((putBack ρ0 ρ vs).set v (ρ0.getD v .undef))[i]? = _
    rw [List.getElem?_set, putBack_get (vs := vs), hl]
    by_cases e : v = i
    · subst e
      by_cases l : v < ρ.length
      · simp [l]
      · simp [l]
    · have e' : ¬ i = v := fun h => e h.symm
      simp [e, e']
/-- the slots come back: ρ is a state of the wiped slots -/
theorem wd_back {ρ0 : Env} (w0 : Wd ρ0 σ) : ∀ {vs : List Nat} {ρ : Env}, vs.Nodup → SS K mg H (kept ρ0 σ vs ++ F) ρ (wipe σ vs) → ρ0.length = ρ.length → SS K mg H F (putBack ρ0 ρ vs) σ
  | [], _, _, s, _ => s
  | v :: vs, ρ, nd, s, l => by
    obtain ⟨n1, n2⟩ := List.nodup_cons.mp nd
    have s : SS K mg H ((ρ0.getD v .undef, (σ.getD v none).getD .non) :: (kept ρ0 σ vs ++ F)) ρ ((wipe σ vs).set v none) := s
    -- put v back first
    have key : SS K mg H (kept ρ0 σ vs ++ F) (ρ.set v (ρ0.getD v .undef)) (wipe σ vs) := by
      have hσ : (wipe σ vs)[v]? = σ[v]? := by rw [wipe_get, if_neg fun z => n1 z.1]
      by_cases hv : v < ρ.length
      · have l2 : v < σ.length := by rw [← w0.len, l]; exact hv
        have e1 : ρ[v]? = some ρ[v] := List.getElem?_eq_getElem hv
        have l3 : v < (wipe σ vs).length := by rw [wipe_length]; exact l2
        have e2 : ((wipe σ vs).set v none)[v]? = some none := by rw [List.getElem?_set_self l3]
        obtain ⟨R0, p1, p2, _⟩ := rts_at e1 e2
        have q2 := p2 (ρ0.getD v .undef) (σ.getD v none)
        rw [List.set_set] at q2
        have e3 : (wipe σ vs).set v (σ.getD v none) = wipe σ vs := by
          apply List.ext_getElem?
          intro i
          by_cases e : v = i
          · subst e
            rw [List.getElem?_set_self l3, hσ, List.getElem?_eq_getElem l2, List.getD_eq_getElem?_getD, List.getElem?_eq_getElem l2]; rfl
          · rw [List.getElem?_set_ne e]
        rw [e3] at q2
        have t : St K mg H ((ρ0.getD v .undef, (σ.getD v none).getD .non) :: ((kept ρ0 σ vs ++ F) ++ R0)) :=
          (s.st.perm (List.Perm.cons _ ((p1.append_left _).trans List.perm_middle))).drop2
        refine ⟨?_, t.perm ((q2.append_left _).trans List.perm_middle).symm⟩
        -- Wd
        have w1 : Wd ρ ((wipe σ vs).set v none) := s.wd
        obtain ⟨o, h1, h2⟩ := w0.get (i := v) (d := ρ0.getD v .undef) (by rw [List.getD_eq_getElem?_getD, List.getElem?_eq_getElem (by omega)]; rfl)
        have e4 : σ.getD v none = o := by rw [List.getD_eq_getElem?_getD, h1]; rfl
        rcases h2 with h2 | ⟨u, h2⟩
        · have w2 := w1.setUN v (σ.getD v none)
          rw [List.set_set, e3] at w2
          rw [h2]
          exact w2
        · have w2 := w1.set v (ρ0.getD v .undef) u
          rw [List.set_set] at w2
          rw [e4, h2] at e3
          rw [e3] at w2
          exact w2
      · have l4 : ¬ v < (wipe σ vs).length := by rw [wipe_length, ← w0.len, l]; exact hv
        rw [List.set_eq_of_length_le (by omega)]
        rw [List.set_eq_of_length_le (by omega)] at s
        exact s.drop
    have ih := wd_back w0 n2 key (by rw [List.length_set]; exact l)
    have e5 : putBack ρ0 (ρ.set v (ρ0.getD v .undef)) vs = (putBack ρ0 ρ vs).set v (ρ0.getD v .undef) := by
      have hl : ∀ (ρ : Env) (vs : List Nat), (putBack ρ0 ρ vs).length = ρ.length := fun ρ vs => by
        induction vs with
        | nil => rfl
        | cons w ws ih => show ((putBack ρ0 ρ ws).set w _).length = _; rw [List.length_set, ih]
      apply List.ext_getElem?
      intro i
      rw [putBack_get, List.getElem?_set, List.getElem?_set, putBack_get, List.length_set, hl]
      by_cases e : v = i
      · subst e
        simp [n1]
      · simp [e]
    rw [e5] at ih
    exact ih
theorem loopC_len {turn : D → Env → R (Option D × Env)} : ∀ {ds acc ys : List D} {ρ ρ' : Env}, loopC turn ds acc ρ = .ok (ys, ρ') → acc.length ≤ ys.length
  | [], _, _, _, _, h => by cases h; exact Nat.le_refl _
  | d :: ds, acc, ys, ρ, ρ', h => by
    unfold loopC at h
    split at h
    · have := loopC_len h
      rw [List.length_append] at this
      omega
    · exact loopC_len h
    · cases h

theorem loopC_cons {turn : D → Env → R (Option D × Env)} {d : D} {ds acc : List D} {q : List D × Env} (h : loopC turn (d :: ds) acc ρ = .ok q) :
    (∃ y ρ', turn d ρ = .ok (some y, ρ') ∧ loopC turn ds (acc ++ [y]) ρ' = .ok q) ∨ ∃ ρ', turn d ρ = .ok (none, ρ') ∧ loopC turn ds acc ρ' = .ok q := by
  unfold loopC at h
  split at h
  · rename_i y ρ' e
    exact .inl ⟨y, ρ', e, h⟩
  · rename_i ρ' e
    exact .inr ⟨ρ', e, h⟩
  · cases h
theorem R.thn_ok {α : Type} {r : R α} {a : α} {P : α → Prop} {E : Exn → Env → Prop} (h : r = .ok a) (p : P a) : r.thn P E := by rw [h]; exact p
theorem R.bind_ok {α β : Type} {r : R α} {f : α → R β} {b : β} (h : r.bind f = .ok b) : ∃ a, r = .ok a ∧ f a = .ok b := by
  cases r with
  | ok a => exact ⟨a, rfl, h⟩
  | exc x ρ => cases h
  | fail => cases h
theorem R.map_ok {α β : Type} {r : R α} {f : α → β} {b : β} (h : r.map f = .ok b) : ∃ a, r = .ok a ∧ f a = b := by
  cases r with
  | ok a => exact ⟨a, rfl, by cases h; rfl⟩
  | exc x ρ => cases h
  | fail => cases h
theorem R.of_ok {α : Type} {o : Option α} {a : α} (h : R.of o = .ok a) : o = some a := by
  cases o with
  | none => cases h
  | some b => cases h; rfl
theorem loopC_noexc {turn : D → Env → R (Option D × Env)} : ∀ {ds acc : List D} {ρ : Env} {P : (List D × Env) → Prop} {E : Exn → Env → Prop}, (loopC turn ds acc ρ).thn P E → ∃ q, loopC turn ds acc ρ = .ok q ∧ P q
  | [], acc, ρ, _, _, h => ⟨_, rfl, h⟩
  | d :: ds, acc, ρ, _, _, h => by
    unfold loopC at h ⊢
    split at h
    · exact loopC_noexc h
    · exact loopC_noexc h
    · exact h.elim
/-- what a comprehension needs of its parts, in its own block -/
theorem ent_lc {own : List Nat} {g : CG} {it : CI} {t : CT} {elt : CE} {Wb : WX} (nd : own.Nodup) (hs : ∀ i ∈ slotsG g, i ∈ own) {Q : VK} :
    tEv X C W (.lc own g it t elt) σ H Q → tLc (tIt X C W it) (tTg X g) (tTs X C Wb t) (tEv X C Wb elt) own σ H Q := fun ⟨F, ρ, ss, h⟩ => by
  rw [evE, R.thn_bind] at h
  refine ⟨F, ρ, ss, h.mono (fun p hp J src H1 io s1 => ?_) fun _ _ z => z⟩
  obtain ⟨G, Y, wk, hG, hY⟩ := io
  intro Dl hD
  rw [R.thn_bind] at hp
  generalize ht : (fun d ρ1 => (R.of (assign g d ρ1)).bind fun ρ2 => (evT C t ρ2).bind fun c => if c.1 = true then (evE C elt c.2).map fun y => (some y.1, wipeD y.2 own) else R.ok (none, wipeD c.2 own)) = turn at hp
  obtain ⟨fin, hq, hp⟩ := loopC_noexc hp
  obtain ⟨q2, e2, kQ⟩ := R.thn_of hp
  have aside := wd_aside nd s1
  have hl0 : p.2.length = σ.length := s1.len
  -- what stands at a turn
  let Pv : Nat → Hp → Prop := fun i H => ∃ ρi acc, SS X.K X.mg H ((.lst true acc, .ref Dl) :: (kept p.2 σ own ++ (src ++ F))) ρi (wipe σ own) ∧ loopC turn (p.1.drop i) acc ρi = .ok fin
  refine lc_it wk (Pv := Pv) ?_ (fun i H _ pv => ?_) (fun i x H H' hi pv y => ?_) fun H pv => ?_
  · refine ⟨_, [], ?_, hq⟩
    exact aside.map fun st => St.newL (ds := []) (vs := []) rfl hD st
  · obtain ⟨ρi, acc, s2, _⟩ := pv
    refine hG H _ s2.st fun r hr => ?_
    simp only [List.mem_append, List.mem_cons]
    exact .inl (.inr (.inr (.inl hr)))
  · obtain ⟨ρi, acc, s2, hl⟩ := pv
    have hd : p.1.drop i = p.1[i] :: p.1.drop (i + 1) := List.drop_eq_getElem_cons hi
    rw [hd] at hl
    -- the item
    have sx : SS X.K X.mg H' ((p.1[i], x) :: (.lst true acc, .ref Dl) :: (kept p.2 σ own ++ (src ++ F))) ρi (wipe σ own) := ⟨s2.wd, by
      refine hY i H x H' _ _ s2.st ?_ (List.getElem?_eq_getElem hi) y
      exact fun r hr => List.mem_append_left _ (List.mem_cons_of_mem _ (List.mem_append_right _ (List.mem_append_left _ hr)))⟩
    have hturn : ∃ o ρ', turn p.1[i] ρi = .ok (o, ρ') ∧ (match o with | some y => loopC turn (p.1.drop (i + 1)) (acc ++ [y]) ρ' = .ok fin | none => loopC turn (p.1.drop (i + 1)) acc ρ' = .ok fin) := by
      rcases loopC_cons hl with ⟨y, ρ', e, k⟩ | ⟨ρ', e, k⟩
      · exact ⟨some y, ρ', e, k⟩
      · exact ⟨none, ρ', e, k⟩
    obtain ⟨o, ρ', et, hl2⟩ := hturn
    rw [← ht] at et
    obtain ⟨ρ2, e3, et⟩ := R.bind_ok et
    refine ⟨_, ρi, _, ρ2, sx, R.of_ok e3, fun σ2 c2 s3 => ⟨(c2.wipe hs).trans wipe_wipe, ?_⟩⟩
    have hw : wipe σ2 own = wipe σ own := (c2.wipe hs).trans wipe_wipe
    obtain ⟨cc, e4, et⟩ := R.bind_ok et
    refine ⟨_, ρ2, s3, R.thn_ok e4 fun H3 s4 => ?_⟩
    cases hb : cc.1 with
    | false =>
      rw [hb, if_neg Bool.false_ne_true] at et
      rw [if_neg Bool.false_ne_true]
      cases et
      refine ⟨_, acc, ?_, hl2⟩
      have s5 := wd_wipe (vs := own) s4
      rw [hw] at s5
      exact s5
    | true =>
      rw [hb, if_pos rfl] at et
      rw [if_pos rfl]
      obtain ⟨yy, e5, e6⟩ := R.map_ok et
      cases e6
      refine ⟨_, cc.2, s4, R.thn_ok e5 fun v H4 s5 => ?_⟩
      have s6 := wd_wipe (vs := own) s5
      rw [hw] at s6
      have s7 : SS X.K X.mg H4 ((.lst true acc, .ref Dl) :: (yy.1, v) :: (kept p.2 σ own ++ (src ++ F))) (wipeD yy.2 own) (wipe σ own) := s6.permF (List.Perm.swap _ _ _)
      obtain ⟨a, vs, ea, h1, l1, st⟩ := St.app s7.st
      cases ea
      refine ⟨vs, h1, ?_, _, acc ++ [yy.1], ⟨s7.wd, st⟩, hl2⟩
      have l2 := loopC_len hl2
      rw [List.length_append] at l2
      have : fin.1.length ≤ sizeLine := by
        split at e2
        · rename_i z
          exact szOk_le z
        · cases e2
      have l3 : [yy.1].length = 1 := rfl
      omega
  · obtain ⟨ρi, acc, s2, hl⟩ := pv
    rw [List.drop_eq_nil_of_le (Nat.le_refl _)] at hl
    cases hl
    split at e2
    · cases e2
      refine kQ _ _ ?_
      have s3 : SS X.K X.mg H (kept p.2 σ own ++ ((.lst true acc, .ref Dl) :: F)) ρi (wipe σ own) := by
        refine (s2.sub (F' := (.lst true acc, .ref Dl) :: (kept p.2 σ own ++ F)) (List.Sublist.cons_cons _ ((List.Sublist.refl _).append (List.sublist_append_right _ _)))).permF ?_
        exact List.perm_middle.symm
      refine wd_back s1.wd nd s3 ?_
      have := s2.len
      rw [wipe_length] at this
      show p.2.length = ρi.length
      omega
    · cases e2
end
end Cs
/-! Cs10: statements. -/
namespace Cs
open PySem L2
/-- a word of the slots that stores to the slots okS leave alone -/
def Cl (I : L2.St → Prop) (okS : Nat → Bool) : Prop := ∀ σ σ' is, I σ → Chg is σ σ' → (∀ i ∈ is, okS i = true) → I σ'
section
variable (X : Cx) (C : Ctx) (W : WX) (I : L2.St → Prop)
def FlP (F : Roots) (D : Ends) : Fl → Prop
  | .nx ρ' => ∀ σ' H', I σ' → SS X.K X.mg H' F ρ' σ' → D.nx σ' H'
  | .ret d ρ' => ∀ v σ' H', I σ' → SS X.K X.mg H' ((d, v) :: F) ρ' σ' → D.rt v H'
  | .bk ρ' => ∀ σ' H', I σ' → SS X.K X.mg H' F ρ' σ' → D.bk σ' H'
  | .ct ρ' => ∀ σ' H', I σ' → SS X.K X.mg H' F ρ' σ' → D.ct σ' H'
def ExS (F : Roots) : Exn → Env → Prop := fun x ρ' => ∀ σ', I σ' → ExcP X W F σ' x ρ'
def tSt (c : CS) : TS := fun D σ H => ∃ F ρ, I σ ∧ SS X.K X.mg H F ρ σ ∧ (evS C c ρ).thn (FlP X I F D) (ExS X W I F)
def tSs (c : CSs) : TS := fun D σ H => ∃ F ρ, I σ ∧ SS X.K X.mg H F ρ σ ∧ (evSs C c ρ).thn (FlP X I F D) (ExS X W I F)
end
section
variable {X : Cx} {C : Ctx} {W : WX} {Γ : Gam} {I : L2.St → Prop} {okS : Nat → Bool} {e a b tg : Expr} {es : List Expr} {st : Stmt} {sts : List Stmt} {c c1 c2 c3 : CE} {cs : CEs} {g : CG} {s : CS} {ss ss1 ss2 : CSs} {pos : Pos} {σ σ' : L2.St} {H H' : Hp} {F G : Roots} {ρ ρ' : Env} {d : D} {v : V} {K : PySem.W.Frag} {mg : Str → Option Value} {Dn : Ends}
theorem ps_imp {t t' : TS} (h : PS X st t) (i : ∀ D σ H, t' D σ H → t D σ H) : PS X st t' := ⟨fun pins s σ H D I q => h.run pins s σ H D I (i D σ H q)⟩
theorem pss_imp {t t' : TS} (h : PSs X sts t) (i : ∀ D σ H, t' D σ H → t D σ H) : PSs X sts t' := ⟨fun pins s σ H D I q => h.run pins s σ H D I (i D σ H q)⟩
theorem ExS.sub {F F' : Roots} {x : Exn} (h : ExS X W I F x ρ) (s : List.Sublist F F') : ExS X W I F' x ρ := fun σ' i => (h σ' i).sub s
theorem bnd_nil : PSs X [] (tSs X C W I .nil) := pss_imp pss_nil fun D σ H ⟨F, ρ, i, ss, h⟩ => by
  rw [evSs] at h
  exact h σ H i ss
theorem bnd_cons (h1 : PS X st (tSt X C W I s)) (h2 : PSs X sts (tSs X C W I ss)) : PSs X (st :: sts) (tSs X C W I (.cons s ss)) := pss_imp (pss_cons h1 h2) fun D σ H ⟨F, ρ, i, ss, h⟩ => by
  rw [evSs, R.thn_bind] at h
  refine ⟨F, ρ, i, ss, h.mono (fun f hf => ?_) fun _ _ z => z⟩
  cases f with
  | nx ρ' =>
    intro σ' H' i' s'
    exact ⟨F, ρ', i', s', hf⟩
  | ret d ρ' => exact hf
  | bk ρ' => exact hf
  | ct ρ' => exact hf
theorem ent_asg (hI : Cl I okS) (hg : ∀ i ∈ slotsG g, okS i = true) : tSt X C W I (.asg g c) Dn σ H → tAsg (tEv X C W c) (tTg X g) Dn σ H := fun ⟨F, ρ, i, ss, h⟩ => by
  rw [evS, R.thn_bind] at h
  refine ⟨F, ρ, ss, h.mono (fun p hp v H1 s1 => ?_) fun _ _ z => z σ i⟩
  obtain ⟨q, e, k⟩ := R.thn_of hp
  obtain ⟨ρ', e1, e2⟩ := Option.map_eq_some_iff.mp e
  subst e2
  exact ⟨F, p.2, p.1, ρ', s1, e1, fun σ' ch s' => k σ' H1 (hI σ σ' _ i ch hg) s'⟩
theorem bnd_asg (hI : Cl I okS) (hg : ∀ i ∈ slotsG g, okS i = true) (he : PE X e (tEv X C W c)) (ht : PG X tg (tTg X g)) (hs : swapsWithSole [tg] e pos.line X.env = pure false) (hw : swappedStores [tg] e X.env = pure none)
    (h1 : (assignEach [tg] X.env).map (·.2) = [PySem.assign tg X.env]) : PS X (.Assign [tg] e pos) (tSt X C W I (.asg g c)) := ps_imp (ps_asg he ht hs hw h1) fun _ _ _ => ent_asg hI hg
/-- name = [..] on one line -/
theorem bnd_setLc {i : Nat} {y : Str} {py : Pos} {elt tg iter : Expr} {ifs : List Expr} {scope : Scope} {own : List (Str × Nat)} {p spos : Pos} {it : CI} {t : CT} {ce : CE} (hI : Cl I okS) (hok : okS i = true) (hc : X.calm = true) (hN : X.N.Nodup) (hy : X.N[i]? = some y)
    (hyl : X.env.scope.names.lookup y = some .local) (hsw : swapsWith (.ListComp elt [⟨tg, iter, ifs, 0⟩] scope p) (some (.Name y py)) spos.line X.env = pure true) (hi : PI X tg iter (tIt X C W it)) (ok : BlkOk X.N X.env.scope scope own)
    (nd : (own.map (·.2)).Nodup) (hgs : ∀ i ∈ slotsG g, i ∈ own.map (·.2))
    (hg : ∀ (s : Shared) (H : Hp) (A : Addr) (cl : List (Str × Addr)) (fp : List Addr), PG (X.blk s H scope (compEnvC scope cl A X.env) fp) tg (tTg X g))
    (ht : ∀ (s : Shared) (H : Hp) (A : Addr) (cl : List (Str × Addr)) (fp : List Addr), PTs (X.blk s H scope (compEnvC scope cl A X.env) fp) ifs (tTs X C (fun _ _ _ _ => False) t))
    (he : ∀ (s : Shared) (H : Hp) (A : Addr) (cl : List (Str × Addr)) (fp : List Addr), PE (X.blk s H scope (compEnvC scope cl A X.env) fp) elt (tEv X C (fun _ _ _ _ => False) ce))
    (hs : ∀ x, foldedSetIterable iter X.env x = pure x) :
    PS X (.Assign [.Name y py] (.ListComp elt [⟨tg, iter, ifs, 0⟩] scope p) spos) (tSt X C W I (.asg (.name i) (.lc (own.map (·.2)) g it t ce))) :=
  ps_imp (ps_setLc hc hN hy hyl hsw hi ok hg ht he hs) fun D σ H ⟨F, ρ, i0, ss, h⟩ => by
    refine ent_lc (W := W) nd hgs ?_
    rw [evS, R.thn_bind] at h
    refine ⟨F, ρ, ss, h.mono (fun p hp v H1 s1 => ?_) fun _ _ z => z σ i0⟩
    obtain ⟨q, e, k⟩ := R.thn_of hp
    obtain ⟨ρ', e1, e2⟩ := Option.map_eq_some_iff.mp e
    subst e2
    have e1 : (if i < p.2.length then some (p.2.set i p.1) else none) = some ρ' := e1
    split at e1
    · rename_i l
      cases e1
      exact k _ H1 (hI σ _ [i] i0 Chg.set fun j hj => by rw [List.mem_singleton.mp hj]; exact hok) (s1.set l)
    · cases e1
theorem snd_lc {elt tg iter : Expr} {ifs : List Expr} {scope : Scope} {own : List (Str × Nat)} {it : CI} {t : CT} {ce : CE} (hc : X.calm = true) (hN : X.N.Nodup) (hi : PI X tg iter (tIt X C W it)) (ok : BlkOk X.N X.env.scope scope own)
    (nd : (own.map (·.2)).Nodup) (hgs : ∀ i ∈ slotsG g, i ∈ own.map (·.2))
    (hg : ∀ (s : Shared) (H : Hp) (A : Addr) (cl : List (Str × Addr)) (fp : List Addr), PG (X.blk s H scope (compEnvC scope cl A X.env) fp) tg (tTg X g))
    (ht : ∀ (s : Shared) (H : Hp) (A : Addr) (cl : List (Str × Addr)) (fp : List Addr), PTs (X.blk s H scope (compEnvC scope cl A X.env) fp) ifs (tTs X C (fun _ _ _ _ => False) t))
    (he : ∀ (s : Shared) (H : Hp) (A : Addr) (cl : List (Str × Addr)) (fp : List Addr), PE (X.blk s H scope (compEnvC scope cl A X.env) fp) elt (tEv X C (fun _ _ _ _ => False) ce))
    (hs : ∀ x, foldedSetIterable iter X.env x = pure x) : PE X (.ListComp elt [⟨tg, iter, ifs, 0⟩] scope pos) (tEv X C W (.lc (own.map (·.2)) g it t ce)) :=
  pe_imp (pe_lc hc hN hi ok hg ht he hs) fun _ _ _ => ent_lc nd hgs
theorem bnd_par {i j : Nat} {x y : Str} {px py pt : Pos} {kt k2 : Nat} {pt2 : Pos} (hI : Cl I okS) (hoi : okS i = true) (hoj : okS j = true) (hc : X.calm = true) (hN : X.N.Nodup) (hi : X.N[i]? = some x) (hj : X.N[j]? = some y) (hij : i ≠ j)
    (hx : X.env.scope.names.lookup x = some .local) (hy : X.env.scope.names.lookup y = some .local) (ha : PE X a (tEv X C W c1)) (hb : PE X b (tEv X C W c2)) (hsa : starEach [a, b] X.env = (false, eval a X.env) :: starEach [b] X.env) (hsb : starEach [b] X.env = (false, eval b X.env) :: starEach [] X.env)
    (hw : swappedStores [.Tuple [.Name x px, .Name y py] kt pt] (.Tuple [a, b] k2 pt2) X.env = pure (some [x, y])) :
    PS X (.Assign [.Tuple [.Name x px, .Name y py] kt pt] (.Tuple [a, b] k2 pt2) pos) (tSt X C W I (.par i j c1 c2)) :=
  ps_imp (ps_par hc hN hi hj hij hx hy (pa_cons ha (pa_cons hb pa_nil hsb) hsa) hw) fun D σ H ⟨F, ρ, i0, ss, h⟩ => by
    rw [evS, R.thn_bind] at h
    refine ⟨F, ρ, ss, h.mono (fun p hp v H1 s1 => ?_) fun _ _ z => z σ i0⟩
    rw [R.thn_bind] at hp
    refine ⟨(p.1, v) :: F, p.2, s1, hp.mono (fun q hq w H2 s2 => ?_) fun _ _ z => (z σ i0).sub (List.sublist_cons_self _ _)⟩
    obtain ⟨r, e, k⟩ := R.thn_of hq
    split at e
    · rename_i l
      cases e
      rw [Bool.and_eq_true] at l
      have l1 := of_decide_eq_true l.1
      have l2 := of_decide_eq_true l.2
      refine ⟨v, w, rfl, k _ H2 (hI σ _ [i, j] i0 (Chg.set.trans Chg.set) fun n hn => ?_) ?_⟩
      · rcases List.mem_cons.mp hn with q | q
        · rw [q]; exact hoi
        · rw [List.mem_singleton.mp q]; exact hoj
      · exact (((s2.permF (List.Perm.swap _ _ _)).set l1).set (by rw [List.length_set]; exact l2))
    · cases e
def rA (X : Cx) (op : Operator) : TIp := fun x y H Q => ∃ rs d1 d2 d, St X.K X.mg H rs ∧ (d1, x) ∈ rs ∧ (d2, y) ∈ rs ∧ augD op d1 d2 = some d ∧ ∀ v H', St X.K X.mg H' ((d, v) :: rs) → Q v H'
theorem ip_any {op : Operator} : PIp X op (rA X op) := by
  intro pins s σ H x y v u Q I rx ry ⟨rs, d1, d2, d, ⟨Hf, fp, S⟩, m1, m2, e, k⟩
  obtain ⟨f1, p1⟩ := S.at m1
  obtain ⟨f2, p2⟩ := S.at m2
  unfold augD at e
  split at e
  · cases e
    exact iop_add pins s σ H x y v u Q I rx ry ⟨_, _, p1.1, p2.1, k _ _ (S.st.int _)⟩
  · cases e
    exact iop_sub pins s σ H x y v u Q I rx ry ⟨_, _, p1.1, p2.1, k _ _ (S.st.int _)⟩
  · rename_i i j
    obtain ⟨z, rfl⟩ := guardL_some e
    unfold mulOk at z
    rw [Bool.or_eq_true, Bool.or_eq_true] at z
    have z' : CMul i j ∨ CMulW i j := by
      rcases z with h | h | h
      · exact .inl (.inl (of_decide_eq_true (p := _ ∧ _) h))
      · exact .inl (.inr (of_decide_eq_true (p := _ ∧ _) h))
      · exact .inr (of_decide_eq_true (p := _ < _) h)
    rcases z' with h | h
    · exact iop_mul pins s σ H x y v u Q I rx ry ⟨_, _, p1.1, p2.1, h, k _ _ (S.st.int _)⟩
    · obtain rfl := p1.1
      obtain rfl := p2.1
      obtain ⟨t, rfl⟩ := rx
      obtain ⟨t', rfl⟩ := ry
      exact PyProof.Rows.imul_int ⟨.int _, H, I.tok _, ⟨_, rfl⟩, k _ _ (S.st.int _)⟩ h.ok
  · obtain ⟨z, rfl⟩ := guardL_some e
    exact iop_mod pins s σ H x y v u Q I rx ry ⟨_, _, p1.1, p2.1, of_decide_eq_true z, k _ _ (S.st.int _)⟩
  · obtain ⟨z, rfl⟩ := guardL_some e
    exact iop_add_str pins s σ H x y v u Q I rx ry ⟨_, _, p1.1, p2.1, szOk_le z, k _ _ (S.st.str _)⟩
  · cases e
theorem bnd_aug {i : Nat} {x : Str} {op : Operator} {pos' : Pos} (hI : Cl I okS) (hok : okS i = true) (hN : X.N.Nodup) (hi : X.N[i]? = some x) (hx : Loc X.env.scope x) (he : PE X e (tEv X C W c)) (hf : X.fn x = true ∨ X.env.scope.names.lookup x = some .local) :
    PS X (.AugAssign (.Name x pos') op e pos) (tSt X C W I (.aug i op c)) := ps_imp (ps_aug hN hi hx he ip_any hf) fun D σ H ⟨F, ρ, i0, ss, h⟩ => by
  rw [evS, R.thn_bind] at h
  obtain ⟨d0, e0, h⟩ := R.thn_of h
  obtain ⟨x0, q1, _⟩ := ss.slot e0
  rw [R.thn_bind] at h
  refine ⟨x0, q1, F, ρ, ss, h.mono (fun p hp v H1 s1 => ?_) fun _ _ z => z σ i0⟩
  obtain ⟨q, e, k⟩ := R.thn_of hp
  obtain ⟨d, e1, e2⟩ := Option.map_eq_some_iff.mp e
  obtain ⟨d1, d2, g1, g2, e3⟩ := opt2_some e1
  cases g2
  subst e2
  obtain ⟨x1, q2, m⟩ := s1.slot g1
  rw [q1] at q2
  cases q2
  refine ⟨_, d1, p.1, d, s1.st, List.mem_append_right _ m, List.mem_append_left _ List.mem_cons_self, e3, fun z H' st => ?_⟩
  have l : i < p.2.length := (List.getElem?_eq_some_iff.mp (slotE_get g1).1).1
  exact k _ H' (hI σ _ [i] i0 Chg.set fun j hj => by rw [List.mem_singleton.mp hj]; exact hok) ((SS.fin s1.wd st (List.sublist_cons_self _ _)).set l)
theorem ownL_some {o : Option D} {xs : List D} (h : ownL o = some xs) : o = some (.lst true xs) := by
  unfold ownL at h
  split at h
  · cases h; rfl
  · cases h
/-- a slot's owned list is stored anew -/
theorem SS.wr {i : Nat} {ds es : List D} {f : List V → List V} {F F' : Roots} (s : SS K mg H F ρ σ) (h : slotE ρ i = some (.lst true ds))
    (step : ∀ v R, St K mg H ((.lst true ds, v) :: (F ++ R)) → ∃ a vs, v = .ref a ∧ H a = some (.lst vs) ∧ ds.length = vs.length ∧ St K mg (upd H a (.lst (f vs))) ((.lst true es, v) :: (F' ++ R))) :
    ∃ a vs, σ[i]? = some (some (.ref a)) ∧ H a = some (.lst vs) ∧ ds.length = vs.length ∧ SS K mg (upd H a (.lst (f vs))) F' (ρ.set i (.lst true es)) σ := by
  obtain ⟨h1, _⟩ := slotE_get h
  obtain ⟨v, q1, _⟩ := s.slot h
  obtain ⟨R0, p1, _, p3⟩ := rts_at h1 q1
  obtain ⟨a, vs, ev, h2, l, st⟩ := step v R0 (s.st.perm ((p1.append_left F).trans List.perm_middle))
  subst ev
  exact ⟨a, vs, q1, h2, l, s.wd.setD _ q1, st.perm (((p3 (.lst true es)).append_left F').trans List.perm_middle).symm⟩
theorem bnd_app {i : Nat} {x : Str} {p2 apos cpos : Pos} (hI : Cl I okS) (hN : X.N[i]? = some x) (hv : Vis X.env.scope x) (hd : (x == ("__debug__" : Str)) = false) (hcd : (x == ("__classdict__" : Str)) = false) (he : PE X e (tEv X C W c))
    (hs : starEach [e] X.env = (false, eval e X.env) :: starEach [] X.env) (hline : (apos.endLine == cpos.line) = true) (hfew : ((backTo cpos (starEach [e] X.env)).all (fun x => !x.1) && (backToKw cpos (keywordEach [] X.env)).all (fun x => x.1.isSome)
      && decide ([e].length + ([] : List Keyword).length + (if ([] : List Keyword).isEmpty then 0 else 1) < 30)) = true) :
    PS X (.Expr (.Call (.Attribute (.Name x p2) "append" apos) [e] [] cpos) pos) (tSt X C W I (.app i c)) :=
  ps_imp (ps_expr (pe_bm PySem.F.plainAttrs_list PySem.F.slot_list_append PySem.F.type_list_append mt_append (pe_var hN hv hd hcd) (pa_cons he pa_nil hs) rfl hfew hline hs rfl)) fun D σ H ⟨F, ρ, i0, ss, h⟩ => by
    rw [evS, R.thn_bind] at h
    obtain ⟨xs0, e0, h⟩ := R.thn_of h
    have e0 := ownL_some e0
    obtain ⟨v0, q1, m0⟩ := ss.slot e0
    obtain ⟨Hf, fp, S⟩ := ss.st
    obtain ⟨a0, vs0, ev0, h0, _⟩ := S.lst (List.mem_append_right F m0)
    subst ev0
    rw [R.thn_bind] at h
    refine ⟨_, q1, .inl ⟨rfl, vs0, .inl (.inl h0)⟩, F, ρ, ss, h.mono (fun p hp v H1 s1 => ?_) fun _ _ z => z σ i0⟩
    obtain ⟨q, e, k⟩ := R.thn_of hp
    obtain ⟨d, e1, e2⟩ := Option.map_eq_some_iff.mp e
    subst e2
    obtain ⟨xs, e3, e4⟩ := Option.bind_eq_some_iff.mp (show (ownL (slotE p.2 i)).bind (fun xs => if xs.length < sizeLine then some (Cs.D.lst true (xs ++ [p.1])) else none) = some d from e1)
    split at e4
    · rename_i l
      cases e4
      obtain ⟨a, vs, q2, h2, ll, s2⟩ := s1.wr (F' := F) (es := xs ++ [p.1]) (f := fun vs => vs ++ [v]) (ownL_some e3) fun w R st => St.app st
      rw [q1] at q2
      cases q2
      exact ⟨a0, vs, v, rfl, rfl, h2, by rw [← ll]; exact l, k σ _ i0 s2⟩
    · cases e4
theorem bnd_setI {i : Nat} {x : Str} {p2 tpos : Pos} {ie : Expr} (hI : Cl I okS) (hN : X.N[i]? = some x) (hv : Vis X.env.scope x) (hd : (x == ("__debug__" : Str)) = false) (hcd : (x == ("__classdict__" : Str)) = false) (he : PE X e (tEv X C W c)) (hie : PE X ie (tEv X C W c2))
    (ha : ∀ v, PySem.assign (.Subscript (.Name x p2) ie tpos) X.env v = (do
      let ov ← holding [v] (eval (.Name x p2) X.env)
      let iv ← holding [v, ov] (eval ie X.env)
      standAt tpos
      holding [v, ov, iv] (setItem ov iv v)
      release [v, ov, iv] []))
    (hs : swapsWithSole [.Subscript (.Name x p2) ie tpos] e pos.line X.env = pure false) (hw : swappedStores [.Subscript (.Name x p2) ie tpos] e X.env = pure none)
    (h1 : (assignEach [.Subscript (.Name x p2) ie tpos] X.env).map (·.2) = [PySem.assign (.Subscript (.Name x p2) ie tpos) X.env]) : PS X (.Assign [.Subscript (.Name x p2) ie tpos] e pos) (tSt X C W I (.setI c i c2)) :=
  ps_imp (ps_asg he (pg_sub (pe_var hN hv hd hcd) hie set_list ha) hs hw h1) fun D σ H ⟨F, ρ, i0, ss, h⟩ => by
    rw [evS, R.thn_bind] at h
    refine ⟨F, ρ, ss, h.mono (fun p hp v H1 s1 => ?_) fun _ _ z => z σ i0⟩
    rw [R.thn_bind] at hp
    obtain ⟨d0, e0, hp⟩ := R.thn_of hp
    obtain ⟨x0, q1, _⟩ := s1.slot e0
    rw [R.thn_bind] at hp
    refine ⟨x0, q1, (p.1, v) :: F, p.2, s1, hp.mono (fun q hq w H2 s2 => ?_) fun _ _ z => (z σ i0).sub (List.sublist_cons_self _ _)⟩
    obtain ⟨r, e, k⟩ := R.thn_of hq
    obtain ⟨d, e1, e2⟩ := Option.map_eq_some_iff.mp e
    obtain ⟨n, e3, e4⟩ := Option.bind_eq_some_iff.mp e1
    obtain ⟨xs, e5, e6⟩ := Option.bind_eq_some_iff.mp (show (ownL (slotE q.2 i)).bind (fun xs => (ixN xs.length n).map fun j => Cs.D.lst true (xs.set j p.1)) = some d from e4)
    obtain ⟨j, e7, e8⟩ := Option.map_eq_some_iff.mp e6
    subst e2; subst e8
    have ew := s2.isInt e3
    subst ew
    have hj := (ixN_seq e7).2.1
    obtain ⟨a, vs, q2, h2, ll, s3⟩ := s2.drop.wr (F' := F) (es := xs.set j p.1) (f := fun vs => vs.set j v) (ownL_some e5) fun w R st => St.setL st hj
    rw [q1] at q2
    cases q2
    exact ⟨a, vs, n, j, rfl, rfl, h2, by rw [← ll]; exact e7, k σ _ i0 s3⟩
theorem bnd_drop (he : PE X e (tEv X C W c)) (hs : swapsWith e none pos.line X.env = pure false) : PS X (.Expr e pos) (tSt X C W I (.drop c)) := ps_imp (ps_expr he hs) fun D σ H ⟨F, ρ, i0, ss, h⟩ => by
  rw [evS, R.thn_map] at h
  exact ⟨F, ρ, ss, h.mono (fun p hp v H1 s1 => hp σ H1 i0 s1.drop) fun _ _ z => z σ i0⟩
theorem bnd_ret (he : PE X e (tEv X C W c)) : PS X (.Return (some e) pos) (tSt X C W I (.ret c)) := ps_imp (ps_ret he) fun D σ H ⟨F, ρ, i0, ss, h⟩ => by
  rw [evS, R.thn_map] at h
  exact ⟨F, ρ, ss, h.mono (fun p hp v H1 s1 => hp v σ H1 i0 s1) fun _ _ z => z σ i0⟩
theorem bnd_retN : PS X (.Return none pos) (tSt X C W I .retN) := ps_imp ps_retN fun D σ H ⟨F, ρ, i0, ss, h⟩ => by
  rw [evS] at h
  exact h .non σ H i0 ss.non
theorem bnd_pass : PS X (.Pass pos) (tSt X C W I .pass) := ps_imp ps_pass fun D σ H ⟨F, ρ, i0, ss, h⟩ => by
  rw [evS] at h
  exact h σ H i0 ss
theorem bnd_brk : PS X (.Break pos) (tSt X C W I .brk) := ps_imp ps_break fun D σ H ⟨F, ρ, i0, ss, h⟩ => by
  rw [evS] at h
  exact h σ H i0 ss
theorem bnd_cont : PS X (.Continue pos) (tSt X C W I .cont) := ps_imp ps_continue fun D σ H ⟨F, ρ, i0, ss, h⟩ => by
  rw [evS] at h
  exact h σ H i0 ss
theorem bnd_if {q : Expr} {t : CT} {as bs : List Stmt} (ht : PT X q (tTs X C W t)) (ha : PSs X as (tSs X C W I ss1)) (hb : PSs X bs (tSs X C W I ss2)) : PS X (.If q as bs pos) (tSt X C W I (.ife t ss1 ss2)) := ps_imp (ps_if ht ha hb) fun D σ H ⟨F, ρ, i0, ss, h⟩ => by
  rw [evS, R.thn_bind] at h
  refine ⟨F, ρ, ss, h.mono (fun p hp H1 s1 => ?_) fun _ _ z => z σ i0⟩
  cases hb : p.1 with
  | true =>
    rw [hb, if_pos rfl] at hp
    rw [if_pos rfl]
    exact ⟨F, p.2, i0, s1, hp⟩
  | false =>
    rw [hb, if_neg Bool.false_ne_true] at hp
    rw [if_neg Bool.false_ne_true]
    exact ⟨F, p.2, i0, s1, hp⟩
theorem bnd_whl {q : Expr} {t : CT} {bs : List Stmt} (gd : Gd Γ X C W) (ht : PT X q (tTs X C W t)) (hb : PSs X bs (tSs X C W I ss)) : PS X (.While q bs [] pos) (tSt X C W I (.whl t ss)) := ps_imp (ps_while gd.pass ht hb) fun D σ H ⟨F, ρ, i0, s0, h⟩ => by
  rw [evS] at h
  generalize hst : (fun ρ1 => (evT C t ρ1).bind fun p => if p.1 = true then (evSs C ss p.2).map flW else R.ok (.inr (.nx p.2))) = step at h
  obtain ⟨n, hn⟩ := gd.whl step ρ
  rw [hn] at h
  refine ⟨fun m σ' H' => ∃ ρ', I σ' ∧ SS X.K X.mg H' F ρ' σ' ∧ (loopW step m ρ').thn (FlP X I F D) (ExS X W I F), ⟨n, ρ, i0, s0, h⟩, fun m σ' H' ⟨ρ', i', s', h'⟩ => ?_⟩
  cases m with
  | zero => exact h'.elim
  | succ m =>
    have key2 : (step ρ').thn (fun r => (match r with | .inl ρ'' => loopW step m ρ'' | .inr f => .ok f : R Fl).thn (FlP X I F D) (ExS X W I F)) (ExS X W I F) := by
      unfold loopW at h'
      cases hs : step ρ' with
      | ok r =>
        rw [hs] at h'
        cases r <;> exact h'
      | exc x ρ'' =>
        rw [hs] at h'
        exact h'
      | fail =>
        rw [hs] at h'
        exact h'
    rw [← hst] at key2
    rw [R.thn_bind] at key2
    refine ⟨F, ρ', s', key2.mono (fun p hp H1 s1 => ?_) fun _ _ z => z σ' i'⟩
    cases hb : p.1 with
    | true =>
      rw [hb, if_pos rfl, R.thn_map] at hp
      rw [if_pos rfl]
      refine ⟨fun σ2 H2 => ∃ ρ2, I σ2 ∧ SS X.K X.mg H2 F ρ2 σ2 ∧ (loopW step m ρ2).thn (FlP X I F D) (ExS X W I F), fun σ2 H2 z => ⟨m, Nat.lt_succ_self m, z⟩, F, p.2, i', s1, hp.mono (fun f hf => ?_) fun _ _ z => z⟩
      cases f with
      | nx ρ2 => exact fun σ2 H2 i2 s2 => ⟨ρ2, i2, s2, by rw [← hst]; exact hf⟩
      | ct ρ2 => exact fun σ2 H2 i2 s2 => ⟨ρ2, i2, s2, by rw [← hst]; exact hf⟩
      | bk ρ2 => exact hf
      | ret d ρ2 => exact hf
    | false =>
      rw [hb, if_neg Bool.false_ne_true] at hp
      rw [if_neg Bool.false_ne_true]
      exact hp σ' H1 i' s1
theorem bnd_for {it : Expr} {ci : CI} {bs : List Stmt} (gd : Gd Γ X C W) (hi : PI X tg it (tIt X C W ci)) (hg : PG X tg (tTg X g)) (hb : PSs X bs (tSs X C W I ss)) (hs : ∀ x, foldedSetIterable it X.env x = pure x) (hI : Cl I okS) (hok : ∀ i ∈ slotsG g, okS i = true) :
    PS X (.For tg it bs [] pos) (tSt X C W I (.for g ci ss)) := ps_imp (ps_for gd.pass gd.calm hi hg hb hs) fun D σ H ⟨F, ρ, i0, s0, h⟩ => by
  rw [evS, R.thn_bind] at h
  refine ⟨F, ρ, s0, h.mono (fun p hp J src H1 io s1 => ?_) fun _ _ z => z σ i0⟩
  obtain ⟨G, Y, wk, hG, hY⟩ := io
  generalize ht : (fun d ρ1 => (R.of (assign g d ρ1)).bind fun ρ2 => evSs C ss ρ2) = turn at hp
  let Pv : Nat → L2.St → Hp → Prop := fun i σ H => ∃ ρi, I σ ∧ SS X.K X.mg H (src ++ F) ρi σ ∧ (loopF turn (p.1.drop i) ρi).thn (FlP X I F D) (ExS X W I F)
  refine for_it wk (Pv := Pv) ⟨p.2, i0, s1, hp⟩ (fun i σ H _ pv => ?_) (fun i x σ H H' hi pv y => ?_) fun σ H pv => ?_
  · obtain ⟨ρi, _, s2, _⟩ := pv
    exact hG H _ s2.st fun r hr => List.mem_append_left _ (List.mem_append_left _ hr)
  · obtain ⟨ρi, ii, s2, hl⟩ := pv
    have hd : p.1.drop i = p.1[i] :: p.1.drop (i + 1) := List.drop_eq_getElem_cons hi
    rw [hd] at hl
    have sx : SS X.K X.mg H' ((p.1[i], x) :: (src ++ F)) ρi σ := ⟨s2.wd, by
      exact hY i H x H' _ _ s2.st (fun r hr => List.mem_append_left _ (List.mem_append_left _ hr)) (List.getElem?_eq_getElem hi) y⟩
    have hl2 : (turn p.1[i] ρi).thn (fun f => (match f with
        | .nx ρ' => loopF turn (p.1.drop (i + 1)) ρ'
        | .ct ρ' => loopF turn (p.1.drop (i + 1)) ρ'
        | .bk ρ' => .ok (.nx ρ')
        | .ret v ρ' => .ok (.ret v ρ') : R Fl).thn (FlP X I F D) (ExS X W I F)) (ExS X W I F) := by
      unfold loopF at hl
      cases hx : turn p.1[i] ρi with
      | ok f =>
        rw [hx] at hl
        cases f <;> exact hl
      | exc x ρ' =>
        rw [hx] at hl
        exact hl
      | fail =>
        rw [hx] at hl
        exact hl
    rw [← ht] at hl2
    rw [R.thn_bind] at hl2
    obtain ⟨ρ2, e1, hl3⟩ := R.thn_of hl2
    rw [ht] at hl3
    refine ⟨src ++ F, ρi, _, ρ2, sx, e1, fun σ2 ch s3 => ⟨src ++ F, ρ2, hI σ σ2 _ ii ch hok, s3, hl3.mono (fun f hf => ?_) fun x ρ' z => z.sub (List.sublist_append_right _ _)⟩⟩
    cases f with
    | nx ρ' => exact fun σ4 H4 i4 s4 => ⟨ρ', i4, s4, hf⟩
    | ct ρ' => exact fun σ4 H4 i4 s4 => ⟨ρ', i4, s4, hf⟩
    | bk ρ' => exact fun σ4 H4 i4 s4 => hf σ4 H4 i4 (s4.sub (List.sublist_append_right _ _))
    | ret v ρ' => exact fun w σ4 H4 i4 s4 => hf w σ4 H4 i4 (s4.sub ((List.sublist_append_right _ _).cons_cons _))
  · obtain ⟨ρi, ii, s2, hl⟩ := pv
    rw [List.drop_eq_nil_of_le (Nat.le_refl _)] at hl
    exact hl σ H ii (s2.sub (List.sublist_append_right _ _))
end
end Cs
/-! Cs11: the program's text read into the compact language. -/
namespace Cs
open PySem L2
/-- what is read besides the text: the slots, how many of them are parameters, which are stored to; the names known -/
structure Tc where
  Γ : Gam
  np : Nat
  asg : List Nat
  cons : List Str
def notStar : Expr → Bool
  | .Starred _ _ => false
  | _ => true
def notSet : Expr → Bool
  | .Set _ _ _ => false
  | _ => true
def notComp : Expr → Bool
  | .ListComp _ _ _ _ => false
  | .SetComp _ _ _ _ => false
  | .DictComp _ _ _ _ _ => false
  | _ => true
def notSlice : Expr → Bool
  | .Slice _ _ _ _ => false
  | _ => true
def notTup : Expr → Bool
  | .Tuple _ _ _ => false
  | _ => true
/-- its truth is its value's -/
def plainT : Expr → Bool
  | .UnaryOp .Not _ _ => false
  | .BoolOp _ _ _ => false
  | .IfExp _ _ _ _ => false
  | .Compare _ _ _ _ => false
  | _ => true
def notVar : CE → Bool
  | .var _ => false
  | _ => true
def kindS (sc : Scope) (x : Str) : Option NameKind := sc.names.lookup x
def visB (sc : Scope) (x : Str) : Bool := match kindS sc x with
  | some .local => true
  | some .cell => true
  | some .free => true
  | _ => false
def nmOk (x : Str) : Bool := !(x == ("__debug__" : Str)) && !(x == ("__classdict__" : Str))
def slotOf (N : List Str) (x : Str) : Option Nat := match N.findIdx? (fun y => decide (y = x)) with
  | some i => if N[i]? = some x then some i else none
  | none => none
def glbB (sc : Scope) (x : Str) : Bool := decide (kindS sc x = some .globalImplicit)
def biTab : List (Str × Nat × BI) := [("len", 1, .len), ("abs", 1, .abs), ("min", 1, .min1), ("max", 1, .max1), ("min", 2, .min2), ("max", 2, .max2), ("sum", 1, .sum), ("sorted", 1, .sorted), ("all", 1, .all), ("any", 1, .any),
  ("list", 1, .list), ("tuple", 1, .tuple), ("int", 1, .int), ("str", 1, .str), ("repr", 1, .repr), ("bool", 1, .bool)]
def biOf (f : Str) (n : Nat) : Option BI := (biTab.find? fun r => decide (r.1 = f) && decide (r.2.1 = n)).bind fun r => if biN r.2.2 = f then some r.2.2 else none
def trL (f : Expr → Option CE) : List Expr → Option CEs
  | [] => some .nil
  | e :: es => if notStar e then (f e).bind fun c => (trL f es).map fun cs => .cons c cs else none
def trB (f : Expr → Option CE) (g : CE → CE → CE) : List Expr → Option CE
  | [] => none
  | [a] => f a
  | a :: b :: es => (f a).bind fun c => (trB f g (b :: es)).map fun d => g c d
def trTB (f : Expr → Option CT) (g : CT → CT → CT) : List Expr → Option CT
  | [] => none
  | [a] => f a
  | a :: b :: es => (f a).bind fun c => (trTB f g (b :: es)).map fun d => g c d
def trO (f : Expr → Option CE) : Option Expr → Option CO
  | none => some .none
  | some e => (f e).map .some
def trGs (f : Expr → Option CG) : List Expr → Option CGs
  | [] => some .nil
  | e :: es => if notStar e then (f e).bind fun g => (trGs f es).map fun gs => .cons g gs else none
/-- a target: lk tells the kinds of names as the block itself has them -/
def trG (N : List Str) (lk : Str → Option NameKind) : Nat → Expr → Option CG
  | 0, _ => none
  | n + 1, e => match e with
    | .Name x _ => if lk x = some .local ∨ lk x = some .cell then (slotOf N x).map .name else none
    | .Tuple es _ _ => (trGs (trG N lk n) es).map .tup
    | _ => none
/-- the block's own names among the slots -/
def ownOf (N : List Str) (scope : Scope) : List (Str × Nat) := scope.names.filterMap fun p => match p.2 with
  | .local => (slotOf N p.1).map fun i => (p.1, i)
  | .cell => (slotOf N p.1).map fun i => (p.1, i)
  | _ => none
def ownI (N : List Str) (scope : Scope) : List Nat := (ownOf N scope).map Prod.snd
def trLc (N : List Str) (sc : Scope) (fE : Scope → Expr → Option CE) (fT : Scope → Expr → Option CT) (fI : Scope → Expr → Option CI) (elt : Expr) (gens : List Comprehension) (scope : Scope) : Option CE := match gens with
  | [⟨tg, it, ifs, 0⟩] => if blkC N sc scope (ownOf N scope) && decide (ownI N scope).Nodup && notSet it then
      (trG N (kindS scope) 9 tg).bind fun g => if (slotsG g).all fun i => decide (i ∈ ownI N scope) then (fI sc it).bind fun ci => (match ifs with | [] => some CT.yes | [q] => fT (relS scope sc) q | _ => none).bind fun ct =>
        (fE (relS scope sc) elt).map fun ce => .lc (ownI N scope) g ci ct ce else none else none
  | _ => none
section
variable (T : Tc)
mutual
def trE : Nat → Scope → Expr → Option CE
  | 0, _, _ => none
  | n + 1, sc, e => match e with
    | .Name x _ => if nmOk x then (if visB sc x then (slotOf T.Γ.N x).map .var else if glbB sc x && decide (x ∈ T.cons) then some (.con x) else none) else none
    | .Constant (.int i) _ _ => some (.int i)
    | .Constant (.bool i) _ _ => some (.bl i)
    | .Constant (.str i) _ _ => some (.str i)
    | .Constant .none _ _ => some .non
    | .Tuple es _ _ => (trL (trE n sc) es).map .tup
    | .List es _ => (trL (trE n sc) es).map .lst
    | .BinOp a op b _ => (trE n sc a).bind fun c => (trE n sc b).map fun d => .bin op c d
    | .UnaryOp .USub a _ => (trE n sc a).map .neg
    | .UnaryOp .Not a _ => (trE n sc a).map .notv
    | .Compare a [op] [b] _ => if behindInMarks op b then none else (trE n sc a).bind fun c => (trE n sc b).map fun d => .cmp op c d
    | .Compare a [o1, o2] [b, b2] _ => if lastMarks [o1, o2] [b, b2] then none else (trE n sc a).bind fun c => (trE n sc b).bind fun d => (trE n sc b2).map fun d2 => .chain o1 o2 c d d2
    | .BoolOp .And es _ => (trB (trE n sc) .andv es).bind fun c => if notVar c then some c else none
    | .BoolOp .Or es _ => (trB (trE n sc) .orv es).bind fun c => if notVar c then some c else none
    | .IfExp t a b _ => (trT n sc t).bind fun q => (trE n sc a).bind fun c => (trE n sc b).map fun d => .ifx q c d
    | .Subscript a (.Slice lo hi none _) _ => (trE n sc a).bind fun c => (trO (trE n sc) lo).bind fun l => (trO (trE n sc) hi).map fun h => .slc c l h
    | .Subscript a i _ => if notSlice i then (trE n sc a).bind fun c => (trE n sc i).map fun d => .idx c d else none
    | .Call (.Name f _) es [] _ => if nmOk f && glbB sc f then (if decide (f ∈ T.Γ.fl) then (trL (trE n sc) es).map fun cs => .call f cs else (biOf f es.length).bind fun b => if decide (biN b ∈ T.Γ.bl) then (trL (trE n sc) es).map fun cs => .bi b cs else none) else none
    | .ListComp elt gens scope _ => trLc T.Γ.N sc (trE n) (trT n) (trI n) elt gens scope
    | _ => none
def trT : Nat → Scope → Expr → Option CT
  | 0, _, _ => none
  | n + 1, sc, e => match e with
    | .UnaryOp .Not a _ => (trT n sc a).map .not
    | .BoolOp .And es _ => trTB (trT n sc) .and es
    | .BoolOp .Or es _ => trTB (trT n sc) .or es
    | .Compare a [op] [b] _ => if behindInMarks op b then none else (trE n sc a).bind fun c => (trE n sc b).map fun d => .cmp op c d
    | .Compare a [o1, o2] [b, b2] _ => if lastMarks [o1, o2] [b, b2] then none else (trE n sc a).bind fun c => (trE n sc b).bind fun d => (trE n sc b2).map fun d2 => .chain o1 o2 c d d2
    | e => if plainT e then (trE n sc e).map .val else none
def trI : Nat → Scope → Expr → Option CI
  | 0, _, _ => none
  | n + 1, sc, e => match e with
    | .Call (.Name f p) [a] [] q => if f = ("range" : Str) ∧ ("range" : Str) ∈ T.Γ.bl ∧ glbB sc f = true ∧ notStar a = true then (trE n sc a).map .rng1 else (trE n sc (.Call (.Name f p) [a] [] q)).map .seq
    | .Call (.Name f p) [a, b] [] q => if f = ("range" : Str) ∧ ("range" : Str) ∈ T.Γ.bl ∧ glbB sc f = true ∧ notStar a = true ∧ notStar b = true then (trE n sc a).bind fun c => (trE n sc b).map fun d => .rng2 c d else (trE n sc (.Call (.Name f p) [a, b] [] q)).map .seq
    | e => (trE n sc e).map .seq
end
end
end Cs
/-! Cs12: what is read is what is run: expressions. -/
namespace Cs
open PySem L2
theorem star_cons {e : Expr} (h : notStar e = true) (es : List Expr) (env : PySem.Env) : starEach (e :: es) env = (false, eval e env) :: starEach es env := by
  cases e <;> first | rfl | cases h
theorem plain_ix {b : Expr} (h : notSlice b = true) : PlainIx b := fun o i => by
  cases b <;> first | rfl | cases h
theorem plain_t {e : Expr} (h : plainT e = true) (env : PySem.Env) : ∀ whole, isTrue e env whole = (do let v ← whole; standAt e.pos; holding [v] (truthy v)) := fun whole => by
  cases e with
  | UnaryOp op a p => cases op <;> first | rfl | cases h
  | BoolOp _ _ _ => cases h
  | IfExp _ _ _ _ => cases h
  | Compare _ _ _ _ => cases h
  | _ => rfl
theorem set_it {e : Expr} (h : notSet e = true) (env : PySem.Env) : ∀ x, foldedSetIterable e env x = pure x := fun x => by
  cases e <;> first | rfl | cases h
theorem vis_of {sc : Scope} {x : Str} (h : visB sc x = true) : Vis sc x := by
  unfold visB kindS at h
  unfold Vis
  split at h
  · exact .inl (by assumption)
  · exact .inr (.inl (by assumption))
  · exact .inr (.inr (by assumption))
  · cases h
theorem nm_of {x : Str} (h : nmOk x = true) : (x == ("__debug__" : Str)) = false ∧ (x == ("__classdict__" : Str)) = false := by
  unfold nmOk at h
  rw [Bool.and_eq_true] at h
  exact ⟨by simpa using h.1, by simpa using h.2⟩
theorem slot_of {N : List Str} {x : Str} {i : Nat} (h : slotOf N x = some i) : N[i]? = some x := by
  unfold slotOf at h
  split at h
  · split at h
    · rename_i z
      cases h
      exact z
    · cases h
  · cases h
theorem any_star {p : Pos} {env : PySem.Env} : ∀ {es : List Expr}, (∀ e ∈ es, notStar e = true) → (backTo p (starEach es env)).any (·.1) = false
  | [], _ => rfl
  | e :: es, h => by
    rw [star_cons (h e List.mem_cons_self)]
    show (false || (backTo p (starEach es env)).any (·.1)) = false
    rw [any_star fun e he => h e (List.mem_cons_of_mem _ he)]; rfl
theorem trL_star {f : Expr → Option CE} : ∀ {es : List Expr} {cs : CEs}, trL f es = some cs → ∀ e ∈ es, notStar e = true
  | [], _, _, _, h => nomatch h
  | a :: es, cs, h, e, he => by
    unfold trL at h
    split at h
    · rename_i z
      obtain ⟨c, h1, h2⟩ := Option.bind_eq_some_iff.mp h
      obtain ⟨cs', h3, h4⟩ := Option.map_eq_some_iff.mp h2
      rcases List.mem_cons.mp he with q | q
      · rw [q]; exact z
      · exact trL_star h3 e q
    · cases h
section
variable {X : Cx} {C : Ctx} {W : WX} {Γ : Gam} {f : Expr → Option CE} {ft : Expr → Option CT}
theorem trL_es (hf : ∀ e c, f e = some c → PE X e (tEv X C W c)) : ∀ {es : List Expr} {cs : CEs}, trL f es = some cs → PA X es (tEs X C W cs)
  | [], _, h => by cases h; exact snd_nil
  | e :: es, cs, h => by
    unfold trL at h
    split at h
    · rename_i z
      obtain ⟨c, h1, h2⟩ := Option.bind_eq_some_iff.mp h
      obtain ⟨cs', h3, h4⟩ := Option.map_eq_some_iff.mp h2
      subst h4
      exact snd_cons (hf e c h1) (trL_es hf h3) (star_cons z _ _)
    · cases h
theorem trL_rs (hf : ∀ e c, f e = some c → PE X e (tRf X C W c)) : ∀ {es : List Expr} {cs : CEs}, trL f es = some cs → PA X es (tRs X C W cs)
  | [], _, h => by cases h; exact rnd_nil
  | e :: es, cs, h => by
    unfold trL at h
    split at h
    · rename_i z
      obtain ⟨c, h1, h2⟩ := Option.bind_eq_some_iff.mp h
      obtain ⟨cs', h3, h4⟩ := Option.map_eq_some_iff.mp h2
      subst h4
      exact rnd_cons (hf e c h1) (trL_rs hf h3) (star_cons z _ _)
    · cases h
theorem trB_and {pos : Pos} (hf : ∀ e c, f e = some c → PE X e (tEv X C W c)) : ∀ {es : List Expr} {c : CE}, trB f .andv es = some c → PE X (.BoolOp .And es pos) (tEv X C W c)
  | [], _, h => nomatch h
  | [a], c, h => snd_one (hf a c h)
  | a :: b :: es, c, h => by
    unfold trB at h
    obtain ⟨c1, h1, h2⟩ := Option.bind_eq_some_iff.mp h
    obtain ⟨c2, h3, h4⟩ := Option.map_eq_some_iff.mp h2
    subst h4
    exact snd_andv (hf a c1 h1) (trB_and hf h3)
theorem trB_or {pos : Pos} (hf : ∀ e c, f e = some c → PE X e (tEv X C W c)) : ∀ {es : List Expr} {c : CE}, trB f .orv es = some c → PE X (.BoolOp .Or es pos) (tEv X C W c)
  | [], _, h => nomatch h
  | [a], c, h => snd_one (hf a c h)
  | a :: b :: es, c, h => by
    unfold trB at h
    obtain ⟨c1, h1, h2⟩ := Option.bind_eq_some_iff.mp h
    obtain ⟨c2, h3, h4⟩ := Option.map_eq_some_iff.mp h2
    subst h4
    exact snd_orv (hf a c1 h1) (trB_or hf h3)
theorem trTB_and {pos : Pos} (hf : ∀ e c, ft e = some c → PT X e (tTs X C W c)) : ∀ {es : List Expr} {c : CT}, trTB ft .and es = some c → PW X (.BoolOp .And es pos) (tTs X C W c)
  | [], _, h => nomatch h
  | [a], c, h => wnd_one1 (hf a c h)
  | a :: b :: es, c, h => by
    unfold trTB at h
    obtain ⟨c1, h1, h2⟩ := Option.bind_eq_some_iff.mp h
    obtain ⟨c2, h3, h4⟩ := Option.map_eq_some_iff.mp h2
    subst h4
    exact wnd_and (hf a c1 h1) (trTB_and hf h3)
theorem trTB_or {pos : Pos} (hf : ∀ e c, ft e = some c → PT X e (tTs X C W c)) : ∀ {es : List Expr} {c : CT}, trTB ft .or es = some c → PW X (.BoolOp .Or es pos) (tTs X C W c)
  | [], _, h => nomatch h
  | [a], c, h => wnd_one2 (hf a c h)
  | a :: b :: es, c, h => by
    unfold trTB at h
    obtain ⟨c1, h1, h2⟩ := Option.bind_eq_some_iff.mp h
    obtain ⟨c2, h3, h4⟩ := Option.map_eq_some_iff.mp h2
    subst h4
    exact wnd_or (hf a c1 h1) (trTB_or hf h3)
theorem trO_po (hf : ∀ e c, f e = some c → PE X e (tEv X C W c)) {o : Option Expr} {c : CO} (h : trO f o = some c) : PO X o (tOo X C W c) := by
  cases o with
  | none => cases h; exact snd_ono
  | some e =>
    obtain ⟨c1, h1, h2⟩ := Option.map_eq_some_iff.mp (show (f e).map CO.some = some c from h)
    subst h2
    exact snd_osm (hf e c1 h1)
/-! ### targets -/
/-- the names that a block may store to: as it has them itself -/
def LkOk (X : Cx) (lk : Str → Option NameKind) : Prop := ∀ x, (lk x = some .local → X.env.scope.names.lookup x = some .local) ∧ (lk x = some .cell → X.env.scope.names.lookup x = some .cell ∧ X.fn x = true)
theorem trGs_pg {f : Expr → Option CG} (hf : ∀ e g, f e = some g → PG X e (tTg X g)) : ∀ (es : List Expr) (gs : CGs), trGs f es = some gs →
    PGs X es (tTgs X gs) ∧ (assignEach es X.env).findIdx? (·.1) = none ∧ (assignEach es X.env).length = es.length ∧ ∀ ds ρ ρ', assigns gs ds ρ = some ρ' → ds.length = es.length
  | [], gs, h => by
    cases h
    exact ⟨gnd_nil, rfl, rfl, fun ds ρ ρ' e => by cases ds with | nil => rfl | cons _ _ => cases e⟩
  | e :: es, gs, h => by
    unfold trGs at h
    split at h
    · rename_i z
      obtain ⟨g, h1, h2⟩ := Option.bind_eq_some_iff.mp h
      obtain ⟨gs', h3, h4⟩ := Option.map_eq_some_iff.mp h2
      subst h4
      obtain ⟨q1, q2, q3, q4⟩ := trGs_pg hf es gs' h3
      have ha : assignEach (e :: es) X.env = (false, PySem.assign e X.env) :: assignEach es X.env := by cases e <;> first | rfl | cases z
      refine ⟨gnd_cons (hf e g h1) q1 (by rw [ha]; rfl), ?_, by rw [ha, List.length_cons, q3]; rfl, fun ds ρ ρ' k => ?_⟩
      · rw [ha, List.findIdx?_cons, q2]; rfl
      · rw [assigns_len (g := g) (gs := gs') (n := es.length) (ds := ds) (ρ := ρ) (ρ' := ρ') q4 ds ρ ρ' k]; rfl
    · cases h
theorem trG_pg (hc : X.calm = true) (hN : X.N.Nodup) {lk : Str → Option NameKind} (hl : LkOk X lk) : ∀ (n : Nat) (e : Expr) (g : CG), trG X.N lk n e = some g → PG X e (tTg X g)
  | 0, _, _, h => nomatch h
  | n + 1, e, g, h => by
    unfold trG at h
    split at h
    · rename_i x p
      split at h
      · rename_i z
        obtain ⟨i, h1, h2⟩ := Option.map_eq_some_iff.mp h
        subst h2
        rcases z with z | z
        · have q := (hl x).1 z
          exact gnd_name hN (slot_of h1) (.inl q) (.inr q)
        · have q := (hl x).2 z
          exact gnd_name hN (slot_of h1) (.inr q.1) (.inl q.2)
      · cases h
    · obtain ⟨gs, h1, h2⟩ := Option.map_eq_some_iff.mp h
      subst h2
      obtain ⟨q1, q2, q3, q4⟩ := trGs_pg (trG_pg hc hN hl n) _ gs h1
      exact gnd_tup hc q1 q2 q3 q4
    · cases h
/-! ### a comprehension's block -/
theorem relabel_local {scope : Scope} {env : PySem.Env} {x : Str} (h : scope.names.lookup x = some .local) : (relabel scope env).names.lookup x = some .local := lookup_relabel_local h
theorem relabel_is {scope : Scope} {env : PySem.Env} : relabel scope env = relS scope env.scope := rfl
theorem Gd.blk (g : Gd Γ X C W) {scope : Scope} (hk : scope.kind = .function) (s : Shared) (H : Hp) (A : Addr) (cl : List (Str × Addr)) (fp : List Addr) : Gd Γ (X.blk s H scope (compEnvC scope cl A X.env) fp) C (fun _ _ _ _ => False) where
  N := g.N
  nd := g.nd
  kind := hk
  calm := g.calm
  tk := takes0
  pass := PassesOwn.never
  units := g.units
  fns := g.fns
  blt := g.blt
  con := g.con
  whl := g.whl
theorem lk_blk {scope : Scope} {s : Shared} {H : Hp} {A : Addr} {cl : List (Str × Addr)} {fp : List Addr} : LkOk (X.blk s H scope (compEnvC scope cl A X.env) fp) (kindS scope) := fun x => by
  refine ⟨fun h => relabel_local h, fun h => ⟨lookup_relS_keep (sc := X.env.scope) (by intro z; cases z) h, ?_⟩⟩
  show (scope.names.lookup x == some NameKind.cell) = true
  rw [show scope.names.lookup x = some .cell from h]; rfl
theorem own_snd {N : List Str} {scope : Scope} : ownI N scope = (ownOf N scope).map (·.2) := rfl
theorem blkC_kind {N : List Str} {sc scope : Scope} {own : List (Str × Nat)} (h : blkC N sc scope own = true) : scope.kind = .function := (blkOk_by h).kind
theorem bi_of {f : Str} {n : Nat} {b : BI} (h : biOf f n = some b) : biN b = f := by
  obtain ⟨r, h1, h2⟩ := Option.bind_eq_some_iff.mp h
  split at h2
  · rename_i z
    cases h2
    exact z
  · cases h2
end
end Cs
/-! Cs13: what is read is what is run: expressions, whole. -/
namespace Cs
open PySem L2
structure Rd3 (T : Tc) (C : Ctx) (n : Nat) : Prop where
  e : ∀ {X : Cx} {W : WX} {sc : Scope}, Gd T.Γ X C W → X.env.scope = sc → ∀ e c, trE T n sc e = some c → PE X e (tEv X C W c) ∧ PE X e (tRf X C W c)
  t : ∀ {X : Cx} {W : WX} {sc : Scope}, Gd T.Γ X C W → X.env.scope = sc → ∀ e c, trT T n sc e = some c → PT X e (tTs X C W c)
  i : ∀ {X : Cx} {W : WX} {sc : Scope}, Gd T.Γ X C W → X.env.scope = sc → ∀ e c tg, trI T n sc e = some c → PI X tg e (tIt X C W c)
section
variable {T : Tc} {C : Ctx}
theorem gl_of {X : Cx} {sc : Scope} {x : Str} (hs : X.env.scope = sc) (h : glbB sc x = true) : Gl X x := by
  unfold glbB kindS at h
  have h := of_decide_eq_true h
  unfold Gl PySem.Env.kindOf
  rw [hs]
  exact h
theorem call_len {es : List Expr} {f : Expr → Option CE} {cs : CEs} (h : trL f es = some cs) : es = [] → cs = .nil := fun e => by subst e; cases h; rfl
/-- a list comprehension read -/
theorem lc_parts {X : Cx} {W : WX} {sc : Scope} {fE : Scope → Expr → Option CE} {fT : Scope → Expr → Option CT} {fI : Scope → Expr → Option CI} (g : Gd T.Γ X C W) (hs : X.env.scope = sc)
    (hE : ∀ {X : Cx} {W : WX} {sc : Scope}, Gd T.Γ X C W → X.env.scope = sc → ∀ e c, fE sc e = some c → PE X e (tEv X C W c) ∧ PE X e (tRf X C W c))
    (hT : ∀ {X : Cx} {W : WX} {sc : Scope}, Gd T.Γ X C W → X.env.scope = sc → ∀ e c, fT sc e = some c → PT X e (tTs X C W c))
    (hI : ∀ {X : Cx} {W : WX} {sc : Scope}, Gd T.Γ X C W → X.env.scope = sc → ∀ e c tg, fI sc e = some c → PI X tg e (tIt X C W c))
    {elt : Expr} {gens : List Comprehension} {scope : Scope} {c : CE} (h : trLc T.Γ.N sc fE fT fI elt gens scope = some c) :
    ∃ tg it ifs, gens = [⟨tg, it, ifs, 0⟩] ∧ ∃ own gg ci ct ce, c = .lc (own.map (·.2)) gg ci ct ce ∧ PI X tg it (tIt X C W ci) ∧ BlkOk X.N X.env.scope scope own ∧ (own.map (·.2)).Nodup ∧ (∀ i ∈ slotsG gg, i ∈ own.map (·.2)) ∧
      (∀ (s : Shared) (H : Hp) (A : Addr) (cl : List (Str × Addr)) (fp : List Addr), PG (X.blk s H scope (compEnvC scope cl A X.env) fp) tg (tTg X gg)) ∧
      (∀ (s : Shared) (H : Hp) (A : Addr) (cl : List (Str × Addr)) (fp : List Addr), PTs (X.blk s H scope (compEnvC scope cl A X.env) fp) ifs (tTs X C (fun _ _ _ _ => False) ct)) ∧
      (∀ (s : Shared) (H : Hp) (A : Addr) (cl : List (Str × Addr)) (fp : List Addr), PE (X.blk s H scope (compEnvC scope cl A X.env) fp) elt (tEv X C (fun _ _ _ _ => False) ce)) ∧
      (∀ x, foldedSetIterable it X.env x = pure x) := by
  unfold trLc at h
  split at h
  · rename_i tg it ifs
    split at h
    · rename_i z
      rw [Bool.and_eq_true, Bool.and_eq_true] at z
      obtain ⟨⟨z1, z2⟩, z3⟩ := z
      obtain ⟨gg, h1, h2⟩ := Option.bind_eq_some_iff.mp h
      split at h2
      · rename_i zs
        obtain ⟨ci, h3, h4⟩ := Option.bind_eq_some_iff.mp h2
        obtain ⟨ct, h5, h6⟩ := Option.bind_eq_some_iff.mp h4
        obtain ⟨ce, h7, h8⟩ := Option.map_eq_some_iff.mp h6
        subst h8
        have hk := blkC_kind z1
        have gb := fun s H A cl fp => g.blk hk s H A cl fp
        have hsb : ∀ (s : Shared) (H : Hp) (A : Addr) (cl : List (Str × Addr)) (fp : List Addr), (X.blk s H scope (compEnvC scope cl A X.env) fp).env.scope = relS scope sc := fun s H A cl fp => by
          show relabel scope X.env = _
          rw [← hs]; rfl
        have zi : ∀ i ∈ slotsG gg, i ∈ ownI T.Γ.N scope := fun i hi => of_decide_eq_true (List.all_eq_true.mp zs i hi)
        have z1' : blkC X.N X.env.scope scope (ownOf T.Γ.N scope) = true := by rw [g.N, hs]; exact z1
        refine ⟨tg, it, ifs, rfl, ownOf T.Γ.N scope, gg, ci, ct, ce, rfl, hI g hs it ci tg h3, blkOk_by z1', of_decide_eq_true z2, zi, fun s H A cl fp => ?_, fun s H A cl fp => ?_, fun s H A cl fp => ?_, set_it z3 _⟩
        · refine trG_pg (X := X.blk s H scope (compEnvC scope cl A X.env) fp) g.calm g.nd lk_blk 9 tg gg ?_
          show trG X.N _ _ _ = _
          rw [g.N]; exact h1
        · cases ifs with
          | nil =>
            cases h5
            exact ⟨fun pins s σ H Q I q => by
              obtain ⟨F, ρ, ss, h⟩ := q
              rw [evT] at h
              exact pts_nil.run pins s σ H Q I (h H ss)⟩
          | cons q1 ifs =>
            cases ifs with
            | nil => exact pts_one (hT (gb s H A cl fp) (hsb s H A cl fp) q1 ct h5)
            | cons _ _ => cases h5
        · exact (hE (gb s H A cl fp) (hsb s H A cl fp) elt ce h7).1
      · cases h2
    · cases h
  · cases h
theorem trE_ok (hcons : ∀ x ∈ T.cons, ∃ d, C.cons x = some d) : ∀ n, Rd3 T C n
  | 0 => by
    refine ⟨fun {X W sc} g hs e c h => ?_, fun {X W sc} g hs e c h => ?_, fun {X W sc} g hs e c tg h => ?_⟩
    · unfold trE at h; cases h
    · unfold trT at h; cases h
    · unfold trI at h; cases h
  | n + 1 => by
    have ih := trE_ok hcons n
    refine ⟨fun {X W sc} g hs e c h => ?_, fun {X W sc} g hs e c h => ?_, fun {X W sc} g hs e c tg h => ?_⟩
    · have fE : ∀ e c, trE T n sc e = some c → PE X e (tEv X C W c) := fun e c q => (ih.e g hs e c q).1
      have fR : ∀ e c, trE T n sc e = some c → PE X e (tRf X C W c) := fun e c q => (ih.e g hs e c q).2
      have fT := fun e c q => ih.t g hs e c q
      have both : ∀ {e : Expr} {c : CE}, (∀ i, c ≠ .var i) → PE X e (tEv X C W c) → PE X e (tEv X C W c) ∧ PE X e (tRf X C W c) := fun hc p => ⟨p, rf_of hc p⟩
      unfold trE at h
      split at h
      · -- a name
        rename_i x p
        split at h
        · rename_i hn
          obtain ⟨n1, n2⟩ := nm_of hn
          split at h
          · rename_i hv
            obtain ⟨i, h1, h2⟩ := Option.map_eq_some_iff.mp h
            subst h2
            have hN : X.N[i]? = some x := by rw [g.N]; exact slot_of h1
            have v : Vis X.env.scope x := by rw [hs]; exact vis_of hv
            exact ⟨snd_var hN v n1 n2, rf_var hN v n1 n2⟩
          · split at h
            · rename_i z
              cases h
              rw [Bool.and_eq_true] at z
              obtain ⟨d, hd⟩ := hcons x (of_decide_eq_true z.2)
              exact both (fun i q => by cases q) (snd_con g (gl_of hs z.1) hd n1)
            · cases h
        · cases h
      · cases h; exact both (fun i q => by cases q) snd_int
      · cases h; exact both (fun i q => by cases q) snd_bl
      · cases h; exact both (fun i q => by cases q) snd_str
      · cases h; exact both (fun i q => by cases q) snd_non
      · obtain ⟨cs, h1, h2⟩ := Option.map_eq_some_iff.mp h
        subst h2
        exact both (fun i q => by cases q) (pe_imp (pe_tup (trL_es fE h1)) fun _ _ _ => ent_tup)
      · obtain ⟨cs, h1, h2⟩ := Option.map_eq_some_iff.mp h
        subst h2
        exact both (fun i q => by cases q) (pe_imp (pe_lst (trL_es fE h1)) fun _ _ _ => ent_lst)
      · obtain ⟨c1, h1, h2⟩ := Option.bind_eq_some_iff.mp h
        obtain ⟨c2, h3, h4⟩ := Option.map_eq_some_iff.mp h2
        subst h4
        exact both (fun i q => by cases q) (snd_bin (fR _ _ h1) (fR _ _ h3))
      · obtain ⟨c1, h1, h2⟩ := Option.map_eq_some_iff.mp h
        subst h2
        exact both (fun i q => by cases q) (snd_neg (fE _ _ h1))
      · obtain ⟨c1, h1, h2⟩ := Option.map_eq_some_iff.mp h
        subst h2
        exact both (fun i q => by cases q) (snd_notv (fE _ _ h1))
      · split at h
        · cases h
        · rename_i hm
          obtain ⟨c1, h1, h2⟩ := Option.bind_eq_some_iff.mp h
          obtain ⟨c2, h3, h4⟩ := Option.map_eq_some_iff.mp h2
          subst h4
          exact both (fun i q => by cases q) (snd_cmp g.units (fR _ _ h1) (fR _ _ h3) (Bool.eq_false_iff.mpr hm))
      · split at h
        · cases h
        · rename_i hm
          obtain ⟨c1, h1, h2⟩ := Option.bind_eq_some_iff.mp h
          obtain ⟨c2, h3, h4⟩ := Option.bind_eq_some_iff.mp h2
          obtain ⟨c3, h5, h6⟩ := Option.map_eq_some_iff.mp h4
          subst h6
          exact both (fun i q => by cases q) (snd_chain g.units (fE _ _ h1) (fE _ _ h3) (fE _ _ h5) (Bool.eq_false_iff.mpr hm))
      · obtain ⟨c1, h1, h2⟩ := Option.bind_eq_some_iff.mp h
        split at h2
        · rename_i z
          cases h2
          exact both (fun i q => by subst q; cases z) (trB_and fE h1)
        · cases h2
      · obtain ⟨c1, h1, h2⟩ := Option.bind_eq_some_iff.mp h
        split at h2
        · rename_i z
          cases h2
          exact both (fun i q => by subst q; cases z) (trB_or fE h1)
        · cases h2
      · obtain ⟨q1, h1, h2⟩ := Option.bind_eq_some_iff.mp h
        obtain ⟨c1, h3, h4⟩ := Option.bind_eq_some_iff.mp h2
        obtain ⟨c2, h5, h6⟩ := Option.map_eq_some_iff.mp h4
        subst h6
        exact both (fun i q => by cases q) (snd_ifx (fT _ _ h1) (fE _ _ h3) (fE _ _ h5))
      · obtain ⟨c1, h1, h2⟩ := Option.bind_eq_some_iff.mp h
        obtain ⟨l, h3, h4⟩ := Option.bind_eq_some_iff.mp h2
        obtain ⟨u, h5, h6⟩ := Option.map_eq_some_iff.mp h4
        subst h6
        exact both (fun i q => by cases q) (snd_slc (fR _ _ h1) (trO_po fE h3) (trO_po fE h5))
      · split at h
        · rename_i z
          obtain ⟨c1, h1, h2⟩ := Option.bind_eq_some_iff.mp h
          obtain ⟨c2, h3, h4⟩ := Option.map_eq_some_iff.mp h2
          subst h4
          exact both (fun i q => by cases q) (snd_idx (fR _ _ h1) (fR _ _ h3) (plain_ix z))
        · cases h
      · rename_i f p es q
        split at h
        · rename_i z
          rw [Bool.and_eq_true] at z
          obtain ⟨n1, n2⟩ := nm_of z.1
          have hg := gl_of hs z.2
          split at h
          · rename_i zf
            obtain ⟨cs, h1, h2⟩ := Option.map_eq_some_iff.mp h
            subst h2
            have st := trL_star h1
            have ra := trL_rs fR h1
            refine both (fun i q => by cases q) ?_
            cases es with
            | nil =>
              cases h1
              exact snd_call0 g (of_decide_eq_true zf) hg n1
            | cons e1 es => exact snd_call g (of_decide_eq_true zf) hg ra n1 (star_cons (st e1 List.mem_cons_self) _ _) (any_star fun e he => st e (List.mem_cons_of_mem _ he))
          · obtain ⟨b, h1, h2⟩ := Option.bind_eq_some_iff.mp h
            split at h2
            · rename_i zb
              obtain ⟨cs, h3, h4⟩ := Option.map_eq_some_iff.mp h2
              subst h4
              have st := trL_star h3
              have ra := trL_rs fR h3
              have eb := bi_of h1
              subst eb
              refine both (fun i q => by cases q) ?_
              cases es with
              | nil =>
                exfalso
                cases b <;> exact absurd h1 (by decide +kernel)
              | cons e1 es => exact snd_bi g (of_decide_eq_true zb) hg ra (star_cons (st e1 List.mem_cons_self) _ _) (any_star fun e he => st e (List.mem_cons_of_mem _ he))
            · cases h2
        · cases h
      · rename_i elt gens scope p
        obtain ⟨tg, it, ifs, rfl, own, gg, ci, ct, ce, rfl, q1, q2, q3, q4, q5, q6, q7, q8⟩ := lc_parts g hs (fun {X W sc} => ih.e (X := X) (W := W) (sc := sc)) (fun {X W sc} => ih.t (X := X) (W := W) (sc := sc)) (fun {X W sc} => ih.i (X := X) (W := W) (sc := sc)) h
        exact both (fun i q => by cases q) (snd_lc g.calm g.nd q1 q2 q3 q4 q5 q6 q7 q8)
      · cases h
    · have fE : ∀ e c, trE T n sc e = some c → PE X e (tEv X C W c) := fun e c q => (ih.e g hs e c q).1
      have fR : ∀ e c, trE T n sc e = some c → PE X e (tRf X C W c) := fun e c q => (ih.e g hs e c q).2
      have fT := fun e c q => ih.t g hs e c q
      unfold trT at h
      split at h
      · obtain ⟨c1, h1, h2⟩ := Option.map_eq_some_iff.mp h
        subst h2
        exact tnd_not (fT _ _ h1)
      · exact (trTB_and fT h).pt
      · exact (trTB_or fT h).pt
      · split at h
        · cases h
        · rename_i hm
          obtain ⟨c1, h1, h2⟩ := Option.bind_eq_some_iff.mp h
          obtain ⟨c2, h3, h4⟩ := Option.map_eq_some_iff.mp h2
          subst h4
          exact tnd_cmp g.units (fR _ _ h1) (fR _ _ h3) (Bool.eq_false_iff.mpr hm)
      · split at h
        · cases h
        · rename_i hm
          obtain ⟨c1, h1, h2⟩ := Option.bind_eq_some_iff.mp h
          obtain ⟨c2, h3, h4⟩ := Option.bind_eq_some_iff.mp h2
          obtain ⟨c3, h5, h6⟩ := Option.map_eq_some_iff.mp h4
          subst h6
          exact tnd_chain g.units (fE _ _ h1) (fE _ _ h3) (fE _ _ h5) (Bool.eq_false_iff.mpr hm)
      · split at h
        · rename_i z
          obtain ⟨c1, h1, h2⟩ := Option.map_eq_some_iff.mp h
          subst h2
          exact tnd_val (fR _ _ h1) (plain_t z _)
        · cases h
    · have fE : ∀ e c, trE T n sc e = some c → PE X e (tEv X C W c) := fun e c q => (ih.e g hs e c q).1
      unfold trI at h
      split at h
      · split at h
        · rename_i z
          obtain ⟨rfl, zb, zg, za⟩ := z
          obtain ⟨c1, h1, h2⟩ := Option.map_eq_some_iff.mp h
          subst h2
          exact ind_rng1 (gl_of hs zg) (g.blt _ zb) (fE _ _ h1) (star_cons za [] _)
        · obtain ⟨c1, h1, h2⟩ := Option.map_eq_some_iff.mp h
          subst h2
          exact ind_seq (fE _ _ h1)
      · split at h
        · rename_i z
          obtain ⟨rfl, zb, zg, za, zc⟩ := z
          obtain ⟨c1, h1, h2⟩ := Option.bind_eq_some_iff.mp h
          obtain ⟨c2, h3, h4⟩ := Option.map_eq_some_iff.mp h2
          subst h4
          exact ind_rng2 (gl_of hs zg) (g.blt _ zb) (fE _ _ h1) (fE _ _ h3) (by rw [star_cons za, star_cons zc]; rfl) (star_cons zc [] _)
        · obtain ⟨c1, h1, h2⟩ := Option.map_eq_some_iff.mp h
          subst h2
          exact ind_seq (fE _ _ h1)
      · obtain ⟨c1, h1, h2⟩ := Option.map_eq_some_iff.mp h
        subst h2
        exact ind_seq (fE _ _ h1)
end
end Cs
/-! Cs14: statements read, and what is read is what is run. -/
namespace Cs
open PySem L2
def okSlot (T : Tc) (i : Nat) : Bool := decide (T.np ≤ i) || decide (i ∈ T.asg)
def locB (sc : Scope) (x : Str) : Bool := decide (kindS sc x = some .local) || decide (kindS sc x = some .cell)
def isLc : Expr → Bool
  | .ListComp _ _ _ _ => true
  | _ => false
/-- name = [..]: the name is stored within -/
def swB (sc : Scope) (y : Str) (py : Pos) : Expr → Bool
  | .ListComp _ _ scope p => decide (kindS sc y = some .local) && (py.line == p.line) && !(scope.names.any fun (n, k) => n == y && (k == .local || k == .cell))
  | _ => false
def parB (sc : Scope) (x y : Str) (px py : Pos) (a b : Expr) : Bool := decide (kindS sc x = some .local) && decide (kindS sc y = some .local) && (py.line == px.line) && decide (x ≠ y) && notStar a && notStar b && !([a, b].all (foldedForSure 8)) && !([a, b].all (constantsAlone 8))
def trSl (f : Stmt → Option CS) : List Stmt → Option CSs
  | [] => some .nil
  | s :: ss => (f s).bind fun c => (trSl f ss).map fun cs => .cons c cs
section
variable (T : Tc)
def trS : Nat → Scope → Stmt → Option CS
  | 0, _, _ => none
  | n + 1, sc, st => match st with
    | .Assign [.Name y py] e _ => (slotOf T.Γ.N y).bind fun i => if okSlot T i && locB sc y && (notComp e || isLc e) then (trE T n sc e).map fun c => .asg (.name i) c else none
    | .Assign [.Tuple [.Name x px, .Name y py] kt pt] (.Tuple [a, b] k2 p2) _ => if parB sc x y px py a b then (slotOf T.Γ.N x).bind fun i => (slotOf T.Γ.N y).bind fun j => if okSlot T i && okSlot T j && decide (i ≠ j) then (trE T n sc a).bind fun c => (trE T n sc b).map fun d => .par i j c d else none else none
    | .Assign [.Tuple es k p] e _ => if notTup e && notComp e then (trG T.Γ.N (kindS sc) 9 (.Tuple es k p)).bind fun g => if (slotsG g).all (okSlot T) then (trE T n sc e).map fun c => .asg g c else none else none
    | .Assign [.Subscript (.Name x _) ie _] e _ => if nmOk x && visB sc x && notSlice ie && notComp e then (slotOf T.Γ.N x).bind fun i => (trE T n sc e).bind fun c => (trE T n sc ie).map fun d => .setI c i d else none
    | .AugAssign (.Name x _) op e _ => (slotOf T.Γ.N x).bind fun i => if okSlot T i && locB sc x then (trE T n sc e).map fun c => .aug i op c else none
    | .Expr (.Call (.Attribute (.Name x p2) m apos) [e] [] cpos) _ => if decide (m = ("append" : Str)) && nmOk x && visB sc x && notStar e && (apos.endLine == cpos.line) then (slotOf T.Γ.N x).bind fun i => (trE T n sc e).map fun c => .app i c else none
    | .Expr e _ => if notComp e then (trE T n sc e).map .drop else none
    | .Return (some e) _ => match e with
      | .Name x p => if nmOk x && visB sc x then (slotOf T.Γ.N x).bind fun i => if T.np ≤ i then some (.ret (.mv i)) else some (.ret (.var i)) else (trE T n sc (.Name x p)).map .ret
      | e => (trE T n sc e).map .ret
    | .Return none _ => some .retN
    | .Pass _ => some .pass
    | .Break _ => some .brk
    | .Continue _ => some .cont
    | .If t a b _ => (trT T n sc t).bind fun q => (trSl (trS n sc) a).bind fun c => (trSl (trS n sc) b).map fun d => .ife q c d
    | .While t b [] _ => (trT T n sc t).bind fun q => (trSl (trS n sc) b).map fun c => .whl q c
    | .For tg it b [] _ => if notSet it then (trG T.Γ.N (kindS sc) 9 tg).bind fun g => if (slotsG g).all (okSlot T) then (trI T n sc it).bind fun ci => (trSl (trS n sc) b).map fun c => .for g ci c else none else none
    | _ => none
end
theorem no_swap {e : Expr} {tg : Option Expr} {l : Nat} {env : PySem.Env} (h : notComp e = true) : swapsWith e tg l env = pure false := by
  cases e <;> first | rfl | cases h
theorem no_swapS {e tg : Expr} {l : Nat} {env : PySem.Env} (h : notComp e = true) : swapsWithSole [tg] e l env = pure false := no_swap h
theorem no_stores_name {x : Str} {p : Pos} {e : Expr} {env : PySem.Env} : swappedStores [.Name x p] e env = pure none := by
  cases e <;> rfl
theorem no_stores_sub {a b : Expr} {p : Pos} {e : Expr} {env : PySem.Env} : swappedStores [.Subscript a b p] e env = pure none := by
  cases e <;> rfl
theorem no_stores_tup {ts : List Expr} {k : Nat} {p : Pos} {e : Expr} {env : PySem.Env} (h : notTup e = true) : swappedStores [.Tuple ts k p] e env = pure none := by
  cases e <;> first | rfl | cases h
theorem par_stores {env : PySem.Env} {x y : Str} {px py pt p2 : Pos} {kt k2 : Nat} {a b : Expr} (hk : env.scope.kind = .function) (h : parB env.scope x y px py a b = true) : swappedStores [.Tuple [.Name x px, .Name y py] kt pt] (.Tuple [a, b] k2 p2) env = pure (some [x, y]) := by
  unfold parB kindS at h
  simp only [Bool.and_eq_true, decide_eq_true_eq, Bool.not_eq_true'] at h
  obtain ⟨⟨⟨⟨⟨⟨⟨h1, h2⟩, h3⟩, h4⟩, h5⟩, h6⟩, h7⟩, h8⟩ := h
  have hb : env.blockKind = .function := by unfold Env.blockKind; rw [hk]; rfl
  have k1 : env.kindOf x = some .local := h1
  have k2 : env.kindOf y = some .local := h2
  have hs : ∀ f : Expr → Bool, (∀ e, notStar e = true → f e = false) → [a, b].any f = false := fun f hf => by
    rw [List.any_cons, List.any_cons, hf a h5, hf b h6]; rfl
  have h3' : py.line = px.line := by simpa using h3
  have hd : ([x, y] : List Str).eraseDups = [x, y] := by
    simp [List.eraseDups_cons, Ne.symm h4]
  have hf : ∀ f : Expr → Option Str, f (.Name x px) = some x → f (.Name y py) = some y → [Expr.Name x px, Expr.Name y py].filterMap f = [x, y] := fun f e1 e2 => by
    rw [List.filterMap_cons, e1, List.filterMap_cons, e2]; rfl
  unfold swappedStores
  dsimp only
  rw [if_neg (by rw [hb]; simp)]
  rw [if_neg (by rw [hs _ fun e he => by cases e <;> first | rfl | cases he]; decide)]
  rw [hf _ (by simp [k1, Expr.pos]) (by simp [k2, Expr.pos, h3']), hd, h7, h8]
  rfl
end Cs
/-! Cs15: what is read is what is run: statements. -/
namespace Cs
open PySem L2
section
variable {T : Tc} {C : Ctx} {X : Cx} {W : WX} {I : L2.St → Prop} {sc : Scope}
theorem loc_of {x : Str} (hs : X.env.scope = sc) (h : locB sc x = true) : Loc X.env.scope x := by
  unfold locB kindS at h
  rw [Bool.or_eq_true] at h
  rw [hs]
  rcases h with h | h
  · exact .inl (of_decide_eq_true h)
  · exact .inr (of_decide_eq_true h)
theorem trSl_ok {f : Stmt → Option CS} (hf : ∀ s c, f s = some c → PS X s (tSt X C W I c)) : ∀ {ss : List Stmt} {cs : CSs}, trSl f ss = some cs → PSs X ss (tSs X C W I cs)
  | [], _, h => by cases h; exact bnd_nil
  | s :: ss, cs, h => by
    unfold trSl at h
    obtain ⟨c, h1, h2⟩ := Option.bind_eq_some_iff.mp h
    obtain ⟨cs', h3, h4⟩ := Option.map_eq_some_iff.mp h2
    subst h4
    exact bnd_cons (hf s c h1) (trSl_ok hf h3)
theorem as_sub {x : Str} {p2 tpos : Pos} {ie : Expr} {env : PySem.Env} (z : notSlice ie = true) : ∀ v, PySem.assign (.Subscript (.Name x p2) ie tpos) env v = (do
      let ov ← holding [v] (eval (.Name x p2) env)
      let iv ← holding [v, ov] (eval ie env)
      standAt tpos
      holding [v, ov, iv] (setItem ov iv v)
      release [v, ov, iv] []) := fun v => by
  cases ie <;> first | rfl | cases z
theorem loc_fn {x : Str} (hs : X.env.scope = sc) (lk : LkOk X (kindS sc)) (h : locB sc x = true) : X.fn x = true ∨ X.env.scope.names.lookup x = some .local := by
  unfold locB at h
  rw [Bool.or_eq_true] at h
  rcases h with h | h
  · exact .inr ((lk x).1 (of_decide_eq_true h))
  · exact .inl ((lk x).2 (of_decide_eq_true h)).2
theorem sw_of {y : Str} {py : Pos} {elt : Expr} {gens : List Comprehension} {scope : Scope} {p : Pos} {l : Nat} (hk : X.env.scope.kind = .function) (hs : X.env.scope = sc) : swapsWith (.ListComp elt gens scope p) (some (.Name y py)) l X.env = pure (swB sc y py (.ListComp elt gens scope p)) := by
  have hb : X.env.blockKind = .function := by unfold Env.blockKind; rw [hk]; rfl
  unfold swapsWith
  dsimp only
  rw [hb]
  unfold Env.kindOf
  rw [hs]
  show (pure _ : Sem Bool) = pure _
  congr 1
  unfold swB kindS
  dsimp only [Expr.pos]
  cases hq : List.lookup y sc.names with
  | none => rfl
  | some k => cases k <;> rfl
theorem trS_ok (hcons : ∀ x ∈ T.cons, ∃ d, C.cons x = some d) (g : Gd T.Γ X C W) (hs : X.env.scope = sc) (lk : LkOk X (kindS sc)) (hI : Cl I (okSlot T)) : ∀ (n : Nat) (st : Stmt) (c : CS), trS T n sc st = some c → PS X st (tSt X C W I c)
  | 0, st, c, h => by unfold trS at h; cases h
  | n + 1, st, c, h => by
    have ih := trS_ok hcons g hs lk hI n
    have fE : ∀ e c, trE T n sc e = some c → PE X e (tEv X C W c) := fun e c q => ((trE_ok hcons n).e g hs e c q).1
    have fT : ∀ e c, trT T n sc e = some c → PT X e (tTs X C W c) := fun e c q => (trE_ok hcons n).t g hs e c q
    have fI : ∀ e c tg, trI T n sc e = some c → PI X tg e (tIt X C W c) := fun e c tg q => (trE_ok hcons n).i g hs e c tg q
    have sl : ∀ {x : Str} {i : Nat}, slotOf T.Γ.N x = some i → X.N[i]? = some x := fun q => by rw [g.N]; exact slot_of q
    have vs : ∀ {x : Str}, visB sc x = true → Vis X.env.scope x := fun q => by rw [hs]; exact vis_of q
    have pg : ∀ {e : Expr} {gg : CG}, trG T.Γ.N (kindS sc) 9 e = some gg → PG X e (tTg X gg) := fun {e gg} q => trG_pg g.calm g.nd lk 9 e gg (by rw [g.N]; exact q)
    unfold trS at h
    split at h
    · -- y = e
      rename_i y py e _
      obtain ⟨i, h1, h2⟩ := Option.bind_eq_some_iff.mp h
      split at h2
      · rename_i z
        simp only [Bool.and_eq_true, Bool.or_eq_true] at z
        obtain ⟨⟨z1, z2⟩, z3⟩ := z
        obtain ⟨c1, h3, h4⟩ := Option.map_eq_some_iff.mp h2
        subst h4
        have hg1 : ∀ j ∈ slotsG (.name i), okSlot T j = true := fun j hj => by rw [List.mem_singleton.mp hj]; exact z1
        have pn : PG X (.Name y py) (tTg X (.name i)) := gnd_name g.nd (sl h1) (loc_of hs z2) (loc_fn hs lk z2)
        rcases z3 with z3 | z3
        · exact bnd_asg hI hg1 (fE _ _ h3) pn (no_swapS z3) no_stores_name rfl
        · cases e <;> first | cases z3 | skip
          rename_i elt gens scope p
          cases hb : swB sc y py (.ListComp elt gens scope p) with
          | false =>
            have hw : ∀ l, swapsWithSole [.Name y py] (.ListComp elt gens scope p) l X.env = pure false := fun l => (sw_of (l := l) g.kind hs).trans (by rw [hb])
            exact bnd_asg hI hg1 (fE _ _ h3) pn (hw _) no_stores_name rfl
          | true =>
            cases n with
            | zero => unfold trE at h3; cases h3
            | succ n =>
              have i3 := trE_ok hcons n
              have h3' : trLc T.Γ.N sc (trE T n) (trT T n) (trI T n) elt gens scope = some c1 := by
                unfold trE at h3
                exact h3
              obtain ⟨tg, it, ifs, rfl, own, gg, ci, ct, ce, rfl, q1, q2, q3, q4, q5, q6, q7, q8⟩ := lc_parts g hs (fun {X W sc} => i3.e (X := X) (W := W) (sc := sc)) (fun {X W sc} => i3.t (X := X) (W := W) (sc := sc)) (fun {X W sc} => i3.i (X := X) (W := W) (sc := sc)) h3'
              have hloc : X.env.scope.names.lookup y = some .local := by
                unfold swB at hb
                simp only [Bool.and_eq_true, decide_eq_true_eq] at hb
                rw [hs]
                exact hb.1.1
              have hw : ∀ l, swapsWith (.ListComp elt [⟨tg, it, ifs, 0⟩] scope p) (some (.Name y py)) l X.env = pure true := fun l => (sw_of g.kind hs).trans (by rw [hb])
              exact bnd_setLc hI z1 g.calm g.nd (sl h1) hloc (hw _) q1 q2 q3 q4 q5 q6 q7 q8
      · cases h2
    · -- x, y = a, b
      rename_i x px y py kt pt a b k2 p2 _
      split at h
      · rename_i z
        obtain ⟨i, h1, h2⟩ := Option.bind_eq_some_iff.mp h
        obtain ⟨j, h3, h4⟩ := Option.bind_eq_some_iff.mp h2
        split at h4
        · rename_i zz
          rw [Bool.and_eq_true, Bool.and_eq_true] at zz
          obtain ⟨⟨o1, o2⟩, o3⟩ := zz
          obtain ⟨c1, h5, h6⟩ := Option.bind_eq_some_iff.mp h4
          obtain ⟨c2, h7, h8⟩ := Option.map_eq_some_iff.mp h6
          subst h8
          have zz := z
          unfold parB at zz
          simp only [Bool.and_eq_true, decide_eq_true_eq, Bool.not_eq_true'] at zz
          obtain ⟨⟨⟨⟨⟨⟨⟨z1, z2⟩, z3⟩, z4⟩, z5⟩, z6⟩, z7⟩, z8⟩ := zz
          exact bnd_par hI o1 o2 g.calm g.nd (sl h1) (sl h3) (of_decide_eq_true o3) ((lk x).1 z1) ((lk y).1 z2) (fE _ _ h5) (fE _ _ h7) (star_cons z5 _ _) (star_cons z6 _ _) (par_stores g.kind (by rw [hs]; exact z))
        · cases h4
      · cases h
    · -- tuple target
      split at h
      · rename_i z
        rw [Bool.and_eq_true] at z
        obtain ⟨gg, h1, h2⟩ := Option.bind_eq_some_iff.mp h
        split at h2
        · rename_i zs
          obtain ⟨c1, h3, h4⟩ := Option.map_eq_some_iff.mp h2
          subst h4
          exact bnd_asg hI (List.all_eq_true.mp zs) (fE _ _ h3) (pg h1) (no_swapS z.2) (no_stores_tup z.1) rfl
        · cases h2
      · cases h
    · -- x[i] = e
      split at h
      · rename_i z
        simp only [Bool.and_eq_true] at z
        obtain ⟨⟨⟨z1, z2⟩, z3⟩, z4⟩ := z
        obtain ⟨i, h1, h2⟩ := Option.bind_eq_some_iff.mp h
        obtain ⟨c1, h3, h4⟩ := Option.bind_eq_some_iff.mp h2
        obtain ⟨c2, h5, h6⟩ := Option.map_eq_some_iff.mp h4
        subst h6
        obtain ⟨n1, n2⟩ := nm_of z1
        exact bnd_setI hI (sl h1) (vs z2) n1 n2 (fE _ _ h3) (fE _ _ h5) (as_sub z3) (no_swapS z4) no_stores_sub rfl
      · cases h
    · -- x op= e
      obtain ⟨i, h1, h2⟩ := Option.bind_eq_some_iff.mp h
      split at h2
      · rename_i z
        rw [Bool.and_eq_true] at z
        obtain ⟨c1, h3, h4⟩ := Option.map_eq_some_iff.mp h2
        subst h4
        exact bnd_aug hI z.1 g.nd (sl h1) (loc_of hs z.2) (fE _ _ h3) (loc_fn hs lk z.2)
      · cases h2
    · -- x.append(e)
      split at h
      · rename_i z
        simp only [Bool.and_eq_true, decide_eq_true_eq] at z
        obtain ⟨⟨⟨⟨z1, z2⟩, z3⟩, z4⟩, z5⟩ := z
        subst z1
        obtain ⟨i, h1, h2⟩ := Option.bind_eq_some_iff.mp h
        obtain ⟨c1, h3, h4⟩ := Option.map_eq_some_iff.mp h2
        subst h4
        obtain ⟨n1, n2⟩ := nm_of z2
        exact bnd_app hI (sl h1) (vs z3) n1 n2 (fE _ _ h3) (star_cons z4 _ _) z5 (by rw [star_cons z4]; rfl)
      · cases h
    · -- e
      split at h
      · rename_i z
        obtain ⟨c1, h3, h4⟩ := Option.map_eq_some_iff.mp h
        subst h4
        exact bnd_drop (fE _ _ h3) (no_swap z)
      · cases h
    · -- return e
      split at h
      · split at h
        · rename_i z
          rw [Bool.and_eq_true] at z
          obtain ⟨n1, n2⟩ := nm_of z.1
          obtain ⟨i, h1, h2⟩ := Option.bind_eq_some_iff.mp h
          split at h2
          · cases h2
            exact bnd_ret (snd_mv (sl h1) (vs z.2) n1 n2)
          · cases h2
            exact bnd_ret (snd_var (sl h1) (vs z.2) n1 n2)
        · obtain ⟨c1, h3, h4⟩ := Option.map_eq_some_iff.mp h
          subst h4
          exact bnd_ret (fE _ _ h3)
      · obtain ⟨c1, h3, h4⟩ := Option.map_eq_some_iff.mp h
        subst h4
        exact bnd_ret (fE _ _ h3)
    · cases h; exact bnd_retN
    · cases h; exact bnd_pass
    · cases h; exact bnd_brk
    · cases h; exact bnd_cont
    · obtain ⟨q, h1, h2⟩ := Option.bind_eq_some_iff.mp h
      obtain ⟨c1, h3, h4⟩ := Option.bind_eq_some_iff.mp h2
      obtain ⟨c2, h5, h6⟩ := Option.map_eq_some_iff.mp h4
      subst h6
      exact bnd_if (fT _ _ h1) (trSl_ok ih h3) (trSl_ok ih h5)
    · obtain ⟨q, h1, h2⟩ := Option.bind_eq_some_iff.mp h
      obtain ⟨c1, h3, h4⟩ := Option.map_eq_some_iff.mp h2
      subst h4
      exact bnd_whl g (fT _ _ h1) (trSl_ok ih h3)
    · split at h
      · rename_i z
        obtain ⟨gg, h1, h2⟩ := Option.bind_eq_some_iff.mp h
        split at h2
        · rename_i zs
          obtain ⟨ci, h3, h4⟩ := Option.bind_eq_some_iff.mp h2
          obtain ⟨c2, h5, h6⟩ := Option.map_eq_some_iff.mp h4
          subst h6
          exact bnd_for g (fI _ _ _ h3) (pg h1) (trSl_ok ih h5) (set_it z _) hI (List.all_eq_true.mp zs)
        · cases h2
      · cases h
    · cases h
end
end Cs
/-! Cs16: defs: what the evaluator says of a body holds of a call. -/
namespace Cs
open PySem L2
/-- a def, as the evaluator has it: slots, parameters, the parameters that are stored to, its body -/
structure Fe where
  n : Nat
  np : Nat
  asg : List Nat
  body : CSs
def startD (n : Nat) (ds : List D) : Env := ds ++ List.replicate (n - ds.length) .undef
/-- what the parameters hold at the end -/
def endD (asg : List Nat) : Nat → Nat → Env → List D
  | i, n + 1, d :: ρ => (if i ∈ asg then .undef else d) :: endD asg (i + 1) n ρ
  | _, _, _ => []
def run1 (C : Ctx) (e : Fe) (ds : List D) : R (D × List D) := if ds.length = e.np then match evSs C e.body (startD e.n ds) with
  | .ok (.nx ρ) => .ok (.non, endD e.asg 0 e.np ρ)
  | .ok (.ret d ρ) => .ok (d, endD e.asg 0 e.np ρ)
  | .ok _ => .fail
  | .exc x ρ => .exc x (endD e.asg 0 e.np ρ)
  | .fail => .fail else .fail
open Classical in
noncomputable def whlC : WStep → Env → R Fl := fun step ρ => if h : ∃ n r, loopW step n ρ = r ∧ (match r with | .fail => False | _ => True) then loopW step h.choose ρ else .fail
theorem whlC_some (step : WStep) (ρ : Env) : ∃ n, whlC step ρ = loopW step n ρ := by
  unfold whlC
  split
  · exact ⟨_, rfl⟩
  · exact ⟨0, rfl⟩
def R.good {α : Type} : R α → Prop
  | .fail => False
  | _ => True
theorem loopW_mono {step : WStep} : ∀ {n : Nat} {ρ : Env} (m : Nat), (loopW step n ρ).good → loopW step (n + m) ρ = loopW step n ρ
  | 0, ρ, m, h => h.elim
  | n + 1, ρ, m, h => by
    have e : n + 1 + m = (n + m) + 1 := by omega
    rw [e]
    unfold loopW at h ⊢
    cases hs : step ρ with
    | ok r =>
      rw [hs] at h
      cases r with
      | inl ρ' => exact loopW_mono m h
      | inr f => rfl
    | exc x ρ' => rfl
    | fail => rfl
theorem whlC_eq {step : WStep} {ρ : Env} {n : Nat} {r : R Fl} (h : loopW step n ρ = r) (g : r.good) : whlC step ρ = r := by
  have hx : ∃ n r, loopW step n ρ = r ∧ (match r with | .fail => False | _ => True) := ⟨n, r, h, by cases r <;> exact g⟩
  unfold whlC
  rw [dif_pos hx]
  obtain ⟨r', q1, q2⟩ := hx.choose_spec
  have g1 : (loopW step hx.choose ρ).good := by
    rw [q1]
    cases r' <;> exact q2
  have g2 : (loopW step n ρ).good := by rw [h]; exact g
  have a := loopW_mono n g1
  have b := loopW_mono hx.choose g2
  rw [Nat.add_comm] at b
  rw [← a, b, h]
/-- an entry: a body read, or a promise of its own -/
abbrev Fns := Str → List D → R (D × List D)
inductive Ent where
  | code (e : Fe)
  | prim (g : Fns → List D → R (D × List D))
section
variable (tab : Str → Option Ent) (cons : Str → Option D)
noncomputable def callN : Nat → Fns
  | 0, _, _ => .fail
  | k + 1, f, ds => match tab f with
    | some (.code e) => run1 ⟨callN k, cons, whlC⟩ e ds
    | some (.prim g) => g (callN k) ds
    | none => .fail
end
section
variable {K : PySem.W.Frag} {mg : Str → Option Value} {H : Hp}
theorem undefs {rs : Roots} : ∀ n, St K mg H rs → St K mg H (rs ++ rts (List.replicate n .undef) (List.replicate n none))
  | 0, h => by rw [List.replicate_zero, List.replicate_zero]; show St K mg H (rs ++ []); rw [List.append_nil]; exact h
  | n + 1, h => by
    have q := (undefs n h).undef .non
    rw [List.replicate_succ, List.replicate_succ]
    exact q.perm List.perm_middle.symm
theorem rts_app : ∀ {ds : List D} {vs : List V} {ρ : Env} {σ : L2.St}, ds.length = vs.length → rts (ds ++ ρ) (vs.map some ++ σ) = ds.zip vs ++ rts ρ σ
  | [], [], _, _, _ => rfl
  | d :: ds, v :: vs, ρ, σ, h => by
    show (d, v) :: rts (ds ++ ρ) (vs.map some ++ σ) = (d, v) :: (ds.zip vs ++ rts ρ σ)
    rw [rts_app (by simpa using h)]
  | [], _ :: _, _, _, h => nomatch h
  | _ :: _, [], _, _, h => nomatch h
theorem wd_app : ∀ {ds : List D} {vs : List V} {n : Nat}, ds.length = vs.length → Wd (ds ++ List.replicate n .undef) (vs.map some ++ List.replicate n none)
  | [], [], 0, _ => trivial
  | [], [], n + 1, _ => ⟨.inl rfl, wd_app (ds := []) (vs := []) (n := n) rfl⟩
  | d :: ds, v :: vs, n, h => ⟨.inr ⟨v, rfl⟩, wd_app (by simpa using h)⟩
  | [], _ :: _, _, h => nomatch h
  | _ :: _, [], _, h => nomatch h
theorem start_ss {ds : List D} {vs : List V} {rs : Roots} {N : List Str} {n : Nat} (hn : n = N.length) (hl : ds.length = vs.length) (h : St K mg H (ds.zip vs ++ rs)) : SS K mg H rs (startD n ds) (start N vs) := by
  subst hn
  unfold startD L2.start
  rw [hl]
  refine ⟨wd_app hl, ?_⟩
  rw [rts_app hl]
  have q := undefs (N.length - vs.length) h
  refine q.perm ?_
  rw [← List.append_assoc]
  exact List.Perm.append_right _ List.perm_append_comm
/-- the parameters' roots, at the end -/
theorem end_roots {asg : List Nat} : ∀ {n i : Nat} {ρ : Env} {σ : L2.St} {vs : List V} {R : Roots}, vs.length = n → n ≤ σ.length → ρ.length = σ.length → (∀ j v, i + j ∉ asg → vs[j]? = some v → σ[j]? = some (some v)) → St K mg H (R ++ rts ρ σ) →
    St K mg H ((endD asg i n ρ).zip vs ++ R) ∧ (endD asg i n ρ).length = n
  | 0, i, ρ, σ, vs, R, hv, hs, hl, hI, h => by
    have e : endD asg i 0 ρ = [] := by cases ρ <;> rfl
    rw [e]
    exact ⟨h.sub (List.sublist_append_left _ _), rfl⟩
  | n + 1, i, [], σ, vs, R, hv, hs, hl, hI, h => by
    rw [List.length_nil] at hl
    omega
  | n + 1, i, d :: ρ, [], vs, R, hv, hs, hl, hI, h => by cases hl
  | n + 1, i, d :: ρ, o :: σ, [], R, hv, hs, hl, hI, h => by cases hv
  | n + 1, i, d :: ρ, o :: σ, v :: vs, R, hv, hs, hl, hI, h => by
    have h : St K mg H (R ++ (d, o.getD .non) :: rts ρ σ) := h
    have hI' : ∀ j w, i + 1 + j ∉ asg → vs[j]? = some w → σ[j]? = some (some w) := fun j w q1 q2 => by
      have := hI (j + 1) w (by rw [show i + (j + 1) = i + 1 + j by omega]; exact q1) (by simpa using q2)
      simpa using this
    have hd : St K mg H (R ++ rts ρ σ) := h.sub ((List.Sublist.refl _).append (List.sublist_cons_self _ _))
    unfold endD
    by_cases ha : i ∈ asg
    · rw [if_pos ha]
      obtain ⟨q1, q2⟩ := end_roots (R := R) (by simpa using hv) (by simpa using hs) (by simpa using hl) hI' hd
      exact ⟨q1.undef v, by rw [List.length_cons, q2]⟩
    · rw [if_neg ha]
      have e := hI 0 v ha rfl
      rw [List.getElem?_cons_zero] at e
      cases e
      have h2 : St K mg H (((d, v) :: R) ++ rts ρ σ) := h.perm List.perm_middle
      obtain ⟨q1, q2⟩ := end_roots (R := (d, v) :: R) (by simpa using hv) (by simpa using hs) (by simpa using hl) hI' h2
      refine ⟨?_, by rw [List.length_cons, q2]⟩
      exact q1.perm List.perm_middle
end
/-- the parameters that are not stored to hold what was handed in -/
def Keep (np : Nat) (asg : List Nat) (vs : List V) : L2.St → Prop := fun σ => np ≤ σ.length ∧ ∀ j v, j ∉ asg → vs[j]? = some v → σ[j]? = some (some v)
theorem keep_cl {T : Tc} {vs : List V} (h : vs.length = T.np) : Cl (Keep T.np T.asg vs) (okSlot T) := fun σ σ' is ⟨k1, k2⟩ ⟨c1, c2⟩ ok => by
  refine ⟨by rw [c1]; exact k1, fun j v q1 q2 => ?_⟩
  have hj : j < vs.length := (List.getElem?_eq_some_iff.mp q2).1
  rw [c2 j fun hi => ?_]
  · exact k2 j v q1 q2
  · have z := ok j hi
    unfold okSlot at z
    rw [Bool.or_eq_true] at z
    rcases z with z | z
    · have z := of_decide_eq_true z
      omega
    · exact q1 (of_decide_eq_true z)
/-- a def known of at level k -/
def Lv (P : Program) (w : World) (K : PySem.W.Frag) (mg : Str → Option Value) (base : Heap) (k : Nat) (f : Str) (g : List D → R (D × List D)) : Prop := ∃ (a : Addr) (fd : FuncData) (ps : List Str), mg f = some (.ref a) ∧ PySem.W.keepIn K (.ref a) = true ∧ Binds K fd ps [] ∧
  FnOk P w K mg base (L2.CX P w) k a fd ps (spF K mg g)
section
variable {P : Program} {w : World} {K : PySem.W.Frag} {mg : Str → Option Value} {base : Heap}
theorem run1_ok {T : Tc} {C : Ctx} {f q : Str} {pr : Arguments} {bd : List Stmt} {scp : Scope} {dvs : List V} {kws : List (Str × V)} {a : Addr} {fd : FuncData} {ps : List Str} {e : Fe} {k : Nat} {kd : Nat}
    (F : FunD K f q pr bd scp dvs kws a fd) (S : FnScope T.Γ.N ps scp) (hnp : T.np = ps.length) (hasg : T.asg = e.asg) (hep : e.np = ps.length) (hen : e.n = T.Γ.N.length) (htr : trSl (trS T kd scp) bd = some e.body)
    (hcons : ∀ x ∈ T.cons, ∃ d, C.cons x = some d) (hcon : ∀ x d, C.cons x = some d → ∃ u v, mg x = some u ∧ RelV v u ∧ ∀ Hf H, Rp K mg Hf H d v []) (hw : C.whl = whlC) (hbl : ∀ x ∈ T.Γ.bl, mg x = none)
    (hf : ∀ g ∈ T.Γ.fl, Lv P w K mg base k g (C.fns g)) : FnOk P w K mg base (L2.CX P w) (k + 1) a fd ps (spF K mg (run1 C e)) := by
  refine F.ok S (fun vs H Q E h => ?_) fun cdv A outer s H vs Q E hr hsp => ?_
  · obtain ⟨ds, rs, hl, _, h⟩ := h
    unfold run1 at h
    split at h
    · rename_i z
      rw [← hl, z, hep]
    · exact h.elim
  · obtain ⟨ds, rs, hl, hst, h⟩ := hsp
    unfold run1 at h
    split at h
    case isFalse => exact h.elim
    rename_i z
    have hvl : vs.length = T.np := by rw [← hl, z, hep, hnp]
    have hpl : ps.length ≤ T.Γ.N.length := by have := congrArg List.length S.pre; rw [List.length_take] at this; omega
    let X := cxOf (L2.CX P w) P w K mg base T.Γ.N q scp a cdv A outer s H E
    have g : Gd T.Γ X C (fun cls d _ H => E cls d H) := {
      N := rfl
      nd := S.nd
      kind := S.kind
      calm := rfl
      tk := takes_of rfl rfl rfl rfl
      pass := passes_of rfl
      units := hr.units
      fns := fun g hg => by
        obtain ⟨a', fd', ps', q1, q2, q3, q4⟩ := hf g hg
        exact ⟨k, a', fd', ps', q1, q2, q3, hr, q4⟩
      blt := hbl
      con := hcon
      whl := fun step ρ => by rw [hw]; exact whlC_some step ρ }
    have lk : LkOk X (kindS scp) := fun x => ⟨fun q => q, fun q => ⟨q, rfl⟩⟩
    have cl := keep_cl (T := T) hvl
    refine ⟨_, trSl_ok (trS_ok hcons g rfl lk cl kd) htr, ?_⟩
    refine ⟨rs, startD e.n ds, ?_, start_ss hen hl hst, ?_⟩
    · refine ⟨?_, fun j v q1 q2 => ?_⟩
      · unfold L2.start
        rw [List.length_append, List.length_map, List.length_replicate, hnp]
        omega
      · unfold L2.start
        rw [List.getElem?_append_left (by rw [List.length_map]; exact (List.getElem?_eq_some_iff.mp q2).1), List.getElem?_map, q2]; rfl
    · have fin : ∀ {R : Roots} {ρ' : Env} {σ' : L2.St} {H' : Hp}, Keep T.np T.asg vs σ' → SS K mg H' R ρ' σ' → St K mg H' ((endD e.asg 0 e.np ρ').zip vs ++ R) := fun {R ρ' σ' H'} k s => by
        rw [← hasg]
        exact (end_roots (by rw [hvl, hnp, hep]) (by rw [hep, ← hnp]; exact k.1) s.len (fun j v q1 q2 => k.2 j v (by rw [Nat.zero_add] at q1; exact q1) q2) s.st).1
      cases hev : evSs C e.body (startD e.n ds) with
      | ok fl =>
        rw [hev] at h
        cases fl with
        | nx ρ' => exact fun σ' H' i' s' => h .non H' (fin i' s').non
        | ret d ρ' => exact fun v σ' H' i' s' => h v H' ((fin i' s').perm List.perm_middle)
        | bk ρ' => exact h.elim
        | ct ρ' => exact h.elim
      | exc x ρ' =>
        rw [hev] at h
        refine fun σ' i' cls d H' ws xa s' => h cls d H' ws xa ?_
        have q := fin i' s'
        refine q.perm ?_
        rw [← List.append_assoc, ← List.append_assoc]
        exact List.Perm.append_right _ List.perm_append_comm
      | fail =>
        rw [hev] at h
        exact h.elim
end
end Cs
/-! Cs17: a table of defs, and a law's end. -/
namespace Cs
open PySem L2
/-- a row of the table: the def as the text has it; its slots, parameters, which of them are stored to; its body read -/
structure Row where
  d : He.DefD
  N : List Str
  ps : List Str
  asg : List Nat
  body : CSs
def Row.fe (r : Row) : Fe := ⟨r.N.length, r.ps.length, r.asg, r.body⟩
abbrev Prims := List (Str × (Fns → List D → R (D × List D)))
def tabOf (rows : List Row) (prims : Prims) : Str → Option Ent := fun f => match rows.find? (fun r => decide (r.d.name = f)) with
  | some r => some (.code r.fe)
  | none => (prims.lookup f).map .prim
def Row.tc (fl bl cons : List Str) (r : Row) : Tc := ⟨⟨r.N, fl, bl⟩, r.ps.length, r.asg, cons⟩
/-- what a row must keep -/
structure RowOk (fl bl cons : List Str) (kd : Nat) (r : Row) : Prop where
  at_ : r.d.at_ = (r.d.name, none)
  dfl : r.d.dfl = []
  sc : FnScope r.N r.ps r.d.scope
  tr : trSl (trS (r.tc fl bl cons) kd r.d.scope) r.d.body = some r.body
  bind : ∀ (kV doc pm : Value) (an : Option Addr) (cdv ct : Value) (us : List Value), us.length = r.ps.length → bindArgs (PySem.W.fnOf r.d.name r.d.qual r.d.params r.d.body r.d.scope .none kV doc pm an cdv ct) ⟨us, []⟩ = pure (r.ps.zip us)
def scB (N P : List Str) (sc : Scope) : Bool :=
  decide (sc.kind = .function) && (!sc.isCoroutine && (!sc.isGenerator && (decide N.Nodup && (decide (N.take P.length = P) && (P.all (fun x => decide (sc.names.lookup x = some .local) || decide (sc.names.lookup x = some .cell)) && sc.names.all fun y => !decide (y.2 = .free))))))
theorem sc_of {N P : List Str} {sc : Scope} (h : scB N P sc = true) : FnScope N P sc := by
  unfold scB at h
  simp only [Bool.and_eq_true, Bool.not_eq_true', decide_eq_true_eq, List.all_eq_true, Bool.or_eq_true, decide_eq_false_iff_not] at h
  obtain ⟨h1, h2, h3, h4, h5, h6, h7⟩ := h
  exact ⟨h1, h2, h3, h4, h5, h6, h7⟩
section
variable {P : Program} {w : World} {K : PySem.W.Frag} {mg : Str → Option Value} {base : Heap}
theorem lv_all {tab : Str → Option Ent} {cons : Str → Option D} {fl : List Str}
    (h : ∀ f ∈ fl, ∃ (a : Addr) (fd : FuncData) (ps : List Str), mg f = some (.ref a) ∧ PySem.W.keepIn K (.ref a) = true ∧ Binds K fd ps [] ∧ ∀ k, (∀ g ∈ fl, Lv P w K mg base k g (callN tab cons k g)) → FnOk P w K mg base (L2.CX P w) (k + 1) a fd ps (spF K mg (callN tab cons (k + 1) f))) :
    ∀ k, ∀ f ∈ fl, Lv P w K mg base k f (callN tab cons k f)
  | 0, f, hf => by
    obtain ⟨a, fd, ps, h1, h2, h3, _⟩ := h f hf
    have no : ∀ vs H Q E, spF K mg (callN tab cons 0 f) vs H Q E → False := fun vs H Q E ⟨ds, rs, _, _, z⟩ => z
    exact ⟨a, fd, ps, h1, h2, h3, ⟨fun vs H Q E z => (no vs H Q E z).elim, fun A outer s H args us vs Q E _ _ _ _ z => (no vs H Q E z).elim⟩⟩
  | k + 1, f, hf => by
    obtain ⟨a, fd, ps, h1, h2, h3, h4⟩ := h f hf
    exact ⟨a, fd, ps, h1, h2, h3, h4 k (lv_all h k)⟩
theorem call_code {tab : Str → Option Ent} {cons : Str → Option D} {k : Nat} {f : Str} {e : Fe} (h : tab f = some (.code e)) : callN tab cons (k + 1) f = run1 ⟨callN tab cons k, cons, whlC⟩ e := by
  funext ds
  rw [callN, h]
theorem call_prim {tab : Str → Option Ent} {cons : Str → Option D} {k : Nat} {f : Str} {g : Fns → List D → R (D × List D)} (h : tab f = some (.prim g)) : callN tab cons (k + 1) f = g (callN tab cons k) := by
  funext ds
  rw [callN, h]
/-- what the head tells of one def -/
def Stands (K : PySem.W.Frag) (mg : Str → Option Value) (d : He.DefD) : Prop := ∃ (a : Addr) (fd : FuncData), mg d.name = some (.ref a) ∧ FunD K d.name d.qual d.params d.body d.scope [] (d.kws K) a fd
/-- what the parts of a program's head tell -/
structure Said (K : PySem.W.Frag) (mg : Str → Option Value) (P : Program) (w : World) (base : Heap) (rows : List Row) (prims : Prims) (cons : Str → Option D) (fl bl cn : List Str) (kd : Nat) : Prop where
  look : ∀ f ∈ fl, (∃ r ∈ rows, tabOf rows prims f = some (.code r.fe) ∧ r.d.name = f) ∨ ∃ g, tabOf rows prims f = some (.prim g) ∧ (f, g) ∈ prims
  row : ∀ r ∈ rows, RowOk fl bl cn kd r
  st : ∀ r ∈ rows, Stands K mg r.d
  cn : ∀ x ∈ cn, ∃ d, cons x = some d
  con : ∀ x d, cons x = some d → ∃ u v, mg x = some u ∧ RelV v u ∧ ∀ Hf H, Rp K mg Hf H d v []
  bl : ∀ x ∈ bl, mg x = none
  pr : ∀ f g, (f, g) ∈ prims → ∃ (a : Addr) (fd : FuncData) (ps : List Str), mg f = some (.ref a) ∧ PySem.W.keepIn K (.ref a) = true ∧ Binds K fd ps [] ∧
      ∀ k, (∀ g ∈ fl, Lv P w K mg base k g (callN (tabOf rows prims) cons k g)) → FnOk P w K mg base (L2.CX P w) (k + 1) a fd ps (spF K mg (g (callN (tabOf rows prims) cons k)))
section
variable {rows : List Row} {prims : Prims} {cons : Str → Option D} {fl bl cn : List Str} {kd : Nat}
theorem look_by (h : (fl.all fun f => (rows.any fun r => decide (r.d.name = f)) || (prims.lookup f).isSome) = true) : ∀ f ∈ fl, (∃ r ∈ rows, tabOf rows prims f = some (.code r.fe) ∧ r.d.name = f) ∨ ∃ g, tabOf rows prims f = some (.prim g) ∧ (f, g) ∈ prims := fun f hf => by
  have h := List.all_eq_true.mp h f hf
  unfold tabOf
  cases e : rows.find? (fun r => decide (r.d.name = f)) with
  | some r => exact .inl ⟨r, List.mem_of_find?_eq_some e, rfl, of_decide_eq_true (List.find?_some (p := fun r : Row => decide (r.d.name = f)) e)⟩
  | none =>
    rw [Bool.or_eq_true] at h
    rcases h with h | h
    · obtain ⟨r, h1, h2⟩ := List.any_eq_true.mp h
      exact absurd h2 (List.find?_eq_none.mp e r h1)
    · obtain ⟨g, hg⟩ := Option.isSome_iff_exists.mp h
      exact .inr ⟨g, by rw [hg]; rfl, PySem.mem_of_lookup hg⟩
theorem Said.lv (s : Said K mg P w base rows prims cons fl bl cn kd) : ∀ k, ∀ f ∈ fl, Lv P w K mg base k f (callN (tabOf rows prims) cons k f) := lv_all fun f hf => by
  rcases s.look f hf with ⟨r, hr, ht, hn⟩ | ⟨g, ht, hg⟩
  · obtain ⟨a, fd, hm, F⟩ := s.st r hr
    have ok := s.row r hr
    rw [hn] at hm
    refine ⟨a, fd, r.ps, hm, F.kp, F.bindsN ok.bind, fun k ih => ?_⟩
    rw [call_code ht]
    exact run1_ok (T := r.tc fl bl cn) (e := r.fe) (C := ⟨callN (tabOf rows prims) cons k, cons, whlC⟩) F ok.sc rfl rfl rfl rfl ok.tr s.cn s.con rfl s.bl ih
  · obtain ⟨a, fd, ps, h1, h2, h3, h4⟩ := s.pr f g hg
    refine ⟨a, fd, ps, h1, h2, h3, fun k ih => ?_⟩
    rw [call_prim ht]
    exact h4 k ih
theorem Said.fn (s : Said K mg P w base rows prims cons fl bl cn kd) {r : Row} (hr : r ∈ rows) (ht : tabOf rows prims r.d.name = some (.code r.fe)) {a : Addr} {fd : FuncData} (F : FunD K r.d.name r.d.qual r.d.params r.d.body r.d.scope [] (r.d.kws K) a fd) (k : Nat) :
    FnOk P w K mg base (L2.CX P w) (k + 1) a fd r.ps (spF K mg (callN (tabOf rows prims) cons (k + 1) r.d.name)) := by
  have ok := s.row r hr
  rw [call_code ht]
  exact run1_ok (T := r.tc fl bl cn) (e := r.fe) (C := ⟨callN (tabOf rows prims) cons k, cons, whlC⟩) F ok.sc rfl rfl rfl rfl ok.tr s.cn s.con rfl s.bl (s.lv k)
theorem stands_of {fa : List He.Fa} {fn : List He.DefD} {h : Heap} {d : He.DefD} (c : He.SaysD fa fn K) (X : K.In h) (G : h.Ns mainGlobals mg) (hd : d ∈ fn) (h1 : d.at_ = (d.name, none)) (h2 : d.dfl = []) (hf : He.Fa.glo d.name ∈ fa) : Stands K mg d := by
  obtain ⟨i, hi, e⟩ := List.mem_iff_getElem.mp hd
  obtain ⟨fd, F⟩ := c.def_ i (d := d) (by rw [List.getElem?_eq_getElem hi, e])
  obtain ⟨j, hj, e2⟩ := List.mem_iff_getElem.mp hf
  have g := He.glo_ok X G (c.fact j (f := .glo d.name) (by rw [List.getElem?_eq_getElem hj, e2]))
  refine ⟨_, fd, g, ?_⟩
  have e3 : d.dvs K = [] := by unfold He.DefD.dvs; rw [h2]; rfl
  rw [e3, h1] at F
  exact F
theorem free_of {fa : List He.Fa} {fn : List He.DefD} {h : Heap} {x : Str} (c : He.SaysD fa fn K) (X : K.In h) (G : h.Ns mainGlobals mg) (hf : He.Fa.free x ∈ fa) : mg x = none := by
  obtain ⟨j, hj, e2⟩ := List.mem_iff_getElem.mp hf
  exact He.free_ok X G (c.fact j (f := .free x) (by rw [List.getElem?_eq_getElem hj, e2]))
theorem glo_of {fa : List He.Fa} {fn : List He.DefD} {h : Heap} {x : Str} (c : He.SaysD fa fn K) (X : K.In h) (G : h.Ns mainGlobals mg) (hf : He.Fa.glo x ∈ fa) : mg x = some (.ref (He.ga K x)) := by
  obtain ⟨j, hj, e2⟩ := List.mem_iff_getElem.mp hf
  exact He.glo_ok X G (c.fact j (f := .glo x) (by rw [List.getElem?_eq_getElem hj, e2]))
end
end
/-! ### a law's end -/
theorem law_sp {K : PySem.W.Frag} {mg : Str → Option Value} {g : List D → R (D × List D)} {H : Hp} {a : Addr} {ns : List Int} (hS : SqL K H a (ns.map V.int)) (h : ∃ p, g [.lkd (ns.map .int)] = .ok (.bl true, p)) : spF K mg g [.ref a] H (fun v _ => v = .bl true) fun _ _ _ => False := by
  obtain ⟨p, e⟩ := h
  have hz : ∀ (H1 : Hp) (ms : List Int), Rps K mg H H1 (ms.map D.int) (ms.map V.int) [] := fun H1 ms => by
    induction ms with
    | nil => exact ⟨rfl, rfl⟩
    | cons m ms ih => exact ⟨.int m, _, [], [], rfl, rfl, ⟨rfl, rfl⟩, ih⟩
  refine ⟨[.lkd (ns.map .int)], [], rfl, ⟨H, [], fun _ _ e => e, ⟨[], [], rfl, ⟨rfl, a, _, rfl, hS, hz H ns⟩, rfl⟩, List.nodup_nil, fun _ q => nomatch q⟩, ?_⟩
  rw [e]
  rintro v H' ⟨Hf, fp, s⟩
  obtain ⟨f1, r1⟩ := s.at (List.mem_cons_self)
  exact r1.1
theorem walk_x {l : PySem.W.OpenLaw} {n k : Nat} {q : Program} {loose : List Str} {XP : (Str → Option Value) → Heap → Prop} {YP : World → Heap → Prop} {d : DefRec} {x : Str} (hm : l.most = some n) (hs : n ≤ sizeLine) (hd0 : d.params.defaults = []) (hr : Room k callerA)
    (F : ∀ (w : World) (mg : Str → Option Value) (fa : Addr) (h : Heap), YP w h → h.Ns mainGlobals mg → mg d.name = some (.ref fa) → ∃ (K : PySem.W.Frag) (fd : FuncData) (g : List D → R (D × List D)), K.In h ∧ (∀ (s : Shared) (u : Value), BindsTo s fd ⟨[u], []⟩ [(x, u)]) ∧
      (∀ ns : List Int, ns.length ≤ n → ∃ p, g [.lkd (ns.map .int)] = .ok (.bl true, p)) ∧ ∀ base : Heap, K.In base → base.Ns mainGlobals mg → FnOk l.prog w K mg base (L2.CX l.prog w) k fa fd [x] (spF K mg g)) :
    PySem.W.WalkO q loose XP YP l.row.toRowW d [] (fun f vs => PySem.call f vs) :=
  Att.attach_call hm hd0 fun w s₀ s₁ mg mb fa o pm cd doc a vs ns G Y ho hd hcd hmg hobj hints hlen hg => by
    obtain ⟨K, fd, g, KX, hb, hsp, hF⟩ := F w mg fa _ Y G.T.g hmg
    refine law_call KX G.T.g G.T.b G.T.builtins G.T.nolimit hg hobj hints (Nat.le_trans hlen hs) hr hF hb (fun H _ hS => law_sp hS (hsp ns hlen)) fun H e s' z => ?_
    obtain ⟨_, _, _, _, _, _, _, _, _, _, _, _, z⟩ := z
    exact z
end Cs
/-! Cs18: a def that looks another one up in a table of the module, and calls it. -/
namespace Cs
open PySem L2
theorem ix_kd {X : Cx} {d : Addr} {es : Array DictEntry} {n : Nat} (D : KDict X.K X.w d es n) : IxR X (fun x y H Q => ∃ (z : Str) (u0 : Value) (v0 : V), x = .ref d ∧ y = .str z ∧ PySem.W.nsIn X.K d z = some (some u0) ∧ RelV v0 u0 ∧ Q v0 H) := by
  intro value slice pins s σ H x y v u Q I rx ry h hs
  obtain ⟨z, u0, v0, rfl, rfl, e, r, q⟩ := h
  cases rx
  exact PyProof.Rows.tail_any (kd_type D I) PySem.F.slot_dict_getitem.lookup (op_item_kd D pins s σ H (.ref d) (.str z) _ _ Q I rfl ry ⟨z, u0, v0, rfl, rfl, e, r, q⟩) hs
/-- the i-th slot holds one of the known defs -/
def tCallG (X : Cx) (C : Ctx) (fl : List Str) (i : Nat) (E : XK) (t : TA) : TE := fun σ H Q => ∃ (f : Str) (a : Addr), f ∈ fl ∧ X.mg f = some (.ref a) ∧ σ[i]? = some (some (.ref a)) ∧ t σ H fun vs H1 => spF X.K X.mg (C.fns f) vs H1 Q E
theorem pe_callG {X : Cx} {C : Ctx} {Γ : Gam} {i : Nat} {x : Str} {e : Expr} {es : List Expr} {t : TA} {E : XK} {p pos : Pos} (g : Gd Γ X C (fun cls d _ H => E cls d H)) (hN : X.N[i]? = some x) (hv : Vis X.env.scope x) (ha : PA X (e :: es) t) (hdb : (x == ("__debug__" : Str)) = false) (hcd : (x == ("__classdict__" : Str)) = false)
    (he : starEach (e :: es) X.env = (false, eval e X.env) :: starEach es X.env) (hpl : (backTo pos (starEach es X.env)).any (·.1) = false) : PE X (.Call (.Name x p) (e :: es) [] pos) (tCallG X C Γ.fl i E t) := by
  refine ⟨fun pins s σ H Q I h => ?_⟩
  obtain ⟨f, a, hf, hm, hs, ht⟩ := h
  obtain ⟨j, a', fd, ps, q1, q2, q3, q4, q5⟩ := g.fns f hf
  rw [hm] at q1
  cases q1
  refine (pe_callL (i := i) (f := a) (sp := spF X.K X.mg (C.fns f)) (dvs := []) (E := E) q5 q4 hN hv q2 q3 .nil (passes_call g.tk fun _ _ _ _ z => z) ha hdb hcd he hpl).run pins s σ H Q I ⟨hs, ?_⟩
  have e0 : (fun (vs : List V) (H1 : Hp) => spF X.K X.mg (C.fns f) (vs ++ []) H1 Q E) = fun vs H1 => spF X.K X.mg (C.fns f) vs H1 Q E := by
    funext vs H1
    rw [List.append_nil]
  show t σ H (fun vs H1 => spF X.K X.mg (C.fns f) (vs ++ []) H1 Q E)
  rw [e0]
  exact ht
/-- the promise: by the word the def, by the def the rest -/
def lookE (look : Str → Option Str) : Fns → List D → R (D × List D) := fun fns ds => match ds with
  | [.str w, d1, d2] => match look w with
    | some f => match fns f [d1, d2] with
      | .ok r => .ok (r.1, .str w :: r.2)
      | .exc x es => .exc x (.str w :: es)
      | .fail => .fail
    | none => .fail
  | _ => .fail
/-- the def's text -/
def lookB (x y z u tn : Str) (bd : List Stmt) : Bool := match bd with
  | [.Assign [.Name u1 _] (.Subscript (.Name tn1 _) (.Name x1 _) _) _, .Return (some (.Call (.Name u2 _) [.Name y1 _, .Name z1 _] [] _)) _] => decide (u = u1 ∧ tn = tn1 ∧ x = x1 ∧ u = u2 ∧ y = y1 ∧ z = z1)
  | _ => false
section
variable {P : Program} {w : World} {K : PySem.W.Frag} {mg : Str → Option Value} {base : Heap}
theorem look_ok {Γ : Gam} {C : Ctx} {f q : Str} {pr : Arguments} {scp : Scope} {dvs : List V} {kws : List (Str × V)} {a dct : Addr} {fd : FuncData} {k : Nat} {x y z u tn : Str} {bd : List Stmt} {look : Str → Option Str} {es : Array DictEntry} {n : Nat}
    (hN : Γ.N = [x, y, z, u])
    (hbd : lookB x y z u tn bd = true) (F : FunD K f q pr bd scp dvs kws a fd) (S : FnScope [x, y, z, u] [x, y, z] scp)
    (hu : scp.names.lookup u = some .local) (htn : scp.names.lookup tn = some .globalImplicit) (hb : ([x, y, z, u, tn].all fun s => !(s == ("__debug__" : Str)) && !(s == ("__classdict__" : Str))) = true)
    (hcon : ∀ x d, C.cons x = some d → ∃ u v, mg x = some u ∧ RelV v u ∧ ∀ Hf H, Rp K mg Hf H d v []) (hw : C.whl = whlC) (hbl : ∀ x ∈ Γ.bl, mg x = none)
    (hf : ∀ g ∈ Γ.fl, Lv P w K mg base k g (C.fns g)) (D : KDict K w dct es n) (hm : mg tn = some (.ref dct)) (hl : ∀ s g, look s = some g → g ∈ Γ.fl ∧ ∃ a, mg g = some (.ref a) ∧ PySem.W.nsIn K dct s = some (some (.ref a))) :
    FnOk P w K mg base (L2.CX P w) (k + 1) a fd [x, y, z] (spF K mg (lookE look C.fns)) := by
  unfold lookB at hbd
  split at hbd
  case h_2 => cases hbd
  have hbd := of_decide_eq_true hbd
  obtain ⟨rfl, rfl, rfl, rfl, rfl, rfl⟩ := hbd
  have sv : ∀ s ∈ [x, y, z], Vis scp s := fun s hs => by
    rcases S.par s hs with h | h
    · exact .inl h
    · exact .inr (.inl h)
  have hb := List.all_eq_true.mp hb
  have nb : ∀ s ∈ [x, y, z, u, tn], (s == ("__debug__" : Str)) = false ∧ (s == ("__classdict__" : Str)) = false := fun s hs => by
    have h := hb s hs
    rw [Bool.and_eq_true] at h
    exact ⟨by simpa using h.1, by simpa using h.2⟩
  refine F.ok S (fun vs H Q E h => ?_) fun cdv A outer s H vs Q E hr hsp => ?_
  · obtain ⟨ds, rs, hl', _, h⟩ := h
    unfold lookE at h
    split at h
    · rw [← hl']; rfl
    · exact h.elim
  · obtain ⟨ds, rs, hl', hst, h⟩ := hsp
    let X := cxOf (L2.CX P w) P w K mg base [x, y, z, u] q scp a cdv A outer s H E
    have g : Gd Γ X C (fun cls d _ H => E cls d H) := {
      N := hN.symm
      nd := S.nd
      kind := S.kind
      calm := rfl
      tk := takes_of rfl rfl rfl rfl
      pass := passes_of rfl
      units := hr.units
      fns := fun g hg => by
        obtain ⟨a', fd', ps', q1, q2, q3, q4⟩ := hf g hg
        exact ⟨k, a', fd', ps', q1, q2, q3, hr, q4⟩
      blt := hbl
      con := hcon
      whl := fun step ρ => by rw [hw]; exact whlC_some step ρ }
    have hx := nb x (by simp)
    have hy := nb y (by simp)
    have hz := nb z (by simp)
    have hu' := nb u (by simp)
    have ht' := nb tn (by simp)
    refine ⟨_, pss_cons (ps_set (X := X) (i := 3) S.nd rfl (.inl hu) (pe_ix (ix_kd (X := X) D) (pe_glob htn hm (v := .ref dct) rfl ht'.1) (pe_var (i := 0) rfl (sv x (by simp)) hx.1 hx.2) (fun _ _ => rfl)) rfl (.inr hu))
      (pss_one (ps_ret (pe_callG g (i := 3) rfl (.inl hu) (pa_cons (pe_var (i := 1) rfl (sv y (by simp)) hy.1 hy.2) (pa_cons (pe_var (i := 2) rfl (sv z (by simp)) hz.1 hz.2) pa_nil)) hu'.1 hu'.2 rfl rfl))), ?_⟩
    unfold lookE at h
    split at h
    case h_2 => exact h.elim
    rename_i wd d1 d2
    match vs, hl' with
    | [v0, v1, v2], _ =>
    have e0 : v0 = .str wd := by
      obtain ⟨Hf, fp, s0⟩ := hst
      obtain ⟨f1, r1⟩ := s0.at (d := .str wd) (v := v0) List.mem_cons_self
      exact r1.1
    subst e0
    cases hlk : look wd with
    | none =>
      rw [hlk] at h
      exact h.elim
    | some fn =>
      rw [hlk] at h
      obtain ⟨hfn, a', hm', hns⟩ := hl wd fn hlk
      refine ⟨.str wd, rfl, wd, .ref a', .ref a', rfl, rfl, hns, rfl, ?_⟩
      refine ⟨fn, a', hfn, hm', rfl, v1, rfl, v2, rfl, [d1, d2], rs, rfl, hst.drop, ?_⟩
      cases hr1 : C.fns fn [d1, d2] with
      | ok r =>
        dsimp only at h
        rw [hr1] at h
        exact fun v H' st => h v H' (st.str wd).swap
      | exc x1 es1 =>
        dsimp only at h
        rw [hr1] at h
        exact fun cls dd H' ws xa st => h cls dd H' ws xa ((st.str wd).perm List.perm_middle.symm)
      | fail =>
        dsimp only at h
        rw [hr1] at h
        exact h.elim
end
end Cs
/-! Cs19: plain laws of the evaluator. -/
namespace Cs
open PySem L2
theorem bind_ok {α β : Type} {a : α} {f : α → R β} : (R.ok a).bind f = f a := rfl
theorem map_ok {α β : Type} {a : α} {f : α → β} : (R.ok a).map f = .ok (f a) := rfl
theorem of_some {α : Type} {a : α} : R.of (some a) = .ok a := rfl
theorem ite_t {α : Type} {a b : α} : (if true = true then a else b) = a := rfl
theorem ite_f {α : Type} {a b : α} : (if false = true then a else b) = b := rfl
/-! ### lists of numbers -/
theorem intsOf_ints : ∀ ns : List Int, intsOf (ns.map .int) = some ns
  | [] => rfl
  | n :: ns => by
    show (intsOf (ns.map .int)).map (n :: ·) = _
    rw [intsOf_ints ns]; rfl
theorem isFzs_ints : ∀ ns : List Int, isFzs (ns.map .int) = true
  | [] => rfl
  | n :: ns => by
    show (isFz (.int n) && isFzs (ns.map .int)) = true
    rw [isFzs_ints ns]; rfl
theorem fulls_ints (ns : List Int) : fulls (ns.map .int) = true := fulls_fz _ (isFzs_ints ns)
theorem frzs_ints (ns : List Int) : frzs (ns.map .int) = ns.map .int := frzs_fz _ (isFzs_ints ns)
theorem toPs_ints : ∀ ns : List Int, toPs (ns.map .int) = some (ns.map .int)
  | [] => rfl
  | n :: ns => by
    show (match toP (.int n), toPs (ns.map .int) with | some p, some ps => some (p :: ps) | _, _ => none) = _
    rw [toPs_ints ns]; rfl
theorem canLay_ints : ∀ ns : List Int, PyData.canLayAll0 (ns.map .int) = true
  | [] => rfl
  | n :: ns => by
    show (PyData.canLay0 (.int n) && PyData.canLayAll0 (ns.map .int)) = true
    rw [canLay_ints ns]; rfl
theorem eqD_refl {x y : D} {p : PyData} (hx : toP x = some p) (hy : toP y = some p) (h : SeqAt.shaped p = true) : eqD x y = some true := by
  unfold eqD
  rw [hx, hy]
  show (if (SeqAt.shaped p && SeqAt.shaped p) = true then some (PyData.eqv p p) else none) = _
  rw [h, SeqAt.eqv_refl p (SeqAt.canLay_of_shaped h)]; rfl
theorem depth_ints : ∀ ns : List Int, PyData.depthAll (ns.map .int) ≤ 1
  | [] => by decide
  | n :: ns => by
    show max (PyData.depth (.int n)) (PyData.depthAll (ns.map .int)) ≤ 1
    exact Nat.max_le.mpr ⟨by unfold PyData.depth; omega, depth_ints ns⟩
theorem shaped_ints (ns : List Int) : SeqAt.shaped (.list (ns.map .int)) = true := by
  unfold SeqAt.shaped
  have h := depth_ints ns
  have e : PyData.depth (.list (ns.map PyData.int)) ≤ 2 := by
    unfold PyData.depth
    omega
  rw [Bool.and_eq_true]
  exact ⟨canLay_ints ns, decide_eq_true (by omega)⟩
theorem atI_in {α : Type} {xs : List α} {i : Int} (h0 : 0 ≤ i) (h1 : i < xs.length) : atI xs i = some (xs[i.toNat]'(by omega)) := by
  unfold atI ixN
  rw [if_pos h0, if_pos h1]
  exact List.getElem?_eq_getElem _
theorem idx_ints {o : Bool} {ns : List Int} {i : Int} (h0 : 0 ≤ i) (h1 : i < ns.length) : idxD (.lst o (ns.map .int)) (.int i) = some (.int (ns[i.toNat]'(by omega))) := by
  show fzO (atI (ns.map D.int) i) = _
  rw [atI_in h0 (by rw [List.length_map]; exact h1), List.getElem_map]; rfl
theorem idx_lkd {ns : List Int} {i : Int} (h0 : 0 ≤ i) (h1 : i < ns.length) : idxD (.lkd (ns.map .int)) (.int i) = some (.int (ns[i.toNat]'(by omega))) := by
  show fzO (atI (ns.map D.int) i) = _
  rw [atI_in h0 (by rw [List.length_map]; exact h1), List.getElem_map]; rfl
theorem dvOk_small {t : Int} (h0 : 0 < t) (h1 : t < 2 ^ 62) : dvOk t = true := by
  unfold dvOk
  have h2 : t.natAbs < 2 ^ 62 := by omega
  have h3 : t.natAbs.log2 < 62 := (Nat.log2_lt (by omega)).mpr h2
  rw [Bool.and_eq_true]
  exact ⟨decide_eq_true (by omega), decide_eq_true (by omega)⟩
/-! ### loops -/
theorem loopF_ok {turn : D → Env → R Fl} (I : Nat → Env → Prop) : ∀ (ds : List D) (i : Nat) (ρ : Env), I i ρ → (∀ j d ρ, ds[j]? = some d → I (i + j) ρ → ∃ ρ', turn d ρ = .ok (.nx ρ') ∧ I (i + j + 1) ρ') → ∃ ρ', loopF turn ds ρ = .ok (.nx ρ') ∧ I (i + ds.length) ρ'
  | [], i, ρ, h, _ => ⟨ρ, rfl, h⟩
  | d :: ds, i, ρ, h, st => by
    obtain ⟨ρ1, e1, h1⟩ := st 0 d ρ rfl h
    obtain ⟨ρ2, e2, h2⟩ := loopF_ok I ds (i + 1) ρ1 h1 fun j d' ρ' hj hI => by
      have := st (j + 1) d' ρ' (by simpa using hj) (by rw [show i + (j + 1) = i + 1 + j by omega]; exact hI)
      rw [show i + (j + 1) + 1 = i + 1 + j + 1 by omega] at this
      exact this
    refine ⟨ρ2, ?_, by rw [List.length_cons, show i + (ds.length + 1) = i + 1 + ds.length by omega]; exact h2⟩
    unfold loopF
    rw [e1]
    exact e2
/-- a loop that keeps I -/
theorem loopF_inv {turn : D → Env → R Fl} (I : Env → Prop) {ds : List D} {ρ : Env} (h : I ρ) (st : ∀ d ∈ ds, ∀ ρ, I ρ → ∃ ρ', turn d ρ = .ok (.nx ρ') ∧ I ρ') : ∃ ρ', loopF turn ds ρ = .ok (.nx ρ') ∧ I ρ' :=
  loopF_ok (fun _ => I) ds 0 ρ h fun j d ρ' hj hI => st d (List.mem_of_getElem? hj) ρ' hI
/-- a comprehension, each turn puts one in -/
theorem loopC_all {turn : D → Env → R (Option D × Env)} (I : Env → Prop) (Pd : D → Prop) : ∀ (ds acc : List D) (ρ : Env), I ρ → (∀ d ∈ ds, ∀ ρ, I ρ → ∃ y ρ', turn d ρ = .ok (some y, ρ') ∧ Pd y ∧ I ρ') →
    ∃ ys ρ', loopC turn ds acc ρ = .ok (acc ++ ys, ρ') ∧ ys.length = ds.length ∧ (∀ y ∈ ys, Pd y) ∧ I ρ'
  | [], acc, ρ, h, _ => ⟨[], ρ, by rw [List.append_nil]; rfl, rfl, fun _ h => (nomatch h), h⟩
  | d :: ds, acc, ρ, h, st => by
    obtain ⟨y, ρ1, e1, p1, h1⟩ := st d List.mem_cons_self ρ h
    obtain ⟨ys, ρ2, e2, l2, p2, h2⟩ := loopC_all I Pd ds (acc ++ [y]) ρ1 h1 fun d' hd => st d' (List.mem_cons_of_mem _ hd)
    refine ⟨y :: ys, ρ2, ?_, by rw [List.length_cons, List.length_cons, l2], fun z hz => ?_, h2⟩
    · unfold loopC
      rw [e1]
      show loopC turn ds (acc ++ [y]) ρ1 = _
      rw [e2, List.append_assoc]; rfl
    · rcases List.mem_cons.mp hz with rfl | hz
      · exact p1
      · exact p2 z hz
/-- things that are all numbers with P -/
theorem ints_of {P : Int → Prop} : ∀ {ds : List D}, (∀ d ∈ ds, ∃ i, d = .int i ∧ P i) → ∃ ns : List Int, ds = ns.map .int ∧ ∀ n ∈ ns, P n
  | [], _ => ⟨[], rfl, fun _ h => (nomatch h)⟩
  | d :: ds, h => by
    obtain ⟨i, e, p⟩ := h d List.mem_cons_self
    obtain ⟨ns, e2, p2⟩ := ints_of (P := P) fun d' hd => h d' (List.mem_cons_of_mem _ hd)
    subst e; subst e2
    exact ⟨i :: ns, rfl, fun n hn => by
      rcases List.mem_cons.mp hn with rfl | hn
      · exact p
      · exact p2 n hn⟩
theorem rangeD_mem {lo hi : Int} {d : D} (h : d ∈ rangeD lo hi) : ∃ i : Nat, d = .int (lo + i) ∧ lo + i < hi := by
  unfold rangeD at h
  obtain ⟨i, h1, h2⟩ := List.mem_map.mp h
  exact ⟨i, h2.symm, by have := List.mem_range.mp h1; omega⟩
theorem rangeD_len {lo hi : Int} : (rangeD lo hi).length = (hi - lo).toNat := by
  unfold rangeD
  rw [List.length_map, List.length_range]
theorem itRng_small {lo hi : Int} (h0 : -(2 ^ 62) ≤ lo) (h1 : lo < 2 ^ 62) (h2 : -(2 ^ 62) ≤ hi) (h3 : hi < 2 ^ 62) : itRng lo hi = some (rangeD lo hi) := by
  unfold itRng smallI
  rw [if_pos]
  rw [Bool.and_eq_true]
  exact ⟨decide_eq_true ⟨h0, h1⟩, decide_eq_true ⟨h2, h3⟩⟩
/-! ### the weakest premise -/
def Wp {α : Type} (r : R α) (P : α → Prop) : Prop := ∃ a, r = .ok a ∧ P a
theorem wp_ok {α : Type} {a : α} {P : α → Prop} : Wp (.ok a) P = P a := propext ⟨fun ⟨_, e, h⟩ => by cases e; exact h, fun h => ⟨a, rfl, h⟩⟩
theorem wp_fail {α : Type} {P : α → Prop} : Wp (.fail) P = False := propext ⟨fun ⟨_, e, _⟩ => (nomatch e), fun h => h.elim⟩
theorem wp_exc {α : Type} {x : Exn} {ρ : Env} {P : α → Prop} : Wp (.exc x ρ) P = False := propext ⟨fun ⟨_, e, _⟩ => (nomatch e), fun h => h.elim⟩
theorem wp_bind {α β : Type} {r : R α} {f : α → R β} {P : β → Prop} : Wp (r.bind f) P = Wp r (fun a => Wp (f a) P) := by
  cases r with
  | ok a => rw [wp_ok]; rfl
  | exc x ρ => rw [wp_exc]; exact wp_exc
  | fail => rw [wp_fail]; exact wp_fail
theorem wp_map {α β : Type} {r : R α} {f : α → β} {P : β → Prop} : Wp (r.map f) P = Wp r (fun a => P (f a)) := by
  cases r with
  | ok a => rw [wp_ok]; exact wp_ok
  | exc x ρ => rw [wp_exc]; exact wp_exc
  | fail => rw [wp_fail]; exact wp_fail
def WO {α : Type} (o : Option α) (P : α → Prop) : Prop := ∃ a, o = some a ∧ P a
theorem wo_some {α : Type} {a : α} {P : α → Prop} : WO (some a) P = P a := propext ⟨fun ⟨_, e, h⟩ => by cases e; exact h, fun h => ⟨a, rfl, h⟩⟩
theorem wo_none {α : Type} {P : α → Prop} : WO none P = False := propext ⟨fun ⟨_, e, _⟩ => (nomatch e), fun h => h.elim⟩
theorem wo_map {α β : Type} {o : Option α} {f : α → β} {P : β → Prop} : WO (o.map f) P = WO o (fun a => P (f a)) := by
  cases o with
  | none => rw [wo_none]; exact wo_none
  | some a => rw [wo_some]; exact wo_some
theorem wo_bind {α β : Type} {o : Option α} {f : α → Option β} {P : β → Prop} : WO (o.bind f) P = WO o (fun a => WO (f a) P) := by
  cases o with
  | none => rw [wo_none]; exact wo_none
  | some a => rw [wo_some]; rfl
theorem wp_of {α : Type} {o : Option α} {P : α → Prop} : Wp (R.of o) P = WO o P := by
  cases o with
  | none => rw [show R.of (none : Option α) = .fail from rfl, wp_fail, wo_none]
  | some a => rw [show R.of (some a) = .ok a from rfl, wp_ok, wo_some]
theorem Wp.mono {α : Type} {r : R α} {P Q : α → Prop} (h : Wp r P) (k : ∀ a, P a → Q a) : Wp r Q := by
  obtain ⟨a, e, p⟩ := h
  exact ⟨a, e, k a p⟩
/-- what is due behind a statement -/
def Nx (C : Ctx) (ss : CSs) (P : Fl → Prop) : Fl → Prop
  | .nx ρ => Wp (evSs C ss ρ) P
  | f => P f
theorem nx_nx {C : Ctx} {ss : CSs} {P : Fl → Prop} {ρ : Env} : Nx C ss P (.nx ρ) = Wp (evSs C ss ρ) P := rfl
theorem nx_ret {C : Ctx} {ss : CSs} {P : Fl → Prop} {d : D} {ρ : Env} : Nx C ss P (.ret d ρ) = P (.ret d ρ) := rfl
theorem nx_bk {C : Ctx} {ss : CSs} {P : Fl → Prop} {ρ : Env} : Nx C ss P (.bk ρ) = P (.bk ρ) := rfl
theorem nx_ct {C : Ctx} {ss : CSs} {P : Fl → Prop} {ρ : Env} : Nx C ss P (.ct ρ) = P (.ct ρ) := rfl
theorem wp_nil {C : Ctx} {ρ : Env} {P : Fl → Prop} : Wp (evSs C .nil ρ) P = P (.nx ρ) := by rw [evSs, wp_ok]
theorem wp_cons {C : Ctx} {s : CS} {ss : CSs} {ρ : Env} {P : Fl → Prop} : Wp (evSs C (.cons s ss) ρ) P = Wp (evS C s ρ) (Nx C ss P) := by
  rw [evSs, wp_bind]
  congr 1
  funext f
  cases f with
  | nx ρ' => rfl
  | ret d ρ' => exact wp_ok
  | bk ρ' => exact wp_ok
  | ct ρ' => exact wp_ok
theorem wp_ife {C : Ctx} {t : CT} {a b : CSs} {ρ : Env} {P : Fl → Prop} : Wp (evS C (.ife t a b) ρ) P = Wp (evT C t ρ) (fun p => (p.1 = true → Wp (evSs C a p.2) P) ∧ (p.1 = false → Wp (evSs C b p.2) P)) := by
  rw [evS, wp_bind]
  congr 1
  funext p
  cases p.1 with
  | true => exact propext ⟨fun h => ⟨fun _ => h, fun z => nomatch z⟩, fun h => h.1 rfl⟩
  | false => exact propext ⟨fun h => ⟨fun z => (nomatch z), fun _ => h⟩, fun h => h.2 rfl⟩
/-- what a turn of a loop must come to -/
def Tn (J : Env → Prop) (P : Fl → Prop) : Fl → Prop
  | .nx ρ => J ρ
  | .ct ρ => J ρ
  | .bk ρ => P (.nx ρ)
  | .ret v ρ => P (.ret v ρ)
theorem wp_loopF {turn : D → Env → R Fl} {P : Fl → Prop} (J : Nat → Env → Prop) : ∀ (ds : List D) (i : Nat) (ρ : Env), J i ρ → (∀ j d ρ, ds[j]? = some d → J (i + j) ρ → Wp (turn d ρ) (Tn (J (i + j + 1)) P)) → (∀ ρ', J (i + ds.length) ρ' → P (.nx ρ')) → Wp (loopF turn ds ρ) P
  | [], i, ρ, h, _, e => by
    rw [loopF, wp_ok]
    exact e ρ h
  | d :: ds, i, ρ, h, st, e => by
    obtain ⟨f, e1, h1⟩ := st 0 d ρ rfl h
    have go : ∀ ρ1, J (i + 1) ρ1 → Wp (loopF turn ds ρ1) P := fun ρ1 h1 => wp_loopF J ds (i + 1) ρ1 h1 (fun j d' ρ' hj hI => by
      have := st (j + 1) d' ρ' (by simpa using hj) (by rw [show i + (j + 1) = i + 1 + j by omega]; exact hI)
      rw [show i + (j + 1) + 1 = i + 1 + j + 1 by omega] at this
      exact this) fun ρ' h' => e ρ' (by rw [List.length_cons, show i + (ds.length + 1) = i + 1 + ds.length by omega]; exact h')
    unfold loopF
    rw [e1]
    cases f with
    | nx ρ1 => exact go ρ1 h1
    | ct ρ1 => exact go ρ1 h1
    | bk ρ1 => exact (wp_ok).mpr h1
    | ret v ρ1 => exact (wp_ok).mpr h1
theorem wp_for {C : Ctx} {g : CG} {it : CI} {b : CSs} {ρ : Env} {P : Fl → Prop} (J : Nat → Env → Prop) (ds : List D) (ρ1 : Env) (h1 : Wp (evI C it ρ) (fun p => p.1 = ds ∧ p.2 = ρ1)) (h2 : J 0 ρ1)
    (st : ∀ j d ρ, ds[j]? = some d → J j ρ → ∃ ρ2, Cs.assign g d ρ = some ρ2 ∧ Wp (evSs C b ρ2) (Tn (J (j + 1)) P)) (e : ∀ ρ', J ds.length ρ' → P (.nx ρ')) : Wp (evS C (.for g it b) ρ) P := by
  rw [evS, wp_bind]
  refine h1.mono fun p ⟨e1, e2⟩ => ?_
  rw [e1, e2]
  refine wp_loopF J ds 0 ρ1 h2 (fun j d ρ hj hJ => ?_) fun ρ' h' => e ρ' (by rw [Nat.zero_add] at h'; exact h')
  rw [Nat.zero_add] at hJ ⊢
  obtain ⟨ρ2, a1, a2⟩ := st j d ρ hj hJ
  rw [wp_bind, wp_of]
  exact ⟨ρ2, a1, a2⟩
/-- a loop that keeps I -/
theorem wp_forI {C : Ctx} {g : CG} {it : CI} {b : CSs} {ρ : Env} {P : Fl → Prop} (I : Env → Prop) (ds : List D) (ρ1 : Env) (h1 : Wp (evI C it ρ) (fun p => p.1 = ds ∧ p.2 = ρ1)) (h2 : I ρ1)
    (st : ∀ d ∈ ds, ∀ ρ, I ρ → ∃ ρ2, Cs.assign g d ρ = some ρ2 ∧ Wp (evSs C b ρ2) (Tn I P)) (e : ∀ ρ', I ρ' → P (.nx ρ')) : Wp (evS C (.for g it b) ρ) P :=
  wp_for (fun _ => I) ds ρ1 h1 h2 (fun j d ρ hj hI => st d (List.mem_of_getElem? hj) ρ hI) e
theorem wp_loopC {turn : D → Env → R (Option D × Env)} {Q : List D × Env → Prop} (J : Nat → List D → Env → Prop) : ∀ (ds : List D) (i : Nat) (acc : List D) (ρ : Env), J i acc ρ → (∀ j d acc ρ, ds[j]? = some d → J (i + j) acc ρ → Wp (turn d ρ) (fun p => (∀ y, p.1 = some y → J (i + j + 1) (acc ++ [y]) p.2) ∧ (p.1 = none → J (i + j + 1) acc p.2))) →
    (∀ acc ρ, J (i + ds.length) acc ρ → Q (acc, ρ)) → Wp (loopC turn ds acc ρ) Q
  | [], i, acc, ρ, h, _, e => by
    rw [loopC, wp_ok]
    exact e acc ρ h
  | d :: ds, i, acc, ρ, h, st, e => by
    obtain ⟨⟨o, ρ1⟩, e1, h1, h2⟩ := st 0 d acc ρ rfl h
    have go : ∀ acc ρ1, J (i + 1) acc ρ1 → Wp (loopC turn ds acc ρ1) Q := fun acc ρ1 h1 => wp_loopC J ds (i + 1) acc ρ1 h1 (fun j d' acc' ρ' hj hI => by
      have := st (j + 1) d' acc' ρ' (by simpa using hj) (by rw [show i + (j + 1) = i + 1 + j by omega]; exact hI)
      rw [show i + (j + 1) + 1 = i + 1 + j + 1 by omega] at this
      exact this) fun acc' ρ' h' => e acc' ρ' (by rw [List.length_cons, show i + (ds.length + 1) = i + 1 + ds.length by omega]; exact h')
    unfold loopC
    rw [e1]
    cases o with
    | some y => exact go _ ρ1 (h1 y rfl)
    | none => exact go _ ρ1 (h2 rfl)
/-- a comprehension without a test, all of whose things have Pd, whose slots keep I -/
theorem wp_lc {C : Ctx} {own : List Nat} {g : CG} {it : CI} {elt : CE} {ρ : Env} {Q : D × Env → Prop} (I : Env → Prop) (Pd : D → Prop) (ds : List D) (ρ1 : Env) (h1 : Wp (evI C it ρ) (fun p => p.1 = ds ∧ p.2 = ρ1)) (hl : ds.length ≤ sizeLine) (h2 : I (wipeD ρ1 own))
    (st : ∀ d ∈ ds, ∀ ρ, I ρ → ∃ ρ2, Cs.assign g d ρ = some ρ2 ∧ Wp (evE C elt ρ2) (fun p => Pd p.1 ∧ I (wipeD p.2 own))) (e : ∀ ys ρ', ys.length = ds.length → (∀ y ∈ ys, Pd y) → I ρ' → Q (.lst true ys, putBack ρ1 ρ' own)) : Wp (evE C (.lc own g it .yes elt) ρ) Q := by
  rw [evE, wp_bind]
  refine h1.mono fun p ⟨e1, e2⟩ => ?_
  rw [e1, e2, wp_bind]
  refine wp_loopC (fun i acc ρ => acc.length = i ∧ (∀ y ∈ acc, Pd y) ∧ I ρ) ds 0 [] _ ⟨rfl, fun _ h => (nomatch h), h2⟩ (fun j d acc ρ hj ⟨a1, a2, a3⟩ => ?_) fun acc ρ ⟨a1, a2, a3⟩ => ?_
  · obtain ⟨ρ2, b1, b2⟩ := st d (List.mem_of_getElem? hj) ρ a3
    rw [wp_bind, wp_of]
    refine ⟨ρ2, b1, ?_⟩
    dsimp only
    rw [wp_bind, evT, wp_ok]
    show Wp ((evE C elt ρ2).map _) _
    rw [wp_map]
    refine b2.mono fun q ⟨c1, c2⟩ => ⟨fun y hy => ?_, fun z => nomatch z⟩
    cases hy
    refine ⟨by rw [List.length_append, a1]; rfl, fun y hy => ?_, c2⟩
    rcases List.mem_append.mp hy with hy | hy
    · exact a2 y hy
    · rw [List.mem_singleton.mp hy]; exact c1
  · rw [wp_of]
    refine ⟨_, ?_, e acc ρ (by rw [a1, Nat.zero_add]) a2 a3⟩
    rw [show szOk acc.length = true from decide_eq_true (by rw [a1, Nat.zero_add]; exact hl)]; rfl
theorem wp_asg {C : Ctx} {g : CG} {e : CE} {ρ : Env} {P : Fl → Prop} : Wp (evS C (.asg g e) ρ) P = Wp (evE C e ρ) (fun p => WO (Cs.assign g p.1 p.2) (fun ρ' => P (.nx ρ'))) := by
  rw [evS, wp_bind]
  simp only [wp_of, wo_map]
theorem wp_bilc {C : Ctx} {b : BI} {own : List Nat} {g : CG} {it : CI} {t : CT} {elt : CE} {ρ : Env} {P : D × Env → Prop} : Wp (evE C (.bi b (.cons (.lc own g it t elt) .nil)) ρ) P = Wp (evE C (.lc own g it t elt) ρ) (fun p => WO (biD b [p.1]) (fun d => P (d, p.2))) := by
  rw [evE, wp_bind, evRs, wp_bind]
  unfold refOf
  rw [wp_map]
  congr 1
  funext p
  rw [evRs]
  simp only [wp_map, wp_ok, wp_of, wo_map, Ref.gets, Ref.get]
  rfl
theorem run_wp {C : Ctx} {e : Fe} {ds : List D} {Q : D × List D → Prop} (hl : ds.length = e.np) (h : Wp (evSs C e.body (startD e.n ds)) (fun f => match f with
    | .nx ρ => Q (.non, endD e.asg 0 e.np ρ)
    | .ret d ρ => Q (d, endD e.asg 0 e.np ρ)
    | _ => False)) : Wp (run1 C e ds) Q := by
  obtain ⟨f, e1, h1⟩ := h
  unfold run1
  rw [if_pos hl, e1]
  cases f with
  | nx ρ => exact wp_ok.mpr h1
  | ret d ρ => exact wp_ok.mpr h1
  | bk ρ => exact h1.elim
  | ct ρ => exact h1.elim
theorem eqD_int (a b : Int) : eqD (.int a) (.int b) = some (a == b) := by
  unfold eqD
  show (if (SeqAt.shaped (.int a) && SeqAt.shaped (.int b)) = true then some (PyData.eqv (.int a) (.int b)) else none) = _
  have h : ∀ i : Int, SeqAt.shaped (.int i) = true := fun i => rfl
  rw [h, h]; rfl
theorem look_eq {look : Str → Option Str} {fns : Fns} {w f : Str} {d1 d2 r : D} {rs : List D} (h1 : look w = some f) (h2 : fns f [d1, d2] = .ok (r, rs)) : lookE look fns [.str w, d1, d2] = .ok (r, .str w :: rs) := by
  simp [lookE, h1, h2]
theorem str_ok (s : String) : PyData.strOk (Str.ofString s) = true := by
  unfold PyData.strOk
  rw [Str.ofString_eq_toList]
  rw [List.all_toArray, List.all_eq_true]
  intro n hn
  obtain ⟨c, _, rfl⟩ := List.mem_map.mp hn
  refine decide_eq_true ?_
  rcases c.valid with h | ⟨_, h⟩
  · exact Nat.lt_trans h (by decide)
  · exact h
theorem eqD_strs {x : Str} (h : PyData.strOk x = true) : eqD (.str x) (.str x) = some true := eqD_refl (p := .str x) rfl rfl (by
  unfold SeqAt.shaped
  rw [show PyData.canLay0 (.str x) = true from h]; rfl)
section
variable {i j : Int} {x y : D}
theorem b_add : binD .Add (.int i) (.int j) = some (.int (i + j)) := rfl
theorem b_sub : binD .Sub (.int i) (.int j) = some (.int (i - j)) := rfl
theorem b_mul : binD .Mult (.int i) (.int j) = if mulOk i j then some (.int (i * j)) else none := rfl
theorem b_fd : binD .FloorDiv (.int i) (.int j) = if dvOk j then some (.int (flr i j)) else none := rfl
theorem b_mod : binD .Mod (.int i) (.int j) = if decide (j ≠ 0) then some (.int (rst i j)) else none := rfl
theorem b_pow : binD .Pow (.int i) (.int j) = if decide (0 ≤ j ∧ j ≤ 1000000 ∧ i.natAbs < 2 ^ 64) then some (.int (i ^ j.toNat)) else none := rfl
theorem b_strs {a b : Str} : binD .Add (.str a) (.str b) = if szOk (a.length + b.length) then some (.str (a ++ b)) else none := rfl
theorem b_tups {a b : List D} : binD .Add (.tup a) (.tup b) = if szOk (a.length + b.length) && (isFzs a && isFzs b) then some (.tup (a ++ b)) else none := rfl
theorem b_lsts {o p : Bool} {a b : List D} : binD .Add (.lst o a) (.lst p b) = if szOk (a.length + b.length) && (isFzs a && isFzs b) then some (.lst true (a ++ b)) else none := rfl
theorem c_lt : cmpD .Lt (.int i) (.int j) = some (decide (i < j)) := rfl
theorem c_le : cmpD .LtE (.int i) (.int j) = some (decide (i ≤ j)) := rfl
theorem c_gt : cmpD .Gt (.int i) (.int j) = some (decide (j < i)) := rfl
theorem c_ge : cmpD .GtE (.int i) (.int j) = some (decide (j ≤ i)) := rfl
theorem c_eq : cmpD .Eq x y = eqD x y := rfl
theorem c_ne : cmpD .NotEq x y = (eqD x y).map (!·) := rfl
theorem c_in : cmpD .In x y = inD x y := rfl
theorem c_nin : cmpD .NotIn x y = (inD x y).map (!·) := rfl
theorem c_is : cmpD .Is x .non = isN x := rfl
theorem c_isn : cmpD .IsNot x .non = (isN x).map (!·) := rfl
theorem rst_pos (h : 0 < j) : rst i j = i % j := if_pos h
theorem flr_pos (h : 0 < j) : flr i j = i / j := if_pos h
theorem i_lenL {o : Bool} {xs : List D} : biD .len [.lst o xs] = some (.int xs.length) := rfl
theorem i_lenK {xs : List D} : biD .len [.lkd xs] = some (.int xs.length) := rfl
theorem i_lenT {xs : List D} : biD .len [.tup xs] = some (.int xs.length) := rfl
theorem i_lenS {a : Str} : biD .len [.str a] = if szOk a.length then some (.int a.length) else none := rfl
theorem i_min2 : biD .min2 [.int i, .int j] = some (.int (if j < i then j else i)) := rfl
theorem i_max2 : biD .max2 [.int i, .int j] = some (.int (if j > i then j else i)) := rfl
theorem i_min1 {o : Bool} {ns : List Int} : biD .min1 [.lst o (ns.map .int)] = (minL ns).map .int := by
  show (match intsOf (ns.map D.int) with | some ns => (minL ns).map D.int | none => none) = _
  rw [intsOf_ints]
theorem i_max1 {o : Bool} {ns : List Int} : biD .max1 [.lst o (ns.map .int)] = (maxL ns).map .int := by
  show (match intsOf (ns.map D.int) with | some ns => (maxL ns).map D.int | none => none) = _
  rw [intsOf_ints]
theorem i_sumT {ns : List Int} : biD .sum [.tup (ns.map .int)] = some (.int ns.sum) := by
  show (intsOf (ns.map D.int)).map (fun ns => D.int ns.sum) = _
  rw [intsOf_ints]; rfl
theorem i_sumL {o : Bool} {ns : List Int} : biD .sum [.lst o (ns.map .int)] = some (.int ns.sum) := by
  show (intsOf (ns.map D.int)).map (fun ns => D.int ns.sum) = _
  rw [intsOf_ints]; rfl
theorem i_sorted {o : Bool} {ns : List Int} : biD .sorted [.lst o (ns.map .int)] = some (.lst true ((ns.mergeSort (· ≤ ·)).map .int)) := by
  show (intsOf (ns.map D.int)).map (fun ns => D.lst true ((ns.mergeSort (· ≤ ·)).map .int)) = _
  rw [intsOf_ints]; rfl
theorem i_listL {o : Bool} {xs : List D} : biD .list [.lst o xs] = if isFzs xs then some (.lst true xs) else none := rfl
theorem i_listT {xs : List D} : biD .list [.tup xs] = if isFzs xs then some (.lst true xs) else none := rfl
theorem i_tupL {o : Bool} {xs : List D} : biD .tuple [.lst o xs] = if isFzs xs then some (.tup xs) else none := rfl
theorem i_tupT {xs : List D} : biD .tuple [.tup xs] = if isFzs xs then some (.tup xs) else none := rfl
theorem i_intB {b : Bool} : biD .int [.bl b] = some (.int (if b then 1 else 0)) := rfl
theorem i_int : biD .int [.int i] = some (.int i) := rfl
theorem i_repr : biD .repr [.int i] = if decide (i.natAbs.log2 < 1920) then some (.str (toString i)) else none := rfl
end
theorem mulOk_l {i j : Int} (h : -(2 ^ 64) < i ∧ i < 2 ^ 64) : mulOk i j = true := by
  unfold mulOk; rw [decide_eq_true h]; rfl
theorem mulOk_r {i j : Int} (h : -(2 ^ 64) < j ∧ j < 2 ^ 64) : mulOk i j = true := by
  unfold mulOk; rw [decide_eq_true h, Bool.true_or, Bool.or_true]
end Cs
set_option maxHeartbeats 0
namespace K03
def look_ch : PySem.Str → Option PySem.Str := fun w => if w = "least" then some "least" else if w = "last" then some "last" else if w = "even" then some "even" else none
end K03
namespace K03
open PySem L2 Cs
def topS (i : Nat) : Stmt := PySem.Challenge.pw_crowdsay_k03_choosers.main.body.getD i (.Pass ⟨0, 0, 0, 0⟩)
abbrev fl : List Str := ["least", "last", "even", "chosen", "_law_cell_at", "_law_tape", "_law_digit", "_law_chosen", "law"]
abbrev bl : List Str := ["len", "min", "max", "sum", "sorted", "list", "tuple", "int", "repr", "range"]
abbrev cn : List Str := []
def dOf (x : Str) (i : Nat) : He.DefD := ⟨(x, none), x, x, defArgs (topS i), defBody (topS i), defScope (topS i), [], []⟩
def b_least : CSs :=
  (.cons (.ret (.bi .min1 (.cons (.var 1) .nil))) .nil)
def r_least : Row := ⟨dOf "least" 1, ["crowd", "numbers"], ["crowd", "numbers"], [], b_least⟩
theorem o_least : RowOk fl bl cn 20 r_least := ⟨rfl, rfl, sc_of (by kernel_rfl), by kernel_rfl, fun _ _ _ _ _ _ us hl => match us, hl with | [_, _], _ => rfl⟩
def b_last : CSs :=
  (.cons (.ret (.bi .max1 (.cons (.var 1) .nil))) .nil)
def r_last : Row := ⟨dOf "last" 2, ["crowd", "numbers"], ["crowd", "numbers"], [], b_last⟩
theorem o_last : RowOk fl bl cn 20 r_last := ⟨rfl, rfl, sc_of (by kernel_rfl), by kernel_rfl, fun _ _ _ _ _ _ us hl => match us, hl with | [_, _], _ => rfl⟩
def b_even : CSs :=
  (.cons (.ret (.idx (.var 1) (.bin .Mod (.bi .sum (.cons (.var 0) .nil)) (.bi .len (.cons (.var 1) .nil))))) .nil)
def r_even : Row := ⟨dOf "even" 3, ["crowd", "numbers"], ["crowd", "numbers"], [], b_even⟩
theorem o_even : RowOk fl bl cn 20 r_even := ⟨rfl, rfl, sc_of (by kernel_rfl), by kernel_rfl, fun _ _ _ _ _ _ us hl => match us, hl with | [_, _], _ => rfl⟩
def d_chosen : He.DefD := dOf "chosen" 5
def b__law_cell_at : CSs :=
  (.cons (.ife (.cmp .Lt (.var 1) (.bi .len (.cons (.var 0) .nil))) (.cons (.ret (.idx (.var 0) (.var 1))) .nil) .nil) (.cons (.ret (.int 0)) .nil))
def r__law_cell_at : Row := ⟨dOf "_law_cell_at" 7, ["script", "k"], ["script", "k"], [], b__law_cell_at⟩
theorem o__law_cell_at : RowOk fl bl cn 20 r__law_cell_at := ⟨rfl, rfl, sc_of (by kernel_rfl), by kernel_rfl, fun _ _ _ _ _ _ us hl => match us, hl with | [_, _], _ => rfl⟩
def b__law_tape : CSs :=
  (.cons (.asg (.name 2) (.call "_law_cell_at" (.cons (.var 0) (.cons (.var 1) .nil)))) (.cons (.ife (.cmp .Eq (.var 2) (.int 0)) (.cons (.ret (.lst (.cons (.int 0) .nil))) .nil) .nil) (.cons (.ife (.cmp .GtE (.var 2) (.bin .Pow (.int 10) (.int 18))) (.cons (.ret (.lst (.cons (.bin .Sub (.var 2) (.bin .Pow (.int 10) (.int 18))) .nil))) .nil) .nil) (.cons (.asg (.name 3) (.int 2305843009213693951)) (.cons (.asg (.name 4) (.bin .Mod (.bin .Add (.bin .Add (.bin .Mult (.var 2) (.int 48271)) (.bin .Mult (.int 40692) (.var 1))) (.int 31)) (.var 3))) (.cons (.asg (.name 5) (.var 4)) (.cons (.for (.name 6) (.rng1 (.int 24)) (.cons (.asg (.name 4) (.bin .Mod (.bin .Add (.bin .Add (.bin .Mult (.var 4) (.var 4)) (.bin .Mult (.bin .Mult (.int 69621) (.bin .Add (.var 6) (.int 1))) (.bin .Add (.var 1) (.int 1)))) (.var 2)) (.var 3))) (.cons (.asg (.name 5) (.bin .Add (.bin .Mult (.var 5) (.var 3)) (.var 4))) .nil))) (.cons (.ret (.lst (.cons (.var 5) .nil))) .nil))))))))
def r__law_tape : Row := ⟨dOf "_law_tape" 8, ["script", "k", "cell", "p", "one", "found", "turn"], ["script", "k"], [], b__law_tape⟩
theorem o__law_tape : RowOk fl bl cn 20 r__law_tape := ⟨rfl, rfl, sc_of (by kernel_rfl), by kernel_rfl, fun _ _ _ _ _ _ us hl => match us, hl with | [_, _], _ => rfl⟩
def b__law_digit : CSs :=
  (.cons (.asg (.name 2) (.bin .Mod (.idx (.var 0) (.int 0)) (.var 1))) (.cons (.setI (.bin .FloorDiv (.idx (.var 0) (.int 0)) (.var 1)) 0 (.int 0)) (.cons (.ret (.mv 2)) .nil)))
def r__law_digit : Row := ⟨dOf "_law_digit" 9, ["tape", "total", "found"], ["tape", "total"], [], b__law_digit⟩
theorem o__law_digit : RowOk fl bl cn 20 r__law_digit := ⟨rfl, rfl, sc_of (by kernel_rfl), by kernel_rfl, fun _ _ _ _ _ _ us hl => match us, hl with | [_, _], _ => rfl⟩
def b__law_chosen : CSs :=
  (.cons (.ife (.cmp .Eq (.var 0) (.str "even")) (.cons (.ret (.idx (.var 2) (.bin .Mod (.bi .sum (.cons (.var 1) .nil)) (.bi .len (.cons (.var 2) .nil))))) .nil) .nil) (.cons (.ret (.idx (.lst (.cons (.bi .min1 (.cons (.var 2) .nil)) (.cons (.bi .max1 (.cons (.var 2) .nil)) .nil))) (.bi .int (.cons (.cmp .Eq (.var 0) (.str "last")) .nil)))) .nil))
def r__law_chosen : Row := ⟨dOf "_law_chosen" 10, ["word", "now", "numbers"], ["word", "now", "numbers"], [], b__law_chosen⟩
theorem o__law_chosen : RowOk fl bl cn 20 r__law_chosen := ⟨rfl, rfl, sc_of (by kernel_rfl), by kernel_rfl, fun _ _ _ _ _ _ us hl => match us, hl with | [_, _, _], _ => rfl⟩
def b_law : CSs :=
  (.cons (.for (.name 1) (.rng2 (.int 0) (.bi .max2 (.cons (.int 4) (.cons (.bi .min2 (.cons (.int 8) (.cons (.bi .len (.cons (.var 0) .nil)) .nil))) .nil)))) (.cons (.asg (.name 2) (.call "_law_tape" (.cons (.var 0) (.cons (.var 1) .nil)))) (.cons (.asg (.name 3) (.bi .tuple (.cons (.lc [9] (.name 9) (.rng1 (.bin .Add (.int 2) (.call "_law_digit" (.cons (.var 2) (.cons (.int 7) .nil))))) .yes (.call "_law_digit" (.cons (.var 2) (.cons (.int 9) .nil)))) .nil))) (.cons (.asg (.name 4) (.lc [10] (.name 10) (.rng1 (.bin .Add (.int 1) (.call "_law_digit" (.cons (.var 2) (.cons (.int 30) .nil))))) .yes (.call "_law_digit" (.cons (.var 2) (.cons (.int 100) .nil))))) (.cons (.for (.name 5) (.seq (.tup (.cons (.var 4) (.cons (.bi .sorted (.cons (.var 4) .nil)) .nil)))) (.cons (.for (.name 6) (.seq (.tup (.cons (.str "least") (.cons (.str "last") (.cons (.str "even") .nil))))) (.cons (.asg (.name 7) (.bi .list (.cons (.var 5) .nil))) (.cons (.asg (.name 8) (.call "chosen" (.cons (.var 6) (.cons (.var 3) (.cons (.var 7) .nil))))) (.cons (.ife (.or (.cmp .NotEq (.bi .repr (.cons (.var 8) .nil)) (.bi .repr (.cons (.call "_law_chosen" (.cons (.var 6) (.cons (.var 3) (.cons (.var 5) .nil)))) .nil))) (.cmp .NotEq (.var 7) (.var 5))) (.cons (.ret (.bl false)) .nil) .nil) .nil)))) .nil)) .nil))))) (.cons (.ret (.bl true)) .nil))
def r_law : Row := ⟨dOf "law" 11, ["script", "k", "tape", "crowd", "numbers", "some", "word", "handed", "found", "kind", "turn"], ["script"], [], b_law⟩
theorem o_law : RowOk fl bl cn 20 r_law := ⟨rfl, rfl, sc_of (by kernel_rfl), by kernel_rfl, fun _ _ _ _ _ _ us hl => match us, hl with | [_], _ => rfl⟩
def rows : List Row := [r_least, r_last, r_even, r__law_cell_at, r__law_tape, r__law_digit, r__law_chosen, r_law]
def prims : Prims := [("chosen", lookE look_ch)]
abbrev tab : Str → Option Ent := tabOf rows prims
theorem ok_rows : ∀ r ∈ rows, RowOk fl bl cn 20 r := fun r hr => by
  rcases List.mem_cons.mp hr with rfl | hr
  · exact o_least
  rcases List.mem_cons.mp hr with rfl | hr
  · exact o_last
  rcases List.mem_cons.mp hr with rfl | hr
  · exact o_even
  rcases List.mem_cons.mp hr with rfl | hr
  · exact o__law_cell_at
  rcases List.mem_cons.mp hr with rfl | hr
  · exact o__law_tape
  rcases List.mem_cons.mp hr with rfl | hr
  · exact o__law_digit
  rcases List.mem_cons.mp hr with rfl | hr
  · exact o__law_chosen
  rcases List.mem_cons.mp hr with rfl | hr
  · exact o_law
  cases hr
abbrev RR : PySem.W.OpenRow := PySem.W.OpenLaw.row PySem.Challenge.rw_crowdsay_k03_choosers
def fa : List He.Fa := fl.map .glo ++ (bl.map .free ++ [.glo "CHOOSERS"])
def fn : List He.DefD := rows.map (·.d) ++ [d_chosen]
def ts : List He.Tab := [(fun K => He.ga K "CHOOSERS", ["least", "last", "even"])]
def ex (K : PySem.W.Frag) : Bool := He.valsB K (He.ga K "CHOOSERS") [("least", .glo "least"), ("last", .glo "last"), ("even", .glo "even")]
abbrev hk : PySem.W.Hook := He.hookX 4 fa fn ts [] ex
def ob (s : PySem.W.SharedT) : He.AlX := He.obsX 4 fa fn ts [] ex (HandSHeadRun.getT s)
theorem ob_eq (s : PySem.W.SharedT) : ob s = hk.obs s.abs := He.obsX_eq (HandSHeadRun.getT_eq s)
def loose : List Str := ["least", "last", "even", "chosen", "_law_cell_at", "_law_tape", "_law_digit", "_law_chosen", "CHOOSERS"]
theorem runF (w : World) : HandSHeadRun.RunEq RR (PySem.W.view RR.prog [11]) hk ob 4000 loose (w.withFollow "special-get-raises" false) := by
  intro os
  kernel_rfl
theorem runT (w : World) : HandSHeadRun.RunEq RR (PySem.W.view RR.prog [11]) hk ob 4000 loose (w.withFollow "special-get-raises" true) := by
  intro os
  kernel_rfl
theorem run (w : World) : HandSHeadRun.RunEq RR (PySem.W.view RR.prog [11]) hk ob 4000 loose w := PySem.W.byRow2 "special-get-raises" (P := HandSHeadRun.RunEq RR (PySem.W.view RR.prog [11]) hk ob 4000 loose) runF runT w
theorem flB : (fl.all fun f => (rows.any fun r => decide (r.d.name = f)) || (prims.lookup f).isSome) = true := by decide +kernel
end K03
namespace K03
open PySem L2 Cs
def consF : Str → Option D := fun _ => none
theorem cn_ok : ∀ x ∈ cn, ∃ d, consF x = some d := fun x hx => nomatch hx
theorem con_ok {w : World} {K : PySem.W.Frag} {h : Heap} {mg : Str → Option Value} (X : K.In h) (G : h.Ns mainGlobals mg) (c : He.SaysX fa fn ts [] ex w h K) : ∀ x d, consF x = some d → ∃ u v, mg x = some u ∧ RelV v u ∧ ∀ Hf H, Rp K mg Hf H d v [] := fun x d e => nomatch e
theorem look_g (w f : Str) (h : look_ch w = some f) : w ∈ (["least", "last", "even"] : List Str) ∧ f = w := by
  unfold look_ch at h
  split at h
  · rename_i e; cases h; subst e; exact ⟨by simp, rfl⟩
  · split at h
    · rename_i e; cases h; subst e; exact ⟨by simp, rfl⟩
    · split at h
      · rename_i e; cases h; subst e; exact ⟨by simp, rfl⟩
      · cases h
theorem prim_ok {P : Program} {w : World} {K : PySem.W.Frag} {h base : Heap} {mg : Str → Option Value} (X : K.In h) (G : h.Ns mainGlobals mg) (c : He.SaysX fa fn ts [] ex w h K) : ∀ f g, (f, g) ∈ prims → ∃ (a : Addr) (fd : FuncData) (ps : List Str), mg f = some (.ref a) ∧ PySem.W.keepIn K (.ref a) = true ∧ Binds K fd ps [] ∧
      ∀ k, (∀ g ∈ fl, Lv P w K mg base k g (callN (tabOf rows prims) consF k g)) → FnOk P w K mg base (L2.CX P w) (k + 1) a fd ps (spF K mg (g (callN (tabOf rows prims) consF k))) := fun f g hg => by
  obtain ⟨rfl, rfl⟩ := Prod.mk.inj (List.mem_singleton.mp hg)
  obtain ⟨a, fd, hm, F⟩ : Stands K mg d_chosen := stands_of c.t.d X G (List.mem_append_right _ List.mem_cons_self) rfl rfl (List.mem_append_left _ (List.mem_map_of_mem (by decide +kernel)))
  have b := F.bindsN (ps := ["word", "crowd", "numbers"]) fun _ _ _ _ _ _ us hl => match us, hl with | [_, _, _], _ => rfl
  obtain ⟨es, n, D⟩ := c.t.tab 0 rfl
  have hv : He.valsB K (He.ga K "CHOOSERS") [("least", .glo "least"), ("last", .glo "last"), ("even", .glo "even")] = true := c.more
  have gl : ∀ x ∈ fl, mg x = some (.ref (He.ga K x)) := fun x hx => glo_of c.t.d X G (List.mem_append_left _ (List.mem_map_of_mem hx))
  refine ⟨a, fd, _, hm, F.kp, b, fun k ih => ?_⟩
  refine look_ok (Γ := ⟨["word", "crowd", "numbers", "choose"], fl, bl⟩) (C := ⟨callN (tabOf rows prims) consF k, consF, whlC⟩) (x := "word") (y := "crowd") (z := "numbers") (u := "choose") (tn := "CHOOSERS") rfl (by kernel_rfl) F (sc_of (by kernel_rfl)) (by kernel_rfl) (by kernel_rfl)
    (by decide +kernel) (con_ok X G c) rfl (fun x hx => free_of c.t.d X G (List.mem_append_right _ (List.mem_append_left _ (List.mem_map_of_mem hx)))) ih D (glo_of c.t.d X G (List.mem_append_right _ (List.mem_append_right _ List.mem_cons_self))) fun s0 g hs => ?_
  obtain ⟨hw, rfl⟩ := look_g s0 g hs
  have hsub : g ∈ fl := by
    have := List.all_eq_true.mp (show ((["least", "last", "even"] : List Str).all fun x => decide (x ∈ fl)) = true by decide +kernel) g hw
    exact of_decide_eq_true this
  refine ⟨hsub, _, gl g hsub, ?_⟩
  have hq : ((g : Str), He.Dv.glo g) ∈ [(("least" : Str), He.Dv.glo "least"), ("last", .glo "last"), ("even", .glo "even")] := by
    rcases List.mem_cons.mp hw with rfl | hw
    · exact List.mem_cons_self
    · rcases List.mem_cons.mp hw with rfl | hw
      · exact List.mem_cons_of_mem _ List.mem_cons_self
      · rcases List.mem_cons.mp hw with rfl | hw
        · exact List.mem_cons_of_mem _ (List.mem_cons_of_mem _ List.mem_cons_self)
        · cases hw
  obtain ⟨u, h1, h2⟩ := He.valsB_ok hv hq
  cases h2
  exact h1
end K03
namespace K03
open PySem L2 Cs
theorem t_digit : tab "_law_digit" = some (.code r__law_digit.fe) := by kernel_rfl
theorem t_cell : tab "_law_cell_at" = some (.code r__law_cell_at.fe) := by kernel_rfl
theorem t_tape : tab "_law_tape" = some (.code r__law_tape.fe) := by kernel_rfl
theorem s_digit (k : Nat) (m t : Int) (ht : 0 < t) (hb : t < 1000) : callN tab consF (k + 1) "_law_digit" [.lst true [.int m], .int t] = .ok (.int (m % t), [.lst true [.int (m / t)], .int t]) := by
  rw [call_code t_digit]
  have h0 : t ≠ 0 := by omega
  have hd : dvOk t = true := dvOk_small ht (by omega)
  simp [run1, Row.fe, r__law_digit, b__law_digit, startD, endD, evSs, evS, evE, R.bind, R.of, R.map, refOf, slotE, Ref.get, opt2, idxD, binD, guardL, fzO, atI, ixN, isFz, Cs.assign, asI, Cs.setD, ownL, rst, flr, ht, h0, hd]
theorem s_cell (k : Nat) (ns : List Int) (i : Nat) : ∃ c, callN tab consF (k + 1) "_law_cell_at" [.lkd (ns.map .int), .int i] = .ok (.int c, [.lkd (ns.map .int), .int i]) := by
  rw [call_code t_cell]
  by_cases h : i < ns.length
  · refine ⟨ns[i], ?_⟩
    have hx : idxD (.lkd (ns.map .int)) (.int i) = some (.int ns[i]) := idx_lkd (by omega) (by omega)
    simp [run1, Row.fe, r__law_cell_at, b__law_cell_at, startD, endD, evSs, evS, evE, evT, evRs, R.bind, R.of, R.map, refOf, slotE, Ref.get, Ref.gets, opt2, cmpD, biD, seqOf, h, hx]
  · refine ⟨0, ?_⟩
    simp [run1, Row.fe, r__law_cell_at, b__law_cell_at, startD, endD, evSs, evS, evE, evT, evRs, R.bind, R.of, R.map, refOf, slotE, Ref.get, Ref.gets, opt2, cmpD, biD, seqOf, h]

theorem s_tape (k : Nat) (ns : List Int) (i : Nat) (hi : i < 1000) : Wp (callN tab consF (k + 2) "_law_tape" [.lkd (ns.map .int), .int i]) (fun r => ∃ m, r = (.lst true [.int m], [.lkd (ns.map .int), .int i])) := by
  rw [call_code t_tape]
  obtain ⟨c, hc⟩ := s_cell k ns i
  have m1 : mulOk c 48271 = true := mulOk_r (by decide)
  have m2 : mulOk 40692 i = true := mulOk_l (by decide)
  refine run_wp rfl ?_
  show Wp (evSs _ b__law_tape (startD 7 [.lkd (ns.map .int), .int i])) _
  unfold b__law_tape
  rw [wp_cons]
  simp [startD, evS, evE, evT, evEs, evRs, evO, evI, wp_bind, wp_of, wp_ok, wp_map, wo_some, wo_map, wo_bind, refOf, slotE, varE, Ref.get, Ref.gets, opt2, lend, back, isFz, isFzs_ints, Cs.assign, nx_nx, nx_ret, b_add, b_sub, b_mul, b_fd, b_mod, b_pow, b_strs, b_tups, b_lsts, c_lt, c_le, c_gt, c_ge, c_eq, c_ne, c_in, c_nin, c_is, c_isn, i_lenL, i_lenK, i_lenT, i_lenS, i_min2, i_max2, i_min1, i_max1, i_sumT, i_sumL, i_sorted, i_listL, i_listT, i_tupL, i_tupT, i_intB, i_int, i_repr, asI, asB, eqD_int, szOk, sizeLine_eq, Tn, fulls_ints, frzs_ints, List.set, wipeD, putBack, itSeq, fulls, frzs, full, frz, hc]
  rw [wp_cons, wp_ife]
  simp [startD, evS, evE, evT, evEs, evRs, evO, evI, wp_bind, wp_of, wp_ok, wp_map, wo_some, wo_map, wo_bind, refOf, slotE, varE, Ref.get, Ref.gets, opt2, lend, back, isFz, isFzs_ints, Cs.assign, nx_nx, nx_ret, b_add, b_sub, b_mul, b_fd, b_mod, b_pow, b_strs, b_tups, b_lsts, c_lt, c_le, c_gt, c_ge, c_eq, c_ne, c_in, c_nin, c_is, c_isn, i_lenL, i_lenK, i_lenT, i_lenS, i_min2, i_max2, i_min1, i_max1, i_sumT, i_sumL, i_sorted, i_listL, i_listT, i_tupL, i_tupT, i_intB, i_int, i_repr, asI, asB, eqD_int, szOk, sizeLine_eq, Tn, fulls_ints, frzs_ints, List.set, wipeD, putBack, itSeq, fulls, frzs, full, frz]
  constructor
  · intro h0
    rw [wp_cons]
    simp [startD, evS, evE, evT, evEs, evRs, evO, evI, wp_bind, wp_of, wp_ok, wp_map, wo_some, wo_map, wo_bind, refOf, slotE, varE, Ref.get, Ref.gets, opt2, lend, back, isFz, isFzs_ints, Cs.assign, nx_nx, nx_ret, b_add, b_sub, b_mul, b_fd, b_mod, b_pow, b_strs, b_tups, b_lsts, c_lt, c_le, c_gt, c_ge, c_eq, c_ne, c_in, c_nin, c_is, c_isn, i_lenL, i_lenK, i_lenT, i_lenS, i_min2, i_max2, i_min1, i_max1, i_sumT, i_sumL, i_sorted, i_listL, i_listT, i_tupL, i_tupT, i_intB, i_int, i_repr, asI, asB, eqD_int, szOk, sizeLine_eq, Tn, fulls_ints, frzs_ints, List.set, wipeD, putBack, itSeq, fulls, frzs, full, frz, endD, r__law_tape, Row.fe]
  intro h0
  rw [wp_nil, nx_nx, wp_cons, wp_ife]
  simp [startD, evS, evE, evT, evEs, evRs, evO, evI, wp_bind, wp_of, wp_ok, wp_map, wo_some, wo_map, wo_bind, refOf, slotE, varE, Ref.get, Ref.gets, opt2, lend, back, isFz, isFzs_ints, Cs.assign, nx_nx, nx_ret, b_add, b_sub, b_mul, b_fd, b_mod, b_pow, b_strs, b_tups, b_lsts, c_lt, c_le, c_gt, c_ge, c_eq, c_ne, c_in, c_nin, c_is, c_isn, i_lenL, i_lenK, i_lenT, i_lenS, i_min2, i_max2, i_min1, i_max1, i_sumT, i_sumL, i_sorted, i_listL, i_listT, i_tupL, i_tupT, i_intB, i_int, i_repr, asI, asB, eqD_int, szOk, sizeLine_eq, Tn, fulls_ints, frzs_ints, List.set, wipeD, putBack, itSeq, fulls, frzs, full, frz]
  constructor
  · intro h0
    rw [wp_cons]
    simp [startD, evS, evE, evT, evEs, evRs, evO, evI, wp_bind, wp_of, wp_ok, wp_map, wo_some, wo_map, wo_bind, refOf, slotE, varE, Ref.get, Ref.gets, opt2, lend, back, isFz, isFzs_ints, Cs.assign, nx_nx, nx_ret, b_add, b_sub, b_mul, b_fd, b_mod, b_pow, b_strs, b_tups, b_lsts, c_lt, c_le, c_gt, c_ge, c_eq, c_ne, c_in, c_nin, c_is, c_isn, i_lenL, i_lenK, i_lenT, i_lenS, i_min2, i_max2, i_min1, i_max1, i_sumT, i_sumL, i_sorted, i_listL, i_listT, i_tupL, i_tupT, i_intB, i_int, i_repr, asI, asB, eqD_int, szOk, sizeLine_eq, Tn, fulls_ints, frzs_ints, List.set, wipeD, putBack, itSeq, fulls, frzs, full, frz, endD, r__law_tape, Row.fe]
  intro h0
  rw [wp_nil, nx_nx, wp_cons]
  simp [startD, evS, evE, evT, evEs, evRs, evO, evI, wp_bind, wp_of, wp_ok, wp_map, wo_some, wo_map, wo_bind, refOf, slotE, varE, Ref.get, Ref.gets, opt2, lend, back, isFz, isFzs_ints, Cs.assign, nx_nx, nx_ret, b_add, b_sub, b_mul, b_fd, b_mod, b_pow, b_strs, b_tups, b_lsts, c_lt, c_le, c_gt, c_ge, c_eq, c_ne, c_in, c_nin, c_is, c_isn, i_lenL, i_lenK, i_lenT, i_lenS, i_min2, i_max2, i_min1, i_max1, i_sumT, i_sumL, i_sorted, i_listL, i_listT, i_tupL, i_tupT, i_intB, i_int, i_repr, asI, asB, eqD_int, szOk, sizeLine_eq, Tn, fulls_ints, frzs_ints, List.set, wipeD, putBack, itSeq, fulls, frzs, full, frz]
  rw [wp_cons]
  simp [startD, evS, evE, evT, evEs, evRs, evO, evI, wp_bind, wp_of, wp_ok, wp_map, wo_some, wo_map, wo_bind, refOf, slotE, varE, Ref.get, Ref.gets, opt2, lend, back, isFz, isFzs_ints, Cs.assign, nx_nx, nx_ret, b_add, b_sub, b_mul, b_fd, b_mod, b_pow, b_strs, b_tups, b_lsts, c_lt, c_le, c_gt, c_ge, c_eq, c_ne, c_in, c_nin, c_is, c_isn, i_lenL, i_lenK, i_lenT, i_lenS, i_min2, i_max2, i_min1, i_max1, i_sumT, i_sumL, i_sorted, i_listL, i_listT, i_tupL, i_tupT, i_intB, i_int, i_repr, asI, asB, eqD_int, szOk, sizeLine_eq, Tn, fulls_ints, frzs_ints, List.set, wipeD, putBack, itSeq, fulls, frzs, full, frz, m1, m2]
  rw [wp_cons]
  simp [startD, evS, evE, evT, evEs, evRs, evO, evI, wp_bind, wp_of, wp_ok, wp_map, wo_some, wo_map, wo_bind, refOf, slotE, varE, Ref.get, Ref.gets, opt2, lend, back, isFz, isFzs_ints, Cs.assign, nx_nx, nx_ret, b_add, b_sub, b_mul, b_fd, b_mod, b_pow, b_strs, b_tups, b_lsts, c_lt, c_le, c_gt, c_ge, c_eq, c_ne, c_in, c_nin, c_is, c_isn, i_lenL, i_lenK, i_lenT, i_lenS, i_min2, i_max2, i_min1, i_max1, i_sumT, i_sumL, i_sorted, i_listL, i_listT, i_tupL, i_tupT, i_intB, i_int, i_repr, asI, asB, eqD_int, szOk, sizeLine_eq, Tn, fulls_ints, frzs_ints, List.set, wipeD, putBack, itSeq, fulls, frzs, full, frz]
  rw [wp_cons]
  have hp : ∀ z : Int, ∃ o : Int, rst z 2305843009213693951 = o ∧ 0 ≤ o ∧ o < 2305843009213693951 := fun z => ⟨_, rfl, by rw [rst_pos (by decide)]; exact ⟨Int.emod_nonneg _ (by decide), Int.emod_lt_of_pos _ (by decide)⟩⟩
  obtain ⟨o, ho, h1, h2⟩ := hp (c * 48271 + 40692 * i + 31)
  rw [ho]
  refine wp_forI (fun ρ => ∃ a b : Int, ∃ z : D, 0 ≤ a ∧ a < 2305843009213693951 ∧ ρ = [.lkd (ns.map .int), .int i, .int c, .int 2305843009213693951, .int a, .int b, z]) (rangeD 0 24) _ ?_ ⟨o, o, .undef, h1, h2, rfl⟩ ?_ ?_
  · simp [startD, evS, evE, evT, evEs, evRs, evO, evI, wp_bind, wp_of, wp_ok, wp_map, wo_some, wo_map, wo_bind, refOf, slotE, varE, Ref.get, Ref.gets, opt2, lend, back, isFz, isFzs_ints, Cs.assign, nx_nx, nx_ret, b_add, b_sub, b_mul, b_fd, b_mod, b_pow, b_strs, b_tups, b_lsts, c_lt, c_le, c_gt, c_ge, c_eq, c_ne, c_in, c_nin, c_is, c_isn, i_lenL, i_lenK, i_lenT, i_lenS, i_min2, i_max2, i_min1, i_max1, i_sumT, i_sumL, i_sorted, i_listL, i_listT, i_tupL, i_tupT, i_intB, i_int, i_repr, asI, asB, eqD_int, szOk, sizeLine_eq, Tn, fulls_ints, frzs_ints, List.set, wipeD, putBack, itSeq, fulls, frzs, full, frz, itRng_small]
  · rintro d hd ρ ⟨a, b, z, ha, hb, rfl⟩
    obtain ⟨t, rfl, ht⟩ := rangeD_mem hd
    refine ⟨_, by simp [startD, evS, evE, evT, evEs, evRs, evO, evI, wp_bind, wp_of, wp_ok, wp_map, wo_some, wo_map, wo_bind, refOf, slotE, varE, Ref.get, Ref.gets, opt2, lend, back, isFz, isFzs_ints, Cs.assign, nx_nx, nx_ret, b_add, b_sub, b_mul, b_fd, b_mod, b_pow, b_strs, b_tups, b_lsts, c_lt, c_le, c_gt, c_ge, c_eq, c_ne, c_in, c_nin, c_is, c_isn, i_lenL, i_lenK, i_lenT, i_lenS, i_min2, i_max2, i_min1, i_max1, i_sumT, i_sumL, i_sorted, i_listL, i_listT, i_tupL, i_tupT, i_intB, i_int, i_repr, asI, asB, eqD_int, szOk, sizeLine_eq, Tn, fulls_ints, frzs_ints, List.set, wipeD, putBack, itSeq, fulls, frzs, full, frz]; rfl, ?_⟩
    have n1 : mulOk a a = true := mulOk_l (by omega)
    have n2 : mulOk 69621 (t + 1) = true := mulOk_l (by decide)
    have n3 : mulOk (69621 * (t + 1)) (i + 1) = true := mulOk_l (by omega)
    have n4 : mulOk b 2305843009213693951 = true := mulOk_r (by decide)
    obtain ⟨o2, ho2, h3, h4⟩ := hp (a * a + 69621 * (t + 1) * (i + 1) + c)
    rw [wp_cons]
    simp [startD, evS, evE, evT, evEs, evRs, evO, evI, wp_bind, wp_of, wp_ok, wp_map, wo_some, wo_map, wo_bind, refOf, slotE, varE, Ref.get, Ref.gets, opt2, lend, back, isFz, isFzs_ints, Cs.assign, nx_nx, nx_ret, b_add, b_sub, b_mul, b_fd, b_mod, b_pow, b_strs, b_tups, b_lsts, c_lt, c_le, c_gt, c_ge, c_eq, c_ne, c_in, c_nin, c_is, c_isn, i_lenL, i_lenK, i_lenT, i_lenS, i_min2, i_max2, i_min1, i_max1, i_sumT, i_sumL, i_sorted, i_listL, i_listT, i_tupL, i_tupT, i_intB, i_int, i_repr, asI, asB, eqD_int, szOk, sizeLine_eq, Tn, fulls_ints, frzs_ints, List.set, wipeD, putBack, itSeq, fulls, frzs, full, frz, n1, n2, n3, ho2]
    rw [wp_cons]
    simp [startD, evS, evE, evT, evEs, evRs, evO, evI, wp_bind, wp_of, wp_ok, wp_map, wo_some, wo_map, wo_bind, refOf, slotE, varE, Ref.get, Ref.gets, opt2, lend, back, isFz, isFzs_ints, Cs.assign, nx_nx, nx_ret, b_add, b_sub, b_mul, b_fd, b_mod, b_pow, b_strs, b_tups, b_lsts, c_lt, c_le, c_gt, c_ge, c_eq, c_ne, c_in, c_nin, c_is, c_isn, i_lenL, i_lenK, i_lenT, i_lenS, i_min2, i_max2, i_min1, i_max1, i_sumT, i_sumL, i_sorted, i_listL, i_listT, i_tupL, i_tupT, i_intB, i_int, i_repr, asI, asB, eqD_int, szOk, sizeLine_eq, Tn, fulls_ints, frzs_ints, List.set, wipeD, putBack, itSeq, fulls, frzs, full, frz, n4]
    rw [wp_nil]
    exact ⟨_, h3, h4, _, _, rfl⟩
  · rintro ρ ⟨a, b, z, ha, hb, rfl⟩
    rw [nx_nx, wp_cons]
    simp [startD, evS, evE, evT, evEs, evRs, evO, evI, wp_bind, wp_of, wp_ok, wp_map, wo_some, wo_map, wo_bind, refOf, slotE, varE, Ref.get, Ref.gets, opt2, lend, back, isFz, isFzs_ints, Cs.assign, nx_nx, nx_ret, b_add, b_sub, b_mul, b_fd, b_mod, b_pow, b_strs, b_tups, b_lsts, c_lt, c_le, c_gt, c_ge, c_eq, c_ne, c_in, c_nin, c_is, c_isn, i_lenL, i_lenK, i_lenT, i_lenS, i_min2, i_max2, i_min1, i_max1, i_sumT, i_sumL, i_sorted, i_listL, i_listT, i_tupL, i_tupT, i_intB, i_int, i_repr, asI, asB, eqD_int, szOk, sizeLine_eq, Tn, fulls_ints, frzs_ints, List.set, wipeD, putBack, itSeq, fulls, frzs, full, frz, endD, r__law_tape, Row.fe]
theorem t_chosen : tab "chosen" = some (.prim (lookE look_ch)) := by kernel_rfl
theorem t_least : tab "least" = some (.code r_least.fe) := by kernel_rfl
theorem t_last : tab "last" = some (.code r_last.fe) := by kernel_rfl
theorem t_even : tab "even" = some (.code r_even.fe) := by kernel_rfl
theorem t_lch : tab "_law_chosen" = some (.code r__law_chosen.fe) := by kernel_rfl
/-- the number told -/
def told (w : Str) (cs xs : List Int) (r : Int) : Prop := (w = "least" ∧ minL xs = some r) ∨ (w = "last" ∧ maxL xs = some r) ∨ (w = "even" ∧ ∃ h : (cs.sum % (xs.length : Int)).toNat < xs.length, r = xs[(cs.sum % (xs.length : Int)).toNat])
theorem s_chosen (k : Nat) (w : Str) (cs xs : List Int) (o : Bool) (r : Int) (hx : xs ≠ []) (h : told w cs xs r) : callN tab consF (k + 2) "chosen" [.str w, .tup (cs.map .int), .lst o (xs.map .int)] = .ok (.int r, [.str w, .tup (cs.map .int), .lst o (xs.map .int)]) := by
  rw [call_prim t_chosen]
  have hl : 0 < xs.length := List.length_pos_iff.mpr hx
  rcases h with ⟨rfl, h⟩ | ⟨rfl, h⟩ | ⟨rfl, hb, rfl⟩
  · have e : Wp (callN tab consF (k + 1) "least" [.tup (cs.map .int), .lst o (xs.map .int)]) (fun p => p = (.int r, [.tup (cs.map .int), .lst o (xs.map .int)])) := by
      rw [call_code t_least]
      refine run_wp rfl ?_
      show Wp (evSs _ b_least (startD 2 [.tup (cs.map .int), .lst o (xs.map .int)])) _
      unfold b_least
      rw [wp_cons]
      simp [startD, evS, evE, evT, evEs, evRs, evO, evI, wp_bind, wp_of, wp_ok, wp_map, wo_some, wo_map, wo_bind, refOf, slotE, varE, Ref.get, Ref.gets, opt2, lend, back, isFz, isFzs_ints, Cs.assign, nx_nx, nx_ret, b_add, b_sub, b_mul, b_fd, b_mod, b_pow, b_strs, b_tups, b_lsts, c_lt, c_le, c_gt, c_ge, c_eq, c_ne, c_in, c_nin, c_is, c_isn, i_lenL, i_lenK, i_lenT, i_lenS, i_min2, i_max2, i_min1, i_max1, i_sumT, i_sumL, i_sorted, i_listL, i_listT, i_tupL, i_tupT, i_intB, i_int, i_repr, asI, asB, eqD_int, szOk, sizeLine_eq, Tn, fulls_ints, frzs_ints, List.set, wipeD, putBack, itSeq, fulls, frzs, full, frz, endD, r_least, Row.fe, h]
    obtain ⟨_, e, rfl⟩ := e
    exact look_eq (by decide +kernel) e
  · have e : Wp (callN tab consF (k + 1) "last" [.tup (cs.map .int), .lst o (xs.map .int)]) (fun p => p = (.int r, [.tup (cs.map .int), .lst o (xs.map .int)])) := by
      rw [call_code t_last]
      refine run_wp rfl ?_
      show Wp (evSs _ b_last (startD 2 [.tup (cs.map .int), .lst o (xs.map .int)])) _
      unfold b_last
      rw [wp_cons]
      simp [startD, evS, evE, evT, evEs, evRs, evO, evI, wp_bind, wp_of, wp_ok, wp_map, wo_some, wo_map, wo_bind, refOf, slotE, varE, Ref.get, Ref.gets, opt2, lend, back, isFz, isFzs_ints, Cs.assign, nx_nx, nx_ret, b_add, b_sub, b_mul, b_fd, b_mod, b_pow, b_strs, b_tups, b_lsts, c_lt, c_le, c_gt, c_ge, c_eq, c_ne, c_in, c_nin, c_is, c_isn, i_lenL, i_lenK, i_lenT, i_lenS, i_min2, i_max2, i_min1, i_max1, i_sumT, i_sumL, i_sorted, i_listL, i_listT, i_tupL, i_tupT, i_intB, i_int, i_repr, asI, asB, eqD_int, szOk, sizeLine_eq, Tn, fulls_ints, frzs_ints, List.set, wipeD, putBack, itSeq, fulls, frzs, full, frz, endD, r_last, Row.fe, h]
    obtain ⟨_, e, rfl⟩ := e
    exact look_eq (by decide +kernel) e
  · have e : Wp (callN tab consF (k + 1) "even" [.tup (cs.map .int), .lst o (xs.map .int)]) (fun p => p = (.int xs[(cs.sum % (xs.length : Int)).toNat], [.tup (cs.map .int), .lst o (xs.map .int)])) := by
      rw [call_code t_even]
      refine run_wp rfl ?_
      show Wp (evSs _ b_even (startD 2 [.tup (cs.map .int), .lst o (xs.map .int)])) _
      unfold b_even
      rw [wp_cons]
      have hi := idx_ints (o := o) (ns := xs) (i := cs.sum % (xs.length : Int)) (Int.emod_nonneg _ (by omega)) (Int.emod_lt_of_pos _ (by omega))
      simp [startD, evS, evE, evT, evEs, evRs, evO, evI, wp_bind, wp_of, wp_ok, wp_map, wo_some, wo_map, wo_bind, refOf, slotE, varE, Ref.get, Ref.gets, opt2, lend, back, isFz, isFzs_ints, Cs.assign, nx_nx, nx_ret, b_add, b_sub, b_mul, b_fd, b_mod, b_pow, b_strs, b_tups, b_lsts, c_lt, c_le, c_gt, c_ge, c_eq, c_ne, c_in, c_nin, c_is, c_isn, i_lenL, i_lenK, i_lenT, i_lenS, i_min2, i_max2, i_min1, i_max1, i_sumT, i_sumL, i_sorted, i_listL, i_listT, i_tupL, i_tupT, i_intB, i_int, i_repr, asI, asB, eqD_int, szOk, sizeLine_eq, Tn, fulls_ints, frzs_ints, List.set, wipeD, putBack, itSeq, fulls, frzs, full, frz, endD, r_even, Row.fe, hx, rst_pos (show (0 : Int) < (xs.length : Int) by omega), hi]
    obtain ⟨_, e, rfl⟩ := e
    exact look_eq (by decide +kernel) e
theorem s_lch (k : Nat) (w : Str) (cs xs : List Int) (o : Bool) (r : Int) (hx : xs ≠ []) (h : told w cs xs r) : callN tab consF (k + 1) "_law_chosen" [.str w, .tup (cs.map .int), .lst o (xs.map .int)] = .ok (.int r, [.str w, .tup (cs.map .int), .lst o (xs.map .int)]) := by
  rw [call_code t_lch]
  have hl : 0 < xs.length := List.length_pos_iff.mpr hx
  have e : Wp (run1 ⟨callN tab consF k, consF, whlC⟩ r__law_chosen.fe [.str w, .tup (cs.map .int), .lst o (xs.map .int)]) (fun p => p = (.int r, [.str w, .tup (cs.map .int), .lst o (xs.map .int)])) := by
    refine run_wp rfl ?_
    show Wp (evSs _ b__law_chosen (startD 3 [.str w, .tup (cs.map .int), .lst o (xs.map .int)])) _
    unfold b__law_chosen
    obtain ⟨m, hm⟩ : ∃ m, minL xs = some m := by
      cases xs with
      | nil => exact absurd rfl hx
      | cons x xs => exact ⟨_, rfl⟩
    obtain ⟨M, hM⟩ : ∃ m, maxL xs = some m := by
      cases xs with
      | nil => exact absurd rfl hx
      | cons x xs => exact ⟨_, rfl⟩
    rw [wp_cons, wp_ife]
    rcases h with ⟨rfl, h⟩ | ⟨rfl, h⟩ | ⟨rfl, hb, rfl⟩
    · have e1 : eqD (.str "least") (.str "even") = some false := by decide +kernel
      have e2 : eqD (.str "least") (.str "last") = some false := by decide +kernel
      simp [startD, evS, evE, evT, evEs, evRs, evO, evI, wp_bind, wp_of, wp_ok, wp_map, wo_some, wo_map, wo_bind, refOf, slotE, varE, Ref.get, Ref.gets, opt2, lend, back, isFz, isFzs_ints, Cs.assign, nx_nx, nx_ret, b_add, b_sub, b_mul, b_fd, b_mod, b_pow, b_strs, b_tups, b_lsts, c_lt, c_le, c_gt, c_ge, c_eq, c_ne, c_in, c_nin, c_is, c_isn, i_lenL, i_lenK, i_lenT, i_lenS, i_min2, i_max2, i_min1, i_max1, i_sumT, i_sumL, i_sorted, i_listL, i_listT, i_tupL, i_tupT, i_intB, i_int, i_repr, asI, asB, eqD_int, szOk, sizeLine_eq, Tn, fulls_ints, frzs_ints, List.set, wipeD, putBack, itSeq, fulls, frzs, full, frz, e1]
      rw [wp_nil, nx_nx, wp_cons]
      simp [startD, evS, evE, evT, evEs, evRs, evO, evI, wp_bind, wp_of, wp_ok, wp_map, wo_some, wo_map, wo_bind, refOf, slotE, varE, Ref.get, Ref.gets, opt2, lend, back, isFz, isFzs_ints, Cs.assign, nx_nx, nx_ret, b_add, b_sub, b_mul, b_fd, b_mod, b_pow, b_strs, b_tups, b_lsts, c_lt, c_le, c_gt, c_ge, c_eq, c_ne, c_in, c_nin, c_is, c_isn, i_lenL, i_lenK, i_lenT, i_lenS, i_min2, i_max2, i_min1, i_max1, i_sumT, i_sumL, i_sorted, i_listL, i_listT, i_tupL, i_tupT, i_intB, i_int, i_repr, asI, asB, eqD_int, szOk, sizeLine_eq, Tn, fulls_ints, frzs_ints, List.set, wipeD, putBack, itSeq, fulls, frzs, full, frz, endD, r__law_chosen, Row.fe, h, hM, e2, idxD, fzO, atI, ixN]
    · have e1 : eqD (.str "last") (.str "even") = some false := by decide +kernel
      have e2 : eqD (.str "last") (.str "last") = some true := by decide +kernel
      simp [startD, evS, evE, evT, evEs, evRs, evO, evI, wp_bind, wp_of, wp_ok, wp_map, wo_some, wo_map, wo_bind, refOf, slotE, varE, Ref.get, Ref.gets, opt2, lend, back, isFz, isFzs_ints, Cs.assign, nx_nx, nx_ret, b_add, b_sub, b_mul, b_fd, b_mod, b_pow, b_strs, b_tups, b_lsts, c_lt, c_le, c_gt, c_ge, c_eq, c_ne, c_in, c_nin, c_is, c_isn, i_lenL, i_lenK, i_lenT, i_lenS, i_min2, i_max2, i_min1, i_max1, i_sumT, i_sumL, i_sorted, i_listL, i_listT, i_tupL, i_tupT, i_intB, i_int, i_repr, asI, asB, eqD_int, szOk, sizeLine_eq, Tn, fulls_ints, frzs_ints, List.set, wipeD, putBack, itSeq, fulls, frzs, full, frz, e1]
      rw [wp_nil, nx_nx, wp_cons]
      simp [startD, evS, evE, evT, evEs, evRs, evO, evI, wp_bind, wp_of, wp_ok, wp_map, wo_some, wo_map, wo_bind, refOf, slotE, varE, Ref.get, Ref.gets, opt2, lend, back, isFz, isFzs_ints, Cs.assign, nx_nx, nx_ret, b_add, b_sub, b_mul, b_fd, b_mod, b_pow, b_strs, b_tups, b_lsts, c_lt, c_le, c_gt, c_ge, c_eq, c_ne, c_in, c_nin, c_is, c_isn, i_lenL, i_lenK, i_lenT, i_lenS, i_min2, i_max2, i_min1, i_max1, i_sumT, i_sumL, i_sorted, i_listL, i_listT, i_tupL, i_tupT, i_intB, i_int, i_repr, asI, asB, eqD_int, szOk, sizeLine_eq, Tn, fulls_ints, frzs_ints, List.set, wipeD, putBack, itSeq, fulls, frzs, full, frz, endD, r__law_chosen, Row.fe, h, hm, e2, idxD, fzO, atI, ixN]
    · have e1 : eqD (.str "even") (.str "even") = some true := by decide +kernel
      have hi := idx_ints (o := o) (ns := xs) (i := cs.sum % (xs.length : Int)) (Int.emod_nonneg _ (by omega)) (Int.emod_lt_of_pos _ (by omega))
      simp [startD, evS, evE, evT, evEs, evRs, evO, evI, wp_bind, wp_of, wp_ok, wp_map, wo_some, wo_map, wo_bind, refOf, slotE, varE, Ref.get, Ref.gets, opt2, lend, back, isFz, isFzs_ints, Cs.assign, nx_nx, nx_ret, b_add, b_sub, b_mul, b_fd, b_mod, b_pow, b_strs, b_tups, b_lsts, c_lt, c_le, c_gt, c_ge, c_eq, c_ne, c_in, c_nin, c_is, c_isn, i_lenL, i_lenK, i_lenT, i_lenS, i_min2, i_max2, i_min1, i_max1, i_sumT, i_sumL, i_sorted, i_listL, i_listT, i_tupL, i_tupT, i_intB, i_int, i_repr, asI, asB, eqD_int, szOk, sizeLine_eq, Tn, fulls_ints, frzs_ints, List.set, wipeD, putBack, itSeq, fulls, frzs, full, frz, e1]
      rw [wp_cons]
      simp [startD, evS, evE, evT, evEs, evRs, evO, evI, wp_bind, wp_of, wp_ok, wp_map, wo_some, wo_map, wo_bind, refOf, slotE, varE, Ref.get, Ref.gets, opt2, lend, back, isFz, isFzs_ints, Cs.assign, nx_nx, nx_ret, b_add, b_sub, b_mul, b_fd, b_mod, b_pow, b_strs, b_tups, b_lsts, c_lt, c_le, c_gt, c_ge, c_eq, c_ne, c_in, c_nin, c_is, c_isn, i_lenL, i_lenK, i_lenT, i_lenS, i_min2, i_max2, i_min1, i_max1, i_sumT, i_sumL, i_sorted, i_listL, i_listT, i_tupL, i_tupT, i_intB, i_int, i_repr, asI, asB, eqD_int, szOk, sizeLine_eq, Tn, fulls_ints, frzs_ints, List.set, wipeD, putBack, itSeq, fulls, frzs, full, frz, endD, r__law_chosen, Row.fe, hx, rst_pos (show (0 : Int) < (xs.length : Int) by omega), hi]
  obtain ⟨_, e, rfl⟩ := e
  exact e
end K03
namespace K03
open PySem L2 Cs
theorem fold_mem (f : Int → Int → Int) (hf : ∀ a b, f a b = a ∨ f a b = b) : ∀ (is : List Int) (i : Int), is.foldl f i = i ∨ is.foldl f i ∈ is
  | [], i => .inl rfl
  | j :: is, i => by
    show is.foldl f (f i j) = i ∨ is.foldl f (f i j) ∈ j :: is
    rcases fold_mem f hf is (f i j) with h | h
    · rw [h]
      rcases hf i j with h | h
      · exact .inl h
      · exact .inr (by rw [h]; exact List.mem_cons_self)
    · exact .inr (List.mem_cons_of_mem _ h)
theorem minL_mem {xs : List Int} {r : Int} (h : minL xs = some r) : r ∈ xs := by
  cases xs with
  | nil => cases h
  | cons x xs =>
    cases h
    rcases fold_mem (fun a b => if b < a then b else a) (fun a b => by split <;> simp) xs x with h | h
    · rw [h]; exact List.mem_cons_self
    · exact List.mem_cons_of_mem _ h
theorem maxL_mem {xs : List Int} {r : Int} (h : maxL xs = some r) : r ∈ xs := by
  cases xs with
  | nil => cases h
  | cons x xs =>
    cases h
    rcases fold_mem (fun a b => if a < b then b else a) (fun a b => by split <;> simp) xs x with h | h
    · rw [h]; exact List.mem_cons_self
    · exact List.mem_cons_of_mem _ h
theorem told_ex {w : Str} (cs xs : List Int) (hx : xs ≠ []) (hw : w ∈ (["least", "last", "even"] : List Str)) : ∃ r, told w cs xs r ∧ r ∈ xs := by
  have hl : 0 < xs.length := List.length_pos_iff.mpr hx
  rcases List.mem_cons.mp hw with rfl | hw
  · cases xs with
    | nil => exact absurd rfl hx
    | cons x xs => exact ⟨_, .inl ⟨rfl, rfl⟩, minL_mem rfl⟩
  rcases List.mem_cons.mp hw with rfl | hw
  · cases xs with
    | nil => exact absurd rfl hx
    | cons x xs => exact ⟨_, .inr (.inl ⟨rfl, rfl⟩), maxL_mem rfl⟩
  rcases List.mem_cons.mp hw with rfl | hw
  · have h1 := Int.emod_lt_of_pos cs.sum (show (0 : Int) < (xs.length : Int) by omega)
    have h0 := Int.emod_nonneg cs.sum (show (xs.length : Int) ≠ 0 by omega)
    exact ⟨_, .inr (.inr ⟨rfl, by omega, rfl⟩), List.getElem_mem _⟩
  · cases hw
theorem t_law : tab "law" = some (.code r_law.fe) := by kernel_rfl
set_option maxHeartbeats 0 in
theorem plain (ns : List Int) (hns : ns.length ≤ 63) : ∃ p, callN tab consF 20 "law" [.lkd (ns.map .int)] = .ok (.bl true, p) := by
  rw [call_code (k := 19) t_law]
  have d7 : ∀ m, callN tab consF 19 "_law_digit" [.lst true [.int m], .int 7] = .ok (.int (m % 7), [.lst true [.int (m / 7)], .int 7]) := fun m => s_digit 18 m 7 (by decide) (by decide)
  have d9 : ∀ m, callN tab consF 19 "_law_digit" [.lst true [.int m], .int 9] = .ok (.int (m % 9), [.lst true [.int (m / 9)], .int 9]) := fun m => s_digit 18 m 9 (by decide) (by decide)
  have d30 : ∀ m, callN tab consF 19 "_law_digit" [.lst true [.int m], .int 30] = .ok (.int (m % 30), [.lst true [.int (m / 30)], .int 30]) := fun m => s_digit 18 m 30 (by decide) (by decide)
  have d100 : ∀ m, callN tab consF 19 "_law_digit" [.lst true [.int m], .int 100] = .ok (.int (m % 100), [.lst true [.int (m / 100)], .int 100]) := fun m => s_digit 18 m 100 (by decide) (by decide)
  have W : Wp (run1 ⟨callN tab consF 19, consF, whlC⟩ r_law.fe [.lkd (ns.map .int)]) (fun p => p.1 = .bl true) := by
    refine run_wp rfl ?_
    show Wp (evSs _ b_law (startD 11 [.lkd (ns.map .int)])) _
    unfold b_law
    rw [wp_cons]
    have hM : ∃ M : Int, 0 ≤ M ∧ M < 100 ∧ (if (if (ns.length : Int) < 8 then (ns.length : Int) else 8) > 4 then (if (ns.length : Int) < 8 then (ns.length : Int) else 8) else 4) = M := ⟨_, by split <;> omega, by split <;> omega, rfl⟩
    obtain ⟨M, hM0, hM1, hM⟩ := hM
    refine wp_forI (fun ρ => ∃ z1 z2 z3 z4 z5 z6 z7 z8 z9 z10 : D, ρ = [.lkd (ns.map .int), z1, z2, z3, z4, z5, z6, z7, z8, z9, z10]) (rangeD 0 M) [.lkd (ns.map .int), .undef, .undef, .undef, .undef, .undef, .undef, .undef, .undef, .undef, .undef] ?_ ⟨_, _, _, _, _, _, _, _, _, _, rfl⟩ ?_ ?_
    · have hr := itRng_small (lo := 0) (hi := M) (by decide) (by decide) (by omega) (by omega)
      simp [startD, evS, evE, evT, evEs, evRs, evO, evI, wp_bind, wp_of, wp_ok, wp_map, wo_some, wo_map, wo_bind, refOf, slotE, varE, Ref.get, Ref.gets, opt2, lend, back, isFz, isFzs_ints, Cs.assign, nx_nx, nx_ret, b_add, b_sub, b_mul, b_fd, b_mod, b_pow, b_strs, b_tups, b_lsts, c_lt, c_le, c_gt, c_ge, c_eq, c_ne, c_in, c_nin, c_is, c_isn, i_lenL, i_lenK, i_lenT, i_lenS, i_min2, i_max2, i_min1, i_max1, i_sumT, i_sumL, i_sorted, i_listL, i_listT, i_tupL, i_tupT, i_intB, i_int, i_repr, seqOf, asI, asB, eqD_int, szOk, sizeLine_eq, Tn, fulls_ints, frzs_ints, List.set, wipeD, putBack, itSeq, fulls, frzs, full, frz, hM, hr]
    · rintro d hd ρ ⟨z1, z2, z3, z4, z5, z6, z7, z8, z9, z10, rfl⟩
      obtain ⟨i, rfl, hi⟩ := rangeD_mem hd
      refine ⟨_, by simp [startD, evS, evE, evT, evEs, evRs, evO, evI, wp_bind, wp_of, wp_ok, wp_map, wo_some, wo_map, wo_bind, refOf, slotE, varE, Ref.get, Ref.gets, opt2, lend, back, isFz, isFzs_ints, Cs.assign, nx_nx, nx_ret, b_add, b_sub, b_mul, b_fd, b_mod, b_pow, b_strs, b_tups, b_lsts, c_lt, c_le, c_gt, c_ge, c_eq, c_ne, c_in, c_nin, c_is, c_isn, i_lenL, i_lenK, i_lenT, i_lenS, i_min2, i_max2, i_min1, i_max1, i_sumT, i_sumL, i_sorted, i_listL, i_listT, i_tupL, i_tupT, i_intB, i_int, i_repr, seqOf, asI, asB, eqD_int, szOk, sizeLine_eq, Tn, fulls_ints, frzs_ints, List.set, wipeD, putBack, itSeq, fulls, frzs, full, frz]; rfl, ?_⟩
      obtain ⟨_, ht, m, rfl⟩ := s_tape 17 ns i (by omega)
      have ht : callN tab consF 19 "_law_tape" [.lkd (ns.map .int), .int i] = _ := ht
      rw [wp_cons]
      simp [startD, evS, evE, evT, evEs, evRs, evO, evI, wp_bind, wp_of, wp_ok, wp_map, wo_some, wo_map, wo_bind, refOf, slotE, varE, Ref.get, Ref.gets, opt2, lend, back, isFz, isFzs_ints, Cs.assign, nx_nx, nx_ret, b_add, b_sub, b_mul, b_fd, b_mod, b_pow, b_strs, b_tups, b_lsts, c_lt, c_le, c_gt, c_ge, c_eq, c_ne, c_in, c_nin, c_is, c_isn, i_lenL, i_lenK, i_lenT, i_lenS, i_min2, i_max2, i_min1, i_max1, i_sumT, i_sumL, i_sorted, i_listL, i_listT, i_tupL, i_tupT, i_intB, i_int, i_repr, seqOf, asI, asB, eqD_int, szOk, sizeLine_eq, Tn, fulls_ints, frzs_ints, List.set, wipeD, putBack, itSeq, fulls, frzs, full, frz, ht]
      rw [wp_cons, wp_asg, wp_bilc]
      have r1 := itRng_small (lo := 0) (hi := 2 + m % 7) (by decide) (by decide) (by omega) (by omega)
      refine wp_lc (fun ρ => ∃ m' : Int, ρ = [.lkd (ns.map .int), .int i, .lst true [.int m'], z3, z4, z5, z6, z7, z8, .undef, z10]) (fun d => ∃ c : Int, d = .int c ∧ True) (rangeD 0 (2 + m % 7)) [.lkd (ns.map .int), .int i, .lst true [.int (m / 7)], z3, z4, z5, z6, z7, z8, z9, z10] ?_ ?_ ⟨_, rfl⟩ ?_ ?_
      · simp [startD, evS, evE, evT, evEs, evRs, evO, evI, wp_bind, wp_of, wp_ok, wp_map, wo_some, wo_map, wo_bind, refOf, slotE, varE, Ref.get, Ref.gets, opt2, lend, back, isFz, isFzs_ints, Cs.assign, nx_nx, nx_ret, b_add, b_sub, b_mul, b_fd, b_mod, b_pow, b_strs, b_tups, b_lsts, c_lt, c_le, c_gt, c_ge, c_eq, c_ne, c_in, c_nin, c_is, c_isn, i_lenL, i_lenK, i_lenT, i_lenS, i_min2, i_max2, i_min1, i_max1, i_sumT, i_sumL, i_sorted, i_listL, i_listT, i_tupL, i_tupT, i_intB, i_int, i_repr, seqOf, asI, asB, eqD_int, szOk, sizeLine_eq, Tn, fulls_ints, frzs_ints, List.set, wipeD, putBack, itSeq, fulls, frzs, full, frz, d7, r1]
      · rw [rangeD_len, sizeLine_eq]; omega
      · rintro d hd ρ ⟨m', rfl⟩
        obtain ⟨j, rfl, hj⟩ := rangeD_mem hd
        refine ⟨_, by simp [startD, evS, evE, evT, evEs, evRs, evO, evI, wp_bind, wp_of, wp_ok, wp_map, wo_some, wo_map, wo_bind, refOf, slotE, varE, Ref.get, Ref.gets, opt2, lend, back, isFz, isFzs_ints, Cs.assign, nx_nx, nx_ret, b_add, b_sub, b_mul, b_fd, b_mod, b_pow, b_strs, b_tups, b_lsts, c_lt, c_le, c_gt, c_ge, c_eq, c_ne, c_in, c_nin, c_is, c_isn, i_lenL, i_lenK, i_lenT, i_lenS, i_min2, i_max2, i_min1, i_max1, i_sumT, i_sumL, i_sorted, i_listL, i_listT, i_tupL, i_tupT, i_intB, i_int, i_repr, seqOf, asI, asB, eqD_int, szOk, sizeLine_eq, Tn, fulls_ints, frzs_ints, List.set, wipeD, putBack, itSeq, fulls, frzs, full, frz]; rfl, ?_⟩
        simp [startD, evS, evE, evT, evEs, evRs, evO, evI, wp_bind, wp_of, wp_ok, wp_map, wo_some, wo_map, wo_bind, refOf, slotE, varE, Ref.get, Ref.gets, opt2, lend, back, isFz, isFzs_ints, Cs.assign, nx_nx, nx_ret, b_add, b_sub, b_mul, b_fd, b_mod, b_pow, b_strs, b_tups, b_lsts, c_lt, c_le, c_gt, c_ge, c_eq, c_ne, c_in, c_nin, c_is, c_isn, i_lenL, i_lenK, i_lenT, i_lenS, i_min2, i_max2, i_min1, i_max1, i_sumT, i_sumL, i_sorted, i_listL, i_listT, i_tupL, i_tupT, i_intB, i_int, i_repr, seqOf, asI, asB, eqD_int, szOk, sizeLine_eq, Tn, fulls_ints, frzs_ints, List.set, wipeD, putBack, itSeq, fulls, frzs, full, frz, d9]
      rintro ys ρ' hl hy ⟨m', rfl⟩
      obtain ⟨cs, rfl, _⟩ := ints_of hy
      simp [startD, evS, evE, evT, evEs, evRs, evO, evI, wp_bind, wp_of, wp_ok, wp_map, wo_some, wo_map, wo_bind, refOf, slotE, varE, Ref.get, Ref.gets, opt2, lend, back, isFz, isFzs_ints, Cs.assign, nx_nx, nx_ret, b_add, b_sub, b_mul, b_fd, b_mod, b_pow, b_strs, b_tups, b_lsts, c_lt, c_le, c_gt, c_ge, c_eq, c_ne, c_in, c_nin, c_is, c_isn, i_lenL, i_lenK, i_lenT, i_lenS, i_min2, i_max2, i_min1, i_max1, i_sumT, i_sumL, i_sorted, i_listL, i_listT, i_tupL, i_tupT, i_intB, i_int, i_repr, seqOf, asI, asB, eqD_int, szOk, sizeLine_eq, Tn, fulls_ints, frzs_ints, List.set, wipeD, putBack, itSeq, fulls, frzs, full, frz]
      rw [wp_cons, wp_asg]
      have r2 := itRng_small (lo := 0) (hi := 1 + m' % 30) (by decide) (by decide) (by omega) (by omega)
      refine wp_lc (fun ρ => ∃ m' : Int, ρ = [.lkd (ns.map .int), .int i, .lst true [.int m'], .tup (cs.map .int), z4, z5, z6, z7, z8, z9, .undef]) (fun d => ∃ c : Int, d = .int c ∧ (0 ≤ c ∧ c < 100)) (rangeD 0 (1 + m' % 30)) [.lkd (ns.map .int), .int i, .lst true [.int (m' / 30)], .tup (cs.map .int), z4, z5, z6, z7, z8, z9, z10] ?_ ?_ ⟨_, rfl⟩ ?_ ?_
      · simp [startD, evS, evE, evT, evEs, evRs, evO, evI, wp_bind, wp_of, wp_ok, wp_map, wo_some, wo_map, wo_bind, refOf, slotE, varE, Ref.get, Ref.gets, opt2, lend, back, isFz, isFzs_ints, Cs.assign, nx_nx, nx_ret, b_add, b_sub, b_mul, b_fd, b_mod, b_pow, b_strs, b_tups, b_lsts, c_lt, c_le, c_gt, c_ge, c_eq, c_ne, c_in, c_nin, c_is, c_isn, i_lenL, i_lenK, i_lenT, i_lenS, i_min2, i_max2, i_min1, i_max1, i_sumT, i_sumL, i_sorted, i_listL, i_listT, i_tupL, i_tupT, i_intB, i_int, i_repr, seqOf, asI, asB, eqD_int, szOk, sizeLine_eq, Tn, fulls_ints, frzs_ints, List.set, wipeD, putBack, itSeq, fulls, frzs, full, frz, d30, r2]
      · rw [rangeD_len, sizeLine_eq]; omega
      · rintro d hd ρ ⟨m', rfl⟩
        obtain ⟨j, rfl, hj⟩ := rangeD_mem hd
        refine ⟨_, by simp [startD, evS, evE, evT, evEs, evRs, evO, evI, wp_bind, wp_of, wp_ok, wp_map, wo_some, wo_map, wo_bind, refOf, slotE, varE, Ref.get, Ref.gets, opt2, lend, back, isFz, isFzs_ints, Cs.assign, nx_nx, nx_ret, b_add, b_sub, b_mul, b_fd, b_mod, b_pow, b_strs, b_tups, b_lsts, c_lt, c_le, c_gt, c_ge, c_eq, c_ne, c_in, c_nin, c_is, c_isn, i_lenL, i_lenK, i_lenT, i_lenS, i_min2, i_max2, i_min1, i_max1, i_sumT, i_sumL, i_sorted, i_listL, i_listT, i_tupL, i_tupT, i_intB, i_int, i_repr, seqOf, asI, asB, eqD_int, szOk, sizeLine_eq, Tn, fulls_ints, frzs_ints, List.set, wipeD, putBack, itSeq, fulls, frzs, full, frz]; rfl, ?_⟩
        simp [startD, evS, evE, evT, evEs, evRs, evO, evI, wp_bind, wp_of, wp_ok, wp_map, wo_some, wo_map, wo_bind, refOf, slotE, varE, Ref.get, Ref.gets, opt2, lend, back, isFz, isFzs_ints, Cs.assign, nx_nx, nx_ret, b_add, b_sub, b_mul, b_fd, b_mod, b_pow, b_strs, b_tups, b_lsts, c_lt, c_le, c_gt, c_ge, c_eq, c_ne, c_in, c_nin, c_is, c_isn, i_lenL, i_lenK, i_lenT, i_lenS, i_min2, i_max2, i_min1, i_max1, i_sumT, i_sumL, i_sorted, i_listL, i_listT, i_tupL, i_tupT, i_intB, i_int, i_repr, seqOf, asI, asB, eqD_int, szOk, sizeLine_eq, Tn, fulls_ints, frzs_ints, List.set, wipeD, putBack, itSeq, fulls, frzs, full, frz, d100]
        omega
      rintro ys ρ' hl2 hy2 ⟨m2, rfl⟩
      obtain ⟨xs, rfl, hxs⟩ := ints_of hy2
      simp [startD, evS, evE, evT, evEs, evRs, evO, evI, wp_bind, wp_of, wp_ok, wp_map, wo_some, wo_map, wo_bind, refOf, slotE, varE, Ref.get, Ref.gets, opt2, lend, back, isFz, isFzs_ints, Cs.assign, nx_nx, nx_ret, b_add, b_sub, b_mul, b_fd, b_mod, b_pow, b_strs, b_tups, b_lsts, c_lt, c_le, c_gt, c_ge, c_eq, c_ne, c_in, c_nin, c_is, c_isn, i_lenL, i_lenK, i_lenT, i_lenS, i_min2, i_max2, i_min1, i_max1, i_sumT, i_sumL, i_sorted, i_listL, i_listT, i_tupL, i_tupT, i_intB, i_int, i_repr, seqOf, asI, asB, eqD_int, szOk, sizeLine_eq, Tn, fulls_ints, frzs_ints, List.set, wipeD, putBack, itSeq, fulls, frzs, full, frz]
      rw [wp_cons]
      have hx0 : xs ≠ [] := fun e => by
        subst e
        rw [rangeD_len] at hl2
        simp at hl2
        omega
      have hp := List.mergeSort_perm xs (fun a b => decide (a ≤ b))
      refine wp_forI (fun ρ => ∃ z5 z6 z7 z8 z9 z10 : D, ρ = [.lkd (ns.map .int), .int i, .lst true [.int m2], .tup (cs.map .int), .lst false (xs.map .int), z5, z6, z7, z8, z9, z10]) [.lst false (xs.map .int), .lst false ((xs.mergeSort (fun a b => decide (a ≤ b))).map .int)] [.lkd (ns.map .int), .int i, .lst true [.int m2], .tup (cs.map .int), .lst false (xs.map .int), z5, z6, z7, z8, z9, z10] ?_ ⟨_, _, _, _, _, _, rfl⟩ ?_ ?_
      · simp [startD, evS, evE, evT, evEs, evRs, evO, evI, wp_bind, wp_of, wp_ok, wp_map, wo_some, wo_map, wo_bind, refOf, slotE, varE, Ref.get, Ref.gets, opt2, lend, back, isFz, isFzs_ints, Cs.assign, nx_nx, nx_ret, b_add, b_sub, b_mul, b_fd, b_mod, b_pow, b_strs, b_tups, b_lsts, c_lt, c_le, c_gt, c_ge, c_eq, c_ne, c_in, c_nin, c_is, c_isn, i_lenL, i_lenK, i_lenT, i_lenS, i_min2, i_max2, i_min1, i_max1, i_sumT, i_sumL, i_sorted, i_listL, i_listT, i_tupL, i_tupT, i_intB, i_int, i_repr, seqOf, asI, asB, eqD_int, szOk, sizeLine_eq, Tn, fulls_ints, frzs_ints, List.set, wipeD, putBack, itSeq, fulls, frzs, full, frz]
      · rintro d hd ρ ⟨z5, z6, z7, z8, z9, z10, rfl⟩
        have hu : ∃ us : List Int, d = .lst false (us.map .int) ∧ us ≠ [] ∧ ∀ n ∈ us, 0 ≤ n ∧ n < 100 := by
          rcases List.mem_cons.mp hd with rfl | hd
          · exact ⟨xs, rfl, hx0, hxs⟩
          · rcases List.mem_cons.mp hd with rfl | hd
            · refine ⟨_, rfl, fun e => hx0 ?_, fun n hn => hxs n (hp.mem_iff.mp hn)⟩
              rw [e] at hp
              exact List.nil_perm.mp hp
            · cases hd
        obtain ⟨us, rfl, hu0, hu1⟩ := hu
        refine ⟨_, by simp [startD, evS, evE, evT, evEs, evRs, evO, evI, wp_bind, wp_of, wp_ok, wp_map, wo_some, wo_map, wo_bind, refOf, slotE, varE, Ref.get, Ref.gets, opt2, lend, back, isFz, isFzs_ints, Cs.assign, nx_nx, nx_ret, b_add, b_sub, b_mul, b_fd, b_mod, b_pow, b_strs, b_tups, b_lsts, c_lt, c_le, c_gt, c_ge, c_eq, c_ne, c_in, c_nin, c_is, c_isn, i_lenL, i_lenK, i_lenT, i_lenS, i_min2, i_max2, i_min1, i_max1, i_sumT, i_sumL, i_sorted, i_listL, i_listT, i_tupL, i_tupT, i_intB, i_int, i_repr, seqOf, asI, asB, eqD_int, szOk, sizeLine_eq, Tn, fulls_ints, frzs_ints, List.set, wipeD, putBack, itSeq, fulls, frzs, full, frz]; rfl, ?_⟩
        rw [wp_cons]
        refine wp_forI (fun ρ => ∃ z6 z7 z8 z9 z10 : D, ρ = [.lkd (ns.map .int), .int i, .lst true [.int m2], .tup (cs.map .int), .lst false (xs.map .int), .lst false (us.map .int), z6, z7, z8, z9, z10]) [.str "least", .str "last", .str "even"] [.lkd (ns.map .int), .int i, .lst true [.int m2], .tup (cs.map .int), .lst false (xs.map .int), .lst false (us.map .int), z6, z7, z8, z9, z10] ?_ ⟨_, _, _, _, _, rfl⟩ ?_ ?_
        · simp [startD, evS, evE, evT, evEs, evRs, evO, evI, wp_bind, wp_of, wp_ok, wp_map, wo_some, wo_map, wo_bind, refOf, slotE, varE, Ref.get, Ref.gets, opt2, lend, back, isFz, isFzs_ints, Cs.assign, nx_nx, nx_ret, b_add, b_sub, b_mul, b_fd, b_mod, b_pow, b_strs, b_tups, b_lsts, c_lt, c_le, c_gt, c_ge, c_eq, c_ne, c_in, c_nin, c_is, c_isn, i_lenL, i_lenK, i_lenT, i_lenS, i_min2, i_max2, i_min1, i_max1, i_sumT, i_sumL, i_sorted, i_listL, i_listT, i_tupL, i_tupT, i_intB, i_int, i_repr, seqOf, asI, asB, eqD_int, szOk, sizeLine_eq, Tn, fulls_ints, frzs_ints, List.set, wipeD, putBack, itSeq, fulls, frzs, full, frz]
        · rintro d hd ρ ⟨z6, z7, z8, z9, z10, rfl⟩
          obtain ⟨w, rfl, hw⟩ : ∃ w : Str, d = .str w ∧ w ∈ (["least", "last", "even"] : List Str) := by
            simp only [List.mem_cons, List.not_mem_nil, or_false] at hd
            rcases hd with rfl | rfl | rfl
            · exact ⟨_, rfl, by simp⟩
            · exact ⟨_, rfl, by simp⟩
            · exact ⟨_, rfl, by simp⟩
          obtain ⟨r, hr, hrm⟩ := told_ex cs us hu0 hw
          have hrb := hu1 r hrm
          have lg : r.natAbs.log2 < 1920 := by
            by_cases h0 : r.natAbs = 0
            · rw [h0]; decide
            · exact Nat.lt_trans ((Nat.log2_lt h0).mpr (show r.natAbs < 2 ^ 7 by omega)) (by decide)
          have q1 : callN tab consF 19 "chosen" [.str w, .tup (cs.map .int), .lst true (us.map .int)] = _ := s_chosen 17 w cs us true r hu0 hr
          have q2 : callN tab consF 19 "_law_chosen" [.str w, .tup (cs.map .int), .lst false (us.map .int)] = _ := s_lch 18 w cs us false r hu0 hr
          refine ⟨_, by simp [startD, evS, evE, evT, evEs, evRs, evO, evI, wp_bind, wp_of, wp_ok, wp_map, wo_some, wo_map, wo_bind, refOf, slotE, varE, Ref.get, Ref.gets, opt2, lend, back, isFz, isFzs_ints, Cs.assign, nx_nx, nx_ret, b_add, b_sub, b_mul, b_fd, b_mod, b_pow, b_strs, b_tups, b_lsts, c_lt, c_le, c_gt, c_ge, c_eq, c_ne, c_in, c_nin, c_is, c_isn, i_lenL, i_lenK, i_lenT, i_lenS, i_min2, i_max2, i_min1, i_max1, i_sumT, i_sumL, i_sorted, i_listL, i_listT, i_tupL, i_tupT, i_intB, i_int, i_repr, seqOf, asI, asB, eqD_int, szOk, sizeLine_eq, Tn, fulls_ints, frzs_ints, List.set, wipeD, putBack, itSeq, fulls, frzs, full, frz]; rfl, ?_⟩
          rw [wp_cons]
          simp [startD, evS, evE, evT, evEs, evRs, evO, evI, wp_bind, wp_of, wp_ok, wp_map, wo_some, wo_map, wo_bind, refOf, slotE, varE, Ref.get, Ref.gets, opt2, lend, back, isFz, isFzs_ints, Cs.assign, nx_nx, nx_ret, b_add, b_sub, b_mul, b_fd, b_mod, b_pow, b_strs, b_tups, b_lsts, c_lt, c_le, c_gt, c_ge, c_eq, c_ne, c_in, c_nin, c_is, c_isn, i_lenL, i_lenK, i_lenT, i_lenS, i_min2, i_max2, i_min1, i_max1, i_sumT, i_sumL, i_sorted, i_listL, i_listT, i_tupL, i_tupT, i_intB, i_int, i_repr, seqOf, asI, asB, eqD_int, szOk, sizeLine_eq, Tn, fulls_ints, frzs_ints, List.set, wipeD, putBack, itSeq, fulls, frzs, full, frz]
          rw [wp_cons]
          simp [startD, evS, evE, evT, evEs, evRs, evO, evI, wp_bind, wp_of, wp_ok, wp_map, wo_some, wo_map, wo_bind, refOf, slotE, varE, Ref.get, Ref.gets, opt2, lend, back, isFz, isFzs_ints, Cs.assign, nx_nx, nx_ret, b_add, b_sub, b_mul, b_fd, b_mod, b_pow, b_strs, b_tups, b_lsts, c_lt, c_le, c_gt, c_ge, c_eq, c_ne, c_in, c_nin, c_is, c_isn, i_lenL, i_lenK, i_lenT, i_lenS, i_min2, i_max2, i_min1, i_max1, i_sumT, i_sumL, i_sorted, i_listL, i_listT, i_tupL, i_tupT, i_intB, i_int, i_repr, seqOf, asI, asB, eqD_int, szOk, sizeLine_eq, Tn, fulls_ints, frzs_ints, List.set, wipeD, putBack, itSeq, fulls, frzs, full, frz, q1]
          rw [wp_cons, wp_ife]
          have e1 := eqD_strs (str_ok r.repr)
          have e2 : eqD (.lst true (us.map .int)) (.lst false (us.map .int)) = some true := eqD_refl (p := .list (us.map .int)) (by show (toPs (us.map D.int)).map PyData.list = _; rw [toPs_ints]; rfl) (by show (toPs (us.map D.int)).map PyData.list = _; rw [toPs_ints]; rfl) (shaped_ints us)
          simp [startD, evS, evE, evT, evEs, evRs, evO, evI, wp_bind, wp_of, wp_ok, wp_map, wo_some, wo_map, wo_bind, refOf, slotE, varE, Ref.get, Ref.gets, opt2, lend, back, isFz, isFzs_ints, Cs.assign, nx_nx, nx_ret, b_add, b_sub, b_mul, b_fd, b_mod, b_pow, b_strs, b_tups, b_lsts, c_lt, c_le, c_gt, c_ge, c_eq, c_ne, c_in, c_nin, c_is, c_isn, i_lenL, i_lenK, i_lenT, i_lenS, i_min2, i_max2, i_min1, i_max1, i_sumT, i_sumL, i_sorted, i_listL, i_listT, i_tupL, i_tupT, i_intB, i_int, i_repr, seqOf, asI, asB, eqD_int, szOk, sizeLine_eq, Tn, fulls_ints, frzs_ints, List.set, wipeD, putBack, itSeq, fulls, frzs, full, frz, q2, lg, e1, e2]
          rw [wp_nil, nx_nx, wp_nil]
          exact ⟨_, _, _, _, _, rfl⟩
        · rintro ρ ⟨z6, z7, z8, z9, z10, rfl⟩
          rw [nx_nx, wp_nil]
          exact ⟨_, _, _, _, _, _, rfl⟩
      · rintro ρ ⟨z5, z6, z7, z8, z9, z10, rfl⟩
        rw [nx_nx, wp_nil]
        exact ⟨_, _, _, _, _, _, _, _, _, _, rfl⟩
    · rintro ρ ⟨z1, z2, z3, z4, z5, z6, z7, z8, z9, z10, rfl⟩
      rw [nx_nx, wp_cons]
      simp [startD, evS, evE, evT, evEs, evRs, evO, evI, wp_bind, wp_of, wp_ok, wp_map, wo_some, wo_map, wo_bind, refOf, slotE, varE, Ref.get, Ref.gets, opt2, lend, back, isFz, isFzs_ints, Cs.assign, nx_nx, nx_ret, b_add, b_sub, b_mul, b_fd, b_mod, b_pow, b_strs, b_tups, b_lsts, c_lt, c_le, c_gt, c_ge, c_eq, c_ne, c_in, c_nin, c_is, c_isn, i_lenL, i_lenK, i_lenT, i_lenS, i_min2, i_max2, i_min1, i_max1, i_sumT, i_sumL, i_sorted, i_listL, i_listT, i_tupL, i_tupT, i_intB, i_int, i_repr, seqOf, asI, asB, eqD_int, szOk, sizeLine_eq, Tn, fulls_ints, frzs_ints, List.set, wipeD, putBack, itSeq, fulls, frzs, full, frz]
  obtain ⟨p, e, h⟩ := W
  exact ⟨p.2, by rw [e, ← h]⟩
end K03
namespace K03
open PySem L2 Cs
theorem nmB : (rows.all fun r => decide (r.d.name ∈ fl)) = true := by decide +kernel
theorem said {P : Program} {w : World} {K : PySem.W.Frag} {h base : Heap} {mg : Str → Option Value} (X : K.In h) (G : h.Ns mainGlobals mg) (c : He.SaysX fa fn ts [] ex w h K) : Said K mg P w base rows prims consF fl bl cn 20 where
  look := look_by flB
  row := ok_rows
  st := fun r hr => stands_of c.t.d X G (List.mem_append_left _ (List.mem_map_of_mem hr)) (ok_rows r hr).at_ (ok_rows r hr).dfl (List.mem_append_left _ (List.mem_map_of_mem (of_decide_eq_true (List.all_eq_true.mp nmB r hr))))
  cn := cn_ok
  con := con_ok X G c
  bl := fun x hx => free_of c.t.d X G (List.mem_append_right _ (List.mem_append_left _ (List.mem_map_of_mem hx)))
  pr := prim_ok X G c
theorem tab_law : tab "law" = some (.code r_law.fe) := by kernel_rfl
theorem r_law_mem : r_law ∈ rows := by unfold rows; simp
theorem facts {P : Program} {w : World} {K : PySem.W.Frag} {h : Heap} {mg : Str → Option Value} {f : Addr} (X : K.In h) (G : h.Ns mainGlobals mg) (hfa : mg ("law" : Str) = some (.ref f)) (c : He.SaysX fa fn ts [] ex w h K) :
    ∃ fd : FuncData, (∀ (s : Shared) (v : Value), BindsTo s fd ⟨[v], []⟩ [("script", v)]) ∧ ∀ base : Heap, K.In base → base.Ns mainGlobals mg → FnOk P w K mg base (L2.CX P w) 20 f fd ["script"] (spF K mg (callN tab consF 20 "law")) := by
  obtain ⟨a, fd, hm, F⟩ := (said (P := P) (base := h) X G c).st r_law r_law_mem
  have e := hfa.symm.trans hm
  cases e
  have b := FunD.bindsA (ps := ["script"]) F o_law.bind
  exact ⟨fd, fun s v => b s [v] rfl, fun base _ _ => (said (P := P) (base := base) X G c).fn r_law_mem tab_law F 19⟩
end K03
open PySem PySem.W PySem.Calls PyProof.Rows in
theorem PySem.Challenge.cw_crowdsay_k03_choosers_holds : PySem.Challenge.rw_crowdsay_k03_choosers.Holds := by
  w_on; o_law
  refine HandSHeadRun.head_any (r := OpenLaw.row PySem.Challenge.rw_crowdsay_k03_choosers) (q := view (OpenLaw.row PySem.Challenge.rw_crowdsay_k03_choosers).prog [11]) (H := K03.hk) (ob := K03.ob) (M := 4000) (loose := K03.loose)
    (d := HandSHeadRun.topDef (OpenLaw.row PySem.Challenge.rw_crowdsay_k03_choosers).prog 11) (kwd := []) K03.ob_eq (by kernel_rfl) (fun s => by kernel_rfl) K03.run (by kernel_rfl) (by kernel_rfl)
    (by kernel_rfl) (by rfl) (by first | assumption | decide +kernel) (by decide +kernel) ⟨rfl, rfl, rfl, rfl, rfl, by decide +kernel⟩ ?hw ?hc
  case hw => w_witness2
  case hc =>
    refine Cs.walk_x (l := PySem.Challenge.rw_crowdsay_k03_choosers) (n := 63) (k := 20) (x := "script") rfl (by decide) (by kernel_rfl) ⟨rfl, by decide, by decide⟩ ?F
    intro w mg fa h Y G hm0
    obtain ⟨K, KX, c⟩ := Y
    have hm1 : mg ("law" : PySem.Str) = some (.ref fa) := by
      have e : (HandSHeadRun.topDef (OpenLaw.row PySem.Challenge.rw_crowdsay_k03_choosers).prog 11).name = ("law" : PySem.Str) := by kernel_rfl
      rw [← e]
      exact hm0
    obtain ⟨fd, hb, hF⟩ := K03.facts (P := PySem.Challenge.rw_crowdsay_k03_choosers.prog) (w := w) KX G hm1 c
    exact ⟨K, fd, Cs.callN K03.tab K03.consF 20 "law", KX, hb, K03.plain, hF⟩
